import PyProof.Rows.All
import Wide.All
import OpenK.AllK
import Wide.FinOn
import KE.GoesEnum
import HandS.ForMost
import HandS.Walk
import KE.KExcSuper
import HandS.Exc
import HandS.ExcInit
import KE.KStateDown
import HandS.ExcField
import HandS.Defaults
import HandS.Head0
import HandS.Head1
import HandS.Head2
import HandS.HeadEnd
import HandS.HeadHook1
import HandS.HeadHook2
import HandS.Codes
import HandS.Conv
import HandS.TupAny
import HandS.IsInst
import HandS.DictComp
import HandS.ForExc
import HandS.TryMany
import HandS.ExcOwn
import HandS.Replace
import HandS.Evl
import PyProof.P3Eq
import HandS.ReplaceLit
import PySem.Challenge.RW_putbetween_k84_whole_shapes_read
import HandS.TupMul
section
set_option Elab.async false
set_option linter.all false
set_option maxRecDepth 100000
set_option maxHeartbeats 4000000
/-! enumerate(v), one argument, v a tuple or a text, as what a for walks. -/
namespace PySem
set_option maxHeartbeats 4000000 in
theorem xe_meets_new {v : Value} {o : Obj} {H : Heap → Prop} (B : Begins v o H) :
    Meets (Builtin.«enumerate.__new__» ⟨[.type "enumerate", v], []⟩) (fun _ R s => H s.heap ∧
      R (.ok (.ret (.ref (s.heap.push o).objs.size))) { s with heap := (s.heap.push o).push { cls := .type "enumerate", data := .fields #[.none, .bool false, .ref s.heap.objs.size, rawInt 0, .none, .none] } }) :=
  .of_wp fun prog w A R s h => by
    obtain ⟨hp, g, d, tk, os⟩ := s
    obtain ⟨h1, h⟩ := h
    have xsub := sub_enumerate
    have xq : ∀ {A' : Around} {E : Value → Shared → Prop} {Q : Value → Shared → Prop}, Q (.ref hp.objs.size) ⟨hp.push o, g, d, tk, os⟩ → wpAny (model prog w) A' (pyIter v) Q E ⟨hp, g, d, tk, os⟩ :=
      fun q => B.iter prog w _ _ ⟨hp, g, d, tk, os⟩ _ h1 q
    wp_walk using xq
    refine wpAny_stack_any fun st => wpAny_pure ?_
    split
    · rename_i c _ _ _ _ _
      cases (c == Value.type "enumerate")
      · wp_walk using xq
        exact ⟨_, rfl, h⟩
      · wp_walk using xq
        exact ⟨_, rfl, h⟩
    · wp_walk using xq
      exact ⟨_, rfl, h⟩
section
variable {prog : Program} {w : World} {A : Around} {E : Value → Shared → Prop} {s : Shared}
theorem xe_call {v : Value} {o : Obj} {H : Heap → Prop} {Q : Value → Shared → Prop} (B : Begins v o H) (h1 : H s.heap)
    (h : ∀ h', IsEnum h' (s.heap.objs.size + 1) s.heap.objs.size 0 .none → h'.get? s.heap.objs.size = some o → (∀ b u, s.heap.get? b = some u → h'.get? b = some u) → Q (.ref (s.heap.objs.size + 1)) { s with heap := h' }) :
    wpAny (model prog w) A (call (.type "enumerate") [v]) Q E s := by
  refine callType_new F.called_enumerate (by decide) (F.typeCall_enumerate_1 _) (F.newCall_enumerate_1 _) (fun obj => F.args_object_init_2 obj _) F.entry_enumerate_new (xe_meets_new B) ⟨h1, ?_⟩
  have hz : (s.heap.push o).objs.size = s.heap.objs.size + 1 := Heap.size_push ..
  show _ ∧ _
  rw [hz]
  have he : IsEnum ((s.heap.push o).push { cls := .type "enumerate", data := .fields #[.none, .bool false, .ref s.heap.objs.size, rawInt 0, .none, .none] }) (s.heap.objs.size + 1) s.heap.objs.size 0 .none := by
    have q := Heap.get?_push_size (s.heap.push o) (o := { cls := .type "enumerate", data := .fields #[.none, .bool false, .ref s.heap.objs.size, rawInt 0, .none, .none] }) rfl
    rw [hz] at q
    exact q
  exact ⟨⟨_, he, rfl⟩, h _ he (Heap.get?_push_of_some _ (Heap.get?_push_size _ B.free)) fun b u x => Heap.get?_push_of_some _ (Heap.get?_push_of_some _ x)⟩
end
end PySem
namespace L2
open PySem PySem.Spec PyProof.Rows
/-- the pairs (i, item) of a tuple, of a text -/
def IteT (K : PySem.W.Frag) (a : Addr) : It :=
  ⟨fun i H => ∃ (xs : List V) (x : V), SqT K H a xs ∧ xs[i]? = some x, fun i H v H' => ∃ T x, v = .ref T ∧ H T = none ∧ H' = upd H T (.tup [.int (i : Nat), x]) ∧ ∀ xs, SqT K H a xs → xs[i]? = some x, fun i H => ∃ xs : List V, SqT K H a xs ∧ xs.length ≤ i⟩
def IteS (z : Str) : It :=
  ⟨fun i _ => i < z.cps.size, fun i H v H' => ∃ T c, v = .ref T ∧ H T = none ∧ H' = upd H T (.tup [.int (i : Nat), .str ⟨#[c]⟩]) ∧ z.cps[i]? = some c, fun i _ => z.cps.size ≤ i⟩
section
variable {P : Program} {w : World} {K : PySem.W.Frag} {elts : List Expr} {kk : Nat} {tpos : Pos}
/-- one turn, over what the inner iterator draws -/
theorem xe_item {X : Cx} {pins : List (Addr × Obj)} {σ : St} {H : Hp} {s : Shared} {E : Value → Shared → Prop} {e it : Addr} {i n : Nat} {fp : List Addr} {Pd : Nat → Value → Prop} {Sd Tn : Nat → Heap → Prop} {J : It} {old : Value}
    (I : Inv X pins σ H s) (hf : ∀ b ∈ [e, it], FpOk X pins H b) (D : Draws X.prog X.w X.A.in1 it fp n Pd Sd) (he : IsEnum s.heap e it ((i : Nat) : Int) old) (hst : Sd i s.heap) (hlt : i < n) (hne : e ≠ it) (hef : e ∉ fp) (hil : it < s.heap.objs.size)
    (hP : ∀ u, Pd i u → ∃ x, RelV x u ∧ ∀ T, H T = none → J.yld i H (.ref T) (upd H T (.tup [.int (i : Nat), x])))
    (hT : ∀ h1 h2 : Heap, Sd (i + 1) h1 → h2.get? it = h1.get? it → (∃ u, IsEnum h2 e it (((i + 1 : Nat)) : Int) u) → Tn (i + 1) h2) :
    wpAny (model X.prog X.w) X.A (pyNext (.ref e)) (fun r s1 => ∃ u, r = some u ∧ wpAny (model X.prog X.w) X.A (letOwnedTupleGo (.Tuple elts kk tpos) (.ref e) u)
      (fun _ s2 => ∃ x H', Inv X pins σ H' s2 ∧ RelV x u ∧ J.yld i H x H' ∧ Tn (i + 1) s2.heap ∧ ∀ b ∈ [e, it], H' b = none) E s1) E s := by
  have hel : e < s.heap.objs.size := Heap.lt_size he
  refine wpAny_pyNext_enum_itemC D he hst hlt hne hef fun x h' tk hx ho hst' hT2 hsz hk => ?_
  obtain ⟨xv, ru, hy⟩ := hP x hx
  refine ⟨_, rfl, wpAny_letOwnedTupleGo_enum (s := { s with heap := h', toks := tk + 1 }) ho fun h'' he' sb => ?_⟩
  have hT3 : h''.get? s.heap.objs.size = some { cls := .type "tuple", data := .seq #[.int i tk, x] } := (sb.2 _ (Nat.ne_of_gt hel)).trans hT2
  have new : ObjOk X.prog X.w (upd H s.heap.objs.size (.tup [.int (i : Nat), xv])) h'' s.heap.objs.size (.tup [.int (i : Nat), xv]) :=
    ⟨by show 2 ≤ sizeLine; decide, [.int i tk, x], .cons ⟨_, rfl⟩ (.cons ru .nil), ⟨_, hT3, rfl, _, rfl⟩⟩
  have I1 : Inv X pins σ (upd H s.heap.objs.size (.tup [.int (i : Nat), xv])) { s with heap := h'', toks := tk + 1 } :=
    I.turnedNew (ch := [e, it]) (fun b ob hb q => (sb.2 b (fun z => hb (by simp [z]))).trans (hk b ob (fun z => hb (by simp [z])) (fun z => hb (by simp [z])) q)) hf (Nat.le_refl _) new
  refine ⟨.ref s.heap.objs.size, _, I1, rfl, hy _ (I.hok.fresh (Nat.le_refl _)), hT h' h'' hst' (sb.2 it (Ne.symm hne)) ⟨x, ?_⟩, fun b hb => ?_⟩
  · have e1 : ((i + 1 : Nat) : Int) = (i : Int) + 1 := by omega
    rw [e1]
    exact he'
  · have hb' : b < s.heap.objs.size := by
      have e' : b = e ∨ b = it := by simpa using hb
      rcases e' with z | z
      · rw [z]; exact hel
      · rw [z]; exact hil
    rw [upd_ne (Nat.ne_of_lt hb')]
    exact (hf b hb).1
theorem turn_enumT (a e it : Addr) : Turn P w K (.Tuple elts kk tpos) (IteT K a) [e, it] e (fun i h => (∃ old, IsEnum h e it ((i : Nat) : Int) old) ∧ h.IsTupleIter it a i ∧ e ≠ it ∧ a ≠ e ∧ a ≠ it) where
  mem := by simp
  obj := fun i h st b hb => by
    obtain ⟨⟨old, he⟩, ⟨o, ho, hc, hd⟩, _⟩ := st
    have e' : b = e ∨ b = it := by simpa using hb
    rcases e' with z | z
    · rw [z]; exact ⟨_, he, fun v q => nomatch q⟩
    · rw [z]; exact ⟨o, ho, fun v q => by rw [hd] at q; cases q⟩
  keep := fun i h h' st k => let ⟨⟨old, he⟩, hi, hne⟩ := st; ⟨⟨old, k e (by simp) _ he⟩, hi.at fun o q => k it (by simp) o q, hne⟩
  item := by
    intro X hP hw hK hc i pins s σ H E I hf st hg
    subst hP hw hK
    obtain ⟨⟨old, he⟩, hit, hne, hae, hai⟩ := st
    obtain ⟨xs, x, hq, hx⟩ := hg
    obtain ⟨its, rv, p, hz⟩ := I.tuple hq
    obtain ⟨u, hu, ru⟩ := rv.get hx
    have hil : it < s.heap.objs.size := by obtain ⟨_, q, _⟩ := hit; exact Heap.lt_size q
    refine xe_item (J := IteT X.K a) (Tn := fun i h => (∃ old, IsEnum h e it ((i : Nat) : Int) old) ∧ h.IsTupleIter it a i ∧ e ≠ it ∧ a ≠ e ∧ a ≠ it) I hf (Draws.tuple (A := X.A.in1) (I.ok.hd hc) it a hai its.toArray) he ⟨hit, p⟩ (by have := (List.getElem?_eq_some_iff.mp hu).1; simpa using this) hne (by
      intro hm
      have hm2 : e = it ∨ e = a := by simpa using hm
      rcases hm2 with z | z
      · exact hne z
      · exact hae z.symm) hil (fun v hv => ?_) (fun h1 h2 z eq hu2 => ⟨hu2, z.1.at fun o q => eq.trans q, hne, hae, hai⟩)
    have hv2 : its.toArray[i]? = some v := hv
    have hv3 : its[i]? = some v := by simpa using hv2
    have ev : u = v := Option.some.inj (hu.symm.trans hv3)
    subst ev
    exact ⟨x, ru, fun T hTn => ⟨T, x, rfl, hTn, rfl, fun ys hy => by rw [I.tuple_inj hy hq]; exact hx⟩⟩
  done := by
    intro X hP hw hK hc i pins s σ H E I hf st hg
    subst hP hw hK
    obtain ⟨⟨old, he⟩, hit, hne, hae, hai⟩ := st
    obtain ⟨xs, hq, hx⟩ := hg
    obtain ⟨its, rv, p, hz⟩ := I.tuple hq
    obtain ⟨f0, f1, f2, f3, f4, f5⟩ := hf it (by simp)
    have hl := rv.length
    have hend : its.toArray[i]? = none := by
      rw [Array.getElem?_eq_none_iff]
      simp
      omega
    exact wpAny_pyNext_enum_endD (n := i) (P := fun _ _ => False) (St := fun j h => j = i ∧ h.IsTupleIter it a j ∧ h.IsTuple a its.toArray) (fp := [it, a])
      { live := fun _ _ st => let ⟨o, ho, _⟩ := st.2.1; ⟨o, ho⟩
        frame := fun _ _ _ st hk => ⟨st.1, st.2.1.at fun o q => hk it (by simp) o q, st.2.2.at fun o q => hk a (by simp) o q⟩
        item := fun j s Q E hj st hQ => absurd st.1 (Nat.ne_of_lt hj)
        done := fun s Q E st hE => wpAny_nextOf_tuple_end (I.ok.hd hc) st.2.1 st.2.2 hend hE } he ⟨rfl, hit, p⟩ fun h' eb => ⟨rfl, I.turned (t' := s.toks) (fun b o hb q => eb b o hb q) f0 f1 f3 f4 f5⟩
  self := fun A i s Q E st h => let ⟨⟨_, he⟩, _⟩ := st; wpAny_pyIter_enum he h
theorem turn_enumS (z : Str) (t : Tok) (e it : Addr) : Turn P w K (.Tuple elts kk tpos) (IteS z) [e, it] e (fun i h => (∃ old, IsEnum h e it ((i : Nat) : Int) old) ∧ h.IsStrIter it (strIterType z) z t i ∧ e ≠ it) where
  mem := by simp
  obj := fun i h st b hb => by
    obtain ⟨⟨old, he⟩, ⟨o, ho, hc, hd⟩, _⟩ := st
    have e' : b = e ∨ b = it := by simpa using hb
    rcases e' with z | z
    · rw [z]; exact ⟨_, he, fun v q => nomatch q⟩
    · rw [z]; exact ⟨o, ho, fun v q => by rw [hd] at q; cases q⟩
  keep := fun i h h' st k => let ⟨⟨old, he⟩, hi, hne⟩ := st; ⟨⟨old, k e (by simp) _ he⟩, (let ⟨o, ho, r⟩ := hi; ⟨o, k it (by simp) o ho, r⟩), hne⟩
  item := by
    intro X hP hw hK hc i pins s σ H E I hf st hg
    subst hP hw hK
    obtain ⟨⟨old, he⟩, hit, hne⟩ := st
    have hil : it < s.heap.objs.size := by obtain ⟨_, q, _⟩ := hit; exact Heap.lt_size q
    have hg2 : i < z.cps.size := hg
    refine xe_item (J := IteS z) (Tn := fun i h => (∃ old, IsEnum h e it ((i : Nat) : Int) old) ∧ h.IsStrIter it (strIterType z) z t i ∧ e ≠ it) I hf (Draws.text (A := X.A.in1) (I.ok.hd hc) it z t) he hit hg2 hne (by
      intro hm
      exact hne (by simpa using hm)) hil (fun v hv => ?_) (fun h1 h2 q eq hu2 => ⟨hu2, (let ⟨o, ho, r⟩ := q; ⟨o, eq.trans ho, r⟩), hne⟩)
    obtain ⟨c, u, hcx, rfl⟩ := hv
    exact ⟨.str ⟨#[c]⟩, ⟨u, rfl⟩, fun T hTn => ⟨T, c, rfl, hTn, rfl, hcx⟩⟩
  done := by
    intro X hP hw hK hc i pins s σ H E I hf st hg
    subst hP hw hK
    obtain ⟨⟨old, he⟩, hit, hne⟩ := st
    obtain ⟨f0, f1, f2, f3, f4, f5⟩ := hf it (by simp)
    have hg2 : z.cps.size ≤ i := hg
    have hend : z.cps[i]? = none := Array.getElem?_eq_none hg2
    exact wpAny_pyNext_enum_endD (n := i) (P := fun _ _ => False) (St := fun j h => j = i ∧ h.IsStrIter it (strIterType z) z t j) (fp := [it])
      { live := fun _ _ st => let ⟨o, ho, _⟩ := st.2; ⟨o, ho⟩
        frame := fun _ _ _ st hk => ⟨st.1, (let ⟨o, ho, r⟩ := st.2; ⟨o, hk it (by simp) o ho, r⟩)⟩
        item := fun j s Q E hj st hQ => absurd st.1 (Nat.ne_of_lt hj)
        done := fun s Q E st hE => by
          have st2 := st.2
          unfold strIterType at st2
          split at st2
          · exact wpAny_nextOf_ascii_end (I.ok.hd hc) st2 hend hE
          · exact wpAny_nextOf_wide_end (I.ok.hd hc) st2 hend hE } he ⟨rfl, hit⟩ fun h' eb => ⟨rfl, I.turned (t' := s.toks) (fun b o hb q => eb b o hb q) f0 f1 f3 f4 f5⟩
  self := fun A i s Q E st h => let ⟨⟨_, he⟩, _⟩ := st; wpAny_pyIter_enum he h
end
/-- enumerate of a tuple | of a text -/
def iEnumT (K : PySem.W.Frag) (ta : TA) : TI := fun σ H R => ta σ H fun vs H1 => ∃ a xs, vs = [.ref a] ∧ SqT K H1 a xs ∧ R (IteT K a) H1
def iEnumS (ta : TA) : TI := fun σ H R => ta σ H fun vs H1 => ∃ z, vs = [.str z] ∧ R (IteS z) H1
section
variable {X : Cx} {e : Expr} {ta : TA} {p pos tpos : Pos} {elts : List Expr} {kk : Nat}
theorem xe_fp {pins : List (Addr × Obj)} {σ : St} {H : Hp} {s : Shared} {s' : Heap} {b : Addr} (I : Inv X pins σ H s) (hb : b ∈ [s.heap.objs.size + 1, s.heap.objs.size]) : FpOk X pins H b := by
  have e' : b = s.heap.objs.size + 1 ∨ b = s.heap.objs.size := by simpa using hb
  have hle : s.heap.objs.size ≤ b := by
    rcases e' with z | z
    · rw [z]; exact Nat.le_add_right _ _
    · rw [z]; exact Nat.le_refl _
  exact I.fpOk hle (I.hok.fresh hle)
theorem pi_enumT (hg : Gl X "enumerate") (hm : X.mg "enumerate" = none) (ha : PA X [e] ta) (hs : starEach [e] X.env = [(false, eval e X.env)] := by rfl) :
    PI X (.Tuple elts kk tpos) (.Call (.Name "enumerate" p) [e] [] pos) (iEnumT X.K ta) := by
  refine ⟨fun pins s σ H R I h => ?_⟩
  refine Call_ (ld_blt I hg hm boot_enumerate (PyProof.Rows.callWith_type1 (thn (ha.run pos pins s σ H _ I h) fun us s1 ⟨vs, H1, I1, r1, q1⟩ => ?_) hs rfl))
  obtain ⟨a, xs, ex, hq, q⟩ := q1
  subst ex
  cases r1 with
  | cons r rr =>
    cases rr
    cases r
    obtain ⟨its, rv, p', hz⟩ := I1.tuple hq
    have hal : a < s1.heap.objs.size := p'.lt
    refine xe_call (begins_tuple a its.toArray) p' fun h' he hit hk => wpAny_pyIter_enum he ?_
    have I2 : Inv X pins σ H1 { s1 with heap := h' } := I1.kept (t' := s1.toks) hk
    exact ⟨s1.heap.objs.size + 1, [s1.heap.objs.size + 1, s1.heap.objs.size], _, _, H1, rfl, I2, turn_enumT a (s1.heap.objs.size + 1) s1.heap.objs.size,
      ⟨⟨.none, he⟩, ⟨_, hit, rfl, rfl⟩, Nat.succ_ne_self _, Nat.ne_of_lt (Nat.lt_succ_of_lt hal), Nat.ne_of_lt hal⟩, fun b hb => xe_fp (s' := h') I1 hb, q⟩
theorem pi_enumS (hg : Gl X "enumerate") (hm : X.mg "enumerate" = none) (ha : PA X [e] ta) (hs : starEach [e] X.env = [(false, eval e X.env)] := by rfl) :
    PI X (.Tuple elts kk tpos) (.Call (.Name "enumerate" p) [e] [] pos) (iEnumS ta) := by
  refine ⟨fun pins s σ H R I h => ?_⟩
  refine Call_ (ld_blt I hg hm boot_enumerate (PyProof.Rows.callWith_type1 (thn (ha.run pos pins s σ H _ I h) fun us s1 ⟨vs, H1, I1, r1, q1⟩ => ?_) hs rfl))
  obtain ⟨z, ex, q⟩ := q1
  subst ex
  cases r1 with
  | cons r rr =>
    cases rr
    obtain ⟨t, rfl⟩ := r
    refine xe_call (begins_text z t) True.intro fun h' he hit hk => wpAny_pyIter_enum he ?_
    have I2 : Inv X pins σ H1 { s1 with heap := h' } := I1.kept (t' := s1.toks) hk
    exact ⟨s1.heap.objs.size + 1, [s1.heap.objs.size + 1, s1.heap.objs.size], _, _, H1, rfl, I2, turn_enumS z t (s1.heap.objs.size + 1) s1.heap.objs.size,
      ⟨⟨.none, he⟩, ⟨_, hit, rfl, rfl⟩, Nat.succ_ne_self _⟩, fun b hb => xe_fp (s' := h') I1 hb, q⟩
end
/-- as walks: Walk's for_it, lc_it take them -/
theorem walk_enumT {K : PySem.W.Frag} {a : Addr} {xs : List V} : Walk (IteT K a) xs.length (fun H => SqT K H a xs) (YPair (fun i => some (.int (i : Nat))) (fun i => xs[i]?)) where
  goes := fun i H hi hg => ⟨xs, xs[i], hg, by simp [hi]⟩
  stops := fun H hg => ⟨xs, hg, Nat.le_refl _⟩
  yields := fun i H v H' _ hg ⟨T, x, e1, e2, e3, e4⟩ => ⟨T, _, x, e1, e2, e3, rfl, e4 xs hg⟩
theorem walk_enumS {z : Str} : Walk (IteS z) z.cps.size (fun _ => True) (YPair (fun i => some (.int (i : Nat))) (fun i => (z.cps[i]?).map fun c => .str ⟨#[c]⟩)) where
  goes := fun i H hi hg => hi
  stops := fun H hg => Nat.le_refl _
  yields := fun i H v H' _ hg ⟨T, c, e1, e2, e3, e4⟩ => ⟨T, _, _, e1, e2, e3, rfl, by show Option.map _ _ = _; rw [e4]; rfl⟩
end L2
end
section
set_option Elab.async false
set_option linter.all false
set_option maxRecDepth 100000
set_option maxHeartbeats 4000000
/-! An own exception class over own classes over ValueError, whose __init__ says super().__init__(a written text); self.f = x. -/
namespace PySem
namespace XS
open PySem.W PySem.Calls PyProof.Rows PySem.HandSPX
section
variable {prog : Program} {w : World} {A : Around} {E : Value → Shared → Prop} {h : Heap} {g : Array GenState} {d : Drawn} {t : Nat} {os : OsState}
variable {nm q : Str} {C N : Addr} {bs bm : List Value} {hdct : Bool} {sn : List Str} {sub : List Value} {ab : Bool} {col : Option Bool} {dd : Option Addr} {k0 k1 k2 k3 k5 : Option Value}
/-- the bound ValueError.__init__ called: the args are laid anew -/
theorem call_mw {u e t0 : Addr} {rest : List Value} {Q : Value → Shared → Prop}
    (hC : h.get? C = some (excClassObj nm q C N bs bm hdct sn sub ab col dd k0 k1 k2 k3 k5 "ValueError.__new__")) (he : h.get? e = some (excO C t0)) (hu : h.get? u = some (kxs_mw "ValueError.__init__" e)) (hrest : rest.length ≤ sizeLine)
    (hq : ∀ h' t1, (∀ b o, b ≠ e → h.get? b = some o → h'.get? b = some o) → h'.get? e = some (excO C t1) → Q .none ⟨h', g, d, t, os⟩) :
    wpAny (model prog w) A (call (.ref u) rest) Q E ⟨h, g, d, t, os⟩ := by
  refine wpAny_call (codeAny_of_tree ?_)
  show wpAny _ A.in1 (callAny (.ref u) ⟨rest, []⟩) _ _ _
  simp only [callAny]
  refine wpAny_bind (wpAny_load hu ?_)
  simp only [kxs_mw, show (Value.type "method-wrapper" == Value.type "method" || Value.type "method-wrapper" == Value.type "builtin_function_or_method" || Value.type "method-wrapper" == Value.type "method-wrapper") = true by decide, if_true]
  refine W.KFB.if_so (by decide) ?_
  refine wpAny_bind (check_bound_init F.excBase_ValueError.toExcCallFacts hC he rfl ?_)
  refine wpAny_bind (wpAny_pure (wpAny_pure ?_))
  refine ⟨Code.quiet_builtin _ (by decide +kernel), codeAny_builtin F.excBase_ValueError.initEntry ?_⟩
  rw [Around.under_plainId F.excBase_ValueError.init.plain _]
  wp_walk
  refine hq _ h.objs.size (fun b o hb ho => ?_) ?_
  · rw [Heap.get?_update_other _ _ (Ne.symm hb)]
    exact Heap.get?_push_of_some _ ho
  · rw [Heap.get?_update_self _ (Heap.get?_push_of_some _ he) rfl]
    rfl
end
end XS
end PySem
namespace L2
open PySem PySem.Spec PyProof.Rows PySem.W
/-- the promise of such an __init__ -/
def spSup (C : Addr) (f : Str) : Sp := fun vs H Q _ => ∃ (a : Addr) (y : V), vs = [.ref a, y] ∧ H a = some (exo a C none) ∧ ∀ dx, H dx = none → dx ≠ a → Q .non (upd (upd H dx (exd dx [(f, y)])) a (exo a C (some dx)))
/-- the two rows of its body -/
def supBody (msg f arg : Str) (j : Nat) (p0 p1 p2 p3 p4 p5 p6 p7 p8 p9 : Pos) : List Stmt :=
  [.Expr (.Call (.Attribute (.Call (.Name "super" p0) [] [] p1) "__init__" p2) [.Constant (.str msg) j p3] [] p4) p5, .Assign [.Attribute (.Name "self" p6) f p7] (.Name arg p8) p9]
structure SupOk (P : Program) (K : Frag) (C fI cda cc : Addr) (qual f arg : Str) (params : Arguments) (scope : Scope) (an : Option Addr) (dV kV doc pm ct : Value) (body : List Stmt) : Prop where
  lk : ∃ oc od osl, K.lookup fI = some ⟨oc, od, .func (ksFn "__init__" qual params body scope dV kV doc pm an (.ref cda) ct cc), osl⟩
  cd : codeIn K (.ref cda) qual = true
  co : ∃ ccl cdd vs ccs file tf, K.lookup cda = some ⟨ccl, cdd, .fields vs, ccs⟩ ∧ vs[2]? = some (.str file tf) ∧ ((P.main.file : Str) == file) = true
  ce : ∃ cl cld csl, K.lookup cc = some ⟨cl, cld, .cell (some (.ref C)), csl⟩
  sub : mroIn K C (.ref C) = some true
  sup : ks_superIn K C C "__init__" = some (some (.builtin "ValueError.__init__"))
  ve : subIn K (.ref C) (.type "ValueError") = some true
  any : nsIn K cStatics "thirdparty.any" = some none
  no : findIn K (.ref C) f = some none
/-- what its text must be -/
structure SupTx (P : Program) (arg : Str) (params : Arguments) (scope : Scope) : Prop where
  par : ∃ ar, (params.posonlyargs ++ params.args).head? = some ar ∧ ar.arg = "self"
  kind : scope.kind = .function
  gen : scope.isGenerator = false
  cor : scope.isCoroutine = false
  ns : scope.names.lookup ("super" : Str) = some .globalImplicit
  nc : scope.names.lookup ("__class__" : Str) = some .free
  nl : scope.names.lookup ("self" : Str) = some .local
  na : scope.names.lookup arg = some .local
  fr : ∀ x ∈ scope.names, x.2 ≠ .cell ∧ (x.2 = .free → x.1 = "__class__")
  ne : arg ≠ "self"
  top : (P.main.scope.names.lookup ("super" : Str)).isSome = false
  da : (arg == ("__debug__" : Str)) = false
  dc : (arg == ("__classdict__" : Str)) = false
section
variable {P : Program} {w : World} {K : Frag} {mg : Str → Option Value} {base : Heap} {C fI cda cc : Addr} {qual f arg msg : Str} {params : Arguments} {scope : Scope} {an : Option Addr} {dV kV doc pm ct : Value} {j : Nat} {p0 p1 p2 p3 p4 p5 p6 p7 p8 p9 : Pos}
/-- the context of its body -/
def supCx (P : Program) (w : World) (K : Frag) (mg : Str → Option Value) (base : Heap) (arg : Str) (env : Env) (A : Around) (outer : List Env) (s : Shared) (H : Hp) : Cx where
  prog := P
  w := w
  K := K
  mg := mg
  base := base
  A := A.deeper env
  N := ["self", arg]
  s_0 := s
  H_0 := H
  env := env
  outer := outer
  stack := env :: outer
  ex := []
  fn := fun _ => false
  calm := true
  pn := []
  xe := fun _ _ => False
theorem lk1 {α : Type} {x y : Str} {c d : α} (h : [(x, c)].lookup y = some d) : y = x ∧ c = d := by
  simp only [List.lookup] at h
  split at h
  · rename_i q
    exact ⟨eq_of_beq q, Option.some.inj h⟩
  · cases h
theorem fn_sup (T : OexC K C) (S : SupOk P K C fI cda cc qual f arg params scope an dV kV doc pm ct (supBody msg f arg j p0 p1 p2 p3 p4 p5 p6 p7 p8 p9)) (X : SupTx P arg params scope) (hl : (p2.endLine == p4.line) = true) (hms : mg "super" = none) :
    FnOk P w K mg base (fun _ _ _ _ _ _ => False) 1 fI (ksFn "__init__" qual params (supBody msg f arg j p0 p1 p2 p3 p4 p5 p6 p7 p8 p9) scope dV kV doc pm an (.ref cda) ct cc) ["self", arg] (spSup C f) := by
  refine ⟨fun vs H Q E h => (by obtain ⟨a, y, rfl, _⟩ := h; rfl), fun A outer s H args us vs Q E hr e0 hb r hsp => ?_⟩
  obtain ⟨oc, od, osl, lk⟩ := S.lk
  obtain ⟨ccl, cdd, cvs, ccs, file, tf, hcode, hvs, hfile⟩ := S.co
  obtain ⟨cl, cld, csl, hcell⟩ := S.ce
  obtain ⟨ar, hpar, har⟩ := X.par
  obtain ⟨a, y, rfl, ha, hq⟩ := hsp
  have KB : K.In s.heap := e0.mod.kin.keeps fun b o e => (e0.bs b o e).1
  have lim : s.heap.NoLimit := e0.mod.nolimit.keeps fun b o e => (e0.bs b o e).1
  obtain ⟨u0, u1, rfl, r0, r1⟩ : ∃ u0 u1, us = [u0, u1] ∧ RelV (.ref a) u0 ∧ RelV y u1 := by
    cases r with
    | cons q0 t => cases t with
      | cons q1 t2 => cases t2; exact ⟨_, _, rfl, q0, q1⟩
  obtain rfl : u0 = Value.ref a := r0
  refine ks_codeAny_call_defAt hr.depth (KB _ _ lk) rfl lim (codeRec_of KB S.cd) rfl hb (fun x hx => (X.fr x hx).1) (fun z hz => ?_) (fun h0 hns hk => ?_) X.cor X.gen X.kind
  · have hz2 : z = (("self" : Str), Value.ref a) ∨ z = (arg, u1) := by simpa using hz
    rcases hz2 with rfl | rfl
    · exact X.nl
    · exact X.na
  obtain ⟨nm, qn, N, bs, bm, sn, sub, ab, col, dd, k0, k1, k2, k3, k5, hC, hbm⟩ := T.cls
  have hcl : clsIn K C = some { name := nm, bases := bs, mro := .ref C :: bm, ns := N, qualname := qn, hasDict := true, slotNames := sn, subclasses := sub, abstract := ab, collection := col, hasDel := false } := by unfold clsIn; rw [hC] <;> rfl
  have KH : K.In h0 := fun b o e => hk b o (KB b o e)
  have noE : ∀ x : Addr, x ∉ ([] : List Addr) := fun x z => absurd z (by simp)
  have hL0 : H s.heap.objs.size = none := e0.hok.fresh (Nat.le_refl _)
  have hcc0 : H cc = none := (e0.bs cc _ (e0.mod.kin _ _ hcell)).2
  generalize hfd : ksFn "__init__" qual params (supBody msg f arg j p0 p1 p2 p3 p4 p5 p6 p7 p8 p9) scope dV kV doc pm an (.ref cda) ct cc = fd at lk hb hns ⊢
  have hEnv : callEnv fd s.heap.objs.size fI = ksEnv qual scope s.heap.objs.size fI (.ref cda) cc := by rw [← hfd]; rfl
  rw [hEnv]
  have hbl : ((["self", arg] : List Str).zip [Value.ref a, u1]).reverse.lookup arg = some u1 := by
    show [(arg, u1), (("self" : Str), Value.ref a)].lookup arg = some u1
    simp [List.lookup]
  have hbs : ((["self", arg] : List Str).zip [Value.ref a, u1]).reverse.lookup ("self" : Str) = some (Value.ref a) := by
    show [(arg, u1), (("self" : Str), Value.ref a)].lookup ("self" : Str) = some (Value.ref a)
    have e : (("self" : Str) == arg) = false := by
      cases z : (("self" : Str) == arg) with
      | false => rfl
      | true => exact absurd (eq_of_beq z).symm X.ne
    simp [List.lookup, e]
  have I : Inv (supCx P w K mg base arg (ksEnv qual scope s.heap.objs.size fI (.ref cda) cc) A outer s H) [] [some (.ref a), some y] H { s with heap := h0, toks := s.toks + ((["self", arg] : List Str).zip [Value.ref a, u1]).length } := by
    refine ⟨⟨e0.mod, X.kind, rfl, rfl, Nat.le_refl _, fun x z c h1 h2 => ?_, fun x hx => ?_, fun x c h _ => absurd h (by intro z; cases z), fun _ => hr.hd, Around.frames_deeper e0.frames, .inr ⟨rfl, rfl⟩, fun b z => absurd z (noE b), e0.bs, e0.bsz, fun b _ _ => noE b, fun b z => absurd z (noE b), e0.funs, e0.frf⟩,
      rfl, e0.bare, Un.kept hk, ⟨_, hns, fun i x v h1 h2 h3 => ?_⟩, fun x c h => ?_, hL0, fun x c h => ?_, fun p hp => absurd (show p ∈ ([] : List (Addr × Obj)) from hp) (by simp), e0.hok.kept hk, rfl⟩
    · exact (lk1 h1).1.trans (lk1 h2).1.symm
    · have hx2 : scope.names.lookup x = some .cell ∨ scope.names.lookup x = some .free := hx
      rcases hx2 with z | z
      · exact absurd rfl (X.fr _ (PySem.mem_of_lookup z)).1
      · have e := (X.fr _ (PySem.mem_of_lookup z)).2 rfl
        have e2 : x = "__class__" := e
        exact ⟨cc, by rw [e2]; rfl⟩
    · have hlt : i < 2 := (List.getElem?_eq_some_iff.mp h1).1
      have hi : i = 0 ∨ i = 1 := by omega
      rcases hi with rfl | rfl
      · have ex : ("self" : Str) = x := Option.some.inj h1
        have ev : V.ref a = v := Option.some.inj (Option.some.inj h2)
        subst ex ev
        exact ⟨Value.ref a, rfl, .inl ⟨X.nl, hbs⟩⟩
      · have ex : arg = x := Option.some.inj h1
        have ev : y = v := Option.some.inj (Option.some.inj h2)
        subst ex ev
        exact ⟨u1, r1, .inl ⟨X.na, hbl⟩⟩
    · have e := (lk1 h).2
      subst e
      exact ⟨_, _, KH _ _ hcell, rfl⟩
    · have e := (lk1 h).2
      subst e
      exact hcc0
  clear hEnv
  obtain ⟨t0, he0⟩ := exo_at I.hok ha
  have he0' : h0.get? a = some (HandSPX.excO C t0) := he0
  have IA : InstAt h0 a (HandSPX.excO C t0) C none := ⟨he0', rfl, rfl, trivial⟩
  have he : eval (.Call (.Attribute (.Call (.Name "super" p0) [] [] p1) "__init__" p2) [.Constant (.str msg) j p3] [] p4) (ksEnv qual scope s.heap.objs.size fI (.ref cda) cc) = (do
      let ov ← attributeBase (.Call (.Name "super" p0) [] [] p1) "__init__" (ksEnv qual scope s.heap.objs.size fI (.ref cda) cc) (eval (.Call (.Name "super" p0) [] [] p1) (ksEnv qual scope s.heap.objs.size fI (.ref cda) cc))
      standAt p2.atName
      let (f, first) ← holding [ov] (getMethod ov "__init__" (do return (← importBound (.Call (.Name "super" p0) [] [] p1) (ksEnv qual scope s.heap.objs.size fI (.ref cda) cc)).getD true))
      callWith p4 f first (backTo p4 (starEach [.Constant (.str msg) j p3] (ksEnv qual scope s.heap.objs.size fI (.ref cda) cc))) []) := by
    show (do
      let ov ← attributeBase (.Call (.Name "super" p0) [] [] p1) "__init__" (ksEnv qual scope s.heap.objs.size fI (.ref cda) cc) (eval (.Call (.Name "super" p0) [] [] p1) (ksEnv qual scope s.heap.objs.size fI (.ref cda) cc))
      standAt p2.atName
      methodCall (.Call (.Name "super" p0) [] [] p1) "__init__" p2 p4 (ksEnv qual scope s.heap.objs.size fI (.ref cda) cc) ov 1 (backTo p4 (starEach [.Constant (.str msg) j p3] (ksEnv qual scope s.heap.objs.size fI (.ref cda) cc))) []) = _
    have hm : ∀ ov, methodCall (.Call (.Name "super" p0) [] [] p1) "__init__" p2 p4 (ksEnv qual scope s.heap.objs.size fI (.ref cda) cc) ov 1 (backTo p4 (starEach [.Constant (.str msg) j p3] (ksEnv qual scope s.heap.objs.size fI (.ref cda) cc))) [] =
        (do let (f, first) ← holding [ov] (getMethod ov "__init__" (do return (← importBound (.Call (.Name "super" p0) [] [] p1) (ksEnv qual scope s.heap.objs.size fI (.ref cda) cc)).getD true))
            callWith p4 f first (backTo p4 (starEach [.Constant (.str msg) j p3] (ksEnv qual scope s.heap.objs.size fI (.ref cda) cc))) []) := fun ov => by
      have hp : methodCallPos true (.Call (.Name "super" p0) [] [] p1) (ksEnv qual scope s.heap.objs.size fI (.ref cda) cc) p2 p4 = pure p4 := by
        unfold methodCallPos
        rw [hl]
        rfl
      unfold methodCall
      show (do
        let (f, first) ← holding [ov] (calleeOf true _ _ ov _)
        let callPos ← methodCallPos true _ _ p2 p4
        callWith callPos f first _ _) = _
      rw [hp]
      rfl
    simp only [hm]
  refine ks_wpAt_execs_cons (ks_wpAt_Expr_any (hi := by simp [interactive, X.kind]) (ks_wpAt_MethodCall (he := he) (ks_wpAt_super_base (env := ksEnv qual scope s.heap.objs.size fI (.ref cda) cc) X.ns X.nc (by decide) rfl (KH _ _ lk) rfl (by rw [← hfd]; exact hpar) rfl (KH _ _ hcode) rfl hvs hfile X.top ?_)))
  obtain ⟨mb, hb1, hb2⟩ := e0.mod.blt
  have kb : ∀ b o, base.get? b = some o → h0.get? b = some o := fun b o e => hk b o (e0.bs b o e).1
  refine ks_loadName_global X.kind X.ns (Calls.loadGlobal_builtin (env := ksEnv qual scope s.heap.objs.size fI (.ref cda) cc) (e0.mod.glob.keeps kb) hms (hb1.keeps kb) ((hb2 _ (by decide)).trans (by first | rfl | decide +kernel)) ⟨rfl, ?_⟩)
  refine wpAny_loadName_free X.kind X.nc rfl ⟨_, KH _ _ hcell, rfl⟩ ?_
  rw [har]
  refine wpAny_loadName_local X.kind X.nl hns hbs ?_
  refine ks_wpAny_isType_cls (KH _ _ hC) rfl ⟨rfl, ?_⟩
  refine ks_wpAny_call_super (KH _ _ hC) rfl he0' rfl (fun c e => nomatch e) (looks_mroIn KH S.sub) (fun h1 e1 kp1 => ?_)
  have KH1 : K.In h1 := fun b o e => kp1 b o (KH b o e)
  have IA1 : InstAt h1 a (HandSPX.excO C t0) C none := ⟨kp1 _ _ he0', rfl, rfl, trivial⟩
  have hI1 : Looks (model P w) h1 (isInstance (.ref a) (.type "ValueError")) true := IA1.type.andThen (looks_subIn KH1 S.ve)
  have hal : alongIn K "__init__" (((Value.ref C :: bm).dropWhile (· != .ref C)).drop 1) = some (some (.builtin "ValueError.__init__")) := by
    have z := S.sup
    unfold ks_superIn at z
    rw [hcl] at z
    exact z
  have LC : Looks (model P w) h1 (mroOf (.ref C)) (Value.ref C :: bm) := fun A Q E s k q => wpAny_bind ((looks_clsIn KH1 hcl) A _ E s k (wpAny_pure q))
  refine kxs_getMethod (K := K) kxs_ValueError e1 (looks_opaque KH1 S.any) LC rfl KH1 hal hI1 (ks_ne KH IA hcl) (by decide) ?_
  have I1 : Inv (supCx P w K mg base arg (ksEnv qual scope s.heap.objs.size fI (.ref cda) cc) A outer s H) [] [some (.ref a), some y] H ⟨h1, s.gens, s.drawn, s.toks + ((["self", arg] : List Str).zip [Value.ref a, u1]).length, s.os⟩ := I.kept kp1
  have I2 : Inv (supCx P w K mg base arg (ksEnv qual scope s.heap.objs.size fI (.ref cda) cc) A outer s H) [] [some (.ref a), some y] H
      ⟨h1.push (kxs_mw "ValueError.__init__" a), s.gens, s.drawn, s.toks + ((["self", arg] : List Str).zip [Value.ref a, u1]).length + 1, s.os⟩ :=
    I1.kept (fun b o e => Heap.get?_push_of_some _ e)
  have hu : (h1.push (kxs_mw "ValueError.__init__" a)).get? h1.objs.size = some (kxs_mw "ValueError.__init__" a) := Heap.get?_push_size _ rfl
  have fp : FpOk (supCx P w K mg base arg (ksEnv qual scope s.heap.objs.size fI (.ref cda) cc) A outer s H) [] H h1.objs.size := I1.fpOk (Nat.le_refl _) (I1.hok.fresh (Nat.le_refl _))
  have I3 : Inv (supCx P w K mg base arg (ksEnv qual scope s.heap.objs.size fI (.ref cda) cc) A outer s H) [(h1.objs.size, kxs_mw "ValueError.__init__" a)] [some (.ref a), some y] H
      ⟨h1.push (kxs_mw "ValueError.__init__" a), s.gens, s.drawn, s.toks + ((["self", arg] : List Str).zip [Value.ref a, u1]).length + 1, s.os⟩ :=
    I2.pins_of fun p hp => by
      have e : p = (h1.objs.size, kxs_mw "ValueError.__init__" a) := by simpa using hp
      subst e
      exact ⟨hu, fp.1, fp.2.1, fp.2.2.1, fun v z => nomatch z⟩
  have hst : starEach [.Constant (.str msg) j p3] (ksEnv qual scope s.heap.objs.size fI (.ref cda) cc) = [(false, eval (.Constant (.str msg) j p3) (ksEnv qual scope s.heap.objs.size fI (.ref cda) cc))] := rfl
  show wpAny _ _ (callWith p4 (.ref h1.objs.size) [] (backTo p4 (starEach [.Constant (.str msg) j p3] (ksEnv qual scope s.heap.objs.size fI (.ref cda) cc))) []) _ _ _
  rw [hst]
  refine kxs_callWith (i := "ValueError.__init__") (x := a) rfl (Calls.evalArgs_plain ?_)
  have ha1 := (pa_cons (X := supCx P w K mg base arg (ksEnv qual scope s.heap.objs.size fI (.ref cda) cc) A outer s H) (pe_str (x := msg) (j := j) (pos := p3)) pa_nil).run p4 [(h1.objs.size, kxs_mw "ValueError.__init__" a)] _ _ H (fun vs H' => vs = [V.str msg] ∧ H' = H) I3 ⟨rfl, rfl⟩
  refine wpAny_mono ha1 (fun us s3 hh => ?_) (fun e s' z => False.elim z)
  obtain ⟨vs3, H3, I4, r3, rfl, rfl⟩ := hh
  have hu3 := (I4.pin (h1.objs.size, kxs_mw "ValueError.__init__" a) (by simp [supCx])).1
  refine ⟨hu3, ?_⟩
  obtain ⟨t3, he3⟩ := exo_at I4.hok ha
  obtain ⟨g3, q3, d3, k3', os3⟩ := s3
  have hlen : us.length ≤ sizeLine := by rw [← r3.length]; show 1 ≤ sizeLine; decide
  refine PySem.XS.call_mw (I4.kIn _ _ hC) he3 hu3 hlen fun h4 t4 kp4 he4 => ?_
  have J := I4.write (t' := k3') (x := a) (e := a) (o := exo a C none) (by rw [ha]; exact True.intro) (.inl rfl) kp4 ⟨_, he4⟩ (exo_ok he4)
  have eu : upd H3 a (exo a C none) = H3 := by
    funext b
    by_cases hb : b = a
    · rw [hb, upd_same, ha]
    · rw [upd_ne hb]
  rw [eu] at J
  have J0 := Inv.unpinned (pins := []) J
  refine ks_wpAt_execs_cons (wpAt_of_wpAny ?_)
  have hps := (ps_ost (X := supCx P w K mg base arg (ksEnv qual scope s.heap.objs.size fI (.ref cda) cc) A outer s H3) (p' := p7) (pos := p9) (f := f) (pe_var (x := "self") (i := 0) (pos := p6) rfl (.inl X.nl) (by decide) (by decide)) (pe_var (x := arg) (i := 1) (pos := p8) rfl (.inl X.na) X.da X.dc)).run [] _ _ H3
    { nx := fun _ H' => Q .non H', rt := fun _ _ => False, bk := fun _ _ => False, ct := fun _ _ => False } J0 ⟨y, rfl, .ref a, rfl, a, C, rfl, T, S.no, .inl ⟨ha, hq⟩⟩
  refine wpAny_mono hps (fun fl s5 hs => ?_) (fun e s' z => False.elim z)
  cases fl with
  | next =>
    obtain ⟨σ', H', J5, q5⟩ := hs
    refine wpAt_of_wpAny (wpAny_execs_nil ?_)
    exact ⟨V.non, H', J5.os, J5.bare, J5.base, J5.hok, rfl, q5⟩
  | ret u =>
    obtain ⟨_, _, _, _, _, z⟩ := hs
    exact False.elim z
  | brk =>
    obtain ⟨_, _, _, z⟩ := hs
    exact False.elim z
  | cont =>
    obtain ⟨_, _, _, z⟩ := hs
    exact False.elim z
end
end L2
end
section
set_option Elab.async false
set_option linter.all false
set_option maxRecDepth 100000
set_option maxHeartbeats 4000000
/-! A head's facts, the statics and one more Bool among them; what it says of an own exception with super().__init__. -/
namespace XH
open PySem PySem.Spec PyProof.Rows L2 He
def asY (g : Addr → Option Obj) : Nat → List Addr
  | 0 => [mainGlobals, cStatics]
  | n + 1 => growD g (asY g n)
/-- its __init__, with its code, its cell -/
def fIn (K : PySem.W.Frag) (C : Addr) : Addr := ma K C "__init__"
/-- what of the function is seen by names -/
abbrev SupV : Type := Option (Str × Str × Arguments × FuncBody × Scope × Addr × Addr)
def supO (K : PySem.W.Frag) (C : Addr) : SupV := match K.lookup (fIn K C) with
  | some ⟨_, _, .func fd, _⟩ => some (fd.name, fd.qualname, fd.params, fd.body, fd.scope, fd.globals, fd.builtins)
  | _ => none
abbrev AlY : Type := AlD × Bool × List SupV
def obsY (n : Nat) (fa : List Fa) (fn : List DefD) (ex : PySem.W.Frag → Bool) (su : List (Str × SupV)) (g : Addr → Option Obj) : AlY := (obsD fa fn (frG g (asY g n)), ex (frG g (asY g n)), su.map fun q => supO (frG g (asY g n)) (ga (frG g (asY g n)) q.1))
def hookY (n : Nat) (fa : List Fa) (fn : List DefD) (ex : PySem.W.Frag → Bool) (su : List (Str × SupV)) : PySem.W.Hook where
  α := AlY
  obs := fun s => obsY n fa fn ex su s.heap.get?
  val := fun _ => (valD fn, true, su.map Prod.snd)
  says := fun _ h => ∃ K : PySem.W.Frag, K.In h ∧ SaysD fa fn K ∧ ex K = true ∧ (su.map fun q => supO K (ga K q.1)) = su.map Prod.snd
  of := fun _ _ e => ⟨_, frG_in, congrArg (fun z : AlY => z.1) e, congrArg (fun z : AlY => z.2.1) e, congrArg (fun z : AlY => z.2.2) e⟩
  keeps := fun _ _ _ ⟨K, hK, c⟩ k => ⟨K, PySem.W.Frag.In.keeps hK k, c⟩
theorem obsY_eq {n : Nat} {fa : List Fa} {fn : List DefD} {ex : PySem.W.Frag → Bool} {su : List (Str × SupV)} {g : Addr → Option Obj} {s : Shared} (h : ∀ a, g a = s.heap.get? a) : obsY n fa fn ex su g = (hookY n fa fn ex su).obs s := by
  have e : g = s.heap.get? := funext h
  rw [e] <;> rfl
section
variable {fa : List Fa} {fn : List DefD} {K : PySem.W.Frag}
theorem fact_in (c : SaysD fa fn K) {f : Fa} (h : f ∈ fa) : f.ok K = true := by
  obtain ⟨i, hi, e⟩ := List.mem_iff_getElem.mp h
  exact c.fact i (f := f) (by rw [List.getElem?_eq_getElem hi, e])
theorem def_in (c : SaysD fa fn K) {d : DefD} (h : d ∈ fn) : ∃ fd, FunD K d.name d.qual d.params d.body d.scope (d.dvs K) (d.kws K) (fAd K d.at_) fd := by
  obtain ⟨i, hi, e⟩ := List.mem_iff_getElem.mp h
  exact c.def_ i (d := d) (by rw [List.getElem?_eq_getElem hi, e])
end
/-- the class at C is one of the program's exceptions over ValueError -/
def oexB (K : PySem.W.Frag) (C : Addr) : Bool := (match K.lookup C with
  | some ⟨.type "type", _, .cls cd, sl⟩ => (match cd.mro, sl.toList with
    | .ref C' :: bm, [_, _, _, _, some (.builtin n), _] => C' == C && (n == "ValueError.__new__" && (!cd.hasDel && (PySem.HandSPX.refsVE bm && cd.hasDict)))
    | _, _ => false)
  | _ => false) && (decide (PySem.W.findIn K (.ref C) "__setattr__" = some (some (.builtin "object.__setattr__"))) && (decide (PySem.W.subIn K (.ref C) (.type "BaseException") = some true) && (decide (PySem.W.typeIn K (.ref C) = some (.type "type")) && PySem.W.keepIn K (.ref C))))
theorem oexB_ok {K : PySem.W.Frag} {C : Addr} (h : oexB K C = true) : OexC K C := by
  obtain ⟨h1, h⟩ := ba h
  obtain ⟨h2, h⟩ := ba h
  obtain ⟨h3, h⟩ := ba h
  obtain ⟨h4, h5⟩ := ba h
  refine ⟨?_, of_decide_eq_true h2, of_decide_eq_true h3, of_decide_eq_true h4, h5⟩
  split at h1
  · rename_i dd cd sl ho
    split at h1
    · rename_i C' bm k0 k1 k2 k3 n k5 hm hs
      obtain ⟨c1, h1⟩ := ba h1
      obtain ⟨c2, h1⟩ := ba h1
      obtain ⟨c3, h1⟩ := ba h1
      obtain ⟨c4, c5⟩ := ba h1
      have e1 : C' = C := eq_of_beq c1
      have e2 : n = "ValueError.__new__" := eq_of_beq c2
      subst e1 e2
      obtain ⟨nm, bs, mro, ns, qn, hd, sn, sub, ab, col, del⟩ := cd
      dsimp only at hm c3 c5
      have e3 : del = false := by
        cases del with
        | false => rfl
        | true => cases c3
      subst hm e3 c5
      have hsl : sl = #[k0, k1, k2, k3, some (.builtin "ValueError.__new__"), k5] := by
        obtain ⟨l⟩ := sl
        have hs2 : l = [k0, k1, k2, k3, some (.builtin "ValueError.__new__"), k5] := hs
        rw [hs2]
      subst hsl
      exact ⟨nm, qn, ns, bs, bm, sn, sub, ab, col, dd, k0, k1, k2, k3, k5, ho, c4⟩
    · cases h1
  · cases h1
def supB (P : Program) (K : PySem.W.Frag) (C : Addr) (qual f : Str) : Bool := (match K.lookup (fIn K C) with
  | some ⟨_, _, .func fd, _⟩ => (match fd.code, fd.closure with
    | .ref cda, [(x, cc)] => decide (x = "__class__") && (decide (fd.defaults = Value.none) && (PySem.W.codeIn K (.ref cda) qual && ((match K.lookup cda with
      | some ⟨_, _, .fields vs, _⟩ => (match (vs : Array Value)[2]? with
        | some (Value.str file _) => (P.main.file : Str) == file
        | _ => false)
      | _ => false) && (match K.lookup cc with
        | some ⟨_, _, .cell (some (.ref D)), _⟩ => D == C
        | _ => false))))
    | _, _ => false)
  | _ => false) && (decide (PySem.W.mroIn K C (.ref C) = some true) && (decide (PySem.W.ks_superIn K C C "__init__" = some (some (.builtin "ValueError.__init__"))) && (decide (PySem.W.subIn K (.ref C) (.type "ValueError") = some true) &&
    (decide (PySem.W.nsIn K cStatics "thirdparty.any" = some none) && (decide (PySem.W.findIn K (.ref C) f = some none) && (decide (PySem.W.findIn K (.ref C) "__init__" = some (some (.ref (fIn K C)))) && decide (PySem.W.typeIn K (.ref (fIn K C)) = some (.type "function"))))))))
theorem supB_ok {P : Program} {K : PySem.W.Frag} {C : Addr} {qual f arg : Str} {params : Arguments} {body : List Stmt} {scope : Scope} (h : supB P K C qual f = true)
    (e : supO K C = (some (("__init__" : Str), qual, params, FuncBody.stmts body, scope, mainGlobals, builtinsNs) : SupV)) :
    (∃ (cda cc : Addr) (an : Option Addr) (kV doc pm ct : Value), SupOk P K C (fIn K C) cda cc qual f arg params scope an .none kV doc pm ct body) ∧
      PySem.W.findIn K (.ref C) "__init__" = some (some (.ref (fIn K C))) ∧ PySem.W.typeIn K (.ref (fIn K C)) = some (.type "function") := by
  obtain ⟨h1, h⟩ := ba h
  obtain ⟨h2, h⟩ := ba h
  obtain ⟨h3, h⟩ := ba h
  obtain ⟨h4, h⟩ := ba h
  obtain ⟨h5, h⟩ := ba h
  obtain ⟨h6, h⟩ := ba h
  obtain ⟨h7, h8⟩ := ba h
  refine ⟨?_, of_decide_eq_true h7, of_decide_eq_true h8⟩
  unfold supO at e
  cases q : K.lookup (fIn K C) with
  | none =>
    rw [q] at e
    cases e
  | some o =>
    obtain ⟨oc, od, dt, osl⟩ := o
    rw [q] at e h1
    cases dt with
    | func fd =>
      obtain ⟨n1, n2, n3, n4, n5, n6, n7, n8, n9, n10, n11, n12, n13, n14, n15⟩ := fd
      have e2 : (some (n1, n2, n3, n4, n5, n6, n15) : SupV) = some (("__init__" : Str), qual, params, FuncBody.stmts body, scope, mainGlobals, builtinsNs) := e
      simp only [Option.some.injEq, Prod.mk.injEq] at e2
      obtain ⟨a1, a2, a3, a4, a5, a6, a7⟩ := e2
      subst a1 a2 a3 a4 a5 a6 a7
      dsimp only at h1
      split at h1
      · rename_i cda x cc
        obtain ⟨c1, hx1⟩ := ba h1
        obtain ⟨c0, hx2⟩ := ba hx1
        obtain ⟨c2, hx3⟩ := ba hx2
        obtain ⟨c3, c4⟩ := ba hx3
        have e8 : n8 = Value.none := of_decide_eq_true c0
        subst e8
        have ex : x = "__class__" := of_decide_eq_true c1
        subst ex
        refine ⟨cda, cc, n12, n9, n10, n11, n14, ⟨oc, od, osl, q⟩, c2, ?_, ?_, of_decide_eq_true h2, of_decide_eq_true h3, of_decide_eq_true h4, of_decide_eq_true h5, of_decide_eq_true h6⟩
        · split at c3
          · rename_i vs ccs hk
            split at c3
            · rename_i file tf hv
              exact ⟨_, _, vs, _, file, tf, hk, hv, c3⟩
            · cases c3
          · cases c3
        · split at c4
          · rename_i D csl hk
            have eD : D = C := eq_of_beq c4
            subst eD
            exact ⟨_, _, _, hk⟩
          · cases c4
      · cases h1
    | _ => cases e
theorem sup_in {K : PySem.W.Frag} {su : List (Str × SupV)} (c : (su.map fun q => supO K (ga K q.1)) = su.map Prod.snd) {q : Str × SupV} (h : q ∈ su) : supO K (ga K q.1) = q.2 := by
  obtain ⟨i, hi, e⟩ := List.mem_iff_getElem.mp h
  have e2 : (su.map fun q => supO K (ga K q.1))[i]? = (su.map Prod.snd)[i]? := by rw [c]
  rw [List.getElem?_map, List.getElem?_map, List.getElem?_eq_getElem hi, e] at e2
  exact Option.some.inj e2
/-- the module's name x is a tuple of n empty tuples -/
def emptB (K : PySem.W.Frag) (v : Value) : Bool := match v with
  | .ref e => (match K.lookup e with
    | some ⟨.type c, _, .seq its _, _⟩ => decide (c = "tuple") && its.isEmpty
    | _ => false)
  | _ => false
def nestB (K : PySem.W.Frag) (x : Str) (n : Nat) : Bool := match K.lookup (ga K x) with
  | some ⟨.type c, _, .seq its _, _⟩ => decide (c = "tuple") && (decide (its.toList.length = n) && (decide (n ≤ 1000) && its.toList.all (emptB K)))
  | _ => false
theorem emptB_ok {K : PySem.W.Frag} {v : Value} (h : emptB K v = true) (H : Hp) : ∃ e, v = .ref e ∧ SqT K H e [] := by
  unfold emptB at h
  split at h
  · rename_i e
    refine ⟨e, rfl, ?_⟩
    split at h
    · rename_i c od its n sl hk
      obtain ⟨h1, h2⟩ := ba h
      have e1 : c = "tuple" := of_decide_eq_true h1
      have e2 : its = #[] := Array.isEmpty_iff.mp h2
      subst e1 e2
      exact .inr ⟨_, #[], n, hk, rfl, rfl, Nat.zero_le _, .nil⟩
    · cases h
  · cases h
theorem nestB_ok {K : PySem.W.Frag} {x : Str} {n : Nat} (h : nestB K x n = true) (H : Hp) : ∃ es : List Addr, es.length = n ∧ SqT K H (ga K x) (es.map V.ref) ∧ ∀ e ∈ es, SqT K H e [] := by
  unfold nestB at h
  split at h
  · rename_i c od its m sl hk
    obtain ⟨h1, h⟩ := ba h
    obtain ⟨h2, h⟩ := ba h
    obtain ⟨h3, h4⟩ := ba h
    have e1 : c = "tuple" := of_decide_eq_true h1
    subst e1
    have key : ∀ l : List Value, l.all (emptB K) = true → ∃ es : List Addr, l = es.map Value.ref ∧ ∀ e ∈ es, SqT K H e [] := by
      intro l
      induction l with
      | nil => intro _; exact ⟨[], rfl, fun e z => absurd z (by simp)⟩
      | cons v r ih =>
        intro hl
        rw [List.all_cons] at hl
        obtain ⟨a1, a2⟩ := ba hl
        obtain ⟨e, rfl, he⟩ := emptB_ok a1 H
        obtain ⟨es, e3, he2⟩ := ih a2
        refine ⟨e :: es, by rw [e3] <;> rfl, fun z hz => ?_⟩
        rcases List.mem_cons.mp hz with z1 | z1
        · rw [z1]; exact he
        · exact he2 z z1
    obtain ⟨es, e3, he⟩ := key _ h4
    have hl : es.length = n := by
      have z : its.toList.length = n := of_decide_eq_true h2
      rw [e3, List.length_map] at z
      exact z
    have hv : ∀ l : List Addr, Vals (l.map V.ref) (l.map Value.ref) := by
      intro l
      induction l with
      | nil => exact .nil
      | cons a r ih => exact .cons rfl ih
    refine ⟨es, hl, .inr ⟨_, its, m, hk, rfl, rfl, ?_, ?_⟩, he⟩
    · have z : n ≤ 1000 := of_decide_eq_true h3
      have z2 : its.size = n := by
        have y : its.toList.length = n := of_decide_eq_true h2
        simpa using y
      rw [z2, sizeLine_eq]
      omega
    · rw [e3]; exact hv es
  · cases h
end XH
end
section
set_option Elab.async false
set_option linter.all false
set_option maxRecDepth 100000
set_option maxHeartbeats 4000000
/-! One word for what stands behind a linked program's top: Ctx; its defs and methods as Cal, Met, Mak. -/
namespace XC
open PySem PySem.Spec PyProof.Rows L2 He
structure Ctx (fa : List Fa) (fn : List DefD) (P : Program) (w : World) (K : PySem.W.Frag) (mg : Str → Option Value) (base : Heap) : Prop where
  ex : ∃ h : Heap, K.In h ∧ h.Ns mainGlobals mg ∧ SaysD fa fn K
section
variable {fa : List Fa} {fn : List DefD} {P : Program} {w : World} {K : PySem.W.Frag} {mg : Str → Option Value} {base : Heap}
theorem Ctx.glo (S : Ctx fa fn P w K mg base) (i : Nat) {x : Str} (h : fa[i]? = some (.glo x)) : mg x = some (.ref (ga K x)) := by
  obtain ⟨h', X, G, c⟩ := S.ex
  exact glo_ok X G (c.fact i h)
theorem Ctx.free (S : Ctx fa fn P w K mg base) (i : Nat) {x : Str} (h : fa[i]? = some (.free x)) : mg x = none := by
  obtain ⟨h', X, G, c⟩ := S.ex
  exact free_ok X G (c.fact i h)
theorem Ctx.int (S : Ctx fa fn P w K mg base) (i : Nat) {x : Str} {n : Int} (h : fa[i]? = some (.int x n)) : ∃ u, mg x = some u ∧ RelV (.int n) u := by
  obtain ⟨h', X, G, c⟩ := S.ex
  obtain ⟨t, e⟩ := int_ok X G (c.fact i h)
  exact ⟨_, e, t, rfl⟩
theorem Ctx.str (S : Ctx fa fn P w K mg base) (i : Nat) {x z : Str} (h : fa[i]? = some (.str x z)) : ∃ u, mg x = some u ∧ RelV (.str z) u := by
  obtain ⟨h', X, G, c⟩ := S.ex
  obtain ⟨t, e⟩ := str_ok X G (c.fact i h)
  exact ⟨_, e, t, rfl⟩
theorem Ctx.ref (S : Ctx fa fn P w K mg base) (i : Nat) {x : Str} (h : fa[i]? = some (.glo x)) : ∃ u, mg x = some u ∧ RelV (.ref (ga K x)) u := ⟨_, S.glo i h, rfl⟩
theorem Ctx.def_ (S : Ctx fa fn P w K mg base) (j : Nat) {at_ : Str × Option Str} {x q : Str} {params : Arguments} {body : List Stmt} {scope : Scope} (h : fn[j]? = some ⟨at_, x, q, params, body, scope, [], []⟩) :
    ∃ fd, FunD K x q params body scope [] [] (fAd K at_) fd := by
  obtain ⟨h', X, G, c⟩ := S.ex
  exact c.def_ j h
theorem Ctx.cal (S : Ctx fa fn P w K mg base) (i j : Nat) {x : Str} {params : Arguments} {body : List Stmt} {scope : Scope} {N ps : List Str} {k : Nat} {sp : Sp} (h : fn[j]? = some ⟨(x, none), x, x, params, body, scope, [], []⟩) (hg : fa[i]? = some (.glo x))
    (bd : ∀ (kV doc pm : Value) (an : Option Addr) (cdv ct : Value) (us : List Value), us.length = ps.length → bindArgs (PySem.W.fnOf x x params body scope .none kV doc pm an cdv ct) ⟨us, []⟩ = pure (ps.zip us))
    (sc : FnScope N ps scope) (len : ∀ vs H Q E, sp vs H Q E → vs.length = ps.length)
    (hbody : ∀ (cdv : Value) (A : Around) (outer : List Env) (s : Shared) (H : Hp) (vs : List V) (Q : VK) (E : XK), Room k (A.deeper (envOfC x scope s.heap.objs.size (ga K x) cdv)) → sp vs H Q E →
      ∃ t, PSs (cxOf C8.CX0 P w K mg base N x scope (ga K x) cdv A outer s H E).nox body t ∧ t { nx := fun _ H' => Q .non H', rt := Q } (L2.start N vs) H) : C8.Cal P w K mg base (k + 1) x sp [] := by
  obtain ⟨fd, F⟩ := S.def_ j h
  refine ⟨ga K x, fd, ps, [], F.ok sc len (fun cdv A outer s H vs Q E hr hsp => ?_), S.glo i hg, F.kp, F.bindsN bd, .nil⟩
  obtain ⟨t, h1, q⟩ := hbody cdv A outer s H vs Q E hr hsp
  exact ⟨t, h1.nox, q⟩
/-- a method: i1 the class's fact, i2 the method's -/
theorem Ctx.met (S : Ctx fa fn P w K mg base) (i1 i2 j : Nat) {C m q : Str} {params : Arguments} {body : List Stmt} {scope : Scope} {N ps : List Str} {k : Nat} {sp : Sp} (h : fn[j]? = some ⟨(C, some m), m, q, params, body, scope, [], []⟩) (h1 : fa[i1]? = some (.cls C)) (h2 : fa[i2]? = some (.meth C m))
    (bd : ∀ (kV doc pm : Value) (an : Option Addr) (cdv ct : Value) (us : List Value), us.length = ps.length → bindArgs (PySem.W.fnOf m q params body scope .none kV doc pm an cdv ct) ⟨us, []⟩ = pure (ps.zip us))
    (sc : FnScope N ps scope) (len : ∀ vs H Q E, sp vs H Q E → vs.length = ps.length)
    (hbody : ∀ (cdv : Value) (A : Around) (outer : List Env) (s : Shared) (H : Hp) (vs : List V) (Q : VK) (E : XK), Room k (A.deeper (envOfC q scope s.heap.objs.size (ma K (ga K C) m) cdv)) → sp vs H Q E →
      ∃ t, PSs (cxOf C8.CX0 P w K mg base N q scope (ma K (ga K C) m) cdv A outer s H E).nox body t ∧ t { nx := fun _ H' => Q .non H', rt := Q } (L2.start N vs) H) : C8.Met P w K mg base (k + 1) (ga K C) m sp [] := by
  obtain ⟨fd, F⟩ := S.def_ j h
  obtain ⟨h', X, G, c⟩ := S.ex
  refine ⟨ma K (ga K C) m, fd, ps, [], cls_ok (c.fact i1 h1), meth_ok (c.fact i2 h2), F.ok sc len (fun cdv A outer s H vs Q E hr hsp => ?_), F.bindsN bd, .nil⟩
  obtain ⟨t, h1, q⟩ := hbody cdv A outer s H vs Q E hr hsp
  exact ⟨t, h1.nox, q⟩
/-- making: i the class's mkr fact, g its name's -/
theorem Ctx.mak (S : Ctx fa fn P w K mg base) (i g j : Nat) {C q : Str} {params : Arguments} {body : List Stmt} {scope : Scope} {N ps : List Str} {k : Nat} {sp : Sp} (h : fn[j]? = some ⟨(C, some "__init__"), "__init__", q, params, body, scope, [], []⟩) (h1 : fa[i]? = some (.mkr C)) (hg : fa[g]? = some (.glo C))
    (bd : ∀ (kV doc pm : Value) (an : Option Addr) (cdv ct : Value) (us : List Value), us.length = ps.length → bindArgs (PySem.W.fnOf "__init__" q params body scope .none kV doc pm an cdv ct) ⟨us, []⟩ = pure (ps.zip us))
    (sc : FnScope N ps scope) (len : ∀ vs H Q E, sp vs H Q E → vs.length = ps.length)
    (hbody : ∀ (cdv : Value) (A : Around) (outer : List Env) (s : Shared) (H : Hp) (vs : List V) (Q : VK) (E : XK), Room k (A.deeper (envOfC q scope s.heap.objs.size (ma K (ga K C) "__init__") cdv)) → sp vs H Q E →
      ∃ t, PSs (cxOf C8.CX0 P w K mg base N q scope (ma K (ga K C) "__init__") cdv A outer s H E).nox body t ∧ t { nx := fun _ H' => Q .non H', rt := Q } (L2.start N vs) H) : C8.Mak P w K mg base (k + 1) C (ga K C) sp [] := by
  obtain ⟨fd, F⟩ := S.def_ j h
  obtain ⟨h', X, G, c⟩ := S.ex
  refine ⟨ma K (ga K C) "__init__", fd, ps, [], mkr_ok (c.fact i h1), F.ok sc len (fun cdv A outer s H vs Q E hr hsp => ?_), S.glo g hg, F.bindsN bd, .nil⟩
  obtain ⟨t, h1, q⟩ := hbody cdv A outer s H vs Q E hr hsp
  exact ⟨t, h1.nox, q⟩
theorem Ctx.cls (S : Ctx fa fn P w K mg base) (i : Nat) {C : Str} (h1 : fa[i]? = some (.cls C)) : Cls K (ga K C) := by
  obtain ⟨h', X, G, c⟩ := S.ex
  exact cls_ok (c.fact i h1)
theorem Ctx.noat (S : Ctx fa fn P w K mg base) (i : Nat) {C f : Str} (h1 : fa[i]? = some (.noat C f)) : NoAttr K (ga K C) f := by
  obtain ⟨h', X, G, c⟩ := S.ex
  exact noat_ok (c.fact i h1)
end
section
variable {X : Cx}
/-- a built-in type's name -/
theorem pe_tyN {x : Str} {n : String} {pos : Pos} (hg : Gl X x) (hm : X.mg x = none) (hv : bootBuiltins x = some (.type n)) (hn : x ≠ "__name__" := by decide) (hd : (x == ("__debug__" : Str)) = false := by decide) : PE X (.Name x pos) (tC (.ty n)) :=
  ⟨fun pins s σ H Q I h => ld_blt I hg hm hv ⟨V.ty n, H, I, rfl, h⟩ hn hd⟩
/-- text * int -/
theorem op_mulS : OpR X (binaryOp .Mult) (fun x y H Q => ∃ z n, x = .str z ∧ y = .int n ∧ MulOk z n ∧ Q (.str (Txt.mul z n)) H) := by
  intro pins s σ H x y v u Q I rx ry h
  obtain ⟨z, n, rfl, rfl, ok, q⟩ := h
  obtain ⟨t, rfl⟩ := rx
  obtain ⟨t2, rfl⟩ := ry
  exact SB.mul ok fun t' k => ⟨.str (Txt.mul z n), H, I.tok _, ⟨t', rfl⟩, q⟩
/-- text * small int, as codes -/
theorem mul_S {c : List Nat} {n : Nat} (h : n ≤ 5000) (hc : c.length ≤ 3000) : MulOk (SX.S c) (n : Int) ∧ Txt.mul (SX.S c) (n : Int) = SX.S (List.replicate n c).flatten := by
  have hl : (SX.S c).length = c.length := SX.S_len c
  have key : ∀ (m : Nat) (a : List Nat), ((List.replicate m (SX.S c).cps).foldl (· ++ ·) a.toArray) = (a ++ (List.replicate m c).flatten).toArray := by
    intro m
    induction m with
    | zero => intro a; simp
    | succ m ih =>
      intro a
      rw [List.replicate_succ, List.foldl_cons]
      have e1 : a.toArray ++ (SX.S c).cps = (a ++ c).toArray := by
        show a.toArray ++ c.toArray = _
        simp
      rw [e1, ih, List.replicate_succ, List.flatten_cons, List.append_assoc]
  constructor
  · refine ⟨?_, fun h1 h2 => ?_, fun h1 h2 => ?_⟩
    · have a : ¬ ((n : Int) < -(2 ^ 63 : Int)) := by omega
      have b : ¬ ((n : Int) ≥ 2 ^ 63) := by omega
      simp [a, b]
      omega
    · rw [hl]
      have hn : (1 : Int) ≤ n := by omega
      have hd : (3000 : Int) ≤ (2 ^ 63 - 1) / (n : Int) := by
        refine (Int.le_ediv_iff_mul_le (by omega)).mpr ?_
        have : (3000 : Int) * n ≤ 3000 * 5000 := by omega
        omega
      omega
    · rw [hl]
      have hle : c.length * ((n : Int).toNat) ≤ 3000 * 5000 := Nat.mul_le_mul hc (by simpa using h)
      unfold Builtin.Str.tooLong
      rw [decide_eq_false_iff_not]
      have e : sizeLine = 16777216 := by decide
      omega
  · unfold Txt.mul
    by_cases h0 : (n : Int) < 1
    · have e : n = 0 := by omega
      subst e
      rw [if_pos h0]
      rfl
    · rw [if_neg h0]
      by_cases h2 : ((n : Int) == 1 || (SX.S c).length == 0) = true
      · rw [if_pos h2]
        rcases Bool.or_eq_true_iff.mp h2 with e | e
        · have e2 : n = 1 := by
            have := eq_of_beq e
            omega
          subst e2
          simp
        · have e2 : c = [] := by
            have z : (SX.S c).length = 0 := eq_of_beq e
            rw [hl] at z
            exact List.length_eq_zero_iff.mp z
          subst e2
          simp
      · rw [if_neg h2]
        have := key n []
        have e3 : ((n : Int)).toNat = n := by simp
        rw [e3]
        show Str.mk _ = Str.mk _
        have e4 : (#[] : Array Nat) = ([] : List Nat).toArray := rfl
        rw [e4, this, List.nil_append]
end
end XC
end
section
set_option Elab.async false
set_option linter.all false
set_option maxRecDepth 100000
set_option maxHeartbeats 4000000
/-! Readings by what a value stands for: Rp a relation of values to data that only leans on tuples; EvR what an expression gives. -/
namespace XE
open PySem L2
/-- tuples stay -/
def Tk (H H' : Hp) : Prop := ∀ a xs, Rd H a (.tup xs) → Rd H' a (.tup xs)
theorem Tk.refl (H : Hp) : Tk H H := fun _ _ h => h
theorem Tk.trans {H H1 H2 : Hp} (a : Tk H H1) (b : Tk H1 H2) : Tk H H2 := fun x xs h => b x xs (a x xs h)
theorem Same.tk {H H' : Hp} (e : Same H H') : Tk H H' := fun a xs h => by
  rcases h with h | ⟨o, h⟩
  · exact .inl (e a _ h)
  · exact .inr ⟨o, e a _ h⟩
theorem tk_upd {H : Hp} {l : Addr} {o : HO} (h : ∀ xs, ¬ Rd H l (.tup xs)) : Tk H (upd H l o) := fun a xs ha => by
  have hne : a ≠ l := fun z => h xs (z ▸ ha)
  rcases ha with ha | ⟨u, ha⟩
  · exact .inl (by rw [upd_ne hne]; exact ha)
  · exact .inr ⟨u, by rw [upd_ne hne]; exact ha⟩
theorem tk_lst {H : Hp} {l : Addr} {o : HO} {xs : List V} (h : H l = some (.lst xs)) : Tk H (upd H l o) := tk_upd fun ys z => by
  rcases z with z | ⟨u, z⟩ <;> rw [h] at z <;> cases z
theorem tk_ins {H : Hp} {l C dx : Addr} {o : HO} {fs : List (Str × V)} (h : H l = some (.ins C dx fs)) : Tk H (upd H l o) := tk_upd fun ys z => by
  rcases z with z | ⟨u, z⟩ <;> rw [h] at z <;> cases z
theorem tk_dK {H : Hp} {l : Addr} {o : HO} {kvs : List (Key × V)} (h : H l = some (.dK kvs)) : Tk H (upd H l o) := tk_upd fun ys z => by
  rcases z with z | ⟨u, z⟩ <;> rw [h] at z <;> cases z
theorem tk_new {H : Hp} {l : Addr} {o : HO} (h : H l = none) : Tk H (upd H l o) := tk_upd fun ys z => by
  rcases z with z | ⟨u, z⟩ <;> rw [h] at z <;> cases z
theorem same_new {H : Hp} {p : Addr} {o : HO} (h : H p = none) : Same H (upd H p o) := fun a u e => by
  rw [upd_ne (ne_of_none e h)]
  exact e
/-- what was not there before may change -/
theorem same_mut {H H' : Hp} {p : Addr} {o : HO} (e : Same H H') (h : H p = none) : Same H (upd H' p o) := fun a u ha => by
  rw [upd_ne (ne_of_none ha h)]
  exact e a u ha
theorem tk_sq {K : PySem.W.Frag} {H H' : Hp} {a : Addr} {xs : List V} (e : Tk H H') (h : SqT K H a xs) : SqT K H' a xs := by
  rcases h with h | h
  · exact .inl (e a xs h)
  · exact .inr h

structure Rp (α : Type) where
  r : Hp → V → α → Prop
  mono : ∀ {H H' : Hp}, Tk H H' → ∀ {v : V} {a : α}, r H v a → r H' v a
theorem Rp.same {α : Type} (A : Rp α) {H H' : Hp} (e : Same H H') {v : V} {a : α} (h : A.r H v a) : A.r H' v a := A.mono (Same.tk e) h
def rI : Rp Int := ⟨fun _ v i => v = .int i, fun _ _ _ h => h⟩
def rN : Rp Nat := ⟨fun _ v i => v = .int (i : Int), fun _ _ _ h => h⟩
def rB : Rp Bool := ⟨fun _ v b => v = .bl b, fun _ _ _ h => h⟩
def rS : Rp Str := ⟨fun _ v b => v = .str b, fun _ _ _ h => h⟩
def rV : Rp V := ⟨fun _ v b => v = b, fun _ _ _ h => h⟩
theorem Paired.imp {α β : Type} {F G : α → β → Prop} (f : ∀ a b, F a b → G a b) : ∀ {l : List α} {m : List β}, Paired F l m → Paired G l m
  | _, _, .nil => .nil
  | _, _, .cons h t => .cons (f _ _ h) (Paired.imp f t)
theorem Paired.at {α β : Type} {F : α → β → Prop} : ∀ {l : List α} {m : List β} {i : Nat} {a : α}, Paired F l m → l[i]? = some a → ∃ b, m[i]? = some b ∧ F a b
  | _, _, _, _, .nil, h => by simp at h
  | _, _, 0, _, .cons f _, h => by simp at h; subst h; exact ⟨_, rfl, f⟩
  | _, _, i + 1, _, .cons _ t, h => by
    obtain ⟨b, h1, h2⟩ := Paired.at (i := i) t (by simpa using h)
    exact ⟨b, by simpa using h1, h2⟩
theorem Paired.at2 {α β : Type} {F : α → β → Prop} : ∀ {l : List α} {m : List β} {i : Nat} {b : β}, Paired F l m → m[i]? = some b → ∃ a, l[i]? = some a ∧ F a b
  | _, _, _, _, .nil, h => by simp at h
  | _, _, 0, _, .cons f _, h => by simp at h; subst h; exact ⟨_, rfl, f⟩
  | _, _, i + 1, _, .cons _ t, h => by
    obtain ⟨b, h1, h2⟩ := Paired.at2 (i := i) t (by simpa using h)
    exact ⟨b, by simpa using h1, h2⟩
theorem Paired.app {α β : Type} {F : α → β → Prop} : ∀ {l l2 : List α} {m m2 : List β}, Paired F l m → Paired F l2 m2 → Paired F (l ++ l2) (m ++ m2)
  | _, _, _, _, .nil, h => h
  | _, _, _, _, .cons f t, h => .cons f (Paired.app t h)
theorem Paired.len {α β : Type} {F : α → β → Prop} : ∀ {l : List α} {m : List β}, Paired F l m → l.length = m.length
  | _, _, .nil => rfl
  | _, _, .cons _ t => by simp [Paired.len t]
theorem Paired.ofMap {α β : Type} {F : α → β → Prop} {f : β → α} (h : ∀ b, F (f b) b) : ∀ m : List β, Paired F (m.map f) m
  | [] => .nil
  | b :: r => .cons (h b) (Paired.ofMap h r)
/-- a tuple of things -/
def rT {α : Type} (K : PySem.W.Frag) (A : Rp α) : Rp (List α) :=
  ⟨fun H v as => ∃ a vs, v = .ref a ∧ SqT K H a vs ∧ Paired (A.r H) vs as, fun e v as ⟨a, vs, h1, h2, h3⟩ => ⟨a, vs, h1, tk_sq e h2, Paired.imp (fun _ _ z => A.mono e z) h3⟩⟩
/-- None, or a thing -/
def rO {α : Type} (A : Rp α) : Rp (Option α) :=
  ⟨fun H v o => match o with
    | none => v = .non
    | some a => A.r H v a ∧ v ≠ .non, fun {H H'} e {v} {o} h => by
      cases o with
      | none => exact h
      | some a => exact ⟨A.mono e h.1, h.2⟩⟩
/-- the values of ints in a tuple are these -/
theorem ints_eq {H : Hp} {vs : List V} {ns : List Nat} (p : Paired (rN.r H) vs ns) : vs = ns.map fun (n : Nat) => V.int (n : Int) := by
  induction p with
  | nil => rfl
  | cons f2 t2 ih2 =>
    have hf2 : _ = V.int _ := f2
    rw [List.map_cons, hf2, ih2]
theorem rT_ints {K : PySem.W.Frag} {H : Hp} {v : V} {ns : List Nat} (h : (rT K rN).r H v ns) : ∃ a, v = .ref a ∧ SqT K H a (ns.map fun (n : Nat) => V.int (n : Int)) := by
  obtain ⟨a, vs, rfl, h2, h3⟩ := h
  rw [ints_eq h3] at h2
  exact ⟨a, rfl, h2⟩

/-! ### what evaluates to what -/
def EvR {α : Type} (A : Rp α) (te : TE) (σ : L2.St) (H : Hp) (a : α) : Prop := ∀ H1, Same H H1 → ∀ Q : VK, (∀ v H2, Same H1 H2 → A.r H2 v a → Q v H2) → te σ H1 Q
def EvB (tt : TT) (σ : L2.St) (H : Hp) (b : Bool) : Prop := ∀ H1, Same H H1 → ∀ Q : Bool → Hp → Prop, (∀ H2, Same H1 H2 → Q b H2) → tt σ H1 Q
section
variable {α β γ : Type} {A : Rp α} {B : Rp β} {C : Rp γ} {σ : L2.St} {H H' : Hp} {ta tb tc te : TE} {tt tu : TT} {x y : Int} {a : α} {b : β} {c : γ} {K : PySem.W.Frag} {D : Ends} {ts tu2 tz : TS}
theorem EvR.mono (h : EvR A te σ H a) (e : Same H H') : EvR A te σ H' a := fun H1 s Q q => h H1 (e.trans s) Q q
theorem EvB.mono {k : Bool} (h : EvB tt σ H k) (e : Same H H') : EvB tt σ H' k := fun H1 s Q q => h H1 (e.trans s) Q q
theorem EvR.is {a' : α} (h : EvR A te σ H a) (e : a = a') : EvR A te σ H a' := e ▸ h
theorem EvB.is {k k' : Bool} (h : EvB tt σ H k) (e : k = k') : EvB tt σ H k' := e ▸ h
/-- another reading of the same value -/
theorem EvR.as (h : EvR A te σ H a) (f : ∀ H' v, A.r H' v a → B.r H' v b) : EvR B te σ H b := fun H1 e Q q => h H1 e Q fun v H2 e2 hv => q v H2 e2 (f H2 v hv)
theorem e_var {i : Nat} {v : V} (h : σ[i]? = some (some v)) (r : A.r H v a) : EvR A (tVar i) σ H a := fun H1 e Q q => ⟨v, h, q v H1 (Same.refl H1) (A.same e r)⟩
theorem e_c {v : V} (r : A.r H v a) : EvR A (tC v) σ H a := fun H1 e Q q => q v H1 (Same.refl H1) (A.same e r)
theorem e_int {i : Int} : EvR rI (tC (.int i)) σ H i := e_c rfl
theorem e_nat {i : Nat} : EvR rN (tC (.int (i : Int))) σ H i := e_c rfl
theorem e_str {z : Str} : EvR rS (tC (.str z)) σ H z := e_c rfl
theorem e_bl {k : Bool} : EvR rB (tC (.bl k)) σ H k := e_c rfl
theorem e_non : EvR (rO A) (tC .non) σ H none := e_c (A := rO A) rfl
theorem e_toI {n : Nat} (h : EvR rN te σ H n) : EvR rI te σ H (n : Int) := h.as fun _ _ z => z
theorem e_toN {n : Nat} {i : Int} (h : EvR rI te σ H i) (e : i = (n : Int)) : EvR rN te σ H n := h.as fun _ _ z => by
  have z2 : _ = V.int i := z
  show _ = V.int (n : Int)
  rw [z2, e]
/-- a two-place operation by what its operands stand for -/
theorem e_op {r : R2} (ha : EvR A ta σ H a) (hb : EvR B tb σ H b) (hr : ∀ u v H1, Same H H1 → A.r H1 u a → B.r H1 v b → ∀ Q : VK, (∀ w H2, Same H1 H2 → C.r H2 w c → Q w H2) → r u v H1 Q) : EvR C (tOp r ta tb) σ H c := fun H1 e Q q =>
  ha H1 e _ fun u H2 e2 hu => hb H2 (e.trans e2) _ fun v H3 e3 hv => hr u v H3 ((e.trans e2).trans e3) (A.same e3 hu) hv Q fun w H4 e4 hw => q w H4 ((e2.trans e3).trans e4) hw
theorem e_I0 {g : Int → Int → V} (ha : EvR rI ta σ H x) (hb : EvR rI tb σ H y) (hc : ∀ H', C.r H' (g x y) c) : EvR C (tOp (rI0 g) ta tb) σ H c := e_op ha hb fun u v H1 _ hu hv Q q => ⟨x, y, hu, hv, q _ H1 (Same.refl H1) (hc H1)⟩
theorem e_I {g : Int → Int → V} {P : Int → Int → Prop} (ha : EvR rI ta σ H x) (hb : EvR rI tb σ H y) (hp : P x y) (hc : ∀ H', C.r H' (g x y) c) : EvR C (tOp (L2.rI P g) ta tb) σ H c := e_op ha hb fun u v H1 _ hu hv Q q => ⟨x, y, hu, hv, hp, q _ H1 (Same.refl H1) (hc H1)⟩
theorem e_add (ha : EvR rI ta σ H x) (hb : EvR rI tb σ H y) : EvR rI (tOp (rI0 fun i j => .int (i + j)) ta tb) σ H (x + y) := e_I0 ha hb fun _ => rfl
theorem e_sub (ha : EvR rI ta σ H x) (hb : EvR rI tb σ H y) : EvR rI (tOp (rI0 fun i j => .int (i - j)) ta tb) σ H (x - y) := e_I0 ha hb fun _ => rfl
theorem e_mul (ha : EvR rI ta σ H x) (hb : EvR rI tb σ H y) (hp : CMul x y) : EvR rI (tOp (L2.rI CMul fun i j => .int (i * j)) ta tb) σ H (x * y) := e_I ha hb hp fun _ => rfl
theorem e_mod (ha : EvR rI ta σ H x) (hb : EvR rI tb σ H y) (hp : 0 < y) : EvR rI (tOp (L2.rI (fun _ j => 0 < j) fun i j => .int (i % j)) ta tb) σ H (x % y) := e_I (P := fun _ j => 0 < j) ha hb hp fun _ => rfl
theorem e_fdivN (ha : EvR rI ta σ H x) (hb : EvR rI tb σ H y) (hp : CDivN x y) : EvR rI (tOp (L2.rI CDivN fun i j => .int (i.fdiv j)) ta tb) σ H (x.fdiv y) := e_I ha hb hp fun _ => rfl
theorem e_lt (ha : EvR rI ta σ H x) (hb : EvR rI tb σ H y) : EvR rB (tOp (rI0 fun i j => .bl (decide (i < j))) ta tb) σ H (decide (x < y)) := e_I0 ha hb fun _ => rfl
theorem e_le (ha : EvR rI ta σ H x) (hb : EvR rI tb σ H y) : EvR rB (tOp (rI0 fun i j => .bl (decide (i ≤ j))) ta tb) σ H (decide (x ≤ y)) := e_I0 ha hb fun _ => rfl
theorem e_gt (ha : EvR rI ta σ H x) (hb : EvR rI tb σ H y) : EvR rB (tOp (rI0 fun i j => .bl (decide (j < i))) ta tb) σ H (decide (y < x)) := e_I0 ha hb fun _ => rfl
theorem e_ge (ha : EvR rI ta σ H x) (hb : EvR rI tb σ H y) : EvR rB (tOp (rI0 fun i j => .bl (decide (j ≤ i))) ta tb) σ H (decide (y ≤ x)) := e_I0 ha hb fun _ => rfl
/-- == of ints, of texts, of flags -/
theorem e_eqI (ha : EvR rI ta σ H x) (hb : EvR rI tb σ H y) : EvR rB (tOp rEq ta tb) σ H (decide (x = y)) := e_op ha hb fun u v H1 _ hu hv Q q => by
  have e1 : u = V.int x := hu
  have e2 : v = V.int y := hv
  subst e1 e2
  refine ⟨rfl, q _ H1 (Same.refl H1) ?_⟩
  show V.bl _ = V.bl _
  congr 1
  exact decide_eq_decide.mpr ⟨fun z => V.int.inj z, fun z => by rw [z]⟩
theorem e_neI (ha : EvR rI ta σ H x) (hb : EvR rI tb σ H y) : EvR rB (tOp rNe ta tb) σ H (!decide (x = y)) := e_op ha hb fun u v H1 _ hu hv Q q => by
  have e1 : u = V.int x := hu
  have e2 : v = V.int y := hv
  subst e1 e2
  refine ⟨rfl, q _ H1 (Same.refl H1) ?_⟩
  show V.bl _ = V.bl _
  congr 2
  exact decide_eq_decide.mpr ⟨fun z => V.int.inj z, fun z => by rw [z]⟩
theorem e_eqS {z w : Str} (ha : EvR rS ta σ H z) (hb : EvR rS tb σ H w) : EvR rB (tOp rEq ta tb) σ H (decide (z = w)) := e_op ha hb fun u v H1 _ hu hv Q q => by
  have e1 : u = V.str z := hu
  have e2 : v = V.str w := hv
  subst e1 e2
  refine ⟨rfl, q _ H1 (Same.refl H1) ?_⟩
  show V.bl _ = V.bl _
  congr 1
  exact decide_eq_decide.mpr ⟨fun z => V.str.inj z, fun z => by rw [z]⟩
theorem e_isN {v : V} (ha : EvR rV ta σ H v) : EvR rB (tOp (fun x y H Q => y = .non ∧ Q (.bl (decide (x = .non))) H) ta (tC .non)) σ H (decide (v = .non)) := e_op (B := rV) (b := V.non) ha (e_c rfl) fun u w H1 _ hu hw Q q => by
  have e1 : u = v := hu
  subst e1
  exact ⟨hw, q _ H1 (Same.refl H1) rfl⟩
/-- tests -/
theorem b_test {k : Bool} (h : EvR rB te σ H k) : EvB (tTest te) σ H k := fun H1 e Q q => h H1 e _ fun v H2 e2 hv => ⟨k, hv, q H2 e2⟩
theorem b_val {k : Bool} (h : EvR rB te σ H k) : EvB (tB te) σ H k := fun H1 e Q q => h H1 e _ fun v H2 e2 hv => ⟨k, hv, q H2 e2⟩
theorem b_not {k : Bool} (h : EvB tt σ H k) : EvB (tNot tt) σ H (!k) := fun H1 e Q q => h H1 e _ fun H2 e2 => q H2 e2
theorem b_and {k j : Bool} (h : EvB tt σ H k) (h2 : k = true → EvB tu σ H j) : EvB (tAnd tt tu) σ H (k && j) := fun H1 e Q q => h H1 e _ fun H2 e2 => by
  cases k with
  | true =>
    show tu σ H2 Q
    exact h2 rfl H2 (e.trans e2) Q fun H3 e3 => q H3 (e2.trans e3)
  | false =>
    show Q false H2
    exact q H2 e2
theorem b_or {k j : Bool} (h : EvB tt σ H k) (h2 : k = false → EvB tu σ H j) : EvB (tOr tt tu) σ H (k || j) := fun H1 e Q q => h H1 e _ fun H2 e2 => by
  cases k with
  | true =>
    show Q true H2
    exact q H2 e2
  | false =>
    show tu σ H2 Q
    exact h2 rfl H2 (e.trans e2) Q fun H3 e3 => q H3 (e2.trans e3)
theorem e_andV {k j : Bool} (h1 : EvR rB ta σ H k) (h2 : k = true → EvR rB tb σ H j) : EvR rB (tAndV ta tb) σ H (k && j) := fun H1 e Q q => h1 H1 e _ fun v H2 e2 hv => ⟨k, hv, by
  cases k with
  | true =>
    show tb σ H2 Q
    exact h2 rfl H2 (e.trans e2) Q fun w H3 e3 hw => q w H3 (e2.trans e3) hw
  | false =>
    show Q (.bl false) H2
    exact q _ H2 e2 rfl⟩
theorem e_notV {k : Bool} (h1 : EvR rB ta σ H k) : EvR rB (tNotV ta) σ H (!k) := fun H1 e Q q => h1 H1 e _ fun v H2 e2 hv => ⟨k, hv, q _ H2 e2 rfl⟩
theorem e_if {k : Bool} (h : EvB tt σ H k) (h1 : k = true → EvR A ta σ H a) (h2 : k = false → EvR A tb σ H a) : EvR A (tIf tt ta tb) σ H a := fun H1 e Q q => h H1 e _ fun H2 e2 => by
  cases k with
  | true =>
    show ta σ H2 Q
    exact h1 rfl H2 (e.trans e2) Q fun w H3 e3 hw => q w H3 (e2.trans e3) hw
  | false =>
    show tb σ H2 Q
    exact h2 rfl H2 (e.trans e2) Q fun w H3 e3 hw => q w H3 (e2.trans e3) hw
/-- calls of one, two, three arguments: r what is asked of values -/
theorem e_cb1 {r : List V → Hp → VK → Prop} (ha : EvR A ta σ H a) (hr : ∀ u H1, Same H H1 → A.r H1 u a → ∀ Q : VK, (∀ w H2, Same H1 H2 → C.r H2 w c → Q w H2) → r [u] H1 Q) : EvR C (tCB r (tCons ta tNil)) σ H c := fun H1 e Q q =>
  ha H1 e _ fun u H2 e2 hu => hr u H2 (e.trans e2) hu Q fun w H3 e3 hw => q w H3 (e2.trans e3) hw
theorem e_cb2 {r : List V → Hp → VK → Prop} (ha : EvR A ta σ H a) (hb : EvR B tb σ H b) (hr : ∀ u v H1, Same H H1 → A.r H1 u a → B.r H1 v b → ∀ Q : VK, (∀ w H2, Same H1 H2 → C.r H2 w c → Q w H2) → r [u, v] H1 Q) : EvR C (tCB r (tCons ta (tCons tb tNil))) σ H c := fun H1 e Q q =>
  ha H1 e _ fun u H2 e2 hu => hb H2 (e.trans e2) _ fun v H3 e3 hv => hr u v H3 ((e.trans e2).trans e3) (A.same e3 hu) hv Q fun w H4 e4 hw => q w H4 ((e2.trans e3).trans e4) hw
/-- a def's promise for arguments that stand for these, leaving all as it is -/
def Sp1 (A : Rp α) (C : Rp γ) (sp : Sp) (a : α) (c : γ) : Prop := ∀ u H, A.r H u a → ∀ (Q : VK) (E : XK), (∀ w H', Same H H' → C.r H' w c → Q w H') → sp [u] H Q E
def Sp2 (A : Rp α) (B : Rp β) (C : Rp γ) (sp : Sp) (a : α) (b : β) (c : γ) : Prop := ∀ u v H, A.r H u a → B.r H v b → ∀ (Q : VK) (E : XK), (∀ w H', Same H H' → C.r H' w c → Q w H') → sp [u, v] H Q E
theorem e_call1 {sp : Sp} {E : XK} (ha : EvR A ta σ H a) (hs : Sp1 A C sp a c) : EvR C (tCall sp [] E (tCons ta tNil)) σ H c := fun H1 e Q q =>
  ha H1 e _ fun u H2 e2 hu => hs u H2 hu Q E fun w H3 e3 hw => q w H3 (e2.trans e3) hw
theorem e_call2 {sp : Sp} {E : XK} (ha : EvR A ta σ H a) (hb : EvR B tb σ H b) (hs : Sp2 A B C sp a b c) : EvR C (tCall sp [] E (tCons ta (tCons tb tNil))) σ H c := fun H1 e Q q =>
  ha H1 e _ fun u H2 e2 hu => hb H2 (e.trans e2) _ fun v H3 e3 hv => hs u v H3 (A.same e3 hu) hv Q E fun w H4 e4 hw => q w H4 ((e2.trans e3).trans e4) hw
def Sp3 {δ : Type} (A : Rp α) (B : Rp β) (B2 : Rp δ) (C : Rp γ) (sp : Sp) (a : α) (b : β) (d : δ) (c : γ) : Prop := ∀ u v x H, A.r H u a → B.r H v b → B2.r H x d → ∀ (Q : VK) (E : XK), (∀ w H', Same H H' → C.r H' w c → Q w H') → sp [u, v, x] H Q E
theorem e_call3 {δ : Type} {B2 : Rp δ} {d : δ} {td : TE} {sp : Sp} {E : XK} (ha : EvR A ta σ H a) (hb : EvR B tb σ H b) (hd : EvR B2 td σ H d) (hs : Sp3 A B B2 C sp a b d c) : EvR C (tCall sp [] E (tCons ta (tCons tb (tCons td tNil)))) σ H c := fun H1 e Q q =>
  ha H1 e _ fun u H2 e2 hu => hb H2 (e.trans e2) _ fun v H3 e3 hv => hd H3 ((e.trans e2).trans e3) _ fun x H4 e4 hx => hs u v x H4 (A.same (e3.trans e4) hu) (B.same e4 hv) hx Q E fun w H5 e5 hw => q w H5 (((e2.trans e3).trans e4).trans e5) hw
/-! ### tuples -/
theorem e_lenT {as : List α} (ha : EvR (rT K A) ta σ H as) : EvR rN (tCB (fun xs H Q => ∃ p ys, xs = [.ref p] ∧ (SqL K H p ys ∨ SqT K H p ys) ∧ Q (.int ys.length) H) (tCons ta tNil)) σ H as.length := e_cb1 ha fun u H1 e hu Q q => by
  obtain ⟨p, vs, rfl, h2, h3⟩ := hu
  exact ⟨p, vs, rfl, .inr h2, q _ H1 (Same.refl H1) (by show V.int _ = V.int _; rw [Paired.len h3])⟩
theorem e_lenS {z : Str} (ha : EvR rS ta σ H z) (hz : z.length ≤ sizeLine) : EvR rN (tCB (fun xs H Q => ∃ z : Str, xs = [.str z] ∧ z.length ≤ sizeLine ∧ Q (.int z.length) H) (tCons ta tNil)) σ H z.length := e_cb1 ha fun u H1 e hu Q q =>
  ⟨z, by rw [show u = V.str z from hu], hz, q _ H1 (Same.refl H1) rfl⟩
theorem e_tup0 : EvR (rT K A) (tTup tNil) σ H [] := fun H1 e Q q => ⟨Nat.zero_le _, fun p hp => q _ _ (same_new hp) ⟨p, [], rfl, .inl (.inl upd_same), .nil⟩⟩
theorem e_tup1 (ha : EvR A ta σ H a) : EvR (rT K A) (tTup (tCons ta tNil)) σ H [a] := fun H1 e Q q => ha H1 e _ fun u H2 e2 hu =>
  ⟨by show 1 ≤ sizeLine; decide, fun p hp => q _ _ (e2.trans (same_new hp)) ⟨p, [u], rfl, .inl (.inl upd_same), .cons (A.mono (tk_new hp) hu) .nil⟩⟩
theorem e_catT {as bs : List α} (ha : EvR (rT K A) ta σ H as) (hb : EvR (rT K A) tb σ H bs) (hz : as.length + bs.length ≤ sizeLine) : EvR (rT K A) (tOp (rCatA K) ta tb) σ H (as ++ bs) := e_op ha hb fun u v H1 _ hu hv Q q => by
  obtain ⟨p, xs, rfl, h2, h3⟩ := hu
  obtain ⟨p', ys, rfl, h2', h3'⟩ := hv
  have l1 := Paired.len h3
  have l2 := Paired.len h3'
  refine ⟨p, p', xs, ys, rfl, rfl, h2, h2', by omega, fun e => ?_, fun e e2 => ?_, fun e e2 l hl => ?_⟩
  · subst e
    cases h3
    exact q _ H1 (Same.refl H1) ⟨p', ys, rfl, h2', h3'⟩
  · subst e2
    cases h3'
    refine q _ H1 (Same.refl H1) ?_
    rw [List.append_nil]
    exact ⟨p, xs, rfl, h2, h3⟩
  · have tk : Tk H1 (upd H1 l (.tup (xs ++ ys))) := tk_new hl
    exact q _ _ (same_new hl) ⟨l, xs ++ ys, rfl, .inl (.inl upd_same), Paired.app (Paired.imp (fun _ _ z => A.mono tk z) h3) (Paired.imp (fun _ _ z => A.mono tk z) h3')⟩
theorem e_ixT {as : List α} {i : Nat} {n : Int} (ha : EvR (rT K A) ta σ H as) (hb : EvR rI tb σ H n) (hn : n = (i : Int)) (hi : as[i]? = some a) : EvR A (tOp (rIxT K) ta tb) σ H a := e_op ha hb fun u v H1 _ hu hv Q q => by
  obtain ⟨p, xs, rfl, h2, h3⟩ := hu
  obtain ⟨x, hx, hr⟩ := Paired.at2 h3 hi
  have ev : v = V.int n := hv
  subst ev hn
  exact ⟨p, xs, (i : Int), x, rfl, rfl, h2, atI_nat hx, q _ H1 (Same.refl H1) hr⟩
theorem e_ixL {p : Addr} {xs : List V} {i : Nat} {n : Int} {x : V} (ha : EvR rV ta σ H (.ref p)) (hb : EvR rI tb σ H n) (hn : n = (i : Int)) (hp : H p = some (.lst xs)) (hx : xs[i]? = some x) (hr : A.r H x a) : EvR A (tOp (rIxL K) ta tb) σ H a := e_op ha hb fun u v H1 e hu hv Q q => by
  have eu : u = V.ref p := hu
  have ev : v = V.int n := hv
  subst eu ev hn
  exact ⟨p, xs, (i : Int), x, rfl, rfl, SqL.of (e p _ hp), atI_nat hx, q _ H1 (Same.refl H1) (A.same e hr)⟩
theorem e_ixS {z : Str} {i : Nat} {n : Int} {k : Nat} (ha : EvR rS ta σ H z) (hb : EvR rI tb σ H n) (hn : n = (i : Int)) (hz : z.length ≤ sizeLine) (hi : z.cps.toList[i]? = some k) : EvR rS (tOp rIxS ta tb) σ H ⟨#[k]⟩ := e_op ha hb fun u v H1 e hu hv Q q => by
  have eu : u = V.str z := hu
  have ev : v = V.int n := hv
  subst eu ev hn
  exact ⟨z, (i : Int), k, rfl, rfl, hz, atI_nat hi, q _ H1 (Same.refl H1) rfl⟩
theorem e_catS {z w : Str} (ha : EvR rS ta σ H z) (hb : EvR rS tb σ H w) (hz : z.length + w.length ≤ sizeLine) : EvR rS (tOp (fun x y H Q => ∃ i j, x = .str i ∧ y = .str j ∧ i.length + j.length ≤ sizeLine ∧ Q (.str (i ++ j)) H) ta tb) σ H (z ++ w) := e_op ha hb fun u v H1 e hu hv Q q =>
  ⟨z, w, hu, hv, hz, q _ H1 (Same.refl H1) rfl⟩
theorem e_neg (ha : EvR rI ta σ H x) : EvR rI (tUn (rU fun i => .int (-i)) ta) σ H (-x) := fun H1 e Q q => ha H1 e _ fun u H2 e2 hu => ⟨x, hu, q _ H2 e2 rfl⟩
theorem e_max (ha : EvR rI ta σ H x) (hb : EvR rI tb σ H y) : EvR rI (tCB (fun xs H Q => ∃ i j, xs = [.int i, .int j] ∧ Q (.int (if j > i then j else i)) H) (tCons ta (tCons tb tNil))) σ H (if y > x then y else x) := e_cb2 ha hb fun u v H1 _ hu hv Q q =>
  ⟨x, y, by rw [show u = V.int x from hu, show v = V.int y from hv], q _ H1 (Same.refl H1) rfl⟩
theorem e_min (ha : EvR rI ta σ H x) (hb : EvR rI tb σ H y) : EvR rI (tCB (fun xs H Q => ∃ i j, xs = [.int i, .int j] ∧ Q (.int (if j < i then j else i)) H) (tCons ta (tCons tb tNil))) σ H (if y < x then y else x) := e_cb2 ha hb fun u v H1 _ hu hv Q q =>
  ⟨x, y, by rw [show u = V.int x from hu, show v = V.int y from hv], q _ H1 (Same.refl H1) rfl⟩
theorem e_sign {z : Str} {k : Nat} (ha : EvR rS ta σ H ⟨#[k]⟩) (hb : EvR rS tb σ H z) : EvR rB (tOp (fun x y H Q => ∃ (c : Nat) (z : Str), x = .str ⟨#[c]⟩ ∧ y = .str z ∧ Q (.bl (decide (c ∈ z.cps.toList))) H) ta tb) σ H (decide (k ∈ z.cps.toList)) := e_op ha hb fun u v H1 e hu hv Q q =>
  ⟨k, z, hu, hv, q _ H1 (Same.refl H1) rfl⟩
/-- tuple(range(n)) -/
theorem e_tupRg {n : Nat} (ha : EvR rN ta σ H n) (hn : n ≤ 100000) : EvR (rT K rN) (tTupRg (tRg1 ta)) σ H (List.range n) := fun H1 e Q q => ha H1 e _ fun u H2 e2 hu =>
  ⟨(n : Int), hu, RgOk.of_le (by omega) (by omega) (by omega) (by omega), fun p hp => q _ _ (e2.trans (same_new hp)) ⟨p, _, rfl, .inl (.inl upd_same), by
    have e3 : rgV 0 (n : Int) = (List.range n).map fun (i : Nat) => V.int (i : Int) := by
      unfold rgV
      have e4 : ((n : Int) - 0).toNat = n := by omega
      rw [e4]
      refine List.map_congr_left fun i _ => ?_
      rw [Int.zero_add]
    rw [e3]
    exact Paired.ofMap (F := rN.r _) (f := fun (i : Nat) => V.int (i : Int)) (fun b => rfl) (List.range n)⟩⟩
/-- a new list of things -/
def EvL (A : Rp α) (te : TE) (σ : L2.St) (H : Hp) (as : List α) : Prop := ∀ H1, Same H H1 → ∀ Q : VK, (∀ p vs H2, Same H1 H2 → H1 p = none → H2 p = some (.lst vs) → Paired (A.r H2) vs as → Q (.ref p) H2) → te σ H1 Q
theorem e_tupL {as : List α} (h : EvL A ta σ H as) : EvR (rT K A) (tCB (fun xs H Q => ∃ p ys, xs = [.ref p] ∧ ((SqL K H p ys ∧ ∀ l, H l = none → Q (.ref l) (upd H l (.tup ys))) ∨ (SqT K H p ys ∧ Q (.ref p) H))) (tCons ta tNil)) σ H as := fun H1 e Q q =>
  h H1 e _ fun p vs H2 e2 _ hp hr => ⟨p, vs, rfl, .inl ⟨SqL.of hp, fun l hl => q _ _ (e2.trans (same_new hl)) ⟨l, vs, rfl, .inl (.inl upd_same), Paired.imp (fun _ _ z => A.mono (tk_new hl) z) hr⟩⟩⟩
theorem e_listT {as : List α} (h : EvR (rT K A) ta σ H as) : EvL A (tCB (fun xs H Q => ∃ p ys, xs = [.ref p] ∧ (SqL K H p ys ∨ SqT K H p ys) ∧ ∀ l, H l = none → Q (.ref l) (upd H l (.lst ys))) (tCons ta tNil)) σ H as := fun H1 e Q q =>
  h H1 e _ fun v H2 e2 hv => by
    obtain ⟨p, vs, rfl, h2, h3⟩ := hv
    exact ⟨p, vs, rfl, .inr h2, fun l hl => q l vs _ (e2.trans (same_new hl)) (Same.free e2 hl) upd_same (Paired.imp (fun _ _ z => A.mono (tk_new hl) z) h3)⟩
theorem e_all {bs : List Bool} (h : EvL rB ta σ H bs) : EvR rB (tCB (rAll K) (tCons ta tNil)) σ H (bs.all id) := fun H1 e Q q =>
  h H1 e _ fun p vs H2 e2 _ hp hr => ⟨p, bs, rfl, SqL.of (by
    have ev : vs = bs.map V.bl := by
      clear hp
      have key : ∀ {l : List V} {m : List Bool}, Paired (rB.r H2) l m → l = m.map V.bl := by
        intro l m z
        induction z with
        | nil => rfl
        | cons f t ih =>
          have hf : _ = V.bl _ := f
          rw [List.map_cons, hf, ih]
      exact key hr
    rw [← ev]; exact hp), q _ H2 e2 rfl⟩
/-- a comprehension over a tuple -/
theorem l_lcT {as : List α} {tl : TE} {j : Nat} {vs : List Nat} {f : α → β} (h : EvR (rT K A) tl σ H as) (hz : as.length ≤ 100000) (hw : ∀ x, wipe ((wipe σ vs).set j (some x)) vs = wipe σ vs)
    (he : ∀ H1, Same H H1 → ∀ v a, a ∈ as → A.r H1 v a → EvR B te ((wipe σ vs).set j (some v)) H1 (f a)) : EvL B (tLc (iTup K tl) (gName j) tYes te vs) σ H (as.map f) := fun H0 e Q q => h H0 e _ fun v H1 e1 hv => by
  obtain ⟨a, xs, rfl, h2, h3⟩ := hv
  refine ⟨a, rfl, ⟨xs, h2⟩, fun Dl hD => ?_⟩
  have hl := Paired.len h3
  have es : (100000 : Nat) < sizeLine := by decide
  refine lc_tup (xs := xs) (fun i H' => Same H1 H' ∧ ∃ ys, H' Dl = some (.lst ys) ∧ Paired (B.r H') ys ((as.take i).map f)) ⟨same_new hD, [], upd_same, .nil⟩ (fun i H' _ p => tk_sq (Same.tk p.1) h2) (fun i x H' hi p => ⟨hw x, ?_⟩) (fun H' p => ?_)
  · obtain ⟨p1, ys, p2, p3⟩ := p
    obtain ⟨b, hb, hr⟩ := Paired.at h3 hi
    have hb2 := List.getElem?_eq_some_iff.mp hb
    show (fun b H3 => if b = true then te ((wipe σ vs).set j (some x)) H3 fun y H4 => ∃ acc, H4 Dl = some (.lst acc) ∧ acc.length < sizeLine ∧ (Same H1 (upd H4 Dl (.lst (acc ++ [y]))) ∧ ∃ ys, (upd H4 Dl (.lst (acc ++ [y]))) Dl = some (.lst ys) ∧ Paired (B.r (upd H4 Dl (.lst (acc ++ [y])))) ys ((as.take (i + 1)).map f)) else False) true H'
    refine he H' ((e.trans e1).trans p1) x b (List.mem_of_getElem? hb) (A.same p1 hr) H' (Same.refl _) _ fun y H4 e4 hy => ?_
    refine ⟨ys, e4 _ _ p2, ?_, same_mut (p1.trans e4) hD, _, upd_same, ?_⟩
    · have := Paired.len p3
      rw [List.length_map, List.length_take] at this
      omega
    · have tk : Tk H4 (upd H4 Dl (.lst (ys ++ [y]))) := tk_lst (e4 _ _ p2)
      rw [List.take_add_one, List.map_append, hb]
      exact Paired.app (Paired.imp (fun _ _ z => B.mono tk (B.same e4 z)) p3) (.cons (B.mono tk hy) .nil)
  · obtain ⟨p1, ys, p2, p3⟩ := p
    exact q Dl ys H' (e1.trans p1) (Same.free e1 hD) p2 (by
      have el : as.take xs.length = as := by rw [List.take_of_length_le (by omega)]
      rw [el] at p3
      exact p3)

/-! ### statements -/
variable {g : TG}
theorem s_asg {i : Nat} (h : EvR A te σ H a) (k : ∀ v H1, Same H H1 → A.r H1 v a → D.nx (σ.set i (some v)) H1) : tAsg te (gName i) D σ H := h H (Same.refl H) _ fun v H1 e hv => k v H1 e hv
theorem q_asg {i : Nat} (h : EvR A te σ H a) (k : ∀ v H1, Same H H1 → A.r H1 v a → tz D (σ.set i (some v)) H1) : tSeq (tAsg te (gName i)) tz D σ H := s_asg (D := { D with nx := tz D }) h k
theorem q_asgL {i : Nat} {as : List α} (h : EvL A te σ H as) (k : ∀ p vs H1, Same H H1 → H p = none → H1 p = some (.lst vs) → Paired (A.r H1) vs as → tz D (σ.set i (some (.ref p))) H1) : tSeq (tAsg te (gName i)) tz D σ H := h H (Same.refl H) _ fun p vs H1 e h1 h2 h3 => k p vs H1 e h1 h2 h3
theorem s_ret (h : EvR A te σ H a) (k : ∀ v H1, Same H H1 → A.r H1 v a → D.rt v H1) : tRet te D σ H := h H (Same.refl H) _ fun v H1 e hv => k v H1 e hv
theorem q_ret (h : EvR A te σ H a) (k : ∀ v H1, Same H H1 → A.r H1 v a → D.rt v H1) : tSeq (tRet te) tz D σ H := s_ret (D := { D with nx := tz D }) h k
theorem s_if {b : Bool} (h : EvB tt σ H b) (h1 : b = true → ∀ H1, Same H H1 → ts D σ H1) (h2 : b = false → ∀ H1, Same H H1 → tu2 D σ H1) : tIfS tt ts tu2 D σ H := h H (Same.refl H) _ fun H1 e => by
  cases b with
  | true =>
    show ts D σ H1
    exact h1 rfl H1 e
  | false =>
    show tu2 D σ H1
    exact h2 rfl H1 e
theorem q_if {b : Bool} (h : EvB tt σ H b) (h1 : b = true → ∀ H1, Same H H1 → ts { D with nx := tz D } σ H1) (h2 : b = false → ∀ H1, Same H H1 → tu2 { D with nx := tz D } σ H1) : tSeq (tIfS tt ts tu2) tz D σ H := s_if (D := { D with nx := tz D }) h h1 h2
theorem q_when {b : Bool} (h : EvB tt σ H b) (h1 : b = true → ∀ H1, Same H H1 → ts { D with nx := tz D } σ H1) (h2 : b = false → ∀ H1, Same H H1 → tz D σ H1) : tSeq (tIfS tt ts tNext) tz D σ H := s_if (D := { D with nx := tz D }) h h1 h2
theorem s_when {b : Bool} (h : EvB tt σ H b) (h1 : b = true → ∀ H1, Same H H1 → ts D σ H1) (h2 : b = false → ∀ H1, Same H H1 → D.nx σ H1) : tIfS tt ts tNext D σ H := s_if h h1 h2
/-- a loop over a tuple that stays -/
theorem s_forT {as : List α} {tl : TE} {j : Nat} {p : Addr} {xs : List V} {H0 : Hp} (h : EvR rV tl σ H (.ref p)) (hx : SqT K H0 p xs) (hr : Paired (A.r H0) xs as) (Pv : Nat → L2.St → Hp → Prop) (h0 : ∀ H1, Same H H1 → Pv 0 σ H1) (hk : ∀ i σ' H', Pv i σ' H' → Tk H0 H')
    (hs : ∀ i v a σ' H', as[i]? = some a → A.r H' v a → Pv i σ' H' → ts { D with nx := Pv (i + 1), ct := Pv (i + 1), bk := D.nx } (σ'.set j (some v)) H') (hd : ∀ σ' H', Pv as.length σ' H' → D.nx σ' H') : tFor (iTup K tl) (gName j) ts D σ H :=
  h H (Same.refl H) _ fun v H1 e hv => by
    have ev : v = V.ref p := hv
    subst ev
    refine ⟨p, rfl, ⟨xs, tk_sq (hk 0 σ H1 (h0 H1 e)) hx⟩, for_it (walk_tup (xs := xs)) Pv (h0 H1 e) (fun i σ' H' _ q => tk_sq (hk i σ' H' q) hx) (fun i x σ' H2 H' hi q y => ?_) (fun σ' H' q => ?_)⟩
    · obtain ⟨rfl, hxi⟩ := y
      obtain ⟨b, hb, hrb⟩ := Paired.at hr hxi
      exact hs i x b σ' _ hb (A.mono (hk i σ' _ q) hrb) q
    · rw [Paired.len hr] at q
      exact hd σ' H' q
theorem q_forT {as : List α} {tl : TE} {j : Nat} {p : Addr} {xs : List V} {H0 : Hp} (h : EvR rV tl σ H (.ref p)) (hx : SqT K H0 p xs) (hr : Paired (A.r H0) xs as) (Pv : Nat → L2.St → Hp → Prop) (h0 : ∀ H1, Same H H1 → Pv 0 σ H1) (hk : ∀ i σ' H', Pv i σ' H' → Tk H0 H')
    (hs : ∀ i v a σ' H', as[i]? = some a → A.r H' v a → Pv i σ' H' → ts { D with nx := Pv (i + 1), ct := Pv (i + 1), bk := tz D } (σ'.set j (some v)) H') (hd : ∀ σ' H', Pv as.length σ' H' → tz D σ' H') : tSeq (tFor (iTup K tl) (gName j) ts) tz D σ H := s_forT (D := { D with nx := tz D }) h hx hr Pv h0 hk hs hd
/-- range -/
theorem s_rng {tl : TE} {j : Nat} {n : Nat} {ta' : TA} (hta : ta' = tCons tl tNil) (h : EvR rN tl σ H n) (hn : n ≤ 1000000000) (Pv : Nat → L2.St → Hp → Prop) (h0 : ∀ H1, Same H H1 → Pv 0 σ H1)
    (hs : ∀ (i : Nat) σ' H', i < n → Pv i σ' H' → ts { D with nx := Pv (i + 1), ct := Pv (i + 1), bk := D.nx } (σ'.set j (some (.int (i : Int)))) H') (hd : ∀ σ' H', Pv n σ' H' → D.nx σ' H') : tFor (iRng1 ta') (gName j) ts D σ H := by
  subst hta
  refine h H (Same.refl H) _ fun v H1 e hv => ?_
  have ev : v = V.int (n : Int) := hv
  subst ev
  refine ⟨(n : Int), rfl, by omega, by omega, ?_⟩
  rw [show ((n : Int)).toNat = n by omega]
  refine for_it (walk_range (lo := 0) (n := n)) Pv (h0 H1 e) (fun _ _ _ _ _ => True.intro) (fun i x σ' H2 H' hi q y => ?_) hd
  obtain ⟨rfl, rfl⟩ := y
  have e0 : (0 : Int) + (i : Int) = (i : Int) := Int.zero_add _
  show ts { D with nx := Pv (i + 1), ct := Pv (i + 1), bk := D.nx } (σ'.set j (some (.int ((0 : Int) + (i : Int))))) _
  rw [e0]
  exact hs i σ' _ hi q
theorem q_rng {tl : TE} {j : Nat} {n : Nat} (h : EvR rN tl σ H n) (hn : n ≤ 1000000000) (Pv : Nat → L2.St → Hp → Prop) (h0 : ∀ H1, Same H H1 → Pv 0 σ H1)
    (hs : ∀ (i : Nat) σ' H', i < n → Pv i σ' H' → ts { D with nx := Pv (i + 1), ct := Pv (i + 1), bk := tz D } (σ'.set j (some (.int (i : Int)))) H') (hd : ∀ σ' H', Pv n σ' H' → tz D σ' H') : tSeq (tFor (iRng1 (tCons tl tNil)) (gName j) ts) tz D σ H := s_rng (D := { D with nx := tz D }) rfl h hn Pv h0 hs hd
/-- a text sign by sign -/
theorem s_str {tl : TE} {j : Nat} {cs : List Nat} (h : EvR rS tl σ H (SX.S cs)) (Pv : Nat → L2.St → Hp → Prop) (h0 : ∀ H1, Same H H1 → Pv 0 σ H1)
    (hs : ∀ (i k : Nat) σ' H', cs[i]? = some k → Pv i σ' H' → ts { D with nx := Pv (i + 1), ct := Pv (i + 1), bk := D.nx } (σ'.set j (some (.str ⟨#[k]⟩))) H') (hd : ∀ σ' H', Pv cs.length σ' H' → D.nx σ' H') : tFor (iStr tl) (gName j) ts D σ H := by
  refine h H (Same.refl H) _ fun v H1 e hv => ?_
  have ev : v = V.str (SX.S cs) := hv
  subst ev
  refine ⟨_, rfl, for_it (walk_str (z := SX.S cs)) Pv (h0 H1 e) (fun _ _ _ _ _ => True.intro) (fun i x σ' H2 H' hi q y => ?_) (fun σ' H' q => hd σ' H' ?_)⟩
  · obtain ⟨rfl, k, hk, rfl⟩ := y
    exact hs i k σ' _ (by simpa [SX.S] using hk) q
  · simpa [SX.S] using q
theorem q_str {tl : TE} {j : Nat} {cs : List Nat} (h : EvR rS tl σ H (SX.S cs)) (Pv : Nat → L2.St → Hp → Prop) (h0 : ∀ H1, Same H H1 → Pv 0 σ H1)
    (hs : ∀ (i k : Nat) σ' H', cs[i]? = some k → Pv i σ' H' → ts { D with nx := Pv (i + 1), ct := Pv (i + 1), bk := tz D } (σ'.set j (some (.str ⟨#[k]⟩))) H') (hd : ∀ σ' H', Pv cs.length σ' H' → tz D σ' H') : tSeq (tFor (iStr tl) (gName j) ts) tz D σ H := s_str (D := { D with nx := tz D }) h Pv h0 hs hd
/-- xs.append(e) -/
theorem q_app {l : Addr} {xs : List V} (hl : H l = some (.lst xs)) (ha : EvR rV ta σ H (.ref l)) (h : EvR A te σ H a) (hz : xs.length < 100000) (k : ∀ v H1, Same H H1 → A.r H1 v a → tz D σ (upd H1 l (.lst (xs ++ [v])))) :
    tSeq (tDrop (tBM K "list" rAppend ta (tCons te tNil))) tz D σ H := ha H (Same.refl H) _ fun v H1 e1 hv => by
  have ev : v = V.ref l := hv
  subst ev
  have es : (100000 : Nat) < sizeLine := by decide
  refine ⟨.inl ⟨rfl, xs, SqL.of (e1 l _ hl)⟩, h H1 e1 _ fun w H2 e2 hw => ⟨l, xs, w, rfl, rfl, e2 l _ (e1 l _ hl), by omega, k w H2 (e1.trans e2) hw⟩⟩
theorem s_app {l : Addr} {xs : List V} (hl : H l = some (.lst xs)) (ha : EvR rV ta σ H (.ref l)) (h : EvR A te σ H a) (hz : xs.length < 100000) (k : ∀ v H1, Same H H1 → A.r H1 v a → D.nx σ (upd H1 l (.lst (xs ++ [v])))) :
    tDrop (tBM K "list" rAppend ta (tCons te tNil)) D σ H := ha H (Same.refl H) _ fun v H1 e1 hv => by
  have ev : v = V.ref l := hv
  subst ev
  have es : (100000 : Nat) < sizeLine := by decide
  refine ⟨.inl ⟨rfl, xs, SqL.of (e1 l _ hl)⟩, h H1 e1 _ fun w H2 e2 hw => ⟨l, xs, w, rfl, rfl, e2 l _ (e1 l _ hl), by omega, k w H2 (e1.trans e2) hw⟩⟩
end
end XE
end
section
set_option Elab.async false
set_option linter.all false
set_option maxRecDepth 100000
set_option maxHeartbeats 4000000
namespace XE
open PySem L2 PyProof.Rows
section
variable {α β γ δ : Type} {A : Rp α} {B : Rp β} {C : Rp γ} {D : Rp δ} {K : PySem.W.Frag} {σ : L2.St} {H : Hp} {ta tb : TE}
/-- promises: what is taken, what is given back, all else as it was -/
def sp1 (A : Rp α) (C : Rp γ) (pre : α → γ → Prop) : Sp := fun vs H Q _ => ∃ u a c, vs = [u] ∧ A.r H u a ∧ pre a c ∧ ∀ w H', Same H H' → C.r H' w c → Q w H'
def sp2 (A : Rp α) (B : Rp β) (C : Rp γ) (pre : α → β → γ → Prop) : Sp := fun vs H Q _ => ∃ u v a b c, vs = [u, v] ∧ A.r H u a ∧ B.r H v b ∧ pre a b c ∧ ∀ w H', Same H H' → C.r H' w c → Q w H'
def sp3 (A : Rp α) (B : Rp β) (D : Rp δ) (C : Rp γ) (pre : α → β → δ → γ → Prop) : Sp := fun vs H Q _ => ∃ u v x a b d c, vs = [u, v, x] ∧ A.r H u a ∧ B.r H v b ∧ D.r H x d ∧ pre a b d c ∧ ∀ w H', Same H H' → C.r H' w c → Q w H'
theorem sp1_ok {pre : α → γ → Prop} {a : α} {c : γ} (h : pre a c) : Sp1 A C (sp1 A C pre) a c := fun u H hu Q E k => ⟨u, a, c, rfl, hu, h, k⟩
theorem sp2_ok {pre : α → β → γ → Prop} {a : α} {b : β} {c : γ} (h : pre a b c) : Sp2 A B C (sp2 A B C pre) a b c := fun u v H hu hv Q E k => ⟨u, v, a, b, c, rfl, hu, hv, h, k⟩
theorem sp3_ok {pre : α → β → δ → γ → Prop} {a : α} {b : β} {d : δ} {c : γ} (h : pre a b d c) : Sp3 A B D C (sp3 A B D C pre) a b d c := fun u v x H hu hv hx Q E k => ⟨u, v, x, a, b, d, c, rfl, hu, hv, hx, h, k⟩
theorem tyx_tup {a : Addr} {xs : List V} (h : SqT K H a xs) : TyX K H (.ref a) (.type "tuple") := by
  rcases h with (h | ⟨o, h⟩) | ⟨o, its, n, h1, h2, _⟩
  · exact .base (.tup h)
  · exact .fTuple h
  · exact .kTuple h1 h2
theorem e_isi {v : V} {t n : String} {b : Bool} (ha : EvR rV ta σ H v) (ty : ∀ H1, Same H H1 → TyX K H1 v (.type t)) (hk : kitB t n = some b) : EvR rB (tCB (rIsi K) (tCons ta (tCons (tC (.ty n)) tNil))) σ H b := fun H1 e Q q =>
  ha H1 e _ fun u H2 e2 hu => ⟨v, .ty n, .type t, .type n, b, by rw [show u = v from hu], .ty n, ty H2 (e.trans e2), kit_ty hk, q _ H2 e2 rfl⟩
theorem tk_inst {H H' : Hp} (e : Same H H') : Tk H H' := Same.tk e
/-- the i-th of an own tuple -/
def EvA (ta : TA) (σ : L2.St) (H : Hp) (P : Hp → List V → Prop) : Prop := ∀ H1, Same H H1 → ∀ Q : List V → Hp → Prop, (∀ vs H2, Same H1 H2 → P H2 vs → Q vs H2) → ta σ H1 Q
theorem e_chain {x y z : Int} {tc : TE} (ha : EvR rI ta σ H x) (hb : EvR rI tb σ H y) (hc : EvR rI tc σ H z) : EvR rB (tChain (rI0 fun i j => .bl (decide (i ≤ j))) (rI0 fun i j => .bl (decide (i ≤ j))) ta tb tc) σ H (decide (x ≤ y) && decide (y ≤ z)) := fun H1 e Q q =>
  ha H1 e _ fun u H2 e2 hu => hb H2 (e.trans e2) _ fun v H3 e3 hv => by
    refine ⟨x, y, hu, hv, _, rfl, ?_⟩
    by_cases h : x ≤ y
    · rw [decide_eq_true h, if_pos rfl]
      rw [decide_eq_true h, Bool.true_and] at q
      exact hc H3 ((e.trans e2).trans e3) _ fun w H4 e4 hw => ⟨y, z, hv, hw, q _ H4 ((e2.trans e3).trans e4) rfl⟩
    · rw [decide_eq_false h, if_neg (by decide)]
      rw [decide_eq_false h, Bool.false_and] at q
      exact q _ H3 (e2.trans e3) rfl
end
section
variable {α β γ δ : Type} {A : Rp α} {B : Rp β} {C : Rp γ} {K : PySem.W.Frag} {σ : L2.St} {H : Hp} {ta tb te tl tk td : TE} {D : Ends} {ts tz : TS}
theorem putK_len {kvs : List (Key × V)} {k : Key} {v : V} : (putK kvs k v).length ≤ kvs.length + 1 := by
  unfold putK
  split
  · rw [List.length_map]; omega
  · rw [List.length_append]; simp
theorem s_enumT {as : List α} {j1 j2 : Nat} {p : Addr} {xs : List V} {H0 : Hp} (h : EvR rV tl σ H (.ref p)) (hx : SqT K H0 p xs) (hr : Paired (A.r H0) xs as) (Pv : Nat → L2.St → Hp → Prop) (h0 : ∀ H1, Same H H1 → Pv 0 σ H1) (hk : ∀ i σ' H', Pv i σ' H' → Tk H0 H')
    (hs : ∀ (i : Nat) v a σ' H' H'', as[i]? = some a → A.r H'' v a → Pv i σ' H' → Same H' H'' → ts { D with nx := Pv (i + 1), ct := Pv (i + 1), bk := D.nx } ((σ'.set j1 (some (.int (i : Int)))).set j2 (some v)) H'') (hd : ∀ σ' H', Pv as.length σ' H' → D.nx σ' H') :
    tFor (iEnumT K (tCons tl tNil)) (gTup K 2 (gCons (gName j1) (gCons (gName j2) gNil))) ts D σ H :=
  h H (Same.refl H) _ fun v H1 e hv => by
    have ev : v = V.ref p := hv
    subst ev
    refine ⟨p, xs, rfl, tk_sq (hk 0 σ H1 (h0 H1 e)) hx, for_it (walk_enumT (xs := xs)) Pv (h0 H1 e) (fun i σ' H' _ q => tk_sq (hk i σ' H' q) hx) (fun i x σ' H2 H' hi q y => ?_) (fun σ' H' q => ?_)⟩
    · obtain ⟨T, x1, x2, rfl, hT, rfl, hx1, hx2⟩ := y
      have e1 : x1 = V.int (i : Int) := (Option.some.inj hx1).symm
      subst e1
      obtain ⟨b, hb, hrb⟩ := Paired.at hr hx2
      exact ⟨T, _, rfl, .inl (.inl upd_same), rfl, _, _, rfl, _, _, rfl, rfl, hs i x2 b σ' H2 _ hb (A.mono (tk_new hT) (A.mono (hk i σ' _ q) hrb)) q (same_new hT)⟩
    · rw [Paired.len hr] at q
      exact hd σ' H' q
theorem q_enumT {as : List α} {j1 j2 : Nat} {p : Addr} {xs : List V} {H0 : Hp} (h : EvR rV tl σ H (.ref p)) (hx : SqT K H0 p xs) (hr : Paired (A.r H0) xs as) (Pv : Nat → L2.St → Hp → Prop) (h0 : ∀ H1, Same H H1 → Pv 0 σ H1) (hk : ∀ i σ' H', Pv i σ' H' → Tk H0 H')
    (hs : ∀ (i : Nat) v a σ' H' H'', as[i]? = some a → A.r H'' v a → Pv i σ' H' → Same H' H'' → ts { D with nx := Pv (i + 1), ct := Pv (i + 1), bk := tz D } ((σ'.set j1 (some (.int (i : Int)))).set j2 (some v)) H'') (hd : ∀ σ' H', Pv as.length σ' H' → tz D σ' H') :
    tSeq (tFor (iEnumT K (tCons tl tNil)) (gTup K 2 (gCons (gName j1) (gCons (gName j2) gNil))) ts) tz D σ H := s_enumT (D := { D with nx := tz D }) h hx hr Pv h0 hk hs hd
/-- enumerate of a text -/
theorem s_enumS {j1 j2 : Nat} {cs : List Nat} (h : EvR rS tl σ H (SX.S cs)) (Pv : Nat → L2.St → Hp → Prop) (h0 : ∀ H1, Same H H1 → Pv 0 σ H1)
    (hs : ∀ (i k : Nat) σ' H' H'', cs[i]? = some k → Pv i σ' H' → Same H' H'' → ts { D with nx := Pv (i + 1), ct := Pv (i + 1), bk := D.nx } ((σ'.set j1 (some (.int (i : Int)))).set j2 (some (.str ⟨#[k]⟩))) H'') (hd : ∀ σ' H', Pv cs.length σ' H' → D.nx σ' H') :
    tFor (iEnumS (tCons tl tNil)) (gTup K 2 (gCons (gName j1) (gCons (gName j2) gNil))) ts D σ H :=
  h H (Same.refl H) _ fun v H1 e hv => by
    have ev : v = V.str (SX.S cs) := hv
    subst ev
    refine ⟨_, rfl, for_it (walk_enumS (z := SX.S cs)) Pv (h0 H1 e) (fun _ _ _ _ _ => True.intro) (fun i x σ' H2 H' hi q y => ?_) (fun σ' H' q => hd σ' H' ?_)⟩
    · obtain ⟨T, x1, x2, rfl, hT, rfl, hx1, hx2⟩ := y
      have e1 : x1 = V.int (i : Int) := (Option.some.inj hx1).symm
      subst e1
      obtain ⟨k, hk, e2⟩ : ∃ k, (SX.S cs).cps[i]? = some k ∧ V.str ⟨#[k]⟩ = x2 := by
        have hx3 : Option.map (fun c => V.str ⟨#[c]⟩) (SX.S cs).cps[i]? = some x2 := hx2
        cases hh : (SX.S cs).cps[i]? with
        | none => rw [hh] at hx3; cases hx3
        | some k => rw [hh] at hx3; exact ⟨k, rfl, Option.some.inj hx3⟩
      subst e2
      exact ⟨T, _, rfl, .inl (.inl upd_same), rfl, _, _, rfl, _, _, rfl, rfl, hs i k σ' H2 _ (by simpa [SX.S] using hk) q (same_new hT)⟩
    · simpa [SX.S] using q
theorem q_enumS {j1 j2 : Nat} {cs : List Nat} (h : EvR rS tl σ H (SX.S cs)) (Pv : Nat → L2.St → Hp → Prop) (h0 : ∀ H1, Same H H1 → Pv 0 σ H1)
    (hs : ∀ (i k : Nat) σ' H' H'', cs[i]? = some k → Pv i σ' H' → Same H' H'' → ts { D with nx := Pv (i + 1), ct := Pv (i + 1), bk := tz D } ((σ'.set j1 (some (.int (i : Int)))).set j2 (some (.str ⟨#[k]⟩))) H'') (hd : ∀ σ' H', Pv cs.length σ' H' → tz D σ' H') :
    tSeq (tFor (iEnumS (tCons tl tNil)) (gTup K 2 (gCons (gName j1) (gCons (gName j2) gNil))) ts) tz D σ H := s_enumS (D := { D with nx := tz D }) h Pv h0 hs hd
/-- {k: True for k in tuple}: which ints it has -/
theorem q_dcT {ns : List Nat} {i j : Nat} {p : Addr} {xs : List V} {vs : List Nat} {tv : TE} (h : EvR rV tl σ H (.ref p)) (hx : SqT K H p xs) (hr : Paired (rN.r H) xs ns) (hz : ns.length ≤ 1000) (hw : ∀ x, wipe ((wipe σ vs).set j (some x)) vs = wipe σ vs)
    (hk : ∀ x : V, tk = tVar j ∧ ((wipe σ vs).set j (some x))[j]? = some (some x)) (hv : tv = tC (.bl true))
    (k : ∀ d kvs H1, Same H H1 → H d = none → H1 d = some (.dK kvs) → (∀ m : Nat, (valV kvs (.inl (m : Int))).isSome = decide (m ∈ ns)) → tz D (σ.set i (some (.ref d))) H1) :
    tSeq (tAsg (tDc (iTup K tl) (gName j) tYes tk tv vs) (gName i)) tz D σ H := by
  refine h H (Same.refl H) _ fun v H1 e hv2 => ?_
  have ev : v = V.ref p := hv2
  subst ev
  refine ⟨p, rfl, ⟨xs, tk_sq (Same.tk e) hx⟩, fun Dl hD => ?_⟩
  have hlen := Paired.len hr
  refine dc_tup (xs := xs) (fun i H' => Same H1 H' ∧ ∃ kvs, H' Dl = some (.dK kvs) ∧ kvs.length ≤ i ∧ ∀ m : Nat, (valV kvs (.inl (m : Int))).isSome = decide (m ∈ ns.take i)) ⟨same_new hD, [], upd_same, Nat.le_refl _, fun m => by simp [valV_nil]⟩ (fun i H' _ q => tk_sq (Same.tk (e.trans q.1)) hx) (fun i x H' hi q => ⟨hw x, ?_⟩) (fun H' q => ?_)
  · obtain ⟨q1, kvs, q2, q3, q4⟩ := q
    obtain ⟨b, hb, hrb⟩ := Paired.at hr hi
    have ex : x = V.int (b : Int) := hrb
    subst ex
    obtain ⟨h1, h2⟩ := hk (.int (b : Int))
    subst h1 hv
    have es : (1000 : Nat) < sizeLine := by decide
    have hi2 := (List.getElem?_eq_some_iff.mp hi).1
    refine ⟨.int (b : Int), h2, kvs, .inl (b : Int), rfl, q2, by omega, same_mut q1 hD, _, upd_same, Nat.le_trans putK_len (by omega), fun m => ?_⟩
    rw [valV_put, List.take_add_one, hb]
    by_cases hm : m = b
    · subst hm; simp
    · have hne : ¬ ((Sum.inl (m : Int) : Key) = .inl (b : Int)) := fun z => hm (by have := Sum.inl.inj z; omega)
      rw [if_neg hne, q4 m]
      simp [hm]
  · obtain ⟨q1, kvs, q2, q3, q4⟩ := q
    refine k Dl kvs H' (e.trans q1) (Same.free e hD) q2 fun m => ?_
    rw [q4 m, List.take_of_length_le (by omega)]
theorem e_din {m : Nat} {d : Addr} {kvs : List (Key × V)} (hk : EvR rN tk σ H m) (hd : EvR rV td σ H (.ref d)) (h : H d = some (.dK kvs)) : EvR rB (tDIn tk td) σ H (valV kvs (.inl (m : Int))).isSome := fun H1 e Q q =>
  hk H1 e _ fun u H2 e2 hu => hd H2 (e.trans e2) _ fun v H3 e3 hv => by
    have e1 : u = V.int (m : Int) := hu
    have e4 : v = V.ref d := hv
    subst e1 e4
    exact ⟨d, _, rfl, DGet.k (k := .inl (m : Int)) (((e.trans e2).trans e3) d _ h), q _ H3 (e2.trans e3) rfl⟩
end
end XE
namespace XC
open PySem L2 PyProof.Rows
section
variable {X : Cx} {K : PySem.W.Frag} {tg l a b : Expr} {ta tb tl : TE} {pos : Pos}
theorem op_catA_ (h : X.K = K) : OpR X (binaryOp .Add) (rCatA K) := h ▸ op_catA
theorem ix_tup_ (h : X.K = K) : IxR X (rIxT K) := h ▸ ix_tup
theorem ix_list_ (h : X.K = K) : IxR X (rIxL K) := h ▸ ix_list
theorem pi_tup_ (h : X.K = K) (hl : PE X l tl) : PI X tg l (iTup K tl) := h ▸ pi_tup hl
theorem pi_list_ (h : X.K = K) (hl : PE X l tl) : PI X tg l (iList K tl) := h ▸ pi_list hl
theorem call_len_seq_ (h : X.K = K) : CallR X (.builtin "len") (fun xs H Q => ∃ p ys, xs = [.ref p] ∧ (SqL K H p ys ∨ SqT K H p ys) ∧ Q (.int ys.length) H) := h ▸ call_len_seq
theorem call_tuple_of_ (h : X.K = K) : CallR X (.type "tuple") (fun xs H Q => ∃ p ys, xs = [.ref p] ∧ ((SqL K H p ys ∧ ∀ l, H l = none → Q (.ref l) (upd H l (.tup ys))) ∨ (SqT K H p ys ∧ Q (.ref p) H))) := h ▸ call_tuple_of
theorem cr_all_ (h : X.K = K) (hc : X.calm = true) : CallR X (.builtin "all") (rAll K) := h ▸ cr_all hc
end
end XC
end
section
set_option Elab.async false
set_option linter.all false
set_option maxRecDepth 100000
set_option maxHeartbeats 4000000
/-! try with several clauses, each "except C as n" (the library has several without a name, or one with). -/
namespace XT
open PySem PySem.Spec PyProof.Rows L2
/-- behind a suite its name is gone -/
def gone (D : Ends) (i : Nat) : Ends := ⟨fun τ G => D.nx (τ.set i none) G, D.rt, fun τ G => D.bk (τ.set i none) G, fun τ G => D.ct (τ.set i none) G⟩
/-- the wish of the clauses from left to right -/
def wNamed (K : PySem.W.Frag) (out : WX) (D : Ends) : List (Value × Nat × (Addr → Value → Option Addr → TS)) → WX
  | [] => out
  | q :: more => fun cls d τ G => ∃ yes, PySem.W.exmOne K cls q.1 = some yes ∧ (yes = true → ∀ e, G e = none → q.2.2 e cls d (gone D q.2.1) (τ.set q.2.1 (some (.ref e))) G) ∧ (yes = false → wNamed K out D more cls d τ G)
inductive Clauses (X : Cx) : List ExceptHandler → List (Value × Nat × (Addr → Value → Option Addr → TS)) → Prop
  | nil : Clauses X [] []
  | cons {x n : Str} {i : Nat} {c : Value} {ts : Addr → Value → Option Addr → TS} {st : Stmt} {sts : List Stmt} {np hp : Pos} {more : List ExceptHandler} {l : List (Value × Nat × (Addr → Value → Option Addr → TS))} (hc : Names X x c)
      (slot : X.N[i]? = some n) (loc : X.env.kindOf n = some .local)
      (suite : ∀ (e : Addr) (oe : Obj) (cls : Value) (d : Option Addr) (pn : List (Addr × Obj)), Zc cls d oe → (∃ vs, oe.data = .fields vs) → PSs (X.suite e ((e, oe) :: pn)) (st :: sts) (ts e cls d)) (r : Clauses X more l) :
      Clauses X (.ExceptHandler (some (.Name x np)) (some n) (st :: sts) hp :: more) ((c, i, ts) :: l)
variable {X : Cx} {body : List Stmt} {hd0 : ExceptHandler} {hds : List ExceptHandler} {l : List (Value × Nat × (Addr → Value → Option Addr → TS))} {pos : Pos} {tb : WX → TS} {out : WX}
theorem ps_try_named (stk : X.stack = X.env :: X.outer) (frm : X.env.frame = some X.env.locals) (nd : X.N.Nodup) (tk : Takes X out)
    (tryB : ∀ (W : WX) (pn : List (Addr × Obj)) (xe : Value → Shared → Prop), Takes (X.tr pn xe) W → PassesOwn (model X.prog X.w) X.A X.env xe → PSs (X.tr pn xe) body (tb W))
    (cl : Clauses X (hd0 :: hds) l) : PS X (.Try body (hd0 :: hds) [] [] pos) (fun D σ H => tb (wNamed X.K out D l) D σ H) := by
  refine ⟨fun pins s σ H D I h => ?_⟩
  have okI := I.ok
  have frs0 : X.A.frames = some (X.env :: X.outer) := okI.frames.trans (by rw [stk])
  refine wpAny_Try_except (wpAny_mono ((tryB (wNamed X.K out D l) (X.pn ++ pins) (fun e z1 => wpAny (model X.prog X.w) X.A (noteFrame e X.env) (fun _ z2 => wpAny (model X.prog X.w) X.A (setFlight e none) (fun _ z3 =>
    wpAny (model X.prog X.w) X.A (handleBy e X.env (hd0 :: hds)) (SP X pins D) X.xe z3) X.xe z2) X.xe z1) (fun u t thrown => ?_) PassesOwn.looking).run [] s σ H D (I.toTry _) h) (fun f t q => ?_) (fun _ _ z => z))
  · obtain ⟨e, B, sI, pinsI, τ, G, cls, d, rfl, JI, keep, upS, sky, frE, osS, bareS, wish⟩ := thrown
    have J : Inv X pins τ G sI := JI.ofTry okI
    rw [show X.tr _ _ = _ from rfl] at sky
    have skyX : Sky B (X.env :: X.outer) e (Zc cls d) X.env.locals t.heap := stk ▸ sky
    show wpAny _ X.A (noteFrame (.ref e) X.env) _ X.xe t
    refine Sky.land Zc.steady frs0 frm skyX fun g3 landed up3 => ?_
    have J3 : Inv X pins τ G { t with heap := g3 } := J.landed keep landed.1 (upS.trans up3) osS bareS
    obtain ⟨oe, vs0, at3, zc3, dat3⟩ := landed.there
    have notIn : e ∉ frs (X.env :: X.outer) := fun hm => by
      obtain ⟨_, o2, at2, nofld⟩ := landed.2.2.1.mem hm
      rw [at3] at at2
      cases at2
      exact nofld _ dat3
    have neL : e ≠ X.env.locals := fun z => notIn (List.mem_filterMap.mpr ⟨X.env, .head _, by rw [frm, z]⟩)
    have neF : e ∉ X.fs := fun hm => by
      obtain ⟨v, hv, hq⟩ := List.mem_filterMap.mp hm
      exact notIn (List.mem_filterMap.mpr ⟨v, .tail _ hv, hq⟩)
    have SU := J3.suite at3 dat3 frE neL neF
    have each : ∀ {hs : List ExceptHandler} {ls : List (Value × Nat × (Addr → Value → Option Addr → TS))}, Clauses X hs ls → wNamed X.K out D ls cls d τ G →
        wpAny (model X.prog X.w) X.A (handleBy (.ref e) X.env hs) (SP X pins D) X.xe { t with heap := g3 } := by
      intro hs ls cs
      induction cs with
      | nil =>
        intro wsh
        refine wpAny_handleBy_nil ?_
        obtain ⟨_, _, _, oeN, vsN, tb1, _, _, atN, _, datN, tbN, _⟩ := id landed
        unfold PySem.passOn
        refine wpAny_bind (wpAny_field atN datN tbN ?_)
        rw [if_neg (by simp : ¬ ((Value.ref tb1 == Value.none) = true))]
        have away : wpAny (model X.prog X.w) X.A (setFlight (.ref e) X.env.frame) (fun _ z4 => wpAny (model X.prog X.w) X.A (throw (.ref e) : Sem Flow) (SP X pins D) X.xe z4) X.xe { t with heap := g3 } := by
          rw [frm]
          exact HandSPX.setFlight_upZ landed fun g4 held up4 => wpAny_throw (tk _ _ ⟨e, B, sI, pins, τ, G, cls, d, rfl, J, keep, (upS.trans up3).trans up4, .inr (.inr (stk ▸ held)), frE, osS, bareS, wsh⟩)
        first
          | exact wpAny_bind (wpAny_pure (wpAny_bind away))
          | exact wpAny_bind away
      | @cons x n i c ts st sts np hp more ls2 hc slot loc suite r ih =>
        intro wsh
        obtain ⟨yes, isC, wYes, wNo⟩ := wsh
        refine wpAny_handleBy_cons (codeAny_handlers_test ?_) (by intro q; cases q)
        have ty3 : PySem.W.Looks (model X.prog X.w) g3 (typeOf (.ref e)) cls := fun A0 Q0 E0 s0 k0 q0 => wpAny_typeOf_ref (k0 _ _ at3) (by rw [zc3.1]; exact q0)
        have LM := PySem.W.exm_one (M := model X.prog X.w) J3.kIn ty3 isC
        have named : ∀ {Q : Value → Shared → Prop} {E : Value → Shared → Prop}, Q c { t with heap := g3 } → wpAny (model X.prog X.w) (X.A.mark (some (.ref e))) (eval (.Name x np) X.env) Q E { t with heap := g3 } := fun {Q E} q => by
          obtain ⟨hg, hdb, hm | ⟨hm, hv, hnn⟩⟩ := hc
          · exact ld_glob (X := X.suite e ((e, oe) :: (X.pn ++ pins))) SU hg hm q hdb
          · exact ld_blt (X := X.suite e ((e, oe) :: (X.pn ++ pins))) SU hg hm hv q hnn hdb
        refine named (LM.here ?_)
        cases yes with
        | false => exact ih (wNo rfl)
        | true =>
          refine codeAny_handlers_suite_as (HandSPX.lands_againZ landed fun g4 land4 up4 => ?_)
          have J4 : Inv X pins τ G { t with heap := g4 } := J.landed keep land4.1 ((upS.trans up3).trans up4) osS bareS
          obtain ⟨oe4, vs4, at4, zc4, dat4⟩ := land4.there
          have SU4 := J4.suite at4 dat4 frE neL neF
          refine store_ok (X := X.suite e ((e, oe4) :: (X.pn ++ pins))) (v := .ref e) SU4 nd slot (.inl loc) rfl (fun z5 SU5 => ?_) (.inr loc)
          refine wpAny_mono ((suite e oe4 cls d (X.pn ++ pins) zc4 ⟨_, dat4⟩).run [] z5 _ G _ SU5 (wYes rfl e frE)) (fun f z6 q => ?_) (fun _ _ z => z.elim)
          have back : ∀ {τ6 : L2.St} {G6 : Hp} {Q : Shared → Prop}, Inv (X.suite e ((e, oe4) :: (X.pn ++ pins))) [] τ6 G6 z6 → (∀ z7, Inv X pins (τ6.set i none) G6 z7 → Q z7) →
              wpAny (model X.prog X.w) X.A (do bindName X.env n .none; unbindBehindTheSuite X.env n hp) (fun _ z7 => Q z7) X.xe z6 := fun {τ6 G6 Q} S6 hq => gone_ok (S6.unsuite okI) nd slot loc hq
          cases f with
          | ret u =>
            obtain ⟨v6, τ6, G6, S6, r6, q6⟩ := q
            exact back S6 fun z7 J7 => ⟨_, _, _, J7, r6, q6⟩
          | next =>
            obtain ⟨τ6, G6, S6, q6⟩ := q
            exact back S6 fun z7 J7 => ⟨_, _, J7, q6⟩
          | brk =>
            obtain ⟨τ6, G6, S6, q6⟩ := q
            exact back S6 fun z7 J7 => ⟨_, _, J7, q6⟩
          | cont =>
            obtain ⟨τ6, G6, S6, q6⟩ := q
            exact back S6 fun z7 J7 => ⟨_, _, J7, q6⟩
    exact each cl wish
  · cases f with
    | ret u =>
      obtain ⟨v, τ, G, J, rv, q⟩ := q
      exact ⟨v, τ, G, J.ofTry okI, rv, q⟩
    | next =>
      obtain ⟨τ, G, J, q⟩ := q
      exact wpAny_execs_nil ⟨τ, G, J.ofTry okI, q⟩
    | brk =>
      obtain ⟨τ, G, J, q⟩ := q
      exact ⟨τ, G, J.ofTry okI, q⟩
    | cont =>
      obtain ⟨τ, G, J, q⟩ := q
      exact ⟨τ, G, J.ofTry okI, q⟩
end XT
end
section
set_option Elab.async false
set_option linter.all false
set_option maxRecDepth 100000
set_option maxHeartbeats 4000000
/-! Defs that raise own exceptions over Ctx; fields by what they stand for. -/
namespace XC
open PySem PySem.Spec PyProof.Rows L2 He XE
structure CalX (P : Program) (w : World) (K : PySem.W.Frag) (mg : Str → Option Value) (base : Heap) (k : Nat) (x : Str) (sp : Sp) : Prop where
  ex : ∃ (f : Addr) (fd : FuncData) (ps : List Str), FnOk P w K mg base (L2.CX P w) k f fd ps sp ∧ mg x = some (.ref f) ∧ PySem.W.keepIn K (.ref f) = true ∧ Binds K fd ps []
section
variable {fa : List Fa} {fn : List DefD} {P : Program} {w : World} {K : PySem.W.Frag} {mg : Str → Option Value} {base : Heap}
theorem Ctx.calX (S : Ctx fa fn P w K mg base) (i j : Nat) {x : Str} {params : Arguments} {body : List Stmt} {scope : Scope} {N ps : List Str} {k : Nat} {sp : Sp} (h : fn[j]? = some ⟨(x, none), x, x, params, body, scope, [], []⟩) (hg : fa[i]? = some (.glo x))
    (bd : ∀ (kV doc pm : Value) (an : Option Addr) (cdv ct : Value) (us : List Value), us.length = ps.length → bindArgs (PySem.W.fnOf x x params body scope .none kV doc pm an cdv ct) ⟨us, []⟩ = pure (ps.zip us))
    (sc : FnScope N ps scope) (len : ∀ vs H Q E, sp vs H Q E → vs.length = ps.length)
    (hbody : ∀ (cdv : Value) (A : Around) (outer : List Env) (s : Shared) (H : Hp) (vs : List V) (Q : VK) (E : XK), Room k (A.deeper (envOfC x scope s.heap.objs.size (ga K x) cdv)) → sp vs H Q E →
      ∃ t, PSs (cxOf (L2.CX P w) P w K mg base N x scope (ga K x) cdv A outer s H E) body t ∧ t { nx := fun _ H' => Q .non H', rt := Q } (L2.start N vs) H) : CalX P w K mg base (k + 1) x sp := by
  obtain ⟨fd, F⟩ := S.def_ j h
  exact ⟨ga K x, fd, ps, F.ok sc len hbody, S.glo i hg, F.kp, F.bindsN bd⟩
/-- an own exception over ValueError whose __init__ calls super's and keeps its one argument as f -/
structure Exn (P : Program) (w : World) (K : PySem.W.Frag) (mg : Str → Option Value) (base : Heap) (x f : Str) : Prop where
  ex : ∃ (fI : Addr) (fd : FuncData) (ps : List Str), PySem.W.findIn K (.ref (ga K x)) "__init__" = some (some (.ref fI)) ∧ PySem.W.typeIn K (.ref fI) = some (.type "function") ∧
    FnOk P w K mg base (fun _ _ _ _ _ _ => False) 1 fI fd ps (spSup (ga K x) f) ∧ Binds K fd ps []
  cl : OexC K (ga K x)
  xf : XfC K (ga K x)
  mg : mg x = some (.ref (ga K x))
  no : PySem.W.findIn K (.ref (ga K x)) f = some none
end
theorem calAt {P : Program} {w : World} {K : PySem.W.Frag} {mg : Str → Option Value} {base : Heap} {k : Nat} {x : Str} {sp : Sp} {g : Addr} (c : C8.Cal P w K mg base k x sp []) (h : mg x = some (.ref g)) : C8.CalAt P w K mg base k g sp := by
  obtain ⟨f, fd, ps, ds, F, hm, kp, b, d⟩ := c.ex
  rw [h] at hm
  cases hm
  cases d
  exact ⟨fd, ps, F, kp, b⟩
section
variable {X : Cx} {k j : Nat} {x f : Str} {sp : Sp} {W : WX} {p pos : Pos} {e : Expr} {es : List Expr} {t : TA}
theorem pe_cX (c : CalX X.prog X.w X.K X.mg X.base k x sp) (hr : Room j X.A) (hk : k ≤ j) (hg : Gl X x) (tk : Takes X W) (ha : PA X (e :: es) t)
    (hdb : (x == ("__debug__" : Str)) = false := by decide) (he : starEach (e :: es) X.env = (false, eval e X.env) :: starEach es X.env := by rfl) (hpl : (backTo pos (starEach es X.env)).any (·.1) = false := by rfl) :
    PE X (.Call (.Name x p) (e :: es) [] pos) (tCallS sp (WE W) t) := by
  obtain ⟨g, fd, ps, F, hm, kp, b⟩ := c.ex
  exact pe_callS F (hr.mono hk) hg hm kp b (fun σ => passAt tk σ) ha hdb he hpl
theorem pe_mk0 {C : Addr} {dvs : List V} (c : C8.Mak X.prog X.w X.K X.mg X.base k x C sp dvs) (hr : Room j X.A) (hk : k + 1 ≤ j) (hg : Gl X x) (hdb : (x == ("__debug__" : Str)) = false := by decide) :
    PE X (.Call (.Name x p) [] [] pos) (tMake C sp dvs C8.E0 tNil) := by
  obtain ⟨g, fd, ps, ds, M, F, hm, b, d⟩ := c.ex
  exact pe_make0 M F (hr.mono hk) hg hm b d C8.pass0 hdb
theorem pmk_exn (c : Exn X.prog X.w X.K X.mg X.base x f) (hr : Room j X.A) (hk : 2 ≤ j) (hg : Gl X x) (ha : PA X (e :: es) t)
    (hdb : (x == ("__debug__" : Str)) = false := by decide) (he : starEach (e :: es) X.env = (false, eval e X.env) :: starEach es X.env := by rfl) (hpl : (backTo pos (starEach es X.env)).any (·.1) = false := by rfl) :
    PMk X (.Call (.Name x p) (e :: es) [] pos) (tMkO (ga X.K x) (spSup (ga X.K x) f) [] t) := by
  obtain ⟨fI, fd, ps, h1, h2, F, b⟩ := c.ex
  exact pmk_oex c.cl h1 h2 F (hr.mono hk) b .nil (fun _ _ _ _ _ _ _ z => z.elim) hg c.mg ha hdb he hpl
end
end XC
namespace XE
open PySem L2 PyProof.Rows
section
variable {α β γ δ : Type} {A : Rp α} {B : Rp β} {C0 : Rp γ} {K : PySem.W.Frag} {σ : L2.St} {H : Hp} {ta tb te tv tl tk td : TE} {D : Ends} {ts tz : TS} {a : α} {C : Addr} {f : Str}
theorem r_exn {v : V} {Q : XK} (h : EvR rV ta σ H v) (k : ∀ d H', Same H H' → H d = none → H' d = some (.xd [(f, v)]) → Q (.ref C) (some d) H') : tMkO C (spSup C f) [] (tCons ta tNil) σ H Q := h H (Same.refl H) _ fun u H1 e1 hu => by
  have eu : u = v := hu
  subst eu
  refine ⟨by show 1 ≤ 1000; decide, fun x hx => ⟨x, u, rfl, upd_same, fun dx h1 h2 => ⟨rfl, dx, [(f, u)], upd_same, ?_, ?_, ?_⟩⟩⟩
  · rw [upd_ne h2, upd_same]
  · rw [upd_ne h2] at h1
    exact h1
  · rw [upd_ne h2] at h1
    refine k dx _ (fun b o hb => ?_) (Same.free e1 h1) upd_same
    have hb1 := e1 b o hb
    have n1 : b ≠ dx := ne_of_none hb1 h1
    have n2 : b ≠ x := ne_of_none hb1 hx
    rw [upd_ne n1, del_ne n2, upd_ne n2, upd_ne n1, upd_ne n2]
    exact hb1
theorem e_fld {p dx : Addr} {fs : List (Str × V)} {v : V} (h : EvR rV te σ H (.ref p)) (hp : H p = some (.ins C dx fs)) (cl : Cls K C) (na : NoAttr K C f) (hl : fs.lookup f = some v) (hr : A.r H v a) : EvR A (tFld K te f) σ H a := fun H1 e Q q =>
  h H1 e _ fun u H2 e2 hu => by
    have eu : u = V.ref p := hu
    subst eu
    exact ⟨p, C, dx, fs, v, rfl, (e.trans e2) p _ hp, cl, na, hl, q v H2 e2 (A.same (e.trans e2) hr)⟩
theorem q_fld {p dx : Addr} {fs : List (Str × V)} (h : EvR A tv σ H a) (ho : EvR rV te σ H (.ref p)) (hp : H p = some (.ins C dx fs)) (cl : Cls K C) (na : NoAttr K C f) (hn : fs.length < 1000)
    (k : ∀ v H1, Same H H1 → A.r H1 v a → tz D σ (upd H1 p (.ins C dx (putF f v fs)))) : tSeq (sFld K te tv f) tz D σ H := h H (Same.refl H) _ fun v H1 e1 hv => ho H1 e1 _ fun u H2 e2 hu => by
  have eu : u = V.ref p := hu
  subst eu
  exact ⟨p, C, dx, fs, rfl, (e1.trans e2) p _ hp, cl, na, hn, k v H2 (e1.trans e2) (A.same e2 hv)⟩
theorem s_fld {p dx : Addr} {fs : List (Str × V)} (h : EvR A tv σ H a) (ho : EvR rV te σ H (.ref p)) (hp : H p = some (.ins C dx fs)) (cl : Cls K C) (na : NoAttr K C f) (hn : fs.length < 1000)
    (k : ∀ v H1, Same H H1 → A.r H1 v a → D.nx σ (upd H1 p (.ins C dx (putF f v fs)))) : sFld K te tv f D σ H := h H (Same.refl H) _ fun v H1 e1 hv => ho H1 e1 _ fun u H2 e2 hu => by
  have eu : u = V.ref p := hu
  subst eu
  exact ⟨p, C, dx, fs, rfl, (e1.trans e2) p _ hp, cl, na, hn, k v H2 (e1.trans e2) (A.same e2 hv)⟩
theorem q_fldsub {p dx : Addr} {fs : List (Str × V)} {x y : Int} (ho : EvR rV te σ H (.ref p)) (hv : EvR rI tv σ H y) (hp : H p = some (.ins C dx fs)) (cl : Cls K C) (na : NoAttr K C f) (hl : fs.lookup f = some (.int x)) (hn : fs.length < 1000)
    (k : ∀ H1, Same H H1 → tz D σ (upd H1 p (.ins C dx (putF f (.int (x - y)) fs)))) : tSeq (sFldAug K te tv rSub f) tz D σ H := ho H (Same.refl H) _ fun u H1 e1 hu => by
  have eu : u = V.ref p := hu
  subst eu
  exact ⟨p, C, dx, fs, _, rfl, e1 p _ hp, cl, na, hl, hv H1 e1 _ fun v H2 e2 hv => ⟨x, y, rfl, hv, dx, fs, (e1.trans e2) p _ hp, hn, k H2 (e1.trans e2)⟩⟩
theorem q_fldadd {p dx : Addr} {fs : List (Str × V)} {x y : Int} (ho : EvR rV te σ H (.ref p)) (hv : EvR rI tv σ H y) (hp : H p = some (.ins C dx fs)) (cl : Cls K C) (na : NoAttr K C f) (hl : fs.lookup f = some (.int x)) (hn : fs.length < 1000)
    (k : ∀ H1, Same H H1 → tz D σ (upd H1 p (.ins C dx (putF f (.int (x + y)) fs)))) : tSeq (sFldAug K te tv rAdd f) tz D σ H := ho H (Same.refl H) _ fun u H1 e1 hu => by
  have eu : u = V.ref p := hu
  subst eu
  exact ⟨p, C, dx, fs, _, rfl, e1 p _ hp, cl, na, hl, hv H1 e1 _ fun v H2 e2 hv => ⟨x, y, rfl, hv, dx, fs, (e1.trans e2) p _ hp, hn, k H2 (e1.trans e2)⟩⟩
theorem r_make {sp : Sp} {E : XK} {Q : VK} (h : EvR A te σ H a) (k : ∀ v H1, Same H H1 → A.r H1 v a → ∀ x dx, H1 x = none → H1 dx = none → dx ≠ x → sp [.ref x, v] (upd (upd H1 dx (.own x)) x (.ins C dx [])) (fun u H2 => u = .non ∧ Q (.ref x) H2) E) : tMake C sp [] E (tCons te tNil) σ H Q := h H (Same.refl H) _ fun v H1 e hv => k v H1 e hv
theorem r_lst2 {v2 : V} {Q : VK} (h : EvR A te σ H a) (k : ∀ v H1, Same H H1 → A.r H1 v a → ∀ p, H1 p = none → Q (.ref p) (upd H1 p (.lst [v, v2]))) : tLst (tCons te (tCons (tC v2) tNil)) σ H Q := h H (Same.refl H) _ fun v H1 e1 hv => ⟨by show 2 ≤ sizeLine; decide, fun p hp => k v H1 e1 hv p hp⟩
theorem q_appT {l : Addr} {xs : List V} (hl : H l = some (.lst xs)) (ha : EvR rV ta σ H (.ref l)) (h : ∀ H1, Same H H1 → te σ H1 fun v H2 => rAppend (.ref l) [v] H2 fun _ H3 => tz D σ H3) : tSeq (tDrop (tBM K "list" rAppend ta (tCons te tNil))) tz D σ H := ha H (Same.refl H) _ fun v H1 e1 hv => by
  have ev : v = V.ref l := hv
  subst ev
  exact ⟨.inl ⟨rfl, xs, SqL.of (e1 l _ hl)⟩, h H1 e1⟩
theorem q_setL {l : Addr} {xs : List V} {j : Nat} (hl : H l = some (.lst xs)) (h : EvR A te σ H a) (ho : EvR rV ta σ H (.ref l)) (hi : EvR rI tb σ H (j : Int)) (hj : j < xs.length) (k : ∀ v H1, Same H H1 → A.r H1 v a → tz D σ (upd H1 l (.lst (xs.set j v)))) : tSeq (tAsg te (gSub ta tb rSetL)) tz D σ H := h H (Same.refl H) _ fun v H1 e1 hv => ho H1 e1 _ fun u H2 e2 hu => hi H2 (e1.trans e2) _ fun y H3 e3 hy => by
  have eu : u = V.ref l := hu
  have ey : y = V.int (j : Int) := hy
  subst eu ey
  exact ⟨l, xs, (j : Int), j, rfl, rfl, ((e1.trans e2).trans e3) l _ hl, Evl.ixN_nat hj, k v H3 ((e1.trans e2).trans e3) (A.same (e2.trans e3) hv)⟩
theorem s_setL {l : Addr} {xs : List V} {j : Nat} (hl : H l = some (.lst xs)) (h : EvR A te σ H a) (ho : EvR rV ta σ H (.ref l)) (hi : EvR rI tb σ H (j : Int)) (hj : j < xs.length) (k : ∀ v H1, Same H H1 → A.r H1 v a → D.nx σ (upd H1 l (.lst (xs.set j v)))) : tAsg te (gSub ta tb rSetL) D σ H := h H (Same.refl H) _ fun v H1 e1 hv => ho H1 e1 _ fun u H2 e2 hu => hi H2 (e1.trans e2) _ fun y H3 e3 hy => by
  have eu : u = V.ref l := hu
  have ey : y = V.int (j : Int) := hy
  subst eu ey
  exact ⟨l, xs, (j : Int), j, rfl, rfl, ((e1.trans e2).trans e3) l _ hl, Evl.ixN_nat hj, k v H3 ((e1.trans e2).trans e3) (A.same (e2.trans e3) hv)⟩
theorem q_pop {l : Addr} {i : Nat} {xs : List V} {y : V} (hl : H l = some (.lst (xs ++ [y]))) (ha : EvR rV ta σ H (.ref l)) (k : ∀ H1, Same H H1 → tz D (σ.set i (some y)) (upd H1 l (.lst xs))) : tSeq (tAsg (tBM0 K "list" rPop ta) (gName i)) tz D σ H := ha H (Same.refl H) _ fun v H1 e1 hv => by
  have ev : v = V.ref l := hv
  subst ev
  refine ⟨.inl ⟨rfl, _, SqL.of (e1 l _ hl)⟩, l, xs ++ [y], y, rfl, rfl, e1 l _ hl, by simp, ?_⟩
  rw [List.dropLast_concat]
  exact k H1 e1
theorem q_meth1 {sp : Sp} {E : XK} {m : Str} {p dx : Addr} {fs : List (Str × V)} (ho : EvR rV ta σ H (.ref p)) (hp : H p = some (.ins C dx fs)) (hm : fs.lookup m = none) (h : EvR A te σ H a) (k : ∀ v H1, Same H H1 → A.r H1 v a → sp [.ref p, v] H1 (fun _ H2 => tz D σ H2) E) :
    tSeq (tDrop (tMeth C m sp [] E ta (tCons te tNil))) tz D σ H := ho H (Same.refl H) _ fun u H1 e1 hu => by
  have eu : u = V.ref p := hu
  subst eu
  exact ⟨p, dx, fs, rfl, e1 p _ hp, hm, h H1 e1 _ fun v H2 e2 hv => k v H2 (e1.trans e2) hv⟩
theorem s_meth1 {sp : Sp} {E : XK} {m : Str} {p dx : Addr} {fs : List (Str × V)} (ho : EvR rV ta σ H (.ref p)) (hp : H p = some (.ins C dx fs)) (hm : fs.lookup m = none) (h : EvR A te σ H a) (k : ∀ v H1, Same H H1 → A.r H1 v a → sp [.ref p, v] H1 (fun _ H2 => D.nx σ H2) E) :
    tDrop (tMeth C m sp [] E ta (tCons te tNil)) D σ H := ho H (Same.refl H) _ fun u H1 e1 hu => by
  have eu : u = V.ref p := hu
  subst eu
  exact ⟨p, dx, fs, rfl, e1 p _ hp, hm, h H1 e1 _ fun v H2 e2 hv => k v H2 (e1.trans e2) hv⟩
theorem q_meth0 {sp : Sp} {E : XK} {m : Str} {p dx : Addr} {fs : List (Str × V)} (ho : EvR rV ta σ H (.ref p)) (hp : H p = some (.ins C dx fs)) (hm : fs.lookup m = none) (k : ∀ H1, Same H H1 → sp [.ref p] H1 (fun _ H2 => tz D σ H2) E) :
    tSeq (tDrop (tMeth C m sp [] E ta tNil)) tz D σ H := ho H (Same.refl H) _ fun u H1 e1 hu => by
  have eu : u = V.ref p := hu
  subst eu
  exact ⟨p, dx, fs, rfl, e1 p _ hp, hm, k H1 e1⟩
theorem s_meth0 {sp : Sp} {E : XK} {m : Str} {p dx : Addr} {fs : List (Str × V)} (ho : EvR rV ta σ H (.ref p)) (hp : H p = some (.ins C dx fs)) (hm : fs.lookup m = none) (k : ∀ H1, Same H H1 → sp [.ref p] H1 (fun _ H2 => D.nx σ H2) E) :
    tDrop (tMeth C m sp [] E ta tNil) D σ H := ho H (Same.refl H) _ fun u H1 e1 hu => by
  have eu : u = V.ref p := hu
  subst eu
  exact ⟨p, dx, fs, rfl, e1 p _ hp, hm, k H1 e1⟩
/-- all but p as it was -/
def Off (p : Addr) (H H' : Hp) : Prop := ∀ b o, b ≠ p → H b = some o → H' b = some o
theorem Off.refl (p : Addr) (H : Hp) : Off p H H := fun _ _ _ h => h
theorem Off.trans {p : Addr} {H H1 H2 : Hp} (x : Off p H H1) (y : Off p H1 H2) : Off p H H2 := fun b o n h => y b o n (x b o n h)
theorem Off.of {p : Addr} {H H' : Hp} (e : Same H H') : Off p H H' := fun b o _ h => e b o h
theorem Off.upd {p : Addr} {H H' : Hp} {o : HO} (e : Off p H H') : Off p H (upd H' p o) := fun b u n h => by rw [upd_ne n]; exact e b u n h
theorem Off.same {p : Addr} {H H' : Hp} (e : Off p H H') (h : H p = none) : Same H H' := fun b o hb => e b o (ne_of_none hb h) hb
theorem _root_.L2.Same.trans_off {p : Addr} {H H1 H2 : Hp} (e : Same H H1) (o : Off p H1 H2) (h : H p = none) : Same H H2 := fun b u hb => o b u (ne_of_none hb h) (e b u hb)
theorem off_tk {p C dx : Addr} {fs : List (Str × V)} {H H' : Hp} (e : Off p H H') (h : H p = some (.ins C dx fs)) : Tk H H' := fun x xs hx => by
  have n : x ≠ p := fun z => by
    subst z
    rcases hx with hx | ⟨o, hx⟩ <;> rw [h] at hx <;> cases hx
  rcases hx with hx | ⟨o, hx⟩
  · exact .inl (e x _ n hx)
  · exact .inr ⟨o, e x _ n hx⟩
theorem e_isNO {o : Option α} (h : EvR (rO A) ta σ H o) : EvR rB (tOp (fun x y H Q => y = .non ∧ Q (.bl (decide (x = .non))) H) ta (tC .non)) σ H o.isNone := fun H1 e Q q => h H1 e _ fun v H2 e2 hv => by
  refine ⟨rfl, q _ H2 e2 ?_⟩
  cases o with
  | none =>
    have ev : v = V.non := hv
    subst ev
    rfl
  | some a =>
    have ev : v ≠ V.non := hv.2
    show V.bl _ = V.bl _
    rw [decide_eq_false ev]
    rfl
theorem EvR.un (h : EvR (rO A) ta σ H (some a)) : EvR A ta σ H a := h.as fun _ _ z => z.1
theorem rT_some {as : List α} {v : V} (h : (rT K A).r H v as) : (rO (rT K A)).r H v (some as) := ⟨h, by obtain ⟨p, _, rfl, _⟩ := h; exact fun z => nomatch z⟩
theorem EvR.opt {as : List α} (h : EvR (rT K A) ta σ H as) : EvR (rO (rT K A)) ta σ H (some as) := h.as fun _ _ z => rT_some z
/-- signs -/
theorem e_inT2 {c1 c2 k : Nat} (hx : EvR rS ta σ H ⟨#[k]⟩) {s1 s2 : Str} (h1 : s1 = ⟨#[c1]⟩) (h2 : s2 = ⟨#[c2]⟩) : EvR rB (tOp (rIn K false) ta (tTup (tCons (tC (.str s1)) (tCons (tC (.str s2)) tNil)))) σ H (decide (k = c1) || decide (k = c2)) := fun H1 e Q q =>
  hx H1 e _ fun u H2 e2 hu => by
    have eu : u = V.str ⟨#[k]⟩ := hu
    subst eu h1 h2
    refine ⟨by show 2 ≤ sizeLine; decide, fun p hp => ⟨p, _, rfl, .inr (.inl (.inl upd_same)), rfl, rfl, q _ _ (e2.trans (same_new hp)) ?_⟩⟩
    show V.bl _ = V.bl _
    congr 1
    have key : ∀ c : Nat, eqV (V.str ⟨#[c]⟩) (V.str ⟨#[k]⟩) = decide (k = c) := fun c => by
      by_cases h : k = c
      · subst h; simp [eqV]
      · have h2 : ¬ c = k := fun z => h z.symm
        simp [eqV, h, h2]
    show (if false = true then !inV _ _ else inV _ _) = _
    rw [if_neg (by decide)]
    unfold inV
    rw [List.any_cons, List.any_cons, List.any_nil, key c1, key c2, Bool.or_false]
theorem e_eqC {c k : Nat} {s1 : Str} (hx : EvR rS ta σ H ⟨#[k]⟩) (h1 : s1 = ⟨#[c]⟩) : EvR rB (tOp rEq ta (tC (.str s1))) σ H (decide (k = c)) := (e_eqS hx e_str).is (by
  subst h1
  by_cases h : k = c
  · subst h; simp
  · simp [h])
end
end XE
end
section
set_option Elab.async false
set_option linter.all false
set_option maxRecDepth 100000
set_option maxHeartbeats 4000000
namespace XE
open PySem L2 PyProof.Rows
section
variable {α β γ δ : Type} {A : Rp α} {B : Rp β} {C0 : Rp γ} {K : PySem.W.Frag} {σ : L2.St} {H : Hp} {ta tb t1 t2 te tv tl tk td : TE} {D : Ends} {ts tz : TS} {a : α} {b : β}
/-- a new list of just these -/
def EvN (te : TE) (σ : L2.St) (H : Hp) (xs : List V) : Prop := ∀ H1, Same H H1 → ∀ Q : VK, (∀ p H2, Same H1 H2 → H1 p = none → H2 p = some (.lst xs) → Q (.ref p) H2) → te σ H1 Q
theorem e_n2 {s : Str} {v : V} (h2 : EvR rV t2 σ H v) : EvN (tLst (tCons (tC (.str s)) (tCons t2 tNil))) σ H [.str s, v] := fun H1 e Q q =>
  h2 H1 e _ fun u H2 e2 hu => by
    have eu : u = v := hu
    subst eu
    exact ⟨by show 2 ≤ sizeLine; decide, fun p hp => q p _ (e2.trans (same_new hp)) (Same.free e2 hp) upd_same⟩
theorem dp2 {H : Hp} {p : Addr} {s : Str} {v : V} {d : PyData} (hp : H p = some (.lst [.str s, v])) (hd : ∀ H, Dp K H v d) : Dp K H (.ref p) (.list [.str s, d]) := .lst (SqL.of hp) (.cons (.str s) (.cons (hd H) .nil))
theorem e_eqN {s : Str} {v : V} {d : PyData} (hd : ∀ H, Dp K H v d) (sh : SeqAt.shaped (.list [.str s, d]) = true) (h1 : EvN t1 σ H [.str s, v]) (h2 : EvN t2 σ H [.str s, v]) : EvR rB (tOp (rEqD K) t1 t2) σ H true := fun H1 e Q q =>
  h1 H1 e _ fun p H2 e2 _ hp => h2 H2 (e.trans e2) _ fun p2 H3 e3 _ hp2 => ⟨_, _, dp2 (e3 p _ hp) hd, dp2 hp2 hd, sh, sh, by
    rw [SeqAt.eqv_refl _ (SeqAt.canLay_of_shaped sh)]
    exact q _ H3 (e2.trans e3) rfl⟩
theorem e_neN {s : Str} {v : V} {d : PyData} (hd : ∀ H, Dp K H v d) (sh : SeqAt.shaped (.list [.str s, d]) = true) (h1 : EvN t1 σ H [.str s, v]) (h2 : EvN t2 σ H [.str s, v]) : EvR rB (tOp (rNeD K) t1 t2) σ H false := fun H1 e Q q =>
  h1 H1 e _ fun p H2 e2 _ hp => h2 H2 (e.trans e2) _ fun p2 H3 e3 _ hp2 => ⟨_, _, dp2 (e3 p _ hp) hd, dp2 hp2 hd, sh, sh, by
    rw [SeqAt.eqv_refl _ (SeqAt.canLay_of_shaped sh)]
    exact q _ H3 (e2.trans e3) rfl⟩
theorem e_notNO {o : Option α} (h : EvR (rO A) ta σ H o) : EvR rB (tOp (fun x y H Q => y = .non ∧ Q (.bl (!decide (x = .non))) H) ta (tC .non)) σ H o.isSome := fun H1 e Q q => h H1 e _ fun v H2 e2 hv => by
  refine ⟨rfl, q _ H2 e2 ?_⟩
  cases o with
  | none =>
    have ev : v = V.non := hv
    subst ev
    rfl
  | some a =>
    have ev : v ≠ V.non := hv.2
    show V.bl _ = V.bl _
    rw [decide_eq_false ev]
    rfl
end
end XE
end
section
set_option Elab.async false
set_option linter.all false
set_option maxRecDepth 100000
set_option maxHeartbeats 4000000
/-! The laws' pools: a list [seed, count, cells] that a draw changes; all but the pool and its cells stays. -/
namespace XE
open PySem L2 PyProof.Rows
def PoolAt (p c : Addr) (H : Hp) : Prop := p ≠ c ∧ ∃ (s n : Int) (cs : List Int), H p = some (.lst [.int s, .int n, .ref c]) ∧ H c = some (.lst (cs.map V.int)) ∧ cs.length ≤ 1000
/-- draws between -/
structure Dr (p c : Addr) (H H' : Hp) : Prop where
  keep : ∀ a u, a ≠ p → a ≠ c → H a = some u → H' a = some u
  tk : Tk H H'
  pool : PoolAt p c H'
theorem PoolAt.same {p c : Addr} {H H' : Hp} (h : PoolAt p c H) (e : Same H H') : PoolAt p c H' := by
  obtain ⟨h0, s, n, cs, h1, h2, h3⟩ := h
  exact ⟨h0, s, n, cs, e _ _ h1, e _ _ h2, h3⟩
theorem Dr.of {p c : Addr} {H H' : Hp} (h : PoolAt p c H) (e : Same H H') : Dr p c H H' := ⟨fun a u _ _ x => e a u x, Same.tk e, h.same e⟩
theorem Dr.trans {p c : Addr} {H H1 H2 : Hp} (a : Dr p c H H1) (b : Dr p c H1 H2) : Dr p c H H2 := ⟨fun x u h1 h2 h => b.keep x u h1 h2 (a.keep x u h1 h2 h), a.tk.trans b.tk, b.pool⟩
theorem Dr.then {p c : Addr} {H H1 H2 : Hp} (a : Dr p c H H1) (e : Same H1 H2) : Dr p c H H2 := a.trans (.of a.pool e)
theorem PoolAt.ne {p c a : Addr} {H : Hp} (h : PoolAt p c H) (ha : H a = none) : a ≠ p ∧ a ≠ c := by
  obtain ⟨h0, s, n, cs, h1, h2, h3⟩ := h
  exact ⟨fun z => (by rw [z, h1] at ha; cases ha), fun z => (by rw [z, h2] at ha; cases ha)⟩
/-- an own list, no pool's, changes -/
theorem Dr.own {p c l : Addr} {H H1 : Hp} {o : HO} {xs : List V} (a : Dr p c H H1) (hl : H l = none) (h1 : l ≠ p) (h2 : l ≠ c) (h3 : H1 l = some (.lst xs)) : Dr p c H (upd H1 l o) := by
  obtain ⟨h0, s, n, cs, q1, q2, q3⟩ := a.pool
  refine ⟨fun x u x1 x2 hx => ?_, a.tk.trans (tk_lst h3), h0, s, n, cs, ?_, ?_, q3⟩
  · rw [upd_ne (ne_of_none hx hl)]
    exact a.keep x u x1 x2 hx
  · rw [upd_ne (fun z => h1 z.symm)]; exact q1
  · rw [upd_ne (fun z => h2 z.symm)]; exact q2
theorem Rp.dr {α : Type} (A : Rp α) {p c : Addr} {H H' : Hp} {v : V} {a : α} (e : Dr p c H H') (h : A.r H v a) : A.r H' v a := A.mono e.tk h
def spDraw : Sp := fun vs H Q _ => ∃ (p c : Addr) (m : Nat), vs = [.ref p, .int (m : Int)] ∧ 1 ≤ m ∧ m ≤ 1000000 ∧ PoolAt p c H ∧ ∀ (d : Nat) H', d < m → Dr p c H H' → Q (.int (d : Int)) H'
section
variable {α β γ δ : Type} {A : Rp α} {B : Rp β} {C0 : Rp γ} {K : PySem.W.Frag} {σ : L2.St} {H : Hp} {ta tb tm t1 t2 te tv tl tk td : TE} {D : Ends} {ts tu tz : TS} {a : α} {b : β} {p c : Addr} {i j m : Nat} {x y : Int}
theorem e_draw {Q : VK} (hv : σ[i]? = some (some (.ref p))) (hp : PoolAt p c H) (hm : EvR rN tm σ H m) (h1 : 1 ≤ m) (h2 : m ≤ 1000000) (k : ∀ (d : Nat) H1, d < m → Dr p c H H1 → Q (.int (d : Int)) H1) :
    tCall spDraw [] C8.E0 (tCons (tVar i) (tCons tm tNil)) σ H Q := ⟨_, hv, hm H (Same.refl H) _ fun u H1 e1 hu => by
  have eu : u = V.int (m : Int) := hu
  subst eu
  exact ⟨p, c, m, rfl, h1, h2, hp.same e1, fun d H2 hd dr => k d H2 hd ((Dr.of hp e1).trans dr)⟩⟩
/-- if draw(..) == 0 -/
theorem q_ifD {n : Int} (hv : σ[i]? = some (some (.ref p))) (hp : PoolAt p c H) (hm : EvR rN tm σ H m) (h1 : 1 ≤ m) (h2 : m ≤ 1000000) (k1 : ∀ H1, Dr p c H H1 → ts { D with nx := tz D } σ H1) (k2 : ∀ H1, Dr p c H H1 → tz D σ H1) :
    tSeq (tIfS (tTest (tOp rEq (tCall spDraw [] C8.E0 (tCons (tVar i) (tCons tm tNil))) (tC (.int n)))) ts tNext) tz D σ H := e_draw hv hp hm h1 h2 fun d H1 _ dr => by
  refine ⟨rfl, _, rfl, ?_⟩
  by_cases h : (decide (V.int (d : Int) = V.int n)) = true
  · rw [h]; exact k1 H1 dr
  · rw [Bool.eq_false_iff.mpr h]; exact k2 H1 dr
/-- if c and draw(..) == 0 -/
theorem q_ifAD {n : Int} {tt : TT} {b0 : Bool} (hb : EvB tt σ H b0) (hv : σ[i]? = some (some (.ref p))) (hp : PoolAt p c H) (hm : EvR rN tm σ H m) (h1 : 1 ≤ m) (h2 : m ≤ 1000000) (k1 : b0 = true → ∀ H1, Dr p c H H1 → ts { D with nx := tz D } σ H1) (k2 : ∀ H1, Dr p c H H1 → tz D σ H1) :
    tSeq (tIfS (tAnd tt (tTest (tOp rEq (tCall spDraw [] C8.E0 (tCons (tVar i) (tCons tm tNil))) (tC (.int n))))) ts tNext) tz D σ H := hb H (Same.refl H) _ fun H0 e0 => by
  cases b0 with
  | false => exact k2 H0 (.of hp e0)
  | true =>
    refine e_draw (H := H0) hv (hp.same e0) (hm.mono e0) h1 h2 fun d H1 _ dr0 => ?_
    have dr := (Dr.of hp e0).trans dr0
    refine ⟨rfl, _, rfl, ?_⟩
    by_cases h : (decide (V.int (d : Int) = V.int n)) = true
    · rw [h]; exact k1 rfl H1 dr
    · rw [Bool.eq_false_iff.mpr h]; exact k2 H1 dr
/-- x = k + draw(..) -/
theorem q_asgD {n : Nat} (hv : σ[i]? = some (some (.ref p))) (hp : PoolAt p c H) (hm : EvR rN tm σ H m) (h1 : 1 ≤ m) (h2 : m ≤ 1000000) (k : ∀ (d : Nat) H1, n ≤ d → d < n + m → Dr p c H H1 → tz D (σ.set j (some (.int (d : Int)))) H1) :
    tSeq (tAsg (tOp (rI0 fun i j => .int (i + j)) (tC (.int (n : Int))) (tCall spDraw [] C8.E0 (tCons (tVar i) (tCons tm tNil)))) (gName j)) tz D σ H := e_draw hv hp hm h1 h2 fun d H1 hd dr => ⟨(n : Int), (d : Int), rfl, rfl, by
  have := k (n + d) H1 (by omega) (by omega) dr
  rw [show (((n + d : Nat)) : Int) = (n : Int) + (d : Int) by push_cast; rfl] at this
  exact this⟩
/-- for j in range(k + draw(..)) -/
theorem q_rngD {n : Nat} (hv : σ[i]? = some (some (.ref p))) (hp : PoolAt p c H) (hm : EvR rN tm σ H m) (h1 : 1 ≤ m) (h2 : m ≤ 1000000) (hn : n ≤ 1000) (Pv : Nat → L2.St → Hp → Prop) (h0 : ∀ H1, Dr p c H H1 → Pv 0 σ H1)
    (hs : ∀ (i : Nat) σ' H', i + 1 < n + m → Pv i σ' H' → ts { D with nx := Pv (i + 1), ct := Pv (i + 1), bk := tz D } (σ'.set j (some (.int (i : Int)))) H') (hd : ∀ (r : Nat) σ' H', n ≤ r → r < n + m → Pv r σ' H' → tz D σ' H') :
    tSeq (tFor (iRng1 (tCons (tOp (rI0 fun i j => .int (i + j)) (tC (.int (n : Int))) (tCall spDraw [] C8.E0 (tCons (tVar i) (tCons tm tNil)))) tNil)) (gName j) ts) tz D σ H := e_draw hv hp hm h1 h2 fun d H1 hdm dr => ⟨(n : Int), (d : Int), rfl, rfl, by
  refine ⟨(n : Int) + (d : Int), rfl, by omega, by omega, ?_⟩
  rw [show ((n : Int) + (d : Int)).toNat = n + d by omega]
  refine for_it (walk_range (lo := 0) (n := n + d)) Pv (h0 H1 dr) (fun _ _ _ _ _ => True.intro) (fun i x σ' H2 H' hi q y => ?_) (fun σ' H' q => hd (n + d) σ' H' (by omega) (by omega) q)
  obtain ⟨rfl, rfl⟩ := y
  have e0 : (0 : Int) + (i : Int) = (i : Int) := Int.zero_add _
  show ts { D with nx := Pv (i + 1), ct := Pv (i + 1), bk := tz D } (σ'.set j (some (.int ((0 : Int) + (i : Int))))) _
  rw [e0]
  exact hs i σ' _ (by omega) q⟩
/-! ### slices of a list of ints, sums, loops over new lists -/
theorem cut_ints (ns : List Int) (lo hi : Option Int) : ∃ ms : List Int, cutV (ns.map V.int) lo hi = ms.map V.int ∧ ms.length ≤ ns.length := by
  refine ⟨(ns.drop (HT.sIx ns.length 0 lo)).take (HT.sIx ns.length ns.length hi - HT.sIx ns.length 0 lo), ?_, ?_⟩
  · unfold cutV
    rw [List.length_map, List.map_take, List.map_drop]
  · rw [List.length_take, List.length_drop]
    omega
theorem n_slice {n : Int} {q : Addr} {ns : List Int} (hv : σ[i]? = some (some (.ref q))) (hq : ∀ H1, Same H H1 → SqL K H1 q (ns.map V.int)) : ∃ ms : List Int, ms.length ≤ ns.length ∧ EvN (tSl (rSlL K) (tVar i) tNoPart (tPart (tC (.int n)))) σ H (ms.map V.int) := by
  obtain ⟨ms, h1, h2⟩ := cut_ints ns none (some n)
  refine ⟨ms, h2, fun H1 e Q k => ⟨_, hv, n, rfl, q, _, rfl, hq H1 e, fun l hl => ?_⟩⟩
  rw [h1]
  exact k l _ (same_new hl) hl upd_same
theorem e_lenL {q : Addr} {xs : List V} (ha : EvR rV ta σ H (.ref q)) (hq : ∀ H1, Same H H1 → SqL K H1 q xs) : EvR rN (tCB (fun xs H Q => ∃ p ys, xs = [.ref p] ∧ (SqL K H p ys ∨ SqT K H p ys) ∧ Q (.int ys.length) H) (tCons ta tNil)) σ H xs.length := fun H1 e Q k => ha H1 e _ fun u H2 e2 hu => ⟨q, xs, by rw [show u = V.ref q from hu], .inl (hq H2 (e.trans e2)), k _ H2 e2 rfl⟩
theorem e_sumN {ms : List Int} (h : EvN tl σ H (ms.map V.int)) : EvR rI (tCB (rSum K) (tCons tl tNil)) σ H ms.sum := fun H1 e Q q => h H1 e _ fun l H2 e2 _ hl => ⟨l, ms, rfl, SqL.of hl, q _ H2 e2 rfl⟩
theorem e_int1 (h : EvR rI ta σ H x) : EvR rI (tCB (fun xs H Q => (∃ i, xs = [.int i] ∧ Q (.int i) H) ∨ ∃ k, xs = [.bl k] ∧ Q (.int (if k then 1 else 0)) H) (tCons ta tNil)) σ H x := e_cb1 h fun u H1 _ hu Q q => .inl ⟨x, by rw [show u = V.int x from hu], q _ H1 (Same.refl H1) rfl⟩
theorem e_abs (h : EvR rI ta σ H x) : EvR rI (tCB (fun xs H Q => ∃ i, xs = [.int i] ∧ Q (.int (if i < 0 then -i else i)) H) (tCons ta tNil)) σ H (if x < 0 then -x else x) := e_cb1 h fun u H1 _ hu Q q => ⟨x, by rw [show u = V.int x from hu], q _ H1 (Same.refl H1) rfl⟩
theorem e_pow {n : Nat} (ha : EvR rI ta σ H x) (hb : EvR rI tb σ H (n : Int)) (h1 : x.natAbs < 2 ^ 64) (h2 : n ≤ 1000000) : EvR rI (tOp (L2.rI CPow fun i j => .int (i ^ j.toNat)) ta tb) σ H (x ^ n) := e_op ha hb fun u v H1 _ hu hv Q q => by
  have e1 : u = V.int x := hu
  have e2 : v = V.int (n : Int) := hv
  subst e1 e2
  exact ⟨x, (n : Int), rfl, rfl, ⟨by omega, by omega, h1⟩, q _ H1 (Same.refl H1) (by show V.int _ = V.int _; rw [show ((n : Int)).toNat = n by omega])⟩
theorem q_forN {xs : List V} (h : EvN tl σ H xs) (Pv : Hp → Nat → L2.St → Hp → Prop) (h0 : ∀ H1, Same H H1 → Pv H1 0 σ H1) (hk : ∀ H1 i σ' H', Pv H1 i σ' H' → Same H1 H')
    (hs : ∀ H1 (i : Nat) v σ' H', Same H H1 → xs[i]? = some v → Pv H1 i σ' H' → ts { D with nx := Pv H1 (i + 1), ct := Pv H1 (i + 1), bk := tz D } (σ'.set j (some v)) H') (hd : ∀ H1 σ' H', Same H H1 → Pv H1 xs.length σ' H' → tz D σ' H') :
    tSeq (tFor (iList K tl) (gName j) ts) tz D σ H := h H (Same.refl H) _ fun l H1 e _ hl =>
  ⟨l, rfl, ⟨xs, SqL.of hl⟩, for_it (walk_list (xs := xs)) (Pv H1) (h0 H1 e) (fun i σ' H' _ q => SqL.of (hk H1 i σ' H' q l _ hl)) (fun i v σ' H2 H' hi q y => by
    obtain ⟨rfl, hx⟩ := y
    exact hs H1 i v σ' _ e hx q) (fun σ' H' q => hd H1 σ' H' e q)⟩
/-- [f(x) for x in new list of ints if t]: some ints -/
theorem n_lcI {ms : List Int} {vs : List Nat} {tt : TT} {f : Int → Int} {g : Int → Bool} (h : EvN tl σ H (ms.map V.int)) (hz : ms.length ≤ 1000) (hw : ∀ x, wipe ((wipe σ vs).set j (some x)) vs = wipe σ vs)
    (ht : ∀ H1 (n : Int), Same H H1 → EvB tt ((wipe σ vs).set j (some (.int n))) H1 (g n)) (he : ∀ H1 (n : Int), Same H H1 → EvR rI te ((wipe σ vs).set j (some (.int n))) H1 (f n)) :
    ∀ Q : VK, (∀ (l : Addr) (cs : List Int) H2, Same H H2 → H l = none → H2 l = some (.lst (cs.map V.int)) → cs.length ≤ 1000 → Q (.ref l) H2) → tLc (iList K tl) (gName j) tt te vs σ H Q := fun Q q => h H (Same.refl H) _ fun l H1 e hl0 hl => by
  refine ⟨l, rfl, ⟨_, SqL.of hl⟩, fun Dl hD => ?_⟩
  have es : (1000 : Nat) < sizeLine := by decide
  refine lc_list (xs := ms.map V.int) (fun i H' => Same H1 H' ∧ ∃ cs : List Int, H' Dl = some (.lst (cs.map V.int)) ∧ cs.length ≤ i) ⟨same_new hD, [], upd_same, Nat.le_refl _⟩ (fun i H' _ p => SqL.of (p.1 l _ hl)) (fun i x H' hi p => ⟨hw x, ?_⟩) (fun H' p => ?_)
  · obtain ⟨p1, cs, p2, p3⟩ := p
    obtain ⟨n, hn, rfl⟩ : ∃ n, ms[i]? = some n ∧ x = V.int n := by
      rw [List.getElem?_map] at hi
      cases hh : ms[i]? with
      | none => rw [hh] at hi; cases hi
      | some n => rw [hh] at hi; exact ⟨n, rfl, (Option.some.inj hi).symm⟩
    have hi2 := (List.getElem?_eq_some_iff.mp hn).1
    refine ht H' n (e.trans p1) H' (Same.refl H') _ fun H3 e3 => ?_
    by_cases hg : g n = true
    · rw [if_pos hg]
      refine he H3 n ((e.trans p1).trans e3) H3 (Same.refl H3) _ fun y H4 e4 hy => ⟨_, e4 _ _ (e3 _ _ p2), by rw [List.length_map]; omega, same_mut ((p1.trans e3).trans e4) hD, cs ++ [f n], ?_, by rw [List.length_append]; simp; omega⟩
      rw [upd_same, List.map_append, show y = V.int (f n) from hy] <;> rfl
    · rw [if_neg hg]
      exact ⟨p1.trans e3, cs, e3 _ _ p2, by omega⟩
  · obtain ⟨p1, cs, p2, p3⟩ := p
    rw [List.length_map] at p3
    exact q Dl cs H' (e.trans p1) (Same.free e hD) p2 (by omega)
theorem EvN.mono {H' : Hp} {xs : List V} (h : EvN te σ H xs) (e : Same H H') : EvN te σ H' xs := fun H1 s Q q => h H1 (e.trans s) Q q
/-- return [x, v, list] -/
theorem s_retP {v0 : V} (ha : EvR rI ta σ H x) (hl : ∀ H1, Same H H1 → ∀ Q : VK, (∀ (l : Addr) (cs : List Int) H2, Same H1 H2 → H1 l = none → H2 l = some (.lst (cs.map V.int)) → cs.length ≤ 1000 → Q (.ref l) H2) → tl σ H1 Q)
    (k : ∀ (l p : Addr) (cs : List Int) H1, Same H H1 → H1 l = some (.lst (cs.map V.int)) → cs.length ≤ 1000 → H1 p = none → D.rt (.ref p) (upd H1 p (.lst [.int x, v0, .ref l]))) : tRet (tLst (tCons ta (tCons (tC v0) (tCons tl tNil)))) D σ H := ha H (Same.refl H) _ fun u H1 e1 hu => by
  have eu : u = V.int x := hu
  subst eu
  exact hl H1 e1 _ fun l cs H2 e2 _ h2 h3 => ⟨by show 3 ≤ sizeLine; decide, fun p hp => k l p cs H2 (e1.trans e2) h2 h3 hp⟩
end
end XE
end
section
set_option Elab.async false
set_option linter.all false
set_option maxRecDepth 100000
set_option maxHeartbeats 4000000
/-! Slices of texts, texts times a number, draws into names, loops over lists that are made there. -/
namespace XE
open PySem L2 PyProof.Rows
theorem slice_mid (a : List Nat) (i : Nat) (h : i ≤ a.length) : Txt.slice (SX.S a) (some (i : Int)) (some ((i : Int) + 1)) = SX.S ((a.drop i).take 1) := by
  have hl : (SX.S a).cps.toList = a := by simp [SX.S]
  have hl2 : (SX.S a).length = a.length := SX.S_len a
  by_cases hi : i + 1 ≤ a.length
  · have e := beq_iff_eq.mp (PyProof.Rows.slice_closes (x := SX.S a) (i := (i : Int)) (j := (i : Int) + 1) ⟨by omega, by omega, by rw [hl]; omega⟩)
    rw [e, hl]
    show Str.mk _ = Str.mk _
    rw [show ((i : Int)).toNat = i by omega, show ((i : Int) + 1 - (i : Int)).toNat = 1 by omega]
  · have e0 : Txt.slice (SX.S a) (some (i : Int)) (some ((i : Int) + 1)) = Txt.slice (SX.S a) (some (i : Int)) (some (a.length : Int)) := by
      unfold Txt.slice
      rw [hl2, SX.idx_hi (by omega)]
    have e := beq_iff_eq.mp (PyProof.Rows.slice_closes (x := SX.S a) (i := (i : Int)) (j := (a.length : Int)) ⟨by omega, by omega, by rw [hl]; omega⟩)
    rw [e0, e, hl]
    show Str.mk _ = Str.mk _
    rw [show ((i : Int)).toNat = i by omega, show ((a.length : Int) - (i : Int)).toNat = 0 by omega]
    rw [List.drop_eq_nil_of_le (by omega)]
    rfl
section
variable {α β γ δ : Type} {A : Rp α} {B : Rp β} {C0 : Rp γ} {K : PySem.W.Frag} {σ : L2.St} {H : Hp} {ta tb tc tm t1 t2 te tv tl tk td : TE} {tas : TA} {D : Ends} {ts tu tz : TS} {b : β} {p c : Addr} {i j m n : Nat} {x y : Int} {a : List Nat}
theorem e_slTo (h : EvR rS ta σ H (SX.S a)) (hb : EvR rN tb σ H i) (hl : a.length ≤ 1000000) : EvR rS (tSl C8.rSlX ta tNoPart (tPart tb)) σ H (SX.S (a.take i)) := fun H1 e Q q => h H1 e _ fun u H2 e2 hu => hb H2 (e.trans e2) _ fun v H3 e3 hv => by
  have eu : u = V.str (SX.S a) := hu
  have ev : v = V.int (i : Int) := hv
  subst eu ev
  refine ⟨(i : Int), rfl, _, rfl, by rw [SX.S_len]; exact Nat.le_trans hl (by decide), q _ H3 (e2.trans e3) ?_⟩
  show V.str _ = V.str _
  rw [SX.slice_to (by omega)]
  rfl
theorem e_slFrom (h : EvR rS ta σ H (SX.S a)) (hb : EvR rN tb σ H i) (hl : a.length ≤ 1000000) : EvR rS (tSl C8.rSlX ta (tPart tb) tNoPart) σ H (SX.S (a.drop i)) := fun H1 e Q q => h H1 e _ fun u H2 e2 hu => hb H2 (e.trans e2) _ fun v H3 e3 hv => by
  have eu : u = V.str (SX.S a) := hu
  have ev : v = V.int (i : Int) := hv
  subst eu ev
  refine ⟨(i : Int), rfl, _, rfl, by rw [SX.S_len]; exact Nat.le_trans hl (by decide), q _ H3 (e2.trans e3) ?_⟩
  show V.str _ = V.str _
  rw [SX.slice_from (by omega)]
  rfl
theorem e_slMid (h : EvR rS ta σ H (SX.S a)) (hb : EvR rN tb σ H i) (hc : EvR rN tc σ H (i + 1)) (hi : i ≤ a.length) (hl : a.length ≤ 1000000) : EvR rS (tSl C8.rSlX ta (tPart tb) (tPart tc)) σ H (SX.S ((a.drop i).take 1)) := fun H1 e Q q => h H1 e _ fun u H2 e2 hu => hb H2 (e.trans e2) _ fun v H3 e3 hv => by
  have eu : u = V.str (SX.S a) := hu
  have ev : v = V.int (i : Int) := hv
  subst eu ev
  refine ⟨(i : Int), rfl, hc H3 ((e.trans e2).trans e3) _ fun w H4 e4 hw => ?_⟩
  have ew : w = V.int (((i + 1 : Nat)) : Int) := hw
  subst ew
  refine ⟨_, rfl, _, rfl, by rw [SX.S_len]; exact Nat.le_trans hl (by decide), q _ H4 ((e2.trans e3).trans e4) ?_⟩
  show V.str _ = V.str _
  rw [show (((i + 1 : Nat)) : Int) = (i : Int) + 1 by push_cast; rfl, slice_mid a i hi]
theorem e_mulS (ha : EvR rS ta σ H (SX.S a)) (hb : EvR rN tb σ H n) (hn : n ≤ 5000) (hl : a.length ≤ 3000) : EvR rS (tOp (fun x y H Q => ∃ z n, x = .str z ∧ y = .int n ∧ MulOk z n ∧ Q (.str (Txt.mul z n)) H) ta tb) σ H (SX.S (List.replicate n a).flatten) := e_op ha hb fun u v H1 _ hu hv Q q => by
  have eu : u = V.str (SX.S a) := hu
  have ev : v = V.int (n : Int) := hv
  subst eu ev
  obtain ⟨h1, h2⟩ := XC.mul_S (c := a) hn hl
  exact ⟨_, _, rfl, rfl, h1, q _ H1 (Same.refl H1) (congrArg V.str h2)⟩
theorem e_lit {z : Str} : EvR rS (tC (.str z)) σ H (SX.S z.cps.toList) := e_c (by show V.str _ = V.str _; rw [SX.S_tl])
/-- x = draw(..) -/
theorem q_asgD0 (hv : σ[i]? = some (some (.ref p))) (hp : PoolAt p c H) (hm : EvR rN tm σ H m) (h1 : 1 ≤ m) (h2 : m ≤ 1000000) (k : ∀ (d : Nat) H1, d < m → Dr p c H H1 → tz D (σ.set j (some (.int (d : Int)))) H1) :
    tSeq (tAsg (tCall spDraw [] C8.E0 (tCons (tVar i) (tCons tm tNil))) (gName j)) tz D σ H := e_draw hv hp hm h1 h2 fun d H1 hd dr => k d H1 hd dr
/-- text[draw(..)] -/
theorem e_ixD {z : Str} {Q : VK} (hv : σ[i]? = some (some (.ref p))) (hp : PoolAt p c H) (hm : EvR rN tm σ H m) (h1 : 1 ≤ m) (h2 : m ≤ 1000000) (hz : z.cps.toList.length = m) (hz2 : z.length ≤ sizeLine) (k : ∀ (q : Nat) H1, Dr p c H H1 → Q (.str ⟨#[q]⟩) H1) :
    tOp rIxS (tC (.str z)) (tCall spDraw [] C8.E0 (tCons (tVar i) (tCons tm tNil))) σ H Q := e_draw hv hp hm h1 h2 fun d H1 hd dr => by
  have hd2 : d < z.cps.toList.length := by omega
  exact ⟨z, (d : Int), z.cps.toList[d], rfl, rfl, hz2, atI_nat (List.getElem?_eq_getElem hd2), k _ H1 dr⟩
theorem q_asgIxD {z : Str} (hv : σ[i]? = some (some (.ref p))) (hp : PoolAt p c H) (hm : EvR rN tm σ H m) (h1 : 1 ≤ m) (h2 : m ≤ 1000000) (hz : z.cps.toList.length = m) (hz2 : z.length ≤ sizeLine) (k : ∀ (q : Nat) H1, Dr p c H H1 → tz D (σ.set j (some (.str ⟨#[q]⟩))) H1) :
    tSeq (tAsg (tOp rIxS (tC (.str z)) (tCall spDraw [] C8.E0 (tCons (tVar i) (tCons tm tNil)))) (gName j)) tz D σ H := e_ixD hv hp hm h1 h2 hz hz2 k
/-- texts in a row -/
def EvTs (tas : TA) (σ : L2.St) (H : Hp) (xs : List (List Nat)) : Prop := ∀ H1, Same H H1 → ∀ Q : List V → Hp → Prop, (∀ H2, Same H1 H2 → Q (xs.map fun t => .str (SX.S t)) H2) → tas σ H1 Q
theorem ts_nil : EvTs tNil σ H [] := fun H1 e Q q => q H1 (Same.refl H1)
theorem ts_cons {xs : List (List Nat)} (h : EvR rS te σ H (SX.S a)) (r : EvTs tas σ H xs) : EvTs (tCons te tas) σ H (a :: xs) := fun H1 e Q q => h H1 e _ fun v H2 e2 hv => r H2 (e.trans e2) _ fun H3 e3 => by
  have ev : v = V.str (SX.S a) := hv
  subst ev
  exact q H3 (e2.trans e3)
theorem n_ts {xs : List (List Nat)} (h : EvTs tas σ H xs) (hl : xs.length ≤ 1000) : EvN (tLst tas) σ H (xs.map fun t => .str (SX.S t)) := fun H1 e Q q => h H1 e _ fun H2 e2 => ⟨by rw [List.length_map]; exact Nat.le_trans hl (by decide), fun l hl => q l _ (e2.trans (same_new hl)) (Same.free e2 hl) upd_same⟩
/-- a loop over a list that is made there, of which P is known -/
theorem q_forX (P : Hp → List V → Prop) (h : ∀ Q : VK, (∀ (l : Addr) (xs : List V) H2, Same H H2 → H2 l = some (.lst xs) → P H2 xs → Q (.ref l) H2) → tl σ H Q) (Pv : Hp → Nat → L2.St → Hp → Prop) (h0 : ∀ H1, Same H H1 → Pv H1 0 σ H1) (hk : ∀ H1 i σ' H', Pv H1 i σ' H' → Same H1 H')
    (hs : ∀ H1 (xs : List V) (i : Nat) v σ' H', Same H H1 → P H1 xs → xs[i]? = some v → Pv H1 i σ' H' → ts { D with nx := Pv H1 (i + 1), ct := Pv H1 (i + 1), bk := tz D } (σ'.set j (some v)) H') (hd : ∀ H1 (n : Nat) σ' H', Same H H1 → Pv H1 n σ' H' → tz D σ' H') :
    tSeq (tFor (iList K tl) (gName j) ts) tz D σ H := h _ fun l xs H1 e hl hP =>
  ⟨l, rfl, ⟨xs, SqL.of hl⟩, for_it (walk_list (xs := xs)) (Pv H1) (h0 H1 e) (fun i σ' H' _ q => SqL.of (hk H1 i σ' H' q l _ hl)) (fun i v σ' H2 H' hi q y => by
    obtain ⟨rfl, hx⟩ := y
    exact hs H1 xs i v σ' _ e hP hx q) (fun σ' H' q => hd H1 _ σ' H' e q)⟩
end
end XE

namespace XC
open PySem PySem.Spec PyProof.Rows L2 He
theorem fnz {P : Program} {w : World} {K : PySem.W.Frag} {mg : Str → Option Value} {base : Heap} {x q : Str} {params : Arguments} {body : List Stmt} {scope : Scope} {N ps : List Str} {k : Nat} {sp : Sp} {f : Addr} {fd : FuncData} (F : FunD K x q params body scope [] [] f fd)
    (sc : FnScope N ps scope) (len : ∀ vs H Q E, sp vs H Q E → vs.length = ps.length)
    (hbody : ∀ (cdv : Value) (A : Around) (outer : List Env) (s : Shared) (H : Hp) (vs : List V) (Q : VK) (E : XK), Room k (A.deeper (envOfC q scope s.heap.objs.size f cdv)) → sp vs H Q E →
      ∃ t, PSs (cxOf C8.CX0 P w K mg base N q scope f cdv A outer s H E).nox body t ∧ t { nx := fun _ H' => Q .non H', rt := Q } (L2.start N vs) H) : FnOk P w K mg base C8.CX0 (k + 1) f fd ps sp :=
  F.ok sc len fun cdv A outer s H vs Q E hr hsp => by
    obtain ⟨t, h1, h2⟩ := hbody cdv A outer s H vs Q E hr hsp
    exact ⟨t, h1.nox, h2⟩
/-- the own exception of the head's facts -/
theorem exn_of {P : Program} {w : World} {K : PySem.W.Frag} {mg : Str → Option Value} {base : Heap} {x f arg msg qual : Str} {params : Arguments} {scope : Scope} {j : Nat} {p0 p1 p2 p3 p4 p5 p6 p7 p8 p9 : Pos}
    (h1 : XH.oexB K (ga K x) = true) (h2 : XH.supB P K (ga K x) qual f = true) (h3 : xfB K (ga K x) = true) (hm : mg x = some (.ref (ga K x)))
    (e : XH.supO K (ga K x) = (some (("__init__" : Str), qual, params, FuncBody.stmts (supBody msg f arg j p0 p1 p2 p3 p4 p5 p6 p7 p8 p9), scope, mainGlobals, builtinsNs) : XH.SupV)) (X : SupTx P arg params scope) (hl : (p2.endLine == p4.line) = true) (hms : mg "super" = none)
    (bd : ∀ (kV doc pm ct : Value) (an : Option Addr) (cda cc : Addr) (us : List Value), us.length = (["self", arg] : List Str).length → bindArgs (PySem.W.ksFn "__init__" qual params (supBody msg f arg j p0 p1 p2 p3 p4 p5 p6 p7 p8 p9) scope .none kV doc pm an (.ref cda) ct cc) ⟨us, []⟩ = pure ((["self", arg] : List Str).zip us)) : Exn P w K mg base x f := by
  obtain ⟨⟨cda, cc, an, kV, doc, pm, ct, S⟩, h4, h5⟩ := XH.supB_ok h2 e
  have T := XH.oexB_ok h1
  exact ⟨⟨_, _, _, h4, h5, fn_sup T S X hl hms, Binds.all (bd kV doc pm ct an cda cc)⟩, T, xfB_ok h3, hm, S.no⟩
end XC
end
section
set_option Elab.async false
set_option linter.all false
set_option maxRecDepth 100000
set_option maxHeartbeats 4000000
/-! An if whose test ends in a written int (so that a token was made) over a suite that wants one: text.replace of written texts. -/
namespace XR
open PySem PySem.Spec PyProof.Rows L2
theorem ps_ifK {X : Cx} {a : Expr} {ta : TE} {op : CmpOp} {r : R2} {n : Int} {j : Nat} {cp p1 pos : Pos} {b d : List Stmt} {t u : TS} (ho : OpR X (compareOp op) r) (ha : PE X a ta) (hm : behindInMarks op (.Constant (.int n) j cp) = false) (hs : PSsT X b t) (hr : PSs X d u) :
    PS X (.If (.Compare a [op] [.Constant (.int n) j cp] p1) b d pos) (tIfS (tTest (tOp r ta (tC (.int n)))) t u) := by
  refine ⟨fun pins s σ H D I h => ?_⟩
  refine wpAny_If (wpAny_isTrue_Compare1 (thn (ha.run pins s σ H _ I h) fun v s1 ⟨x, H1, I1, r1, q1⟩ => wpAny_Constant_int ?_) hm)
  refine wpAny_mono (wpAny_toks_of (n := 1) (by show 1 ≤ s1.toks + 1; omega) (ho pins _ σ H1 x (.int n) v (.int n s1.toks) _ (I1.tok _) r1 ⟨_, rfl⟩ q1)) (fun c s3 q => ?_) fun _ _ z => z.2
  obtain ⟨ht, z, H3, I3, r3, k, e, q3⟩ := q
  subst e
  cases r3
  refine wpAny_truthy_bool ?_
  cases k with
  | true => exact hs pins s3 σ H3 D ht I3 q3
  | false => exact hr.run pins s3 σ H3 D I3 q3
end XR
end
section
set_option Elab.async false
set_option linter.all false
set_option maxRecDepth 100000
set_option maxHeartbeats 4000000
namespace K84
open PySem PySem.Spec PyProof.Rows L2
def top (i : Nat) : Stmt := PySem.Challenge.pw_putbetween_k84_whole_shapes_read.main.body.getD i (.Pass ⟨0, 0, 0, 0⟩)
abbrev s_TooLarge_init : Stmt := inClass (top 2) 0
abbrev N_TooLarge_init : List Str := ["self", "most"]
abbrev s_BadShape_init : Stmt := inClass (top 3) 0
abbrev N_BadShape_init : List Str := ["self", "at"]
abbrev s_shifted : Stmt := top 6
abbrev N_shifted : List Str := ["plan", "step", "ahead", "item", "seen"]
theorem sc_shifted : FnScope N_shifted ["plan", "step", "ahead"] (defScope s_shifted) := C8.fnScope_by (by decide +kernel)
abbrev s_behind_of : Stmt := top 7
abbrev N_behind_of : List Str := ["one", "other"]
theorem sc_behind_of : FnScope N_behind_of ["one", "other"] (defScope s_behind_of) := C8.fnScope_by (by decide +kernel)
abbrev s_beside_of : Stmt := top 8
abbrev N_beside_of : List Str := ["one", "other"]
theorem sc_beside_of : FnScope N_beside_of ["one", "other"] (defScope s_beside_of) := C8.fnScope_by (by decide +kernel)
abbrev s_repeated_of : Stmt := top 9
abbrev N_repeated_of : List Str := ["plan", "times", "found", "turn"]
theorem sc_repeated_of : FnScope N_repeated_of ["plan", "times"] (defScope s_repeated_of) := C8.fnScope_by (by decide +kernel)
abbrev s_Scan_init : Stmt := inClass (top 14) 0
abbrev N_Scan_init : List Str := ["self"]
theorem sc_Scan_init : FnScope N_Scan_init ["self"] (defScope s_Scan_init) := C8.fnScope_by (by decide +kernel)
abbrev s_Scan_take : Stmt := inClass (top 14) 1
abbrev N_Scan_take : List Str := ["self", "sign"]
theorem sc_Scan_take : FnScope N_Scan_take ["self", "sign"] (defScope s_Scan_take) := C8.fnScope_by (by decide +kernel)
abbrev s_check_shape : Stmt := top 15
abbrev N_check_shape : List Str := ["text", "scan", "at", "sign"]
theorem sc_check_shape : FnScope N_check_shape ["text"] (defScope s_check_shape) := C8.fnScope_by (by decide +kernel)
abbrev s_both_of : Stmt := top 16
abbrev N_both_of : List Str := ["one", "other", "way"]
theorem sc_both_of : FnScope N_both_of ["one", "other", "way"] (defScope s_both_of) := C8.fnScope_by (by decide +kernel)
abbrev s_times_of : Stmt := top 17
abbrev N_times_of : List Str := ["plan", "times"]
theorem sc_times_of : FnScope N_times_of ["plan", "times"] (defScope s_times_of) := C8.fnScope_by (by decide +kernel)
abbrev s_Level_init : Stmt := inClass (top 18) 0
abbrev N_Level_init : List Str := ["self", "times"]
theorem sc_Level_init : FnScope N_Level_init ["self", "times"] (defScope s_Level_init) := C8.fnScope_by (by decide +kernel)
abbrev s_Level_add : Stmt := inClass (top 18) 1
abbrev N_Level_add : List Str := ["self", "unit"]
theorem sc_Level_add : FnScope N_Level_add ["self", "unit"] (defScope s_Level_add) := C8.fnScope_by (by decide +kernel)
abbrev s_Level_turn : Stmt := inClass (top 18) 2
abbrev N_Level_turn : List Str := ["self"]
theorem sc_Level_turn : FnScope N_Level_turn ["self"] (defScope s_Level_turn) := C8.fnScope_by (by decide +kernel)
abbrev s_raw_shape : Stmt := top 19
abbrev N_raw_shape : List Str := ["text", "levels", "times", "sign", "done"]
theorem sc_raw_shape : FnScope N_raw_shape ["text"] (defScope s_raw_shape) := C8.fnScope_by (by decide +kernel)
abbrev s_read_shape : Stmt := top 20
abbrev N_read_shape : List Str := ["text", "plan"]
theorem sc_read_shape : FnScope N_read_shape ["text"] (defScope s_read_shape) := C8.fnScope_by (by decide +kernel)
abbrev s_law_pool : Stmt := top 22
abbrev N_law_pool : List Str := ["_law_script", "_law_seed", "_law_cell"]
theorem sc_law_pool : FnScope N_law_pool ["_law_script"] (defScope s_law_pool) := C8.fnScope_by (by decide +kernel)
abbrev s_law_draw : Stmt := top 23
abbrev N_law_draw : List Str := ["_law_pool_here", "_law_many", "_law_cells", "_law_digit", "_law_mixed"]
theorem sc_law_draw : FnScope N_law_draw ["_law_pool_here", "_law_many"] (defScope s_law_draw) := C8.fnScope_by (by decide +kernel)
abbrev s_law_behind : Stmt := top 24
abbrev N_law_behind : List Str := ["_law_one", "_law_other", "_law_found", "_law_row", "_law_item"]
theorem sc_law_behind : FnScope N_law_behind ["_law_one", "_law_other"] (defScope s_law_behind) := C8.fnScope_by (by decide +kernel)
abbrev s_law_beside : Stmt := top 25
abbrev N_law_beside : List Str := ["_law_one", "_law_other", "_law_found", "_law_row", "_law_item"]
theorem sc_law_beside : FnScope N_law_beside ["_law_one", "_law_other"] (defScope s_law_beside) := C8.fnScope_by (by decide +kernel)
abbrev s_law_unit : Stmt := top 26
abbrev N_law_unit : List Str := ["_law_pool_here", "_law_room", "_law_deep", "_law_times", "_law_text", "_law_inner", "_law_plan", "_law_turn"]
theorem sc_law_unit : FnScope N_law_unit ["_law_pool_here", "_law_room", "_law_deep"] (defScope s_law_unit) := C8.fnScope_by (by decide +kernel)
abbrev s_law_shape : Stmt := top 27
abbrev N_law_shape : List Str := ["_law_pool_here", "_law_room", "_law_deep", "_law_text", "_law_sides", "_law_turn", "_law_row", "_law_words", "_law_again", "_law_left", "_law_more"]
theorem sc_law_shape : FnScope N_law_shape ["_law_pool_here", "_law_room", "_law_deep"] (defScope s_law_shape) := C8.fnScope_by (by decide +kernel)
abbrev s_law_scanned : Stmt := top 28
abbrev N_law_scanned : List Str := ["_law_text", "_law_state", "_law_number", "_law_deep", "_law_at", "_law_sign"]
theorem sc_law_scanned : FnScope N_law_scanned ["_law_text"] (defScope s_law_scanned) := C8.fnScope_by (by decide +kernel)
abbrev s_law_told : Stmt := top 29
abbrev N_law_told : List Str := ["_law_text", "_law_told_here", "e"]
theorem sc_law_told : FnScope N_law_told ["_law_text"] (defScope s_law_told) := C8.fnScope_by (by decide +kernel)
abbrev s_law_bracketed : Stmt := top 30
abbrev N_law_bracketed : List Str := ["_law_pool_here", "_law_text", "_law_spots", "_law_k", "_law_spot", "_law_word", "_law_end", "_law_sign"]
theorem sc_law_bracketed : FnScope N_law_bracketed ["_law_pool_here", "_law_text"] (defScope s_law_bracketed) := C8.fnScope_by (by decide +kernel)
abbrev s_law_large : Stmt := top 31
abbrev N_law_large : List Str := ["_law_pool_here", "_law_text", "_law_many", "_law_kind", "_law_times", "_law_deep"]
theorem sc_law_large : FnScope N_law_large ["_law_pool_here", "_law_text", "_law_many"] (defScope s_law_large) := C8.fnScope_by (by decide +kernel)
abbrev s_law : Stmt := top 32
abbrev N_law : List Str := ["_law_script", "_law_pool_here", "_law_turn", "_law_text", "_law_plan", "_law_more", "_law_great", "_law_deep", "_law_item"]
theorem sc_law : FnScope N_law ["_law_script"] (defScope s_law) := C8.fnScope_by (by decide +kernel)
/-! the head -/
open He XH
def fa : List Fa := [.glo "BetweenError", .glo "TooLarge", .glo "BadShape", .int "MOST_ITEMS" 40, .glo "shifted", .glo "behind_of", .glo "beside_of", .glo "repeated_of", .str "FIGURES" "0123456789", .glo "SINGLE", .int "MOST_TIMES" 40, .glo "Scan", .glo "check_shape", .glo "both_of", .glo "times_of", .glo "Level", .glo "raw_shape", .glo "read_shape", .glo "_law_pool", .glo "_law_draw", .glo "_law_behind", .glo "_law_beside", .glo "_law_unit", .glo "_law_shape", .glo "_law_scanned", .glo "_law_told", .glo "_law_bracketed", .glo "_law_large", .glo "law", .free "tuple"] ++ [.free "range", .free "enumerate", .free "list", .free "isinstance", .free "str", .free "len", .free "int", .free "abs", .free "super", .free "min", .free "sum", .free "max", .free "ValueError", .cls "Scan", .noat "Scan" "number", .noat "Scan" "is_done", .noat "Scan" "brackets", .meth "Scan" "take", .mkr "Scan", .cls "Level", .noat "Level" "times", .noat "Level" "sides", .noat "Level" "row", .meth "Level" "add", .meth "Level" "turn", .mkr "Level", .exm "TooLarge" "TooLarge" true]
def fn : List DefD := [⟨("shifted", none), "shifted", "shifted", defArgs s_shifted, defBody s_shifted, defScope s_shifted, [], []⟩, ⟨("behind_of", none), "behind_of", "behind_of", defArgs s_behind_of, defBody s_behind_of, defScope s_behind_of, [], []⟩, ⟨("beside_of", none), "beside_of", "beside_of", defArgs s_beside_of, defBody s_beside_of, defScope s_beside_of, [], []⟩, ⟨("repeated_of", none), "repeated_of", "repeated_of", defArgs s_repeated_of, defBody s_repeated_of, defScope s_repeated_of, [], []⟩, ⟨("Scan", some "__init__"), "__init__", "Scan.__init__", defArgs s_Scan_init, defBody s_Scan_init, defScope s_Scan_init, [], []⟩, ⟨("Scan", some "take"), "take", "Scan.take", defArgs s_Scan_take, defBody s_Scan_take, defScope s_Scan_take, [], []⟩, ⟨("check_shape", none), "check_shape", "check_shape", defArgs s_check_shape, defBody s_check_shape, defScope s_check_shape, [], []⟩, ⟨("both_of", none), "both_of", "both_of", defArgs s_both_of, defBody s_both_of, defScope s_both_of, [], []⟩, ⟨("times_of", none), "times_of", "times_of", defArgs s_times_of, defBody s_times_of, defScope s_times_of, [], []⟩, ⟨("Level", some "__init__"), "__init__", "Level.__init__", defArgs s_Level_init, defBody s_Level_init, defScope s_Level_init, [], []⟩, ⟨("Level", some "add"), "add", "Level.add", defArgs s_Level_add, defBody s_Level_add, defScope s_Level_add, [], []⟩, ⟨("Level", some "turn"), "turn", "Level.turn", defArgs s_Level_turn, defBody s_Level_turn, defScope s_Level_turn, [], []⟩] ++ [⟨("raw_shape", none), "raw_shape", "raw_shape", defArgs s_raw_shape, defBody s_raw_shape, defScope s_raw_shape, [], []⟩, ⟨("read_shape", none), "read_shape", "read_shape", defArgs s_read_shape, defBody s_read_shape, defScope s_read_shape, [], []⟩, ⟨("_law_pool", none), "_law_pool", "_law_pool", defArgs s_law_pool, defBody s_law_pool, defScope s_law_pool, [], []⟩, ⟨("_law_draw", none), "_law_draw", "_law_draw", defArgs s_law_draw, defBody s_law_draw, defScope s_law_draw, [], []⟩, ⟨("_law_behind", none), "_law_behind", "_law_behind", defArgs s_law_behind, defBody s_law_behind, defScope s_law_behind, [], []⟩, ⟨("_law_beside", none), "_law_beside", "_law_beside", defArgs s_law_beside, defBody s_law_beside, defScope s_law_beside, [], []⟩, ⟨("_law_unit", none), "_law_unit", "_law_unit", defArgs s_law_unit, defBody s_law_unit, defScope s_law_unit, [], []⟩, ⟨("_law_shape", none), "_law_shape", "_law_shape", defArgs s_law_shape, defBody s_law_shape, defScope s_law_shape, [], []⟩, ⟨("_law_scanned", none), "_law_scanned", "_law_scanned", defArgs s_law_scanned, defBody s_law_scanned, defScope s_law_scanned, [], []⟩, ⟨("_law_told", none), "_law_told", "_law_told", defArgs s_law_told, defBody s_law_told, defScope s_law_told, [], []⟩, ⟨("_law_bracketed", none), "_law_bracketed", "_law_bracketed", defArgs s_law_bracketed, defBody s_law_bracketed, defScope s_law_bracketed, [], []⟩, ⟨("_law_large", none), "_law_large", "_law_large", defArgs s_law_large, defBody s_law_large, defScope s_law_large, [], []⟩] ++ [⟨("law", none), "law", "law", defArgs s_law, defBody s_law, defScope s_law, [], []⟩]
def su : List (Str × SupV) := [("TooLarge", some ("__init__", "TooLarge.__init__", defArgs s_TooLarge_init, .stmts (defBody s_TooLarge_init), defScope s_TooLarge_init, mainGlobals, builtinsNs)), ("BadShape", some ("__init__", "BadShape.__init__", defArgs s_BadShape_init, .stmts (defBody s_BadShape_init), defScope s_BadShape_init, mainGlobals, builtinsNs))]
def ex (K : PySem.W.Frag) : Bool := (oexB K (ga K "TooLarge") && (supB PySem.Challenge.pw_putbetween_k84_whole_shapes_read K (ga K "TooLarge") "TooLarge.__init__" "most" && xfB K (ga K "TooLarge"))) && (oexB K (ga K "BadShape") && (supB PySem.Challenge.pw_putbetween_k84_whole_shapes_read K (ga K "BadShape") "BadShape.__init__" "at" && xfB K (ga K "BadShape"))) && nestB K "SINGLE" 1
abbrev R : PySem.W.OpenRow := PySem.W.OpenLaw.row PySem.Challenge.rw_putbetween_k84_whole_shapes_read
abbrev hk : PySem.W.Hook := hookY 6 fa fn ex su
def ob (s : PySem.W.SharedT) : AlY := obsY 6 fa fn ex su (HandSHeadRun.getT s)
theorem ob_eq (s : PySem.W.SharedT) : ob s = hk.obs s.abs := obsY_eq (HandSHeadRun.getT_eq s)
def loose : List Str := (["__name__", "BetweenError", "TooLarge", "BadShape", "MOST_ITEMS", "shifted", "behind_of", "beside_of", "repeated_of", "FIGURES", "SINGLE", "MOST_TIMES", "Scan", "check_shape", "both_of", "times_of", "Level", "raw_shape", "read_shape", "_law_pool", "_law_draw", "_law_behind", "_law_beside", "_law_unit", "_law_shape", "_law_scanned", "_law_told", "_law_bracketed", "_law_large"] : List Str)
theorem run (w : World) : HandSHeadRun.RunEq R (PySem.W.view R.prog [32]) hk ob 3000 loose w := by
  intro os
  kernel_rfl
end K84
end
section
set_option Elab.async false
set_option linter.all false
set_option maxRecDepth 100000
set_option maxHeartbeats 4000000
namespace K84
open PySem PySem.Spec PyProof.Rows L2 XE
abbrev Pl := List (List Nat)
abbrev rP (K : PySem.W.Frag) : Rp Pl := rT K (rT K rN)
def shiftP (p : Pl) (s : Nat) (ah : List Nat) : Pl := p.map fun row => ah ++ row.map (· + s)
def behindP (a b : Pl) : Pl := a ++ shiftP b a.length (List.range a.length)
def besideP (a b : Pl) : Pl := a ++ shiftP b a.length []
def repP (p : Pl) : Nat → Pl
  | 0 => []
  | n + 1 => behindP (repP p n) p
/-- no row longer than the plan -/
def Wf (p : Pl) : Prop := ∀ row ∈ p, row.length ≤ p.length
theorem shiftP_len (p : Pl) (s : Nat) (ah : List Nat) : (shiftP p s ah).length = p.length := by unfold shiftP; rw [List.length_map]
theorem behindP_len (a b : Pl) : (behindP a b).length = a.length + b.length := by unfold behindP; rw [List.length_append, shiftP_len]
theorem besideP_len (a b : Pl) : (besideP a b).length = a.length + b.length := by unfold besideP; rw [List.length_append, shiftP_len]
theorem repP_len (p : Pl) : ∀ n, (repP p n).length = p.length * n
  | 0 => rfl
  | n + 1 => by rw [repP, behindP_len, repP_len p n, Nat.mul_succ]
theorem wf_nil : Wf [] := fun _ h => by cases h
theorem wf_behind {a b : Pl} (ha : Wf a) (hb : Wf b) : Wf (behindP a b) := fun row h => by
  rw [behindP_len]
  rcases List.mem_append.mp h with h | h
  · have := ha row h; omega
  · obtain ⟨r, hr, rfl⟩ := List.mem_map.mp h
    have := hb r hr
    rw [List.length_append, List.length_map, List.length_range]; omega
theorem wf_beside {a b : Pl} (ha : Wf a) (hb : Wf b) : Wf (besideP a b) := fun row h => by
  rw [besideP_len]
  rcases List.mem_append.mp h with h | h
  · have := ha row h; omega
  · obtain ⟨r, hr, rfl⟩ := List.mem_map.mp h
    have := hb r hr
    rw [List.length_append, List.length_map, List.length_nil]; omega
theorem wf_rep {p : Pl} (h : Wf p) : ∀ n, Wf (repP p n)
  | 0 => wf_nil
  | n + 1 => wf_behind (wf_rep h n) h
section
variable {P : Program} {w : World} {K : PySem.W.Frag} {mg : Str → Option Value} {base : Heap}
theorem g_BetweenError (S : XC.Ctx fa fn P w K mg base) : ∃ u, mg "BetweenError" = some u ∧ RelV (.ref (He.ga K "BetweenError")) u := S.ref 0 rfl
theorem a_BetweenError (S : XC.Ctx fa fn P w K mg base) : mg "BetweenError" = some (.ref (He.ga K "BetweenError")) := S.glo 0 rfl
theorem g_TooLarge (S : XC.Ctx fa fn P w K mg base) : ∃ u, mg "TooLarge" = some u ∧ RelV (.ref (He.ga K "TooLarge")) u := S.ref 1 rfl
theorem a_TooLarge (S : XC.Ctx fa fn P w K mg base) : mg "TooLarge" = some (.ref (He.ga K "TooLarge")) := S.glo 1 rfl
theorem g_BadShape (S : XC.Ctx fa fn P w K mg base) : ∃ u, mg "BadShape" = some u ∧ RelV (.ref (He.ga K "BadShape")) u := S.ref 2 rfl
theorem a_BadShape (S : XC.Ctx fa fn P w K mg base) : mg "BadShape" = some (.ref (He.ga K "BadShape")) := S.glo 2 rfl
theorem g_MOST_ITEMS (S : XC.Ctx fa fn P w K mg base) : ∃ u, mg "MOST_ITEMS" = some u ∧ RelV (.int 40) u := S.int 3 rfl
theorem g_shifted (S : XC.Ctx fa fn P w K mg base) : ∃ u, mg "shifted" = some u ∧ RelV (.ref (He.ga K "shifted")) u := S.ref 4 rfl
theorem a_shifted (S : XC.Ctx fa fn P w K mg base) : mg "shifted" = some (.ref (He.ga K "shifted")) := S.glo 4 rfl
theorem g_behind_of (S : XC.Ctx fa fn P w K mg base) : ∃ u, mg "behind_of" = some u ∧ RelV (.ref (He.ga K "behind_of")) u := S.ref 5 rfl
theorem a_behind_of (S : XC.Ctx fa fn P w K mg base) : mg "behind_of" = some (.ref (He.ga K "behind_of")) := S.glo 5 rfl
theorem g_beside_of (S : XC.Ctx fa fn P w K mg base) : ∃ u, mg "beside_of" = some u ∧ RelV (.ref (He.ga K "beside_of")) u := S.ref 6 rfl
theorem a_beside_of (S : XC.Ctx fa fn P w K mg base) : mg "beside_of" = some (.ref (He.ga K "beside_of")) := S.glo 6 rfl
theorem g_repeated_of (S : XC.Ctx fa fn P w K mg base) : ∃ u, mg "repeated_of" = some u ∧ RelV (.ref (He.ga K "repeated_of")) u := S.ref 7 rfl
theorem a_repeated_of (S : XC.Ctx fa fn P w K mg base) : mg "repeated_of" = some (.ref (He.ga K "repeated_of")) := S.glo 7 rfl
theorem g_FIGURES (S : XC.Ctx fa fn P w K mg base) : ∃ u, mg "FIGURES" = some u ∧ RelV (.str "0123456789") u := S.str 8 rfl
theorem g_SINGLE (S : XC.Ctx fa fn P w K mg base) : ∃ u, mg "SINGLE" = some u ∧ RelV (.ref (He.ga K "SINGLE")) u := S.ref 9 rfl
theorem a_SINGLE (S : XC.Ctx fa fn P w K mg base) : mg "SINGLE" = some (.ref (He.ga K "SINGLE")) := S.glo 9 rfl
theorem g_MOST_TIMES (S : XC.Ctx fa fn P w K mg base) : ∃ u, mg "MOST_TIMES" = some u ∧ RelV (.int 40) u := S.int 10 rfl
theorem g_Scan (S : XC.Ctx fa fn P w K mg base) : ∃ u, mg "Scan" = some u ∧ RelV (.ref (He.ga K "Scan")) u := S.ref 11 rfl
theorem a_Scan (S : XC.Ctx fa fn P w K mg base) : mg "Scan" = some (.ref (He.ga K "Scan")) := S.glo 11 rfl
theorem g_check_shape (S : XC.Ctx fa fn P w K mg base) : ∃ u, mg "check_shape" = some u ∧ RelV (.ref (He.ga K "check_shape")) u := S.ref 12 rfl
theorem a_check_shape (S : XC.Ctx fa fn P w K mg base) : mg "check_shape" = some (.ref (He.ga K "check_shape")) := S.glo 12 rfl
theorem g_both_of (S : XC.Ctx fa fn P w K mg base) : ∃ u, mg "both_of" = some u ∧ RelV (.ref (He.ga K "both_of")) u := S.ref 13 rfl
theorem a_both_of (S : XC.Ctx fa fn P w K mg base) : mg "both_of" = some (.ref (He.ga K "both_of")) := S.glo 13 rfl
theorem g_times_of (S : XC.Ctx fa fn P w K mg base) : ∃ u, mg "times_of" = some u ∧ RelV (.ref (He.ga K "times_of")) u := S.ref 14 rfl
theorem a_times_of (S : XC.Ctx fa fn P w K mg base) : mg "times_of" = some (.ref (He.ga K "times_of")) := S.glo 14 rfl
theorem g_Level (S : XC.Ctx fa fn P w K mg base) : ∃ u, mg "Level" = some u ∧ RelV (.ref (He.ga K "Level")) u := S.ref 15 rfl
theorem a_Level (S : XC.Ctx fa fn P w K mg base) : mg "Level" = some (.ref (He.ga K "Level")) := S.glo 15 rfl
theorem g_raw_shape (S : XC.Ctx fa fn P w K mg base) : ∃ u, mg "raw_shape" = some u ∧ RelV (.ref (He.ga K "raw_shape")) u := S.ref 16 rfl
theorem a_raw_shape (S : XC.Ctx fa fn P w K mg base) : mg "raw_shape" = some (.ref (He.ga K "raw_shape")) := S.glo 16 rfl
theorem g_read_shape (S : XC.Ctx fa fn P w K mg base) : ∃ u, mg "read_shape" = some u ∧ RelV (.ref (He.ga K "read_shape")) u := S.ref 17 rfl
theorem a_read_shape (S : XC.Ctx fa fn P w K mg base) : mg "read_shape" = some (.ref (He.ga K "read_shape")) := S.glo 17 rfl
theorem g__law_pool (S : XC.Ctx fa fn P w K mg base) : ∃ u, mg "_law_pool" = some u ∧ RelV (.ref (He.ga K "_law_pool")) u := S.ref 18 rfl
theorem a__law_pool (S : XC.Ctx fa fn P w K mg base) : mg "_law_pool" = some (.ref (He.ga K "_law_pool")) := S.glo 18 rfl
theorem g__law_draw (S : XC.Ctx fa fn P w K mg base) : ∃ u, mg "_law_draw" = some u ∧ RelV (.ref (He.ga K "_law_draw")) u := S.ref 19 rfl
theorem a__law_draw (S : XC.Ctx fa fn P w K mg base) : mg "_law_draw" = some (.ref (He.ga K "_law_draw")) := S.glo 19 rfl
theorem g__law_behind (S : XC.Ctx fa fn P w K mg base) : ∃ u, mg "_law_behind" = some u ∧ RelV (.ref (He.ga K "_law_behind")) u := S.ref 20 rfl
theorem a__law_behind (S : XC.Ctx fa fn P w K mg base) : mg "_law_behind" = some (.ref (He.ga K "_law_behind")) := S.glo 20 rfl
theorem g__law_beside (S : XC.Ctx fa fn P w K mg base) : ∃ u, mg "_law_beside" = some u ∧ RelV (.ref (He.ga K "_law_beside")) u := S.ref 21 rfl
theorem a__law_beside (S : XC.Ctx fa fn P w K mg base) : mg "_law_beside" = some (.ref (He.ga K "_law_beside")) := S.glo 21 rfl
theorem g__law_unit (S : XC.Ctx fa fn P w K mg base) : ∃ u, mg "_law_unit" = some u ∧ RelV (.ref (He.ga K "_law_unit")) u := S.ref 22 rfl
theorem a__law_unit (S : XC.Ctx fa fn P w K mg base) : mg "_law_unit" = some (.ref (He.ga K "_law_unit")) := S.glo 22 rfl
theorem g__law_shape (S : XC.Ctx fa fn P w K mg base) : ∃ u, mg "_law_shape" = some u ∧ RelV (.ref (He.ga K "_law_shape")) u := S.ref 23 rfl
theorem a__law_shape (S : XC.Ctx fa fn P w K mg base) : mg "_law_shape" = some (.ref (He.ga K "_law_shape")) := S.glo 23 rfl
theorem g__law_scanned (S : XC.Ctx fa fn P w K mg base) : ∃ u, mg "_law_scanned" = some u ∧ RelV (.ref (He.ga K "_law_scanned")) u := S.ref 24 rfl
theorem a__law_scanned (S : XC.Ctx fa fn P w K mg base) : mg "_law_scanned" = some (.ref (He.ga K "_law_scanned")) := S.glo 24 rfl
theorem g__law_told (S : XC.Ctx fa fn P w K mg base) : ∃ u, mg "_law_told" = some u ∧ RelV (.ref (He.ga K "_law_told")) u := S.ref 25 rfl
theorem a__law_told (S : XC.Ctx fa fn P w K mg base) : mg "_law_told" = some (.ref (He.ga K "_law_told")) := S.glo 25 rfl
theorem g__law_bracketed (S : XC.Ctx fa fn P w K mg base) : ∃ u, mg "_law_bracketed" = some u ∧ RelV (.ref (He.ga K "_law_bracketed")) u := S.ref 26 rfl
theorem a__law_bracketed (S : XC.Ctx fa fn P w K mg base) : mg "_law_bracketed" = some (.ref (He.ga K "_law_bracketed")) := S.glo 26 rfl
theorem g__law_large (S : XC.Ctx fa fn P w K mg base) : ∃ u, mg "_law_large" = some u ∧ RelV (.ref (He.ga K "_law_large")) u := S.ref 27 rfl
theorem a__law_large (S : XC.Ctx fa fn P w K mg base) : mg "_law_large" = some (.ref (He.ga K "_law_large")) := S.glo 27 rfl
theorem g_law (S : XC.Ctx fa fn P w K mg base) : ∃ u, mg "law" = some u ∧ RelV (.ref (He.ga K "law")) u := S.ref 28 rfl
theorem a_law (S : XC.Ctx fa fn P w K mg base) : mg "law" = some (.ref (He.ga K "law")) := S.glo 28 rfl
theorem fr_tuple (S : XC.Ctx fa fn P w K mg base) : mg "tuple" = none := S.free 29 rfl
theorem fr_range (S : XC.Ctx fa fn P w K mg base) : mg "range" = none := S.free 30 rfl
theorem fr_enumerate (S : XC.Ctx fa fn P w K mg base) : mg "enumerate" = none := S.free 31 rfl
theorem fr_list (S : XC.Ctx fa fn P w K mg base) : mg "list" = none := S.free 32 rfl
theorem fr_isinstance (S : XC.Ctx fa fn P w K mg base) : mg "isinstance" = none := S.free 33 rfl
theorem fr_str (S : XC.Ctx fa fn P w K mg base) : mg "str" = none := S.free 34 rfl
theorem fr_len (S : XC.Ctx fa fn P w K mg base) : mg "len" = none := S.free 35 rfl
theorem fr_int (S : XC.Ctx fa fn P w K mg base) : mg "int" = none := S.free 36 rfl
theorem fr_abs (S : XC.Ctx fa fn P w K mg base) : mg "abs" = none := S.free 37 rfl
theorem fr_super (S : XC.Ctx fa fn P w K mg base) : mg "super" = none := S.free 38 rfl
theorem fr_min (S : XC.Ctx fa fn P w K mg base) : mg "min" = none := S.free 39 rfl
theorem fr_sum (S : XC.Ctx fa fn P w K mg base) : mg "sum" = none := S.free 40 rfl
theorem fr_max (S : XC.Ctx fa fn P w K mg base) : mg "max" = none := S.free 41 rfl
theorem fr_ValueError (S : XC.Ctx fa fn P w K mg base) : mg "ValueError" = none := S.free 42 rfl
theorem cl_Scan (S : XC.Ctx fa fn P w K mg base) : Cls K (He.ga K "Scan") := S.cls 43 rfl
theorem na_Scan_number (S : XC.Ctx fa fn P w K mg base) : NoAttr K (He.ga K "Scan") "number" := S.noat 44 rfl
theorem na_Scan_is_done (S : XC.Ctx fa fn P w K mg base) : NoAttr K (He.ga K "Scan") "is_done" := S.noat 45 rfl
theorem na_Scan_brackets (S : XC.Ctx fa fn P w K mg base) : NoAttr K (He.ga K "Scan") "brackets" := S.noat 46 rfl
theorem cl_Level (S : XC.Ctx fa fn P w K mg base) : Cls K (He.ga K "Level") := S.cls 49 rfl
theorem na_Level_times (S : XC.Ctx fa fn P w K mg base) : NoAttr K (He.ga K "Level") "times" := S.noat 50 rfl
theorem na_Level_sides (S : XC.Ctx fa fn P w K mg base) : NoAttr K (He.ga K "Level") "sides" := S.noat 51 rfl
theorem na_Level_row (S : XC.Ctx fa fn P w K mg base) : NoAttr K (He.ga K "Level") "row" := S.noat 52 rfl
end
section
variable {P : Program} {w : World} {K : PySem.W.Frag} {mg : Str → Option Value} {base : Heap}
def spShift (K : PySem.W.Frag) : Sp := sp3 (rP K) rN (rT K rN) (rP K) fun p s ah c => p.length ≤ 1000 ∧ (∀ row ∈ p, row.length ≤ 1000) ∧ ah.length ≤ 1000 ∧ c = shiftP p s ah
/-- shifted: 0 plan, 1 step, 2 ahead, 3 item, 4 seen -/
theorem c_shifted (S : XC.Ctx fa fn P w K mg base) : C8.Cal P w K mg base 1 "shifted" (spShift K) [] := S.cal 4 0 rfl rfl
    (fun _ _ _ _ _ _ us hl => match us, hl with | [_, _, _], _ => rfl) sc_shifted (fun vs H Q E h => by obtain ⟨u0, u1, u2, p, st, ah, c, rfl, h0, h1, h2, ⟨b1, b2, b3, rfl⟩, k⟩ := h; rfl) fun cdv A outer s H vs Q E hr h => by
  have hu := hu_of hr
  obtain ⟨u0, u1, u2, p, st, ah, c, rfl, h0, h1, h2, ⟨b1, b2, b3, rfl⟩, k⟩ := h
  refine ⟨_, (pss_one (ps_ret (pe_callTy (T := "tuple") call_tuple_of (by rfl) (fr_tuple S) (by decide +kernel) (pa_cons (pe_lc (own := [("seen", 4)]) (g := gName 4) (tt := tYes) rfl sc_shifted.nd (pi_tup (pv 0)) (blkOk_by (N := N_shifted) (sc := defScope s_shifted) (by decide +kernel)) (fun _ _ _ _ _ => pg_name (i := 4) sc_shifted.nd rfl (Or.inl rfl)) (fun _ _ _ _ _ => pts_nil) (fun _ _ _ _ _ => (pe_op (XC.op_catA_ (K := K) rfl) (pv 2) (pe_callTy (T := "tuple") (XC.call_tuple_of_ (K := K) rfl) (by rfl) (fr_tuple S) (by decide +kernel) (pa_cons (pe_lc (own := [("item", 3)]) (g := gName 3) (tt := tYes) rfl sc_shifted.nd (XC.pi_tup_ (K := K) rfl (pv 4)) (blkOk_by (by kernel_rfl)) (fun _ _ _ _ _ => pg_name (i := 3) sc_shifted.nd rfl (Or.inl rfl)) (fun _ _ _ _ _ => pts_nil) (fun _ _ _ _ _ => (pe_op op_add (pv 3) (pv 1)))) pa_nil))))) pa_nil)))), ?_⟩
  refine s_ret (A := rP K) (e_tupL (l_lcT (A := rT K rN) (f := fun row => ah ++ row.map (· + st)) (e_var rfl h0) (by omega) (fun _ => rfl) fun H1 e1 v row hm hv => ?_)) k
  refine e_catT (e_var rfl (Rp.same _ e1 h2)) (e_tupL (l_lcT (A := rN) (f := (· + st)) (e_var rfl hv) (by have := b2 row hm; omega) (fun _ => rfl) fun H2 e2 y n hn hy => ?_)) ?_
  · exact e_toN (e_add (e_toI (e_var rfl hy)) (e_toI (e_var rfl (Rp.same _ (e1.trans e2) h1)))) (by push_cast; rfl)
  · have := b2 row hm
    have es : (100000 : Nat) < sizeLine := by decide
    rw [List.length_map]; omega
def spBeh (K : PySem.W.Frag) : Sp := sp2 (rP K) (rP K) (rP K) fun a b c => Wf a ∧ Wf b ∧ a.length + b.length ≤ 40 ∧ c = behindP a b
def spBes (K : PySem.W.Frag) : Sp := sp2 (rP K) (rP K) (rP K) fun a b c => Wf a ∧ Wf b ∧ a.length + b.length ≤ 40 ∧ c = besideP a b
theorem sz100 : (100000 : Nat) < sizeLine := by decide
/-- behind_of: 0 one, 1 other -/
theorem c_behind_of (S : XC.Ctx fa fn P w K mg base) : C8.Cal P w K mg base 2 "behind_of" (spBeh K) [] := S.cal 5 1 rfl rfl
    (fun _ _ _ _ _ _ us hl => match us, hl with | [_, _], _ => rfl) sc_behind_of (fun vs H Q E h => by obtain ⟨u0, u1, a, b, c, rfl, h0, h1, ⟨wa, wb, hl, rfl⟩, k⟩ := h; rfl) fun cdv A outer s H vs Q E hr h => by
  have hu := hu_of hr
  obtain ⟨u0, u1, a, b, c, rfl, h0, h1, ⟨wa, wb, hl, rfl⟩, k⟩ := h
  refine ⟨_, (pss_one (ps_ret (pe_op op_catA (pv 0) (C8.pe_c (c_shifted S) hr (by decide) (by rfl) (pa_cons (pv 1) (pa_cons (pe_callB (id := "len") call_len_seq (by rfl) (fr_len S) (by decide +kernel) (pa_cons (pv 0) pa_nil)) (pa_cons (pe_tupRg rfl (by rfl) (fr_tuple S) (prg_1 (by rfl) (fr_range S) (pe_callB (id := "len") call_len_seq (by rfl) (fr_len S) (by decide +kernel) (pa_cons (pv 0) pa_nil)))) pa_nil))))))), ?_⟩
  refine s_ret (A := rP K) (e_catT (e_var rfl h0) (e_call3 (e_var rfl h1) (e_lenT (e_var rfl h0)) (e_tupRg (e_lenT (e_var rfl h0)) (by omega)) (sp3_ok ⟨by omega, fun row hr => by have := wb row hr; omega, by rw [List.length_range]; omega, rfl⟩)) ?_) k
  have := sz100
  rw [shiftP_len]; omega
/-- beside_of: 0 one, 1 other -/
theorem c_beside_of (S : XC.Ctx fa fn P w K mg base) : C8.Cal P w K mg base 2 "beside_of" (spBes K) [] := S.cal 6 2 rfl rfl
    (fun _ _ _ _ _ _ us hl => match us, hl with | [_, _], _ => rfl) sc_beside_of (fun vs H Q E h => by obtain ⟨u0, u1, a, b, c, rfl, h0, h1, ⟨wa, wb, hl, rfl⟩, k⟩ := h; rfl) fun cdv A outer s H vs Q E hr h => by
  have hu := hu_of hr
  obtain ⟨u0, u1, a, b, c, rfl, h0, h1, ⟨wa, wb, hl, rfl⟩, k⟩ := h
  refine ⟨_, (pss_one (ps_ret (pe_op op_catA (pv 0) (C8.pe_c (c_shifted S) hr (by decide) (by rfl) (pa_cons (pv 1) (pa_cons (pe_callB (id := "len") call_len_seq (by rfl) (fr_len S) (by decide +kernel) (pa_cons (pv 0) pa_nil)) (pa_cons (pe_tup pa_nil) pa_nil))))))), ?_⟩
  refine s_ret (A := rP K) (e_catT (e_var rfl h0) (e_call3 (e_var rfl h1) (e_lenT (e_var rfl h0)) e_tup0 (sp3_ok ⟨by omega, fun row hr => by have := wb row hr; omega, Nat.zero_le _, rfl⟩)) ?_) k
  have := sz100
  rw [shiftP_len]; omega
def spRep (K : PySem.W.Frag) : Sp := sp2 (rP K) rN (rP K) fun p n c => Wf p ∧ p.length * n ≤ 40 ∧ 1 ≤ n ∧ n ≤ 40 ∧ c = repP p n
/-- repeated_of: 0 plan, 1 times, 2 found, 3 turn -/
theorem c_repeated_of (S : XC.Ctx fa fn P w K mg base) : C8.Cal P w K mg base 3 "repeated_of" (spRep K) [] := S.cal 7 3 rfl rfl
    (fun _ _ _ _ _ _ us hl => match us, hl with | [_, _], _ => rfl) sc_repeated_of (fun vs H Q E h => by obtain ⟨u0, u1, p, n, c, rfl, h0, h1, ⟨wp, hl, hn1, hn, rfl⟩, k⟩ := h; rfl) fun cdv A outer s H vs Q E hr h => by
  have hu := hu_of hr
  obtain ⟨u0, u1, p, n, c, rfl, h0, h1, ⟨wp, hl, hn1, hn, rfl⟩, k⟩ := h
  refine ⟨_, (pss_cons (ps_set (i := 2) sc_repeated_of.nd rfl (by first | exact Or.inl rfl | exact Or.inr rfl) (pe_tup pa_nil))
    (pss_cons (ps_for PassesOwn.never rfl (pi_range1 (by rfl) (fr_range S) (pa_cons (pv 1) pa_nil)) (pg_name (i := 3) sc_repeated_of.nd rfl (by first | exact Or.inl rfl | exact Or.inr rfl)) (pss_one (ps_set (i := 2) sc_repeated_of.nd rfl (by first | exact Or.inl rfl | exact Or.inr rfl) (C8.pe_c (c_behind_of S) hr (by decide) (by rfl) (pa_cons (pv 2) (pa_cons (pv 0) pa_nil))))))
    (pss_one (ps_ret (pv 2))))), ?_⟩
  refine q_asg (A := rP K) e_tup0 fun f0 H1 e1 r1 => ?_
  refine q_rng (n := n) (e_var rfl (Rp.same _ e1 h1)) (by omega) (fun i σ H' => ∃ f, σ[0]? = some (some u0) ∧ σ[1]? = some (some u1) ∧ σ[2]? = some (some f) ∧ σ.length = 4 ∧ Same H H' ∧ (rP K).r H' f (repP p i)) (fun H2 e2 => ⟨f0, rfl, rfl, rfl, rfl, e1.trans e2, Rp.same _ e2 r1⟩) (fun i σ' H' hi q => ?_) (fun σ' H' q => ?_)
  · obtain ⟨f, q0, q1, q2, q3, q4, q5⟩ := q
    match σ', q3 with
    | [a0, a1, a2, a3], _ =>
      cases q0; cases q1; cases q2
      have hle : p.length * (i + 1) ≤ p.length * n := Nat.mul_le_mul_left _ hi
      refine s_asg (A := rP K) (e_call2 (e_var rfl q5) (e_var rfl (Rp.same _ q4 h0)) (sp2_ok ⟨wf_rep wp i, wp, ?_, rfl⟩)) fun v H2 e2 r2 => ⟨v, rfl, rfl, rfl, rfl, q4.trans e2, r2⟩
      rw [repP_len]
      rw [Nat.mul_succ] at hle
      omega
  · obtain ⟨f, q0, q1, q2, q3, q4, q5⟩ := q
    exact s_ret (e_var q2 q5) fun v H2 e2 r2 => k v H2 (q4.trans e2) r2
end
end K84
end
section
set_option Elab.async false
set_option linter.all false
set_option maxRecDepth 100000
set_option maxHeartbeats 4000000
namespace K84
open PySem PySem.Spec PyProof.Rows L2 XE
/-- ascending, below a bound -/
def Asc (row : List Nat) (b : Nat) : Prop := row.Pairwise (· < ·) ∧ ∀ x ∈ row, x < b
/-- a plan -/
def Snd (p : Pl) : Prop := ∀ i row, p[i]? = some row → Asc row i ∧ ∀ o ∈ row, ∀ q, p[o]? = some q → ∀ m ∈ q, m ∈ row
theorem asc_len0 : ∀ (row : List Nat) (lo b : Nat), row.Pairwise (· < ·) → (∀ x ∈ row, lo ≤ x ∧ x < b) → row.length ≤ b - lo
  | [], _, _, _, _ => Nat.zero_le _
  | x :: r, lo, b, h, hb => by
    cases h with
    | cons h1 h2 =>
      have := asc_len0 r (x + 1) b h2 fun y hy => ⟨h1 y hy, (hb y (List.mem_cons_of_mem _ hy)).2⟩
      have h3 := hb x List.mem_cons_self
      rw [List.length_cons]; omega
theorem asc_len {row : List Nat} {b : Nat} (h : Asc row b) : row.length ≤ b := by
  have := asc_len0 row 0 b h.1 fun x hx => ⟨Nat.zero_le _, h.2 x hx⟩
  omega
theorem snd_wf {p : Pl} (h : Snd p) : Wf p := fun row hr => by
  obtain ⟨i, hi⟩ := List.mem_iff_getElem?.mp hr
  have h1 := asc_len (h i row hi).1
  have h2 := (List.getElem?_eq_some_iff.mp hi).1
  omega
theorem snd_nil : Snd [] := fun i row h => by simp at h
theorem snd_one : Snd [[]] := fun i row h => by
  cases i with
  | zero => simp at h; subst h; exact ⟨⟨.nil, fun _ z => by cases z⟩, fun _ z => by cases z⟩
  | succ i => simp at h
theorem snd_app {a b : Pl} {ah : List Nat} (ha : Snd a) (hb : Snd b) (hah : Asc ah a.length) (hcl : ∀ o ∈ ah, ∀ q, a[o]? = some q → ∀ m ∈ q, m ∈ ah) : Snd (a ++ shiftP b a.length ah) := fun i row h => by
  by_cases hi : i < a.length
  · rw [List.getElem?_append_left hi] at h
    refine ⟨(ha i row h).1, fun o ho q hq m hm => ?_⟩
    have ho2 := (ha i row h).1.2 o ho
    rw [List.getElem?_append_left (by omega)] at hq
    exact (ha i row h).2 o ho q hq m hm
  · rw [List.getElem?_append_right (by omega)] at h
    unfold shiftP at h
    rw [List.getElem?_map] at h
    cases hb2 : b[i - a.length]? with
    | none => rw [hb2] at h; cases h
    | some r =>
      rw [hb2] at h
      have e : row = ah ++ r.map (· + a.length) := (Option.some.inj h).symm
      subst e
      obtain ⟨⟨p1, p2⟩, p3⟩ := hb _ r hb2
      refine ⟨⟨?_, ?_⟩, fun o ho q hq m hm => ?_⟩
      · rw [List.pairwise_append]
        refine ⟨hah.1, ?_, ?_⟩
        · rw [List.pairwise_map]
          exact p1.imp (fun h => by omega)
        · intro x hx y hy
          obtain ⟨z, _, rfl⟩ := List.mem_map.mp hy
          have := hah.2 x hx
          omega
      · intro x hx
        rcases List.mem_append.mp hx with hx | hx
        · have := hah.2 x hx; omega
        · obtain ⟨z, hz, rfl⟩ := List.mem_map.mp hx
          have := p2 z hz
          omega
      · rcases List.mem_append.mp ho with ho | ho
        · have := hah.2 o ho
          rw [List.getElem?_append_left (by omega)] at hq
          exact List.mem_append_left _ (hcl o ho q hq m hm)
        · obtain ⟨z, hz, rfl⟩ := List.mem_map.mp ho
          rw [List.getElem?_append_right (by omega)] at hq
          unfold shiftP at hq
          rw [List.getElem?_map, Nat.add_sub_cancel] at hq
          cases hb3 : b[z]? with
          | none => rw [hb3] at hq; cases hq
          | some r2 =>
            rw [hb3] at hq
            have e : q = ah ++ r2.map (· + a.length) := (Option.some.inj hq).symm
            subst e
            rcases List.mem_append.mp hm with hm | hm
            · exact List.mem_append_left _ hm
            · obtain ⟨y, hy, rfl⟩ := List.mem_map.mp hm
              exact List.mem_append_right _ (List.mem_map.mpr ⟨y, p3 z hz r2 hb3 y hy, rfl⟩)
theorem snd_behind {a b : Pl} (ha : Snd a) (hb : Snd b) : Snd (behindP a b) := snd_app ha hb ⟨List.pairwise_lt_range, fun x h => List.mem_range.mp h⟩ fun o _ q hq m hm => by
  have h1 := (ha o q hq).1.2 m hm
  have h2 := (List.getElem?_eq_some_iff.mp hq).1
  exact List.mem_range.mpr (by omega)
theorem snd_beside {a b : Pl} (ha : Snd a) (hb : Snd b) : Snd (besideP a b) := snd_app ha hb ⟨.nil, fun _ h => by cases h⟩ fun o h => by cases h
theorem snd_rep {p : Pl} (h : Snd p) : ∀ n, Snd (repP p n)
  | 0 => snd_nil
  | n + 1 => snd_behind (snd_rep h n) h
end K84
end
section
set_option Elab.async false
set_option linter.all false
set_option maxRecDepth 100000
set_option maxHeartbeats 4000000
namespace K84
open PySem PySem.Spec PyProof.Rows L2 XE
/-- what a Scan holds -/
structure Sc where
  n : Nat
  d : Bool
  b : Nat
def scF (s : Sc) : List (Str × V) := [("number", .int (s.n : Int)), ("is_done", .bl s.d), ("brackets", .int (s.b : Int))]
def isFig (k : Nat) : Bool := decide (48 ≤ k) && decide (k ≤ 57)
def Sc.take (s : Sc) (k : Nat) : Bool × Sc :=
  if s.d = true then (if (decide (k = 41) && decide (0 < s.b)) = true then (true, ⟨s.n, s.d, s.b - 1⟩) else (decide (k = 62) || decide (k = 124), ⟨s.n, false, s.b⟩))
  else if isFig k = true then (decide (1 ≤ s.n * 10 + (k - 48)) && decide (s.n * 10 + (k - 48) ≤ 40), ⟨s.n * 10 + (k - 48), s.d, s.b⟩)
  else if k = 40 then (true, ⟨0, s.d, s.b + 1⟩)
  else (decide (k = 46), ⟨0, decide (k = 46), s.b⟩)
theorem fig_list : ("0123456789" : Str).cps.toList = [48, 49, 50, 51, 52, 53, 54, 55, 56, 57] := by decide +kernel
theorem fig_mem (k : Nat) : decide (k ∈ ("0123456789" : Str).cps.toList) = isFig k := by
  rw [fig_list]
  unfold isFig
  rw [Bool.eq_iff_iff]
  simp
  omega
theorem fig_occ {k : Nat} (h : isFig k = true) : ∃ rest, Builtin.Str.occurrences "0123456789" ⟨#[k]⟩ 0 ("0123456789" : Str).length 1 = (k - 48) :: rest := by
  unfold isFig at h
  rw [Bool.and_eq_true, decide_eq_true_eq, decide_eq_true_eq] at h
  obtain ⟨h1, h2⟩ := h
  have h3 : k = 48 ∨ k = 49 ∨ k = 50 ∨ k = 51 ∨ k = 52 ∨ k = 53 ∨ k = 54 ∨ k = 55 ∨ k = 56 ∨ k = 57 := by omega
  rcases h3 with rfl | rfl | rfl | rfl | rfl | rfl | rfl | rfl | rfl | rfl <;> exact ⟨[], by decide +kernel⟩
theorem e_figIx {K : PySem.W.Frag} {σ : L2.St} {H : Hp} {ta tb : TE} {k : Nat} (ha : EvR rS ta σ H "0123456789") (hb : EvR rS tb σ H ⟨#[k]⟩) (h : isFig k = true) :
    EvR rN (tBM K "str" (fun x xs H Q => ∃ a b i rest, x = .str a ∧ xs = [.str b] ∧ Builtin.Str.occurrences a b 0 a.length 1 = i :: rest ∧ Q (.int (i : Nat)) H) ta (tCons tb tNil)) σ H (k - 48) := fun H1 e Q q =>
  ha H1 e _ fun u H2 e2 hu => by
    have eu : u = V.str "0123456789" := hu
    subst eu
    refine ⟨rfl, hb H2 (e.trans e2) _ fun v H3 e3 hv => ?_⟩
    have ev : v = V.str ⟨#[k]⟩ := hv
    subst ev
    obtain ⟨rest, ho⟩ := fig_occ h
    exact ⟨_, _, _, rest, rfl, rfl, ho, q _ H3 (e2.trans e3) rfl⟩
theorem put_n (s : Sc) (m : Nat) : putF "number" (.int (m : Int)) (scF s) = scF ⟨m, s.d, s.b⟩ := by kernel_rfl
theorem put_d (s : Sc) (x : Bool) : putF "is_done" (.bl x) (scF s) = scF ⟨s.n, x, s.b⟩ := by kernel_rfl
theorem put_b (s : Sc) (m : Nat) : putF "brackets" (.int (m : Int)) (scF s) = scF ⟨s.n, s.d, m⟩ := by kernel_rfl
theorem get_n (s : Sc) : (scF s).lookup ("number" : Str) = some (.int (s.n : Int)) := by kernel_rfl
theorem get_d (s : Sc) : (scF s).lookup ("is_done" : Str) = some (.bl s.d) := by kernel_rfl
theorem get_b (s : Sc) : (scF s).lookup ("brackets" : Str) = some (.int (s.b : Int)) := by kernel_rfl
theorem get_t (s : Sc) : (scF s).lookup ("take" : Str) = none := by kernel_rfl
section
variable {P : Program} {w : World} {K : PySem.W.Frag} {mg : Str → Option Value} {base : Heap} {X : Cx}
def spScI (C : Addr) : Sp := fun vs H Q _ => ∃ (p dx : Addr), vs = [.ref p] ∧ H p = some (.ins C dx []) ∧ ∀ H', Off p H H' → H' p = some (.ins C dx (scF ⟨0, false, 0⟩)) → Q .non H'
/-- Scan_init: 0 self -/
theorem k_Scan (S : XC.Ctx fa fn P w K mg base) : C8.Mak P w K mg base 1 "Scan" (He.ga K "Scan") (spScI (He.ga K "Scan")) [] := S.mak 48 11 4 rfl rfl rfl
    (fun _ _ _ _ _ _ us hl => match us, hl with | [_], _ => rfl) sc_Scan_init (fun vs H Q E h => by obtain ⟨p, dx, rfl, hp, k⟩ := h; rfl) fun cdv A outer s H vs Q E hr h => by
  have hu := hu_of hr
  obtain ⟨p, dx, rfl, hp, k⟩ := h
  refine ⟨_, (pss_cons (ps_fld (pv 0) pe_int rfl)
    (pss_cons (ps_fld (pv 0) pe_bl rfl)
    (pss_one (ps_fld (pv 0) pe_int rfl)))), ?_⟩
  refine q_fld (A := rN) e_nat (e_var (A := rV) rfl rfl) hp (cl_Scan S) (na_Scan_number S) (by decide) fun v1 H1 e1 r1 => ?_
  refine q_fld (A := rB) e_bl (e_var (A := rV) rfl rfl) upd_same (cl_Scan S) (na_Scan_is_done S) (by show 1 < 1000; decide) fun v2 H2 e2 r2 => ?_
  refine s_fld (A := rN) e_nat (e_var (A := rV) rfl rfl) upd_same (cl_Scan S) (na_Scan_brackets S) (by show 2 < 1000; decide) fun v3 H3 e3 r3 => ?_
  have a1 : v1 = V.int ((0 : Nat) : Int) := r1
  have a2 : v2 = V.bl false := r2
  have a3 : v3 = V.int ((0 : Nat) : Int) := r3
  subst a1 a2 a3
  exact k _ ((Off.of e1).upd.trans (((Off.of e2).upd).trans ((Off.of e3).upd))) (upd_same.trans (congrArg (fun z => some (HO.ins _ dx z)) (by kernel_rfl)))
def spTake (C : Addr) : Sp := fun vs H Q _ => ∃ (p dx : Addr) (s : Sc) (c : Nat), vs = [.ref p, .str ⟨#[c]⟩] ∧ H p = some (.ins C dx (scF s)) ∧ ∀ H', Off p H H' → H' p = some (.ins C dx (scF (s.take c).2)) → Q (.bl (s.take c).1) H'
/-- Scan_take: 0 self, 1 sign -/
theorem m_Scan_take (S : XC.Ctx fa fn P w K mg base) : C8.Met P w K mg base 1 (He.ga K "Scan") "take" (spTake (He.ga K "Scan")) [] := S.met 43 47 5 rfl rfl rfl
    (fun _ _ _ _ _ _ us hl => match us, hl with | [_, _], _ => rfl) sc_Scan_take (fun vs H Q E h => by obtain ⟨p, dx, s, c, rfl, hp, k⟩ := h; rfl) fun cdv A outer s H vs Q E hr h => by
  have hu := hu_of hr
  obtain ⟨p, dx, s, c, rfl, hp, k⟩ := h
  refine ⟨_, (pss_cons (ps_if (pt_val (pe_fld (pv 0) rfl)) (pss_cons (ps_if (PW.pt (pw_and (pt_cmpR op_eq (pv 1) pe_str (nomark _)) (pw_and1 (pt_cmpR op_gt (pe_fld (pv 0) rfl) pe_int (nomark _))))) (pss_cons (ps_fldaug (pv 0) pe_int in_sub)
    (pss_one (ps_ret pe_bl))) pss_nil)
    (pss_cons (ps_fld (pv 0) pe_bl rfl)
    (pss_one (ps_ret (pe_cmpR op_in_seq (pv 1) (pe_tup (pa_cons pe_str (pa_cons pe_str pa_nil))) (by rfl)))))) pss_nil)
    (pss_cons (ps_if (pt_cmpR op_in_sign (pv 1) (C8.pe_gc (by rfl) (g_FIGURES S)) (by rfl)) (pss_cons (ps_fld (pv 0) (pe_op op_add (pe_op op_mul (pe_fld (pv 0) rfl) pe_int) (pe_bm PySem.F.plainAttrs_str PySem.F.slot_str_index PySem.F.type_str_index mt_sindex (C8.pe_gc (by rfl) (g_FIGURES S)) (pa_cons (pv 1) pa_nil))) rfl)
    (pss_one (ps_ret (pe_chain op_le op_le pe_int (pe_fld (pv 0) rfl) (C8.pe_gc (by rfl) (g_MOST_TIMES S)))))) pss_nil)
    (pss_cons (ps_fld (pv 0) pe_int rfl)
    (pss_cons (ps_if (pt_cmpR op_eq (pv 1) pe_str (nomark _)) (pss_cons (ps_fldaug (pv 0) pe_int in_add)
    (pss_one (ps_ret pe_bl))) pss_nil)
    (pss_cons (ps_fld (pv 0) (pe_cmpR op_eq (pv 1) pe_str (nomark _)) rfl)
    (pss_one (ps_ret (pe_fld (pv 0) rfl)))))))), ?_⟩
  refine q_when (b := s.d) (b_val (e_fld (A := rB) (e_var (A := rV) rfl rfl) hp (cl_Scan S) (na_Scan_is_done S) (get_d s) rfl)) (fun hd H1 e1 => ?_) (fun hd H1 e1 => ?_)
  · have hp1 := e1 p _ hp
    refine q_when (b := decide (c = 41) && decide (0 < s.b)) (b_and (b_test (e_eqC (e_var rfl rfl) rfl)) fun _ => EvB.is (b_test (e_gt (e_toI (e_fld (A := rN) (e_var (A := rV) rfl rfl) hp1 (cl_Scan S) (na_Scan_brackets S) (get_b s) rfl)) e_int)) (by simp)) (fun hb H2 e2 => ?_) (fun hb H2 e2 => ?_)
    · have hp2 := e2 p _ hp1
      have hb0 : 0 < s.b := of_decide_eq_true (Bool.and_eq_true_iff.mp hb).2
      refine q_fldsub (e_var (A := rV) rfl rfl) e_int hp2 (cl_Scan S) (na_Scan_brackets S) (get_b s) (by show 3 < 1000; decide) fun H20 e20 => ?_
      have eb : ((s.b : Int) - 1) = ((s.b - 1 : Nat) : Int) := by omega
      rw [eb, put_b]
      refine s_ret (A := rB) e_bl fun v3 H3 e3 r3 => ?_
      have a3 : v3 = V.bl true := r3
      subst a3
      have et : s.take c = (true, ⟨s.n, s.d, s.b - 1⟩) := by unfold Sc.take; rw [if_pos hd, if_pos hb]
      have kk := k H3
      rw [et] at kk
      exact kk (((Off.of ((e1.trans e2).trans e20)).upd).trans (Off.of e3)) (e3 p _ upd_same)
    · have hp2 := e2 p _ hp1
      refine q_fld (A := rB) e_bl (e_var (A := rV) rfl rfl) hp2 (cl_Scan S) (na_Scan_is_done S) (by show 3 < 1000; decide) fun v3 H3 e3 r3 => ?_
      have a3 : v3 = V.bl false := r3
      subst a3
      rw [put_d]
      refine s_ret (A := rB) (e_inT2 (e_var rfl rfl) (c1 := 62) (c2 := 124) rfl rfl) fun v4 H4 e4 r4 => ?_
      have a4 : v4 = V.bl _ := r4
      subst a4
      have et : s.take c = (decide (c = 62) || decide (c = 124), ⟨s.n, false, s.b⟩) := by unfold Sc.take; rw [if_pos hd, if_neg (by rw [hb]; decide)]
      have kk := k H4
      rw [et] at kk
      exact kk (((Off.of ((e1.trans e2).trans e3)).upd).trans (Off.of e4)) (e4 p _ upd_same)
  · have hp1 := e1 p _ hp
    have hdn : ¬ s.d = true := by rw [hd]; decide
    refine q_when (b := isFig c) (EvB.is (b_test (e_sign (e_var rfl rfl) (e_c (A := rS) rfl))) (fig_mem c)) (fun hf H2 e2 => ?_) (fun hf H2 e2 => ?_)
    · have hp2 := e2 p _ hp1
      refine q_fld (A := rN) (e_toN (e_add (e_mul (e_toI (e_fld (A := rN) (e_var (A := rV) rfl rfl) hp2 (cl_Scan S) (na_Scan_number S) (get_n s) rfl)) e_int (.inr ⟨by decide, by decide⟩)) (e_toI (e_figIx (k := c) (e_c (A := rS) rfl) (e_var rfl rfl) hf))) (n := s.n * 10 + (c - 48)) (by push_cast; omega)) (e_var (A := rV) rfl rfl) hp2 (cl_Scan S) (na_Scan_number S) (by show 3 < 1000; decide) fun v3 H3 e3 r3 => ?_
      have a3 : v3 = V.int _ := r3
      subst a3
      rw [put_n]
      refine s_ret (A := rB) (e_chain e_int (e_toI (e_fld (A := rN) (e_var (A := rV) rfl rfl) upd_same (cl_Scan S) (na_Scan_number S) (get_n _) rfl)) (e_c (A := rI) rfl)) fun v4 H4 e4 r4 => ?_
      have a4 : v4 = V.bl _ := r4
      subst a4
      have et : s.take c = (decide (1 ≤ s.n * 10 + (c - 48)) && decide (s.n * 10 + (c - 48) ≤ 40), ⟨s.n * 10 + (c - 48), s.d, s.b⟩) := by unfold Sc.take; rw [if_neg hdn, if_pos hf]
      have kk := k H4
      rw [et] at kk
      have ei : (decide ((1 : Int) ≤ ((s.n * 10 + (c - 48) : Nat) : Int)) && decide (((s.n * 10 + (c - 48) : Nat) : Int) ≤ 40)) = (decide (1 ≤ s.n * 10 + (c - 48)) && decide (s.n * 10 + (c - 48) ≤ 40)) := by
        congr 1
        · exact decide_eq_decide.mpr (by omega)
        · exact decide_eq_decide.mpr (by omega)
      rw [← ei] at kk
      exact kk (((Off.of ((e1.trans e2).trans e3)).upd).trans (Off.of e4)) (e4 p _ upd_same)
    · have hp2 := e2 p _ hp1
      have hfn : ¬ isFig c = true := by rw [hf]; decide
      refine q_fld (A := rN) e_nat (e_var (A := rV) rfl rfl) hp2 (cl_Scan S) (na_Scan_number S) (by show 3 < 1000; decide) fun v3 H3 e3 r3 => ?_
      have a3 : v3 = V.int ((0 : Nat) : Int) := r3
      subst a3
      rw [put_n]
      have of3 := (Off.of ((e1.trans e2).trans e3)).upd (p := p) (o := .ins (He.ga K "Scan") dx (scF ⟨0, s.d, s.b⟩))
      refine q_when (b := decide (c = 40)) (b_test (e_eqC (e_var rfl rfl) rfl)) (fun h4 H4 e4 => ?_) (fun h4 H4 e4 => ?_)
      · have c4 : c = 40 := of_decide_eq_true h4
        have hp4 := e4 p _ upd_same
        refine q_fldadd (e_var (A := rV) rfl rfl) e_int hp4 (cl_Scan S) (na_Scan_brackets S) (get_b _) (by show 3 < 1000; decide) fun H40 e40 => ?_
        have eb : ((s.b : Int) + 1) = ((s.b + 1 : Nat) : Int) := by push_cast; rfl
        rw [eb, put_b]
        refine s_ret (A := rB) e_bl fun v5 H5 e5 r5 => ?_
        have a5 : v5 = V.bl true := r5
        subst a5
        have et : s.take c = (true, ⟨0, s.d, s.b + 1⟩) := by unfold Sc.take; rw [if_neg hdn, if_neg hfn, if_pos c4]
        have kk := k H5
        rw [et] at kk
        exact kk ((((of3.trans (Off.of (e4.trans e40))).upd)).trans (Off.of e5)) (e5 p _ upd_same)
      · have c4 : ¬ c = 40 := of_decide_eq_false h4
        have hp4 := e4 p _ upd_same
        refine q_fld (A := rB) (e_eqC (e_var rfl rfl) rfl) (e_var (A := rV) rfl rfl) hp4 (cl_Scan S) (na_Scan_is_done S) (by show 3 < 1000; decide) fun v5 H5 e5 r5 => ?_
        have a5 : v5 = V.bl (decide (c = 46)) := r5
        subst a5
        rw [put_d]
        refine s_ret (A := rB) (e_fld (A := rB) (e_var (A := rV) rfl rfl) upd_same (cl_Scan S) (na_Scan_is_done S) (get_d _) rfl) fun v6 H6 e6 r6 => ?_
        have a6 : v6 = V.bl (decide (c = 46)) := r6
        subst a6
        have et : s.take c = (decide (c = 46), ⟨0, decide (c = 46), s.b⟩) := by unfold Sc.take; rw [if_neg hdn, if_neg hfn, if_neg c4]
        have kk := k H6
        rw [et] at kk
        exact kk ((((of3.trans (Off.of (e4.trans e5))).upd)).trans (Off.of e6)) (e6 p _ upd_same)
end
end K84
end
section
set_option Elab.async false
set_option linter.all false
set_option maxRecDepth 100000
set_option maxHeartbeats 4000000
namespace K84
open PySem PySem.Spec PyProof.Rows L2 XE
/-- where it goes wrong, gone from s at place i -/
def chk : Sc → Nat → List Nat → Option Nat
  | s, i, [] => if (s.d && decide (s.b = 0)) = true then none else some i
  | s, i, c :: r => if (s.take c).1 = true then chk (s.take c).2 (i + 1) r else some i
structure Zs (P : Program) (w : World) (K : PySem.W.Frag) (mg : Str → Option Value) (base : Heap) : Prop where
  BadShape : XC.Exn P w K mg base "BadShape" "at"
  TooLarge : XC.Exn P w K mg base "TooLarge" "most"
  single : XH.nestB K "SINGLE" 1 = true
  ell : PySem.W.exmOne K (.ref (He.ga K "TooLarge")) (.ref (He.ga K "TooLarge")) = some true
section
variable {P : Program} {w : World} {K : PySem.W.Frag} {mg : Str → Option Value} {base : Heap} {X : Cx}
/-- raised with the number i -/
def Bad (K : PySem.W.Frag) (H : Hp) (E : XK) (i : Int) : Prop := ∀ d H', Same H H' → H d = none → H' d = some (.xd [("at", .int i)]) → E (.ref (He.ga K "BadShape")) (some d) H'
def spChk (K : PySem.W.Frag) : Sp := fun vs H Q E => ∃ v, vs = [v] ∧ ((∃ cs, v = .str (SX.S cs) ∧ cs.length ≤ 2000000 ∧ (chk ⟨0, false, 0⟩ 0 cs = none → ∀ H', Same H H' → Q .non H') ∧ ∀ i : Nat, chk ⟨0, false, 0⟩ 0 cs = some i → Bad K H E i) ∨
  ∃ t, TyX K H v (.type t) ∧ kitB t "str" = some false ∧ Bad K H E (-1))
theorem tyx_same {H H' : Hp} {v : V} {t : String} (e : Same H H') (h : TyX K H v (.type t)) : TyX K H' v (.type t) := by
  cases h with
  | base h =>
    cases h with
    | non => exact .base .non
    | bl x => exact .base (.bl x)
    | int i => exact .base (.int i)
    | str x => exact .base (.str x)
    | flt x => exact .base (.flt x)
    | lst h => exact .base (.lst (e _ _ h))
    | frz h => exact .base (.frz (e _ _ h))
    | tup h => exact .base (.tup (e _ _ h))
    | dK h => exact .base (.dK (e _ _ h))
    | dT h => exact .base (.dT (e _ _ h))
  | byt b => exact .byt b
  | set h => exact .set (e _ _ h)
  | kList h c => exact .kList h c
  | kTuple h c => exact .kTuple h c
  | kDict h c => exact .kDict h c
  | fTuple h => exact .fTuple (e _ _ h)
  | fDict h => exact .fDict (e _ _ h)
/-- check_shape: 0 text, 1 scan, 2 at, 3 sign -/
theorem c_check_shape (S : XC.Ctx fa fn P w K mg base) (Z : Zs P w K mg base) : XC.CalX P w K mg base 3 "check_shape" (spChk K) := S.calX 12 6 rfl rfl
    (fun _ _ _ _ _ _ us hl => match us, hl with | [_], _ => rfl) sc_check_shape (fun vs H Q E h => by obtain ⟨v, rfl, h⟩ := h; rfl) fun cdv A outer s H vs Q E hr h => by
  have hu := hu_of hr
  obtain ⟨v, rfl, h⟩ := h
  refine ⟨_, (pss_cons (ps_if (pt_not (pt_val (pe_callB (id := "isinstance") call_isi (by rfl) (fr_isinstance S) (by decide +kernel) (pa_cons (pv 0) (pa_cons (XC.pe_tyN (n := "str") (by rfl) (fr_str S) (by decide +kernel)) pa_nil))))) (pss_one (ps_raise rfl (takes_of rfl rfl rfl rfl) (XC.pmk_exn Z.BadShape hr (by decide) (by rfl) (pa_cons (pe_un un_neg pe_int) pa_nil)))) pss_nil)
    (pss_cons (ps_set (i := 1) sc_check_shape.nd rfl (by first | exact Or.inl rfl | exact Or.inr rfl) (XC.pe_mk0 (k_Scan S) hr (by decide) (by rfl)))
    (pss_cons (ps_for (passes_of rfl) rfl (pi_enumS (by rfl) (fr_enumerate S) (pa_cons (pv 0) pa_nil)) (pg_tup rfl (pgs_cons (pg_name (i := 2) sc_check_shape.nd rfl (by first | exact Or.inl rfl | exact Or.inr rfl)) (pgs_cons (pg_name (i := 3) sc_check_shape.nd rfl (by first | exact Or.inl rfl | exact Or.inr rfl)) pgs_nil))) (pss_one (ps_if (pt_not (pt_val (C8.pe_mt (m_Scan_take S) hr (by decide) (pv 1) (pa_cons (pv 3) pa_nil)))) (pss_one (ps_raise rfl (takes_of rfl rfl rfl rfl) (XC.pmk_exn Z.BadShape hr (by decide) (by rfl) (pa_cons (pv 2) pa_nil)))) pss_nil)))
    (pss_one (ps_if (PW.pt (pw_or (pt_not (pt_val (pe_fld (pv 1) rfl))) (pw_or1 (pt_cmpR op_gt (pe_fld (pv 1) rfl) pe_int (nomark _))))) (pss_one (ps_raise rfl (takes_of rfl rfl rfl rfl) (XC.pmk_exn Z.BadShape hr (by decide) (by rfl) (pa_cons (pe_callB (id := "len") call_len_str (by rfl) (fr_len S) (by decide +kernel) (pa_cons (pv 0) pa_nil)) pa_nil)))) pss_nil))))), ?_⟩
  rcases h with ⟨cs, rfl, hlen, hn, hs⟩ | ⟨t, ht, hk, hb⟩
  · refine q_when (b := false) (EvB.is (b_not (b_val (e_isi (t := "str") (b := true) (e_var (A := rV) rfl rfl) (fun H1 e => .base (.str _)) (by decide +kernel)))) rfl) (fun z => nomatch z) fun _ H1 e1 => ?_
    intro p dx hp0 hdx0 hne
    have s1 : Same H1 (upd (upd H1 dx (.own p)) p (.ins (He.ga K "Scan") dx [])) := same_mut (same_new hdx0) hp0
    refine ⟨p, dx, rfl, upd_same, fun H2 o2 hp2 => ⟨rfl, ?_⟩⟩
    have s2 : Same H1 H2 := s1.trans_off o2 hp0
    refine q_enumS (cs := cs) (e_var rfl rfl) (fun i σ H' => ∃ s a2 a3, σ = [some (.str (SX.S cs)), some (.ref p), a2, a3] ∧ Same H1 H' ∧ H' p = some (.ins (He.ga K "Scan") dx (scF s)) ∧ chk s i (cs.drop i) = chk ⟨0, false, 0⟩ 0 cs) (fun H3 e3 => ⟨_, _, _, rfl, s2.trans e3, e3 p _ hp2, rfl⟩) (fun i c σ' H' H'' hi q e => ?_) (fun σ' H' q => ?_)
    · obtain ⟨s, a2, a3, rfl, q1, q2, q3⟩ := q
      have q2' := e p _ q2
      have ed : cs.drop i = c :: cs.drop (i + 1) := by
        obtain ⟨h1, h2⟩ := List.getElem?_eq_some_iff.mp hi
        rw [List.drop_eq_getElem_cons h1, h2]
      rw [ed] at q3
      refine ⟨_, rfl, p, dx, scF s, rfl, q2', get_t s, _, rfl, p, dx, s, c, rfl, q2', fun H4 o4 h4 => ⟨_, rfl, ?_⟩⟩
      have s4 : Same H1 H4 := (q1.trans e).trans_off o4 hp0
      cases hc : (s.take c).1 with
      | true =>
        show _
        refine ⟨(s.take c).2, _, _, rfl, s4, h4, ?_⟩
        rw [← q3]
        show _ = if (s.take c).1 = true then _ else _
        rw [if_pos hc]
      | false =>
        have q4 : chk ⟨0, false, 0⟩ 0 cs = some i := by
          rw [← q3]
          show (if (s.take c).1 = true then _ else some i) = some i
          rw [if_neg (by rw [hc]; decide)]
        exact r_exn (v := .int (i : Int)) (e_var (A := rV) rfl rfl) fun d H5 e5 h5 h6 => hs i q4 d H5 ((e1.trans s4).trans e5) (Same.free (e1.trans s4) h5) h6
    · obtain ⟨s, a2, a3, rfl, q1, q2, q3⟩ := q
      rw [List.drop_length] at q3
      refine s_when (b := !(s.d && decide (s.b = 0))) (EvB.is (b_or (b_not (b_val (e_fld (A := rB) (e_var (A := rV) rfl rfl) q2 (cl_Scan S) (na_Scan_is_done S) (get_d s) rfl))) fun _ => b_test (e_gt (e_toI (e_fld (A := rN) (e_var (A := rV) rfl rfl) q2 (cl_Scan S) (na_Scan_brackets S) (get_b s) rfl)) e_int)) ?_) (fun hb H3 e3 => ?_) (fun hb H3 e3 => ?_)
      · have eb : decide ((0 : Int) < (s.b : Int)) = !decide (s.b = 0) := by
          by_cases h : s.b = 0
          · simp [h]
          · have h2 : (0 : Int) < (s.b : Int) := by omega
            rw [decide_eq_true h2, decide_eq_false h]
            rfl
        rw [eb, Bool.not_and]
      · have q4 : chk ⟨0, false, 0⟩ 0 cs = some cs.length := by
          rw [← q3]
          show (if _ then _ else some _) = _
          rw [if_neg (by intro z; rw [z] at hb; exact nomatch hb)]
        exact r_exn (v := .int (cs.length : Int)) ((e_lenS (e_var rfl rfl) (by rw [SX.S_len]; exact Nat.le_trans hlen (by decide))).as fun _ v hv => by
          have hv2 : v = V.int _ := hv
          rw [SX.S_len] at hv2
          exact hv2) fun d H5 e5 h5 h6 => hs _ q4 d H5 (((e1.trans q1).trans e3).trans e5) (Same.free ((e1.trans q1).trans e3) h5) h6
      · refine hn ?_ H3 ((e1.trans q1).trans e3)
        rw [← q3]
        show (if _ then _ else some _) = _
        rw [if_pos (by simpa using hb)]
  · refine q_when (b := true) (EvB.is (b_not (b_val (e_isi (t := t) (b := false) (e_var (A := rV) rfl rfl) (fun H1 e => tyx_same e ht) hk))) rfl) (fun _ H1 e1 => ?_) fun z => nomatch z
    exact r_exn (v := .int (-1)) ((e_neg e_int).as fun _ v hv => hv) fun d H5 e5 h5 h6 => hb d H5 (e1.trans e5) (Same.free e1 h5) h6
end
end K84
end
section
set_option Elab.async false
set_option linter.all false
set_option maxRecDepth 100000
set_option maxHeartbeats 4000000
namespace K84
open PySem PySem.Spec PyProof.Rows L2 XE
abbrev OP := Option Pl
def bothP (d : Bool) : OP → OP → OP
  | some x, some y => if 40 < x.length + y.length then none else some (if d = true then behindP x y else besideP x y)
  | _, _ => none
def timesP : OP → Nat → OP
  | some p, n => if 40 < p.length * n then none else some (repP p n)
  | none, _ => none
def OkO (a : OP) : Prop := ∀ p, a = some p → Snd p ∧ p.length ≤ 40
structure Lv where
  t : Nat
  s : OP
  r : OP
def Lv.add (L : Lv) (u : OP) : Lv := ⟨L.t, L.s, bothP true L.r u⟩
def Lv.turn (L : Lv) : Lv := ⟨L.t, bothP false L.s L.r, some []⟩
def Lv.Ok (L : Lv) : Prop := 1 ≤ L.t ∧ L.t ≤ 40 ∧ OkO L.s ∧ OkO L.r
theorem ok_none : OkO none := fun _ h => nomatch h
theorem ok_nil : OkO (some []) := fun p h => by cases h; exact ⟨snd_nil, Nat.zero_le _⟩
theorem ok_one : OkO (some [[]]) := fun p h => by cases h; exact ⟨snd_one, by decide⟩
theorem both_some {d : Bool} {x y : Pl} : bothP d (some x) (some y) = if 40 < x.length + y.length then none else some (if d = true then behindP x y else besideP x y) := rfl
theorem times_some {x : Pl} {n : Nat} : timesP (some x) n = if 40 < x.length * n then none else some (repP x n) := rfl
theorem ok_both {d : Bool} {a b : OP} (ha : OkO a) (hb : OkO b) : OkO (bothP d a b) := fun p h => by
  cases a with
  | none => cases h
  | some x =>
    cases b with
    | none => cases h
    | some y =>
      have h2 := (ha x rfl).1
      have h3 := (hb y rfl).1
      rw [both_some] at h
      by_cases hl : 40 < x.length + y.length
      · rw [if_pos hl] at h
        cases h
      · rw [if_neg hl] at h
        have e := Option.some.inj h
        subst e
        cases d with
        | true => exact ⟨snd_behind h2 h3, by rw [if_pos rfl, behindP_len]; omega⟩
        | false => exact ⟨snd_beside h2 h3, by rw [if_neg (by decide), besideP_len]; omega⟩
theorem ok_times {a : OP} {n : Nat} (ha : OkO a) : OkO (timesP a n) := fun p h => by
  cases a with
  | none => cases h
  | some x =>
    rw [times_some] at h
    by_cases hl : 40 < x.length * n
    · rw [if_pos hl] at h
      cases h
    · rw [if_neg hl] at h
      have e := Option.some.inj h
      subst e
      exact ⟨snd_rep (ha x rfl).1 n, by rw [repP_len]; omega⟩
theorem Lv.Ok.add {L : Lv} (h : L.Ok) {u : OP} (hu : OkO u) : (L.add u).Ok := ⟨h.1, h.2.1, h.2.2.1, ok_both h.2.2.2 hu⟩
theorem Lv.Ok.turn {L : Lv} (h : L.Ok) : L.turn.Ok := ⟨h.1, h.2.1, ok_both h.2.2.1 h.2.2.2, ok_nil⟩
abbrev rOP (K : PySem.W.Frag) : Rp OP := rO (rP K)
def lvF (t : Nat) (sv rv : V) : List (Str × V) := [("times", .int (t : Int)), ("sides", sv), ("row", rv)]
theorem lv_init (t : Nat) (sv rv : V) : putF "row" rv (putF "sides" sv (putF "times" (.int (t : Int)) [])) = lvF t sv rv := by kernel_rfl
theorem lput_s (t : Nat) (sv rv x : V) : putF "sides" x (lvF t sv rv) = lvF t x rv := by kernel_rfl
theorem lput_r (t : Nat) (sv rv x : V) : putF "row" x (lvF t sv rv) = lvF t sv x := by kernel_rfl
theorem lget_t (t : Nat) (sv rv : V) : (lvF t sv rv).lookup ("times" : Str) = some (.int (t : Int)) := by kernel_rfl
theorem lget_s (t : Nat) (sv rv : V) : (lvF t sv rv).lookup ("sides" : Str) = some sv := by kernel_rfl
theorem lget_r (t : Nat) (sv rv : V) : (lvF t sv rv).lookup ("row" : Str) = some rv := by kernel_rfl
theorem lget_add (t : Nat) (sv rv : V) : (lvF t sv rv).lookup ("add" : Str) = none := by kernel_rfl
theorem lget_turn (t : Nat) (sv rv : V) : (lvF t sv rv).lookup ("turn" : Str) = none := by kernel_rfl
/-- at p stands a level that holds L -/
def LvAt (K : PySem.W.Frag) (H : Hp) (p : Addr) (L : Lv) : Prop := ∃ dx sv rv, H p = some (.ins (He.ga K "Level") dx (lvF L.t sv rv)) ∧ (rOP K).r H sv L.s ∧ (rOP K).r H rv L.r
theorem LvAt.keep {K : PySem.W.Frag} {H H' : Hp} {p : Addr} {L : Lv} (h : LvAt K H p L) (e : Tk H H') (e2 : ∀ o, H p = some o → H' p = some o) : LvAt K H' p L := by
  obtain ⟨dx, sv, rv, h1, h2, h3⟩ := h
  exact ⟨dx, sv, rv, e2 _ h1, (rOP K).mono e h2, (rOP K).mono e h3⟩
theorem LvAt.same {K : PySem.W.Frag} {H H' : Hp} {p : Addr} {L : Lv} (h : LvAt K H p L) (e : Same H H') : LvAt K H' p L := h.keep (Same.tk e) fun o ho => e p o ho
section
variable {P : Program} {w : World} {K : PySem.W.Frag} {mg : Str → Option Value} {base : Heap} {X : Cx}
def wayA (K : PySem.W.Frag) (d : Bool) : Addr := if d = true then He.ga K "behind_of" else He.ga K "beside_of"
def spBoth (K : PySem.W.Frag) : Sp := fun vs H Q _ => ∃ u v d a b, vs = [u, v, .ref (wayA K d)] ∧ (rOP K).r H u a ∧ (rOP K).r H v b ∧ OkO a ∧ OkO b ∧ ∀ w H', Same H H' → (rOP K).r H' w (bothP d a b) → Q w H'
/-- both_of: 0 one, 1 other, 2 way -/
theorem c_both_of (S : XC.Ctx fa fn P w K mg base) : C8.Cal P w K mg base 3 "both_of" (spBoth K) [] := S.cal 13 7 rfl rfl
    (fun _ _ _ _ _ _ us hl => match us, hl with | [_, _, _], _ => rfl) sc_both_of (fun vs H Q E h => by obtain ⟨u, v, d, a, b, rfl, hu, hv, ha, hb, k⟩ := h; rfl) fun cdv A outer s H vs Q E hr h => by
  have hu := hu_of hr
  obtain ⟨u, v, d, a, b, rfl, hu, hv, ha, hb, k⟩ := h
  refine ⟨_, (pss_cons (ps_if (PW.pt (pw_or (pt_cmpR op_isN (pv 0) pe_non (nomark _)) (pw_or (pt_cmpR op_isN (pv 1) pe_non (nomark _)) (pw_or1 (pt_cmpR op_gt (pe_op op_add (pe_callB (id := "len") call_len_seq (by rfl) (fr_len S) (by decide +kernel) (pa_cons (pv 0) pa_nil)) (pe_callB (id := "len") call_len_seq (by rfl) (fr_len S) (by decide +kernel) (pa_cons (pv 1) pa_nil))) (C8.pe_gc (by rfl) (g_MOST_ITEMS S)) (nomark _)))))) (pss_one (ps_ret pe_non)) pss_nil)
    (pss_one (ps_ret (C8.pe_cv (i := 2) (XC.calAt (c_behind_of S) (a_behind_of S)) (XC.calAt (c_beside_of S) (a_beside_of S)) hr (by decide) (by decide) rfl (Or.inl rfl) (pa_cons (pv 0) (pa_cons (pv 1) pa_nil)))))), ?_⟩
  cases a with
  | none => exact q_when (b := true) (EvB.is (b_or (j := true) (b_test (e_isNO (A := rP K) (e_var rfl hu))) fun z => absurd z (by decide)) rfl) (fun _ H1 e1 => s_ret (A := rOP K) e_non fun w H2 e2 r2 => k w H2 (e1.trans e2) r2) fun z => nomatch z
  | some x =>
    cases b with
    | none => exact q_when (b := true) (EvB.is (b_or (b_test (e_isNO (A := rP K) (e_var rfl hu))) fun _ => b_or (j := true) (b_test (e_isNO (A := rP K) (e_var rfl hv))) fun z => absurd z (by decide)) rfl) (fun _ H1 e1 => s_ret (A := rOP K) e_non fun w H2 e2 r2 => k w H2 (e1.trans e2) r2) fun z => nomatch z
    | some y =>
      refine q_when (b := decide (40 < x.length + y.length)) (EvB.is (b_or (b_test (e_isNO (A := rP K) (e_var rfl hu))) fun _ => b_or (b_test (e_isNO (A := rP K) (e_var rfl hv))) fun _ => b_test (e_gt (e_add (e_toI (e_lenT (EvR.un (e_var rfl hu)))) (e_toI (e_lenT (EvR.un (e_var rfl hv))))) (e_c (A := rI) rfl))) ?_) (fun hd H1 e1 => ?_) (fun hd H1 e1 => ?_)
      · show (false || (false || decide ((40 : Int) < (x.length : Int) + (y.length : Int)))) = _
        rw [Bool.false_or, Bool.false_or]
        exact decide_eq_decide.mpr (by omega)
      · refine s_ret (A := rOP K) e_non fun w H2 e2 r2 => k w H2 (e1.trans e2) ?_
        show (rOP K).r H2 w (if _ then none else _)
        rw [if_pos (of_decide_eq_true hd)]
        exact r2
      · have hn := of_decide_eq_false hd
        have kk : ∀ w H', Same H H' → (rP K).r H' w (if d = true then behindP x y else besideP x y) → Q w H' := fun w H' e r => k w H' e (by
          show (rOP K).r H' w (if _ then none else _)
          rw [if_neg hn]
          exact rT_some r)
        cases d with
        | true => exact .inl ⟨rfl, _, rfl, _, rfl, u, v, x, y, _, rfl, Rp.same _ e1 hu.1, Rp.same _ e1 hv.1, ⟨snd_wf (ha x rfl).1, snd_wf (hb y rfl).1, by omega, rfl⟩, fun w H2 e2 r2 => kk w H2 (e1.trans e2) r2⟩
        | false => exact .inr ⟨rfl, _, rfl, _, rfl, u, v, x, y, _, rfl, Rp.same _ e1 hu.1, Rp.same _ e1 hv.1, ⟨snd_wf (ha x rfl).1, snd_wf (hb y rfl).1, by omega, rfl⟩, fun w H2 e2 r2 => kk w H2 (e1.trans e2) r2⟩
def spTimes (K : PySem.W.Frag) : Sp := sp2 (rOP K) rN (rOP K) fun a n c => OkO a ∧ 1 ≤ n ∧ n ≤ 40 ∧ c = timesP a n
/-- times_of: 0 plan, 1 times -/
theorem c_times_of (S : XC.Ctx fa fn P w K mg base) : C8.Cal P w K mg base 4 "times_of" (spTimes K) [] := S.cal 14 8 rfl rfl
    (fun _ _ _ _ _ _ us hl => match us, hl with | [_, _], _ => rfl) sc_times_of (fun vs H Q E h => by obtain ⟨u, v, a, n, c, rfl, hu, hv, ⟨ha, hn1, hn2, rfl⟩, k⟩ := h; rfl) fun cdv A outer s H vs Q E hr h => by
  have hu := hu_of hr
  obtain ⟨u, v, a, n, c, rfl, hu, hv, ⟨ha, hn1, hn2, rfl⟩, k⟩ := h
  refine ⟨_, (pss_cons (ps_if (PW.pt (pw_or (pt_cmpR op_isN (pv 0) pe_non (nomark _)) (pw_or1 (pt_cmpR op_gt (pe_op op_mul (pe_callB (id := "len") call_len_seq (by rfl) (fr_len S) (by decide +kernel) (pa_cons (pv 0) pa_nil)) (pv 1)) (C8.pe_gc (by rfl) (g_MOST_ITEMS S)) (nomark _))))) (pss_one (ps_ret pe_non)) pss_nil)
    (pss_one (ps_ret (C8.pe_c (c_repeated_of S) hr (by decide) (by rfl) (pa_cons (pv 0) (pa_cons (pv 1) pa_nil)))))), ?_⟩
  cases a with
  | none => exact q_when (b := true) (EvB.is (b_or (j := true) (b_test (e_isNO (A := rP K) (e_var rfl hu))) fun z => absurd z (by decide)) rfl) (fun _ H1 e1 => s_ret (A := rOP K) e_non fun w H2 e2 r2 => k w H2 (e1.trans e2) r2) fun z => nomatch z
  | some x =>
    have hl := (ha x rfl).2
    refine q_when (b := decide (40 < x.length * n)) (EvB.is (b_or (b_test (e_isNO (A := rP K) (e_var rfl hu))) fun _ => b_test (e_gt (e_mul (e_toI (e_lenT (EvR.un (e_var rfl hu)))) (e_toI (e_var rfl hv)) (.inr ⟨by omega, by omega⟩)) (e_c (A := rI) rfl))) ?_) (fun hd H1 e1 => ?_) (fun hd H1 e1 => ?_)
    · show (false || decide ((40 : Int) < (x.length : Int) * (n : Int))) = _
      rw [Bool.false_or]
      refine decide_eq_decide.mpr ?_
      have e : ((x.length : Int) * (n : Int)) = ((x.length * n : Nat) : Int) := by push_cast; rfl
      rw [e]
      omega
    · refine s_ret (A := rOP K) e_non fun w H2 e2 r2 => k w H2 (e1.trans e2) ?_
      show (rOP K).r H2 w (if _ then none else _)
      rw [if_pos (of_decide_eq_true hd)]
      exact r2
    · have hn := of_decide_eq_false hd
      refine s_ret (A := rP K) (e_call2 (e_var rfl (Rp.same _ e1 hu.1)) (e_var rfl (Rp.same _ e1 hv)) (sp2_ok ⟨snd_wf (ha x rfl).1, by omega, hn1, hn2, rfl⟩)) fun w H2 e2 r2 => k w H2 (e1.trans e2) ?_
      show (rOP K).r H2 w (if _ then none else _)
      rw [if_neg hn]
      exact rT_some r2
def spLvI (K : PySem.W.Frag) : Sp := fun vs H Q _ => ∃ (p dx : Addr) (t : Nat), vs = [.ref p, .int (t : Int)] ∧ H p = some (.ins (He.ga K "Level") dx []) ∧ ∀ H', Off p H H' → LvAt K H' p ⟨t, some [], some []⟩ → Q .non H'
/-- Level_init: 0 self, 1 times -/
theorem k_Level (S : XC.Ctx fa fn P w K mg base) : C8.Mak P w K mg base 1 "Level" (He.ga K "Level") (spLvI K) [] := S.mak 55 15 9 rfl rfl rfl
    (fun _ _ _ _ _ _ us hl => match us, hl with | [_, _], _ => rfl) sc_Level_init (fun vs H Q E h => by obtain ⟨p, dx, t, rfl, hp, k⟩ := h; rfl) fun cdv A outer s H vs Q E hr h => by
  have hu := hu_of hr
  obtain ⟨p, dx, t, rfl, hp, k⟩ := h
  refine ⟨_, (pss_cons (ps_fld (pv 0) (pv 1) rfl)
    (pss_cons (ps_fld (pv 0) (pe_tup pa_nil) rfl)
    (pss_one (ps_fld (pv 0) (pe_tup pa_nil) rfl)))), ?_⟩
  refine q_fld (A := rN) (e_var rfl rfl) (e_var (A := rV) rfl rfl) hp (cl_Level S) (na_Level_times S) (by decide) fun v1 H1 e1 r1 => ?_
  refine q_fld (A := rP K) e_tup0 (e_var (A := rV) rfl rfl) upd_same (cl_Level S) (na_Level_sides S) (by show 1 < 1000; decide) fun v2 H2 e2 r2 => ?_
  refine s_fld (A := rP K) e_tup0 (e_var (A := rV) rfl rfl) upd_same (cl_Level S) (na_Level_row S) (by show 2 < 1000; decide) fun v3 H3 e3 r3 => ?_
  have a1 : v1 = V.int (t : Int) := r1
  subst a1
  rw [lv_init]
  have o2 : Off p H2 _ := (Off.refl p H2).upd (o := .ins (He.ga K "Level") dx (putF "sides" v2 (putF "times" (.int (t : Int)) [])))
  have tk3 : Tk H3 (upd H3 p (.ins (He.ga K "Level") dx (lvF t v2 v3))) := tk_ins (e3 p _ upd_same)
  have tk2 : Tk H2 (upd H2 p (.ins (He.ga K "Level") dx (putF "sides" v2 (putF "times" (.int (t : Int)) [])))) := tk_ins (e2 p _ upd_same)
  exact k _ ((Off.of e1).upd.trans (((Off.of e2).upd).trans ((Off.of e3).upd))) ⟨dx, v2, v3, upd_same, (rOP K).mono ((tk2.trans (Same.tk e3)).trans tk3) (rT_some r2), (rOP K).mono tk3 (rT_some r3)⟩
def spAdd (K : PySem.W.Frag) : Sp := fun vs H Q _ => ∃ (p : Addr) (u : V) (L : Lv) (a : OP), vs = [.ref p, u] ∧ LvAt K H p L ∧ (rOP K).r H u a ∧ L.Ok ∧ OkO a ∧ ∀ H', Off p H H' → LvAt K H' p (L.add a) → Q .non H'
theorem e_both {σ : L2.St} {H : Hp} {ta tb tc : TE} {a b : OP} {d : Bool} (h1 : EvR (rOP K) ta σ H a) (h2 : EvR (rOP K) tb σ H b) (h3 : EvR rV tc σ H (.ref (wayA K d))) (ha : OkO a) (hb : OkO b) : EvR (rOP K) (tCall (spBoth K) [] C8.E0 (tCons ta (tCons tb (tCons tc tNil)))) σ H (bothP d a b) :=
  e_call3 h1 h2 h3 fun u v x H hu hv hx Q E k => by
    have ex : x = V.ref (wayA K d) := hx
    subst ex
    exact ⟨u, v, d, a, b, rfl, hu, hv, ha, hb, k⟩
/-- Level_add: 0 self, 1 unit -/
theorem m_Level_add (S : XC.Ctx fa fn P w K mg base) : C8.Met P w K mg base 4 (He.ga K "Level") "add" (spAdd K) [] := S.met 49 53 10 rfl rfl rfl
    (fun _ _ _ _ _ _ us hl => match us, hl with | [_, _], _ => rfl) sc_Level_add (fun vs H Q E h => by obtain ⟨p, u, L, a, rfl, ⟨dx, sv, rv, hp, hsv, hrv⟩, hu, hL, ha, k⟩ := h; rfl) fun cdv A outer s H vs Q E hr h => by
  have hu := hu_of hr
  obtain ⟨p, u, L, a, rfl, ⟨dx, sv, rv, hp, hsv, hrv⟩, hu, hL, ha, k⟩ := h
  refine ⟨_, (pss_one (ps_fld (pv 0) (C8.pe_c (c_both_of S) hr (by decide) (by rfl) (pa_cons (pe_fld (pv 0) rfl) (pa_cons (pv 1) (pa_cons (C8.pe_gc (by rfl) (g_behind_of S)) pa_nil)))) rfl)), ?_⟩
  refine s_fld (A := rOP K) (e_both (d := true) (e_fld (A := rOP K) (e_var (A := rV) rfl rfl) hp (cl_Level S) (na_Level_row S) (lget_r _ _ _) hrv) (e_var rfl hu) (e_c (A := rV) rfl) hL.2.2.2 ha) (e_var (A := rV) rfl rfl) hp (cl_Level S) (na_Level_row S) (by show 3 < 1000; decide) fun v1 H1 e1 r1 => ?_
  rw [lput_r]
  have tk1 : Tk H1 (upd H1 p (.ins (He.ga K "Level") dx (lvF L.t sv v1))) := tk_ins (e1 p _ hp)
  exact k _ (Off.of e1).upd ⟨dx, sv, v1, upd_same, (rOP K).mono ((Same.tk e1).trans tk1) hsv, (rOP K).mono tk1 r1⟩
def spTurn (K : PySem.W.Frag) : Sp := fun vs H Q _ => ∃ (p : Addr) (L : Lv), vs = [.ref p] ∧ LvAt K H p L ∧ L.Ok ∧ ∀ H', Off p H H' → LvAt K H' p L.turn → Q .non H'
/-- Level_turn: 0 self -/
theorem m_Level_turn (S : XC.Ctx fa fn P w K mg base) : C8.Met P w K mg base 4 (He.ga K "Level") "turn" (spTurn K) [] := S.met 49 54 11 rfl rfl rfl
    (fun _ _ _ _ _ _ us hl => match us, hl with | [_], _ => rfl) sc_Level_turn (fun vs H Q E h => by obtain ⟨p, L, rfl, ⟨dx, sv, rv, hp, hsv, hrv⟩, hL, k⟩ := h; rfl) fun cdv A outer s H vs Q E hr h => by
  have hu := hu_of hr
  obtain ⟨p, L, rfl, ⟨dx, sv, rv, hp, hsv, hrv⟩, hL, k⟩ := h
  refine ⟨_, (pss_cons (ps_fld (pv 0) (C8.pe_c (c_both_of S) hr (by decide) (by rfl) (pa_cons (pe_fld (pv 0) rfl) (pa_cons (pe_fld (pv 0) rfl) (pa_cons (C8.pe_gc (by rfl) (g_beside_of S)) pa_nil)))) rfl)
    (pss_one (ps_fld (pv 0) (pe_tup pa_nil) rfl))), ?_⟩
  refine q_fld (A := rOP K) (e_both (d := false) (e_fld (A := rOP K) (e_var (A := rV) rfl rfl) hp (cl_Level S) (na_Level_sides S) (lget_s _ _ _) hsv) (e_fld (A := rOP K) (e_var (A := rV) rfl rfl) hp (cl_Level S) (na_Level_row S) (lget_r _ _ _) hrv) (e_c (A := rV) rfl) hL.2.2.1 hL.2.2.2) (e_var (A := rV) rfl rfl) hp (cl_Level S) (na_Level_sides S) (by show 3 < 1000; decide) fun v1 H1 e1 r1 => ?_
  rw [lput_s]
  refine s_fld (A := rP K) e_tup0 (e_var (A := rV) rfl rfl) upd_same (cl_Level S) (na_Level_row S) (by show 3 < 1000; decide) fun v2 H2 e2 r2 => ?_
  rw [lput_r]
  have tk1 : Tk H1 (upd H1 p (.ins (He.ga K "Level") dx (lvF L.t v1 rv))) := tk_ins (e1 p _ hp)
  have tk2 : Tk H2 (upd H2 p (.ins (He.ga K "Level") dx (lvF L.t v1 v2))) := tk_ins (e2 p _ upd_same)
  exact k _ ((Off.of e1).upd.trans (Off.of e2).upd) ⟨dx, v1, v2, upd_same, (rOP K).mono ((tk1.trans (Same.tk e2)).trans tk2) r1, (rOP K).mono tk2 (rT_some r2)⟩
end
end K84
end
section
set_option Elab.async false
set_option linter.all false
set_option maxRecDepth 100000
set_option maxHeartbeats 4000000
namespace K84
open PySem PySem.Spec PyProof.Rows L2 XE
def rst (n : Nat) (st : List Lv) (c : Nat) : List Lv :=
  if isFig c = true then st
  else if c = 40 then ⟨max n 1, some [], some []⟩ :: st
  else if c = 46 then (match st with
    | L :: r => L.add (timesP (some [[]]) (max n 1)) :: r
    | [] => [])
  else if c = 41 then (match st with
    | D :: L :: r => L.add (timesP D.turn.s D.t) :: r
    | x => x)
  else if c = 124 then (match st with
    | L :: r => L.turn :: r
    | [] => [])
  else st
def rrun : Sc → List Lv → List Nat → List Lv
  | _, st, [] => st
  | s, st, c :: r => rrun (s.take c).2 (rst s.n st c) r
def s0 : Sc := ⟨0, false, 0⟩
def l0 : Lv := ⟨1, some [], some []⟩
/-- what is told of a shape -/
def rawP (cs : List Nat) : OP := match rrun s0 [l0] cs with
  | L :: _ => L.turn.s
  | [] => none
theorem stk_keep {K : PySem.W.Frag} {H H' : Hp} {ps : List Addr} {st : List Lv} (h : Paired (LvAt K H) ps st) (e : Tk H H') (e2 : ∀ p ∈ ps, ∀ o, H p = some o → H' p = some o) : Paired (LvAt K H') ps st := by
  induction h with
  | nil => exact .nil
  | cons f t ih => exact .cons (f.keep e (e2 _ List.mem_cons_self)) (ih fun p hp => e2 p (List.mem_cons_of_mem _ hp))
section
variable {α : Type} {A : Rp α} {K : PySem.W.Frag} {σ : L2.St} {H : Hp} {ta : TE}
/-- xs[-1] -/
theorem e_ixLast {l p : Addr} {ps : List Addr} (ha : EvR rV ta σ H (.ref l)) (hl : H l = some (.lst ((p :: ps).reverse.map V.ref))) : EvR rV (tOp (rIxL K) ta (tUn (rU fun i => .int (-i)) (tC (.int 1)))) σ H (.ref p) := e_op ha (e_neg e_int) fun u v H1 e hu hv Q q => by
  have eu : u = V.ref l := hu
  have ev : v = V.int (-1) := hv
  subst eu ev
  refine ⟨l, _, (-1 : Int), .ref p, rfl, rfl, SqL.of (e l _ hl), ?_, q _ H1 (Same.refl H1) rfl⟩
  rw [List.reverse_cons, List.map_append]
  exact L2.atI_last _ _
end
/-- the loop's word -/
structure RW (K : PySem.W.Frag) (H : Hp) (l : Addr) (cs : List Nat) (i : Nat) (s : Sc) (ps : List Addr) (st : List Lv) (H' : Hp) : Prop where
  same : Same H H'
  new : H l = none
  lst : H' l = some (.lst (ps.reverse.map V.ref))
  lev : Paired (LvAt K H') ps st
  nd : ps.Nodup
  pn : ∀ p ∈ ps, H p = none
  len : st.length = s.b + 1
  num : s.n ≤ 40
  ok : ∀ L ∈ st, L.Ok
  chk : chk s i (cs.drop i) = none
  run : rrun s st (cs.drop i) = rrun s0 [l0] cs
  small : ps.length ≤ i + 1
theorem take_num {s : Sc} {c : Nat} (h : s.n ≤ 40) (ht : (s.take c).1 = true) : (s.take c).2.n ≤ 40 := by
  unfold Sc.take at ht ⊢
  by_cases h1 : s.d = true
  · rw [if_pos h1] at ht ⊢
    by_cases h2 : (decide (c = 41) && decide (0 < s.b)) = true
    · rw [if_pos h2]; exact h
    · rw [if_neg h2]; exact h
  · rw [if_neg h1] at ht ⊢
    by_cases h2 : isFig c = true
    · rw [if_pos h2] at ht ⊢
      exact of_decide_eq_true (Bool.and_eq_true_iff.mp ht).2
    · rw [if_neg h2] at ht ⊢
      by_cases h3 : c = 40
      · rw [if_pos h3]; exact Nat.zero_le _
      · rw [if_neg h3]; exact Nat.zero_le _
theorem take_fig {s : Sc} {c : Nat} (ht : (s.take c).1 = true) (hf : isFig c = true) : (s.take c).2 = ⟨s.n * 10 + (c - 48), s.d, s.b⟩ := by
  unfold isFig at hf
  rw [Bool.and_eq_true, decide_eq_true_eq, decide_eq_true_eq] at hf
  unfold Sc.take at ht ⊢
  by_cases h1 : s.d = true
  · rw [if_pos h1] at ht
    have a1 : ¬ c = 41 := by omega
    have a2 : ¬ c = 62 := by omega
    have a3 : ¬ c = 124 := by omega
    simp [a1, a2, a3] at ht
  · rw [if_neg h1]
    have h2 : isFig c = true := by unfold isFig; simp [hf]
    rw [if_pos h2]
theorem take_open {s : Sc} (ht : (s.take 40).1 = true) : (s.take 40).2 = ⟨0, s.d, s.b + 1⟩ := by
  unfold Sc.take at ht ⊢
  by_cases h1 : s.d = true
  · rw [if_pos h1] at ht
    simp at ht
  · rw [if_neg h1, if_neg (by decide), if_pos rfl]
theorem take_dot {s : Sc} (ht : (s.take 46).1 = true) : (s.take 46).2 = ⟨0, true, s.b⟩ := by
  unfold Sc.take at ht ⊢
  by_cases h1 : s.d = true
  · rw [if_pos h1] at ht
    simp at ht
  · rw [if_neg h1, if_neg (by decide), if_neg (by decide)]
    rfl
theorem take_close {s : Sc} (ht : (s.take 41).1 = true) : 0 < s.b ∧ (s.take 41).2 = ⟨s.n, s.d, s.b - 1⟩ := by
  unfold Sc.take at ht ⊢
  by_cases h1 : s.d = true
  · rw [if_pos h1] at ht ⊢
    by_cases h2 : (decide (41 = 41) && decide (0 < s.b)) = true
    · rw [if_pos h2]
      exact ⟨of_decide_eq_true (Bool.and_eq_true_iff.mp h2).2, rfl⟩
    · rw [if_neg h2] at ht
      simp at ht
  · rw [if_neg h1] at ht
    rw [if_neg (by decide), if_neg (by decide)] at ht
    simp at ht
theorem take_else {s : Sc} {c : Nat} (ht : (s.take c).1 = true) (hf : ¬ isFig c = true) (h1 : ¬ c = 40) (h2 : ¬ c = 46) (h3 : ¬ c = 41) : (s.take c).2 = ⟨s.n, false, s.b⟩ := by
  unfold Sc.take at ht ⊢
  by_cases hd : s.d = true
  · rw [if_pos hd]
    rw [if_neg (by simp [h3])]
  · rw [if_neg hd, if_neg hf, if_neg h1] at ht
    exact absurd (of_decide_eq_true ht) h2
section
variable {P : Program} {w : World} {K : PySem.W.Frag} {mg : Str → Option Value} {base : Heap} {X : Cx}
theorem e_times {σ : L2.St} {H : Hp} {ta tb : TE} {a : OP} {n : Nat} (h1 : EvR (rOP K) ta σ H a) (h2 : EvR rN tb σ H n) (ha : OkO a) (hn : 1 ≤ n ∧ n ≤ 40) : EvR (rOP K) (tCall (spTimes K) [] C8.E0 (tCons ta (tCons tb tNil))) σ H (timesP a n) := e_call2 h1 h2 (sp2_ok ⟨ha, hn.1, hn.2, rfl⟩)
theorem e_max1 {σ : L2.St} {H : Hp} {ta : TE} {n : Nat} (h : EvR rN ta σ H n) : EvR rN (tCB (fun xs H Q => ∃ i j, xs = [.int i, .int j] ∧ Q (.int (if j > i then j else i)) H) (tCons ta (tCons (tC (.int 1)) tNil))) σ H (max n 1) := e_toN (e_max (e_toI h) e_int) (by
  by_cases hh : (1 : Int) > (n : Int)
  · rw [if_pos hh]; omega
  · rw [if_neg hh]; omega)
theorem single {H : Hp} (h : XH.nestB K "SINGLE" 1 = true) : (rP K).r H (.ref (He.ga K "SINGLE")) [[]] := by
  obtain ⟨es, h1, h2, h3⟩ := XH.nestB_ok h H
  match es, h1 with
  | [e], _ => exact ⟨_, _, rfl, h2, .cons ⟨e, [], rfl, h3 e (.head _), .nil⟩ .nil⟩
theorem not_mem_of {p : Addr} {ps : List Addr} {H H' : Hp} (h : ∀ q ∈ ps, H q = none) (hp : ∀ q ∈ ps, ∃ o, H' q = some o) (hn : H' p = none) : p ∉ ps := fun hm => by
  obtain ⟨o, ho⟩ := hp p hm
  rw [ho] at hn
  cases hn
theorem lev_at {H : Hp} {ps : List Addr} {st : List Lv} (h : Paired (LvAt K H) ps st) : ∀ q ∈ ps, ∃ dx fs, H q = some (.ins (He.ga K "Level") dx fs) := by
  induction h with
  | nil => exact fun _ z => by cases z
  | cons f t ih =>
    intro q hq
    rcases List.mem_cons.mp hq with rfl | hq
    · obtain ⟨dx, sv, rv, h1, _⟩ := f
      exact ⟨dx, _, h1⟩
    · exact ih q hq
/-- the top level changes -/
theorem RW.top {H H1 H2 : Hp} {l p : Addr} {cs : List Nat} {i c : Nat} {s : Sc} {ps : List Addr} {L L' : Lv} {st : List Lv} (q : RW K H l cs i s (p :: ps) (L :: st) H1) (e : Off p H1 H2) (lv : LvAt K H2 p L') (okL : L'.Ok)
    (hi : cs.drop i = c :: cs.drop (i + 1)) (ht : (s.take c).1 = true) (hb : (s.take c).2.b = s.b) (hst : rst s.n (L :: st) c = L' :: st) : RW K H l cs (i + 1) (s.take c).2 (p :: ps) (L' :: st) H2 := by
  have hp0 := q.pn p (.head _)
  obtain ⟨dx, fs, hp⟩ := lev_at q.lev p (.head _)
  have tk := off_tk e hp
  have nd := List.nodup_cons.mp q.nd
  have hlp : l ≠ p := fun z => by
    have := q.lst
    rw [z, hp] at this
    cases this
  refine ⟨q.same.trans_off e hp0, q.new, e l _ hlp q.lst, ?_, q.nd, q.pn, by rw [hb]; exact q.len, take_num q.num ht, fun M hM => ?_, ?_, ?_, Nat.le_succ_of_le q.small⟩
  · cases q.lev with
    | cons f t => exact .cons lv (stk_keep t tk fun p2 hp2 o ho => e p2 o (fun z => nd.1 (z ▸ hp2)) ho)
  · rcases List.mem_cons.mp hM with rfl | hM
    · exact okL
    · exact q.ok M (.tail _ hM)
  · have := q.chk
    rw [hi] at this
    have h2 : (if (s.take c).1 = true then K84.chk (s.take c).2 (i + 1) (cs.drop (i + 1)) else some i) = none := this
    rw [if_pos ht] at h2
    exact h2
  · rw [← q.run, hi, ← hst]
    rfl
/-- nothing changes -/
theorem RW.stay {H H1 H2 : Hp} {l : Addr} {cs : List Nat} {i c : Nat} {s : Sc} {ps : List Addr} {st : List Lv} (q : RW K H l cs i s ps st H1) (e : Same H1 H2)
    (hi : cs.drop i = c :: cs.drop (i + 1)) (ht : (s.take c).1 = true) (hb : (s.take c).2.b = s.b) (hst : rst s.n st c = st) : RW K H l cs (i + 1) (s.take c).2 ps st H2 := by
  refine ⟨q.same.trans e, q.new, e l _ q.lst, stk_keep q.lev (Same.tk e) fun p _ o ho => e p o ho, q.nd, q.pn, by rw [hb]; exact q.len, take_num q.num ht, q.ok, ?_, ?_, Nat.le_succ_of_le q.small⟩
  · have := q.chk
    rw [hi] at this
    have h2 : (if (s.take c).1 = true then K84.chk (s.take c).2 (i + 1) (cs.drop (i + 1)) else some i) = none := this
    rw [if_pos ht] at h2
    exact h2
  · rw [← q.run, hi]
    show _ = rrun (s.take c).2 (rst s.n st c) _
    rw [hst]
def spRaw (K : PySem.W.Frag) : Sp := fun vs H Q _ => ∃ cs, vs = [.str (SX.S cs)] ∧ cs.length ≤ 2000000 ∧ chk s0 0 cs = none ∧ ∀ w H', Same H H' → (rOP K).r H' w (rawP cs) → OkO (rawP cs) → Q w H'
/-- raw_shape: 0 text, 1 levels, 2 times, 3 sign, 4 done -/
theorem c_raw_shape (S : XC.Ctx fa fn P w K mg base) (Z : Zs P w K mg base) : C8.Cal P w K mg base 6 "raw_shape" (spRaw K) [] := S.cal 16 12 rfl rfl
    (fun _ _ _ _ _ _ us hl => match us, hl with | [_], _ => rfl) sc_raw_shape (fun vs H Q E h => by obtain ⟨cs, rfl, hlen, hc, k⟩ := h; rfl) fun cdv A outer s H vs Q E hr h => by
  have hu := hu_of hr
  obtain ⟨cs, rfl, hlen, hc, k⟩ := h
  refine ⟨_, (pss_cons (ps_set (i := 1) sc_raw_shape.nd rfl (by first | exact Or.inl rfl | exact Or.inr rfl) (pe_lst (pa_cons (C8.pe_mk (k_Level S) hr (by decide) (by rfl) (pa_cons pe_int pa_nil)) pa_nil)))
    (pss_cons (ps_set (i := 2) sc_raw_shape.nd rfl (by first | exact Or.inl rfl | exact Or.inr rfl) pe_int)
    (pss_cons (ps_for PassesOwn.never rfl (pi_str (pv 0)) (pg_name (i := 3) sc_raw_shape.nd rfl (by first | exact Or.inl rfl | exact Or.inr rfl)) (pss_one (ps_if (pt_cmpR op_in_sign (pv 3) (C8.pe_gc (by rfl) (g_FIGURES S)) (by rfl)) (pss_one (ps_set (i := 2) sc_raw_shape.nd rfl (by first | exact Or.inl rfl | exact Or.inr rfl) (pe_op op_add (pe_op op_mul (pv 2) pe_int) (pe_bm PySem.F.plainAttrs_str PySem.F.slot_str_index PySem.F.type_str_index mt_sindex (C8.pe_gc (by rfl) (g_FIGURES S)) (pa_cons (pv 3) pa_nil))))) (pss_one (ps_if (pt_cmpR op_eq (pv 3) pe_str (nomark _)) (pss_cons (ps_expr (pe_bm PySem.F.plainAttrs_list PySem.F.slot_list_append PySem.F.type_list_append mt_append (pv 1) (pa_cons (C8.pe_mk (k_Level S) hr (by decide) (by rfl) (pa_cons (pe_callB (id := "max") (call_max2 rfl) (by rfl) (fr_max S) (by decide +kernel) (pa_cons (pv 2) (pa_cons pe_int pa_nil))) pa_nil)) pa_nil)))
    (pss_one (ps_set (i := 2) sc_raw_shape.nd rfl (by first | exact Or.inl rfl | exact Or.inr rfl) pe_int))) (pss_one (ps_if (pt_cmpR op_eq (pv 3) pe_str (nomark _)) (pss_cons (ps_expr (C8.pe_mt (m_Level_add S) hr (by decide) (pe_ix ix_list (pv 1) (pe_un un_neg pe_int) (fun _ _ => rfl)) (pa_cons (C8.pe_c (c_times_of S) hr (by decide) (by rfl) (pa_cons (C8.pe_gc (by rfl) (g_SINGLE S)) (pa_cons (pe_callB (id := "max") (call_max2 rfl) (by rfl) (fr_max S) (by decide +kernel) (pa_cons (pv 2) (pa_cons pe_int pa_nil))) pa_nil))) pa_nil)))
    (pss_one (ps_set (i := 2) sc_raw_shape.nd rfl (by first | exact Or.inl rfl | exact Or.inr rfl) pe_int))) (pss_one (ps_if (pt_cmpR op_eq (pv 3) pe_str (nomark _)) (pss_cons (ps_set (i := 4) sc_raw_shape.nd rfl (by first | exact Or.inl rfl | exact Or.inr rfl) (pe_bm0 PySem.F.plainAttrs_list PySem.F.slot_list_pop PySem.F.type_list_pop mt_pop (pv 1)))
    (pss_cons (ps_expr (C8.pe_mt0 (m_Level_turn S) hr (by decide) (pv 4)))
    (pss_one (ps_expr (C8.pe_mt (m_Level_add S) hr (by decide) (pe_ix ix_list (pv 1) (pe_un un_neg pe_int) (fun _ _ => rfl)) (pa_cons (C8.pe_c (c_times_of S) hr (by decide) (by rfl) (pa_cons (pe_fld (pv 4) rfl) (pa_cons (pe_fld (pv 4) rfl) pa_nil))) pa_nil)))))) (pss_one (ps_if (pt_cmpR op_eq (pv 3) pe_str (nomark _)) (pss_one (ps_expr (C8.pe_mt0 (m_Level_turn S) hr (by decide) (pe_ix ix_list (pv 1) (pe_un un_neg pe_int) (fun _ _ => rfl))))) pss_nil)))))))))))
    (pss_cons (ps_expr (C8.pe_mt0 (m_Level_turn S) hr (by decide) (pe_ix ix_list (pv 1) pe_int (fun _ _ => rfl))))
    (pss_one (ps_ret (pe_fld (pe_ix ix_list (pv 1) pe_int (fun _ _ => rfl)) rfl))))))), ?_⟩
  intro p0 dx0 hp0 hdx0 hne0
  have e1 : Same H H := Same.refl H
  have sm0 : Same H (upd (upd H dx0 (.own p0)) p0 (.ins (He.ga K "Level") dx0 [])) := same_mut (same_new hdx0) hp0
  refine ⟨p0, dx0, 1, rfl, upd_same, fun H2 o2 lv2 => ⟨rfl, ?_⟩⟩
  refine ⟨by show 1 ≤ sizeLine; decide, fun l hl => ?_⟩
  have s2 : Same H H2 := e1.trans (sm0.trans_off o2 hp0)
  have s3 : Same H2 (upd H2 l (.lst [.ref p0])) := same_new hl
  show tSeq _ _ _ _ _
  refine q_asg (A := rN) (a := 0) e_nat fun v3 H3 e3 r3 => ?_
  have a3 : v3 = V.int ((0 : Nat) : Int) := r3
  subst a3
  refine q_str (cs := cs) (e_var (A := rS) rfl rfl) (fun i σ H' => ∃ s ps st a3 a4, σ = [some (.str (SX.S cs)), some (.ref l), some (.int (s.n : Int)), a3, a4] ∧ RW K H l cs i s ps st H') (fun H4 e4 => ⟨s0, [p0], [l0], none, none, rfl, ?_⟩) (fun i c σ' H' hi q => ?_) (fun σ' H' q => ?_)
  · have e34 := (s3.trans e3).trans e4
    have okl : l0.Ok := ⟨Nat.le_refl _, by decide, ok_nil, ok_nil⟩
    exact ⟨s2.trans e34, Same.free s2 hl, (e3.trans e4) l _ upd_same, .cons (lv2.same e34) .nil, by simp, fun p hp => by
      rcases List.mem_singleton.mp hp with rfl
      exact Same.free e1 hp0, rfl, Nat.zero_le _, fun L hL => by
      rcases List.mem_singleton.mp hL with rfl
      exact okl, hc, rfl, Nat.le_refl _⟩
  · obtain ⟨s, ps, st, a3, a4, rfl, q⟩ := q
    have hd : cs.drop i = c :: cs.drop (i + 1) := by
      obtain ⟨h1, h2⟩ := List.getElem?_eq_some_iff.mp hi
      rw [List.drop_eq_getElem_cons h1, h2]
    have ht : (s.take c).1 = true := by
      have h1 := q.chk
      rw [hd] at h1
      have h2 : (if (s.take c).1 = true then chk (s.take c).2 (i + 1) (cs.drop (i + 1)) else some i) = none := h1
      cases h3 : (s.take c).1 with
      | true => rfl
      | false =>
        rw [h3, if_neg (by decide)] at h2
        cases h2
    have hi2 := (List.getElem?_eq_some_iff.mp hi).1
    obtain ⟨p, ps', L, st', rfl, rfl⟩ : ∃ p ps' L st', ps = p :: ps' ∧ st = L :: st' := by
      have h1 := q.len
      cases q.lev with
      | nil => simp at h1
      | cons f t => exact ⟨_, _, _, _, rfl, rfl⟩
    refine s_if (b := isFig c) (EvB.is (b_test (e_sign (e_var rfl rfl) (e_c (A := rS) rfl))) (fig_mem c)) (fun hf H4 e4 => ?_) (fun hf H4 e4 => ?_)
    · refine s_asg (A := rN) (e_toN (e_add (e_mul (e_toI (e_var (A := rN) rfl rfl)) e_int (.inr ⟨by decide, by decide⟩)) (e_toI (e_figIx (k := c) (e_c (A := rS) rfl) (e_var rfl rfl) hf))) (n := s.n * 10 + (c - 48)) (by push_cast; omega)) fun v5 H5 e5 r5 => ?_
      have a5 : v5 = V.int _ := r5
      subst a5
      have et := take_fig ht hf
      have q5 := q.stay (e4.trans e5) hd ht (by rw [et]) (by unfold rst; rw [if_pos hf])
      rw [et] at q5
      exact ⟨_, _, _, _, _, rfl, q5⟩
    · have hfn : ¬ isFig c = true := by rw [hf]; decide
      refine s_if (b := decide (c = 40)) (b_test (e_eqC (e_var rfl rfl) rfl)) (fun h5 H5 e5 => ?_) (fun h5 H5 e5 => ?_)
      · have c5 : c = 40 := of_decide_eq_true h5
        subst c5
        have q5 := (e4.trans e5)
        refine q_appT (q5 l _ q.lst) (e_var (A := rV) rfl rfl) fun H50 e50 => ?_
        refine r_make (e_max1 (e_var (A := rN) rfl rfl)) fun v6 H6 e60 r6 => ?_
        have e6 := e50.trans e60
        have a6 : v6 = V.int _ := r6
        subst a6
        intro pn dxn hpn hdxn hnen
        have smn : Same H6 (upd (upd H6 dxn (.own pn)) pn (.ins (He.ga K "Level") dxn [])) := same_mut (same_new hdxn) hpn
        refine ⟨pn, dxn, max s.n 1, rfl, upd_same, fun H7 o7 lv7 => ⟨rfl, ?_⟩⟩
        have s7 : Same H' H7 := (q5.trans e6).trans (smn.trans_off o7 hpn)
        have hl7 := s7 l _ q.lst
        have hn1 : max s.n 1 ≤ 40 := by have := q.num; omega
        have hps := q.small
        have esz : (3000000 : Nat) < sizeLine := by decide
        refine ⟨l, _, .ref pn, rfl, rfl, hl7, ?_, ?_⟩
        · rw [List.length_map, List.length_reverse]; omega
        · have tk8 : Tk H7 (upd H7 l (.lst ((p :: ps').reverse.map V.ref ++ [.ref pn]))) := tk_lst hl7
          have hpnl : pn ≠ l := fun z => by
            obtain ⟨dz, _, _, hz, _⟩ := lv7
            rw [z, hl7] at hz
            cases hz
          have hpnH : H' pn = none := Same.free (q5.trans e6) hpn
          refine s_asg (A := rN) (a := 0) e_nat fun v9 H9 e9 r9 => ?_
          have a9 : v9 = V.int ((0 : Nat) : Int) := r9
          subst a9
          have et := take_open ht
          have hrun : rst s.n (L :: st') 40 = ⟨max s.n 1, some [], some []⟩ :: L :: st' := by unfold rst; rw [if_neg hfn, if_pos rfl]
          have hchk := q.chk
          rw [hd] at hchk
          have hchk2 : (if (s.take 40).1 = true then chk (s.take 40).2 (i + 1) (cs.drop (i + 1)) else some i) = none := hchk
          rw [if_pos ht] at hchk2
          have keepL : ∀ p2 o, p2 ≠ l → H7 p2 = some o → H9 p2 = some o := fun p2 o hne ho => e9 p2 o (by rw [upd_ne hne]; exact ho)
          have q9 : RW K H l cs (i + 1) (s.take 40).2 (pn :: p :: ps') (⟨max s.n 1, some [], some []⟩ :: L :: st') H9 := by
            refine ⟨?_, q.new, ?_, .cons (lv7.keep (tk8.trans (Same.tk e9)) fun o ho => keepL pn o hpnl ho) (stk_keep q.lev ((Same.tk s7).trans (tk8.trans (Same.tk e9))) fun p2 hp2 o ho => keepL p2 o (fun z => ?_) (s7 p2 o ho)), ?_, ?_, ?_, take_num q.num ht, ?_, hchk2, ?_, ?_⟩
            · exact (same_mut (q.same.trans s7) q.new).trans e9
            · rw [List.reverse_cons, List.map_append]
              exact e9 l _ upd_same
            · obtain ⟨dz, fz, hz⟩ := lev_at q.lev p2 hp2
              rw [z, q.lst] at hz
              cases hz
            · refine List.nodup_cons.mpr ⟨fun hm => ?_, q.nd⟩
              obtain ⟨dz, fz, hz⟩ := lev_at q.lev pn hm
              rw [hpnH] at hz
              cases hz
            · intro p2 hp2
              rcases List.mem_cons.mp hp2 with rfl | hp2
              · exact Same.free q.same hpnH
              · exact q.pn p2 hp2
            · rw [et]
              show (L :: st').length + 1 = s.b + 1 + 1
              rw [q.len]
            · intro M hM
              rcases List.mem_cons.mp hM with rfl | hM
              · exact ⟨Nat.le_max_right _ _, hn1, ok_nil, ok_nil⟩
              · exact q.ok M hM
            · rw [← q.run, hd, ← hrun]
              rfl
            · show (p :: ps').length + 1 ≤ _
              omega
          rw [et] at q9
          exact ⟨_, _, _, _, _, rfl, q9⟩
      · have c5 : ¬ c = 40 := of_decide_eq_false h5
        refine s_if (b := decide (c = 46)) (b_test (e_eqC (e_var rfl rfl) rfl)) (fun h6 H6 e6 => ?_) (fun h6 H6 e6 => ?_)
        · have c6 : c = 46 := of_decide_eq_true h6
          subst c6
          have s6 := (e4.trans e5).trans e6
          obtain ⟨dx, sv, rv, hp, hsv, hrv⟩ : LvAt K H' p L := by cases q.lev with
            | cons f t => exact f
          have okL := q.ok L (.head _)
          have hn1 : max s.n 1 ≤ 40 := by have := q.num; omega
          refine q_meth1 (e_ixLast (e_var (A := rV) rfl rfl) (s6 l _ q.lst)) (s6 p _ hp) (lget_add _ _ _) (e_times (K := K) (a := some [[]]) (e_c (A := rOP K) (rT_some (single Z.single))) (e_max1 (e_var (A := rN) rfl rfl)) ok_one ⟨Nat.le_max_right _ _, hn1⟩) fun v8 H8 e8 r8 => ?_
          have s8 := s6.trans e8
          refine ⟨p, v8, L, _, rfl, LvAt.same ⟨dx, sv, rv, hp, hsv, hrv⟩ s8, r8, okL, ok_times ok_one, fun H9 o9 lv9 => ?_⟩
          refine s_asg (A := rN) (a := 0) e_nat fun v10 H10 e10 r10 => ?_
          have a10 : v10 = V.int ((0 : Nat) : Int) := r10
          subst a10
          have et := take_dot ht
          have q10 := q.top (c := 46) ((Off.of s8).trans (o9.trans (Off.of e10))) (lv9.same e10) (okL.add (ok_times ok_one)) hd ht (by rw [et]) (by unfold rst; rw [if_neg hfn, if_neg (by decide), if_pos rfl])
          rw [et] at q10
          exact ⟨_, _, _, _, _, rfl, q10⟩
        · have c6 : ¬ c = 46 := of_decide_eq_false h6
          refine s_if (b := decide (c = 41)) (b_test (e_eqC (e_var rfl rfl) rfl)) (fun h7 H7 e7 => ?_) (fun h7 H7 e7 => ?_)
          · have c7 : c = 41 := of_decide_eq_true h7
            subst c7
            obtain ⟨hb0, et⟩ := take_close ht
            have s7 := ((e4.trans e5).trans e6).trans e7
            obtain ⟨p2, ps2, L2', st2, rfl, rfl⟩ : ∃ p2 ps2 L2' st2, ps' = p2 :: ps2 ∧ st' = L2' :: st2 := by
              have h1 := q.len
              cases q.lev with
              | cons f t =>
                cases t with
                | nil => simp at h1; omega
                | cons f2 t2 => exact ⟨_, _, _, _, rfl, rfl⟩
            obtain ⟨lvp, lvp2, lvr⟩ : LvAt K H' p L ∧ LvAt K H' p2 L2' ∧ Paired (LvAt K H') ps2 st2 := by cases q.lev with
              | cons f t => cases t with
                | cons f2 t2 => exact ⟨f, f2, t2⟩
            have okD := q.ok L (.head _)
            have okL := q.ok L2' (.tail _ (.head _))
            have nd1 := List.nodup_cons.mp q.nd
            have nd2 := List.nodup_cons.mp nd1.2
            have hpp : p2 ≠ p := fun z => nd1.1 (z ▸ .head _)
            have notl : ∀ {q3 : Addr} {M : Lv}, LvAt K H' q3 M → q3 ≠ l := fun {q3 M} ⟨dz, _, _, hz, _⟩ z => by
              rw [z, q.lst] at hz
              cases hz
            have notlm : ∀ q3 ∈ ps2, q3 ≠ l := fun q3 hq z => by
              obtain ⟨dz, fz, hz⟩ := lev_at lvr q3 hq
              rw [z, q.lst] at hz
              cases hz
            have hlst : H7 l = some (.lst ((p2 :: ps2).reverse.map V.ref ++ [.ref p])) := by
              have := s7 l _ q.lst
              rw [List.reverse_cons, List.map_append] at this
              exact this
            refine q_pop hlst (e_var (A := rV) rfl rfl) fun H8 e8 => ?_
            have s8 := s7.trans e8
            have tk9 : Tk H8 (upd H8 l (.lst ((p2 :: ps2).reverse.map V.ref))) := tk_lst (e8 l _ hlst)
            have kp9 : ∀ q3 o, q3 ≠ l → H8 q3 = some o → (upd H8 l (.lst ((p2 :: ps2).reverse.map V.ref))) q3 = some o := fun q3 o hne ho => by rw [upd_ne hne]; exact ho
            have lvp9 : LvAt K (upd H8 l (.lst ((p2 :: ps2).reverse.map V.ref))) p L := (lvp.same s8).keep tk9 fun o ho => kp9 p o (notl lvp) ho
            have lvp29 : LvAt K (upd H8 l (.lst ((p2 :: ps2).reverse.map V.ref))) p2 L2' := (lvp2.same s8).keep tk9 fun o ho => kp9 p2 o (notl lvp2) ho
            obtain ⟨dx, sv, rv, hp, hsv, hrv⟩ := id lvp9
            refine q_meth0 (e_var (A := rV) rfl rfl) hp (lget_turn _ _ _) fun H10 e10 => ?_
            refine ⟨p, L, rfl, lvp9.same e10, okD, fun H11 o11 lv11 => ?_⟩
            have tk11 := off_tk o11 (e10 p _ hp)
            obtain ⟨dx2, sv2, rv2, hp2, hsv2, hrv2⟩ := (lvp29.same e10).keep tk11 fun o ho => o11 p2 o hpp ho
            obtain ⟨dxp, svp, rvp, hpp11, hsvp, hrvp⟩ := id lv11
            have hl11 : H11 l = some (.lst ((p2 :: ps2).reverse.map V.ref)) := o11 l _ (fun z => notl lvp z.symm) (e10 l _ upd_same)
            refine s_meth1 (e_ixLast (e_var (A := rV) rfl rfl) hl11) hp2 (lget_add _ _ _) (e_times (K := K) (a := L.turn.s) (n := L.t) (e_fld (A := rOP K) (e_var (A := rV) rfl rfl) hpp11 (cl_Level S) (na_Level_sides S) (lget_s _ _ _) hsvp) (e_fld (A := rN) (e_var (A := rV) rfl rfl) hpp11 (cl_Level S) (na_Level_times S) (lget_t _ _ _) rfl) okD.turn.2.2.1 ⟨okD.1, okD.2.1⟩) fun v12 H12 e12 r12 => ?_
            refine ⟨p2, v12, L2', _, rfl, LvAt.same ⟨dx2, sv2, rv2, hp2, hsv2, hrv2⟩ e12, r12, okL, ok_times okD.turn.2.2.1, fun H13 o13 lv13 => ?_⟩
            have tk13 := off_tk o13 (e12 p2 _ hp2)
            have hp0 := q.pn p (.head _)
            have hp20 := q.pn p2 (.tail _ (.head _))
            have same9 : Same H (upd H8 l (.lst ((p2 :: ps2).reverse.map V.ref))) := same_mut (q.same.trans s8) q.new
            have same13 : Same H H13 := (((same9.trans e10).trans_off o11 hp0).trans e12).trans_off o13 hp20
            have hchk := q.chk
            rw [hd] at hchk
            have hchk2 : (if (s.take 41).1 = true then chk (s.take 41).2 (i + 1) (cs.drop (i + 1)) else some i) = none := hchk
            rw [if_pos ht] at hchk2
            have hrun : rst s.n (L :: L2' :: st2) 41 = L2'.add (timesP L.turn.s L.t) :: st2 := by unfold rst; rw [if_neg hfn, if_neg c5, if_neg c6, if_pos rfl]
            have q14 : RW K H l cs (i + 1) (s.take 41).2 (p2 :: ps2) (L2'.add (timesP L.turn.s L.t) :: st2) H13 := by
              refine ⟨same13, q.new, ?_, .cons lv13 (stk_keep (stk_keep (stk_keep (stk_keep lvr (Same.tk s8) fun q3 _ o ho => s8 q3 o ho) (tk9.trans (Same.tk e10)) fun q3 hq o ho => e10 q3 o (kp9 q3 o (notlm q3 hq) ho)) (tk11.trans (Same.tk e12)) fun q3 hq o ho => e12 q3 o (o11 q3 o (fun z => nd1.1 (z ▸ .tail _ hq)) ho)) tk13 fun q3 hq o ho => o13 q3 o (fun z => nd2.1 (z ▸ hq)) ho), nd1.2, fun q3 hq => q.pn q3 (.tail _ hq), ?_, take_num q.num ht, fun M hM => ?_, hchk2, ?_, ?_⟩
              · exact o13 l _ (fun z => notl lvp2 z.symm) (e12 l _ hl11)
              · rw [et]
                have := q.len
                simp at this
                show st2.length + 1 = s.b - 1 + 1
                omega
              · rcases List.mem_cons.mp hM with rfl | hM
                · exact okL.add (ok_times okD.turn.2.2.1)
                · exact q.ok M (.tail _ (.tail _ hM))
              · rw [← q.run, hd, ← hrun]
                rfl
              · have := q.small
                simp at this
                show ps2.length + 1 ≤ _
                omega
            rw [et] at q14
            exact ⟨⟨s.n, s.d, s.b - 1⟩, _, _, _, _, rfl, q14⟩
          · have c7 : ¬ c = 41 := of_decide_eq_false h7
            have et := take_else ht hfn c5 c6 c7
            have s7 := ((e4.trans e5).trans e6).trans e7
            refine s_when (b := decide (c = 124)) (b_test (e_eqC (e_var rfl rfl) rfl)) (fun h8 H8 e8 => ?_) (fun h8 H8 e8 => ?_)
            · have c8 : c = 124 := of_decide_eq_true h8
              have s8 := s7.trans e8
              have lvp : LvAt K H' p L := by cases q.lev with
                | cons f t => exact f
              obtain ⟨dx, sv, rv, hp, hsv, hrv⟩ := id lvp
              have okL := q.ok L (.head _)
              refine s_meth0 (e_ixLast (e_var (A := rV) rfl rfl) (s8 l _ q.lst)) (s8 p _ hp) (lget_turn _ _ _) fun H9 e9 => ?_
              have s9 := s8.trans e9
              refine ⟨p, L, rfl, lvp.same s9, okL, fun H10 o10 lv10 => ?_⟩
              have q10 := q.top (c := c) ((Off.of s9).trans o10) lv10 okL.turn hd ht (by rw [et]) (by unfold rst; rw [if_neg hfn, if_neg c5, if_neg c6, if_neg c7, if_pos c8])
              rw [et] at q10
              exact ⟨⟨s.n, false, s.b⟩, _, _, _, _, rfl, q10⟩
            · have c8 : ¬ c = 124 := of_decide_eq_false h8
              have q10 := q.stay (s7.trans e8) hd ht (by rw [et]) (by unfold rst; rw [if_neg hfn, if_neg c5, if_neg c6, if_neg c7, if_neg c8])
              rw [et] at q10
              exact ⟨⟨s.n, false, s.b⟩, _, _, _, _, rfl, q10⟩
  · obtain ⟨s, ps, st, a3, a4, rfl, q⟩ := q
    have hchk := q.chk
    rw [List.drop_length] at hchk
    have h2 : (if (s.d && decide (s.b = 0)) = true then none else some cs.length) = none := hchk
    have hb : s.b = 0 := by
      by_cases h3 : (s.d && decide (s.b = 0)) = true
      · exact of_decide_eq_true (Bool.and_eq_true_iff.mp h3).2
      · rw [if_neg h3] at h2
        cases h2
    have h4 := q.len
    rw [hb] at h4
    obtain ⟨p, L, rfl, rfl, lvp⟩ : ∃ p L, ps = [p] ∧ st = [L] ∧ LvAt K H' p L := by
      cases q.lev with
      | nil => simp at h4
      | cons f t =>
        cases t with
        | nil => exact ⟨_, _, rfl, rfl, f⟩
        | cons f2 t2 => simp at h4
    have okL := q.ok L (.head _)
    obtain ⟨dx, sv, rv, hp, hsv, hrv⟩ := id lvp
    have hp0 := q.pn p (.head _)
    have hpl : l ≠ p := fun z => by
      have := q.lst
      rw [z, hp] at this
      cases this
    refine q_meth0 (e_ixL (A := rV) (i := 0) (e_var (A := rV) rfl rfl) e_int rfl q.lst (x := .ref p) rfl rfl) hp (lget_turn _ _ _) fun H5 e5 => ?_
    refine ⟨p, L, rfl, lvp.same e5, okL, fun H6 o6 lv6 => ?_⟩
    obtain ⟨dx6, sv6, rv6, hp6, hsv6, hrv6⟩ := lv6
    have er : rawP cs = L.turn.s := by
      have h5 := q.run
      rw [List.drop_length] at h5
      have h6 : [L] = rrun s0 [l0] cs := h5
      unfold rawP
      rw [← h6]
    refine s_ret (A := rOP K) (e_fld (A := rOP K) (e_ixL (A := rV) (i := 0) (e_var (A := rV) rfl rfl) e_int rfl (o6 l _ hpl (e5 l _ q.lst)) (x := .ref p) rfl rfl) hp6 (cl_Level S) (na_Level_sides S) (lget_s _ _ _) hsv6) fun v7 H7 e7 r7 => ?_
    rw [er] at k
    exact k v7 H7 (((q.same.trans e5).trans_off o6 hp0).trans e7) r7 okL.turn.2.2.1
end
end K84
end
section
set_option Elab.async false
set_option linter.all false
set_option maxRecDepth 100000
set_option maxHeartbeats 4000000
namespace K84
open PySem PySem.Spec PyProof.Rows L2 XE
section
variable {P : Program} {w : World} {K : PySem.W.Frag} {mg : Str → Option Value} {base : Heap} {X : Cx}
def Big (K : PySem.W.Frag) (H : Hp) (E : XK) : Prop := ∀ d H', Same H H' → H d = none → H' d = some (.xd [("most", .int 40)]) → E (.ref (He.ga K "TooLarge")) (some d) H'
def spRead (K : PySem.W.Frag) : Sp := fun vs H Q E => ∃ v, vs = [v] ∧ ((∃ cs, v = .str (SX.S cs) ∧ cs.length ≤ 2000000 ∧ (∀ i : Nat, chk s0 0 cs = some i → Bad K H E i) ∧ (chk s0 0 cs = none → rawP cs = none → Big K H E) ∧
    (chk s0 0 cs = none → ∀ p, rawP cs = some p → Snd p → p.length ≤ 40 → ∀ w H', Same H H' → (rP K).r H' w p → Q w H')) ∨
  ∃ t, TyX K H v (.type t) ∧ kitB t "str" = some false ∧ Bad K H E (-1))
theorem Bad.mono {H H' : Hp} {E : XK} {i : Int} (h : Bad K H E i) (e : Same H H') : Bad K H' E i := fun d G e2 h1 h2 => h d G (e.trans e2) (Same.free e h1) h2
theorem Big.mono {H H' : Hp} {E : XK} (h : Big K H E) (e : Same H H') : Big K H' E := fun d G e2 h1 h2 => h d G (e.trans e2) (Same.free e h1) h2
/-- read_shape: 0 text, 1 plan -/
theorem c_read_shape (S : XC.Ctx fa fn P w K mg base) (Z : Zs P w K mg base) : XC.CalX P w K mg base 8 "read_shape" (spRead K) := S.calX 17 13 rfl rfl
    (fun _ _ _ _ _ _ us hl => match us, hl with | [_], _ => rfl) sc_read_shape (fun vs H Q E h => by obtain ⟨v, rfl, h⟩ := h; rfl) fun cdv A outer s H vs Q E hr h => by
  have hu := hu_of hr
  obtain ⟨v, rfl, h⟩ := h
  refine ⟨_, (pss_cons (ps_expr (XC.pe_cX (c_check_shape S Z) hr (by decide) (by rfl) (takes_of rfl rfl rfl rfl) (pa_cons (pv 0) pa_nil)))
    (pss_cons (ps_set (i := 1) sc_read_shape.nd rfl (by first | exact Or.inl rfl | exact Or.inr rfl) (C8.pe_c (c_raw_shape S Z) hr (by decide) (by rfl) (pa_cons (pv 0) pa_nil)))
    (pss_cons (ps_if (pt_cmpR op_isN (pv 1) pe_non (nomark _)) (pss_one (ps_raise rfl (takes_of rfl rfl rfl rfl) (XC.pmk_exn Z.TooLarge hr (by decide) (by rfl) (pa_cons (C8.pe_gc (by rfl) (g_MOST_ITEMS S)) pa_nil)))) pss_nil)
    (pss_one (ps_ret (pv 1)))))), ?_⟩
  rcases h with ⟨cs, rfl, hlen, hb, hbig, hok⟩ | ⟨t, ht, hk, hb⟩
  · refine ⟨_, rfl, _, rfl, .inl ⟨cs, rfl, by omega, fun hn H1 e1 => ?_, hb⟩⟩
    show tSeq _ _ _ _ _
    refine ⟨_, rfl, cs, rfl, hlen, hn, fun v2 H2 e2 r2 ok2 => ?_⟩
    have s2 := e1.trans e2
    dsimp only [gName]
    refine q_when (b := (rawP cs).isNone) (b_test (e_isNO (A := rP K) (e_var (i := 1) rfl r2))) (fun hN H3 e3 => ?_) (fun hN H3 e3 => ?_)
    · have hr : rawP cs = none := Option.isNone_iff_eq_none.mp hN
      exact r_exn (v := .int 40) (e_c (A := rV) rfl) fun d H5 e5 h5 h6 => hbig hn hr d H5 ((s2.trans e3).trans e5) (Same.free (s2.trans e3) h5) h6
    · cases hr : rawP cs with
      | none => rw [hr] at hN; cases hN
      | some p =>
        rw [hr] at r2
        obtain ⟨o1, o2⟩ := ok2 p hr
        exact s_ret (A := rP K) (e_var rfl (Rp.same _ e3 r2.1)) fun w H4 e4 r4 => hok hn p hr o1 o2 w H4 ((s2.trans e3).trans e4) r4
  · exact ⟨_, rfl, v, rfl, .inr ⟨t, ht, hk, hb⟩⟩
end
end K84
end
section
set_option Elab.async false
set_option linter.all false
set_option maxRecDepth 100000
set_option maxHeartbeats 4000000
namespace K84
open PySem PySem.Spec PyProof.Rows L2 XE
section
variable {P : Program} {w : World} {K : PySem.W.Frag} {mg : Str → Option Value} {base : Heap} {X : Cx}
def spScan (K : PySem.W.Frag) : Sp := fun vs H Q _ => ∃ cs, vs = [.str (SX.S cs)] ∧ cs.length ≤ 2000000 ∧ ∀ w H', Same H H' → (rO rN).r H' w (chk s0 0 cs) → Q w H'
def stS (d : Bool) : Str := if d = true then "done" else "begin"
theorem e_stS {σ : L2.St} {H : Hp} {ta : TE} {d : Bool} (h : EvR rS ta σ H (stS d)) : EvR rB (tOp rEq ta (tC (.str "done"))) σ H d := (e_eqS h e_str).is (by cases d <;> decide +kernel)
theorem drop_at {cs : List Nat} {i : Nat} (h : i < cs.length) : cs.drop i = cs[i] :: cs.drop (i + 1) := List.drop_eq_getElem_cons h
theorem some_nat {H : Hp} {n : Nat} : (rO rN).r H (.int (n : Int)) (some n) := ⟨rfl, fun z => nomatch z⟩
/-- law_scanned: 0 _law_text, 1 _law_state, 2 _law_number, 3 _law_deep, 4 _law_at, 5 _law_sign -/
theorem c_law_scanned (S : XC.Ctx fa fn P w K mg base) : C8.Cal P w K mg base 2 "_law_scanned" (spScan K) [] := S.cal 24 20 rfl rfl
    (fun _ _ _ _ _ _ us hl => match us, hl with | [_], _ => rfl) sc_law_scanned (fun vs H Q E h => by obtain ⟨cs, rfl, hlen, k⟩ := h; rfl) fun cdv A outer s H vs Q E hr h => by
  have hu := hu_of hr
  obtain ⟨cs, rfl, hlen, k⟩ := h
  refine ⟨_, (pss_cons (ps_set (i := 1) sc_law_scanned.nd rfl (by first | exact Or.inl rfl | exact Or.inr rfl) pe_str)
    (pss_cons (ps_set (i := 2) sc_law_scanned.nd rfl (by first | exact Or.inl rfl | exact Or.inr rfl) pe_int)
    (pss_cons (ps_set (i := 3) sc_law_scanned.nd rfl (by first | exact Or.inl rfl | exact Or.inr rfl) pe_int)
    (pss_cons (ps_for PassesOwn.never rfl (pi_range1 (by rfl) (fr_range S) (pa_cons (pe_callB (id := "len") call_len_str (by rfl) (fr_len S) (by decide +kernel) (pa_cons (pv 0) pa_nil)) pa_nil)) (pg_name (i := 4) sc_law_scanned.nd rfl (by first | exact Or.inl rfl | exact Or.inr rfl)) (pss_cons (ps_set (i := 5) sc_law_scanned.nd rfl (by first | exact Or.inl rfl | exact Or.inr rfl) (pe_ix ix_str (pv 0) (pv 4) (fun _ _ => rfl)))
    (pss_one (ps_if (pt_cmpR op_eq (pv 1) pe_str (nomark _)) (pss_one (ps_if (PW.pt (pw_and (pt_cmpR op_eq (pv 5) pe_str (nomark _)) (pw_and1 (pt_cmpR op_gt (pv 3) pe_int (nomark _))))) (pss_one (ps_set (i := 3) sc_law_scanned.nd rfl (by first | exact Or.inl rfl | exact Or.inr rfl) (pe_op op_sub (pv 3) pe_int))) (pss_one (ps_if (PW.pt (pw_or (pt_cmpR op_eq (pv 5) pe_str (nomark _)) (pw_or1 (pt_cmpR op_eq (pv 5) pe_str (nomark _))))) (pss_cons (ps_set (i := 1) sc_law_scanned.nd rfl (by first | exact Or.inl rfl | exact Or.inr rfl) pe_str)
    (pss_one (ps_set (i := 2) sc_law_scanned.nd rfl (by first | exact Or.inl rfl | exact Or.inr rfl) pe_int))) (pss_one (ps_ret (pv 4))))))) (pss_one (ps_if (pt_cmpR op_in_sign (pv 5) pe_str (by rfl)) (pss_cons (ps_set (i := 2) sc_law_scanned.nd rfl (by first | exact Or.inl rfl | exact Or.inr rfl) (pe_op op_add (pe_op op_mul (pv 2) pe_int) (pe_bm PySem.F.plainAttrs_str PySem.F.slot_str_index PySem.F.type_str_index mt_sindex pe_str (pa_cons (pv 5) pa_nil))))
    (pss_one (ps_if (PW.pt (pw_or (pt_cmpR op_eq (pv 2) pe_int (nomark _)) (pw_or1 (pt_cmpR op_gt (pv 2) pe_int (nomark _))))) (pss_one (ps_ret (pv 4))) pss_nil))) (pss_one (ps_if (pt_cmpR op_eq (pv 5) pe_str (nomark _)) (pss_one (ps_set (i := 1) sc_law_scanned.nd rfl (by first | exact Or.inl rfl | exact Or.inr rfl) pe_str)) (pss_one (ps_if (pt_cmpR op_eq (pv 5) pe_str (nomark _)) (pss_cons (ps_set (i := 3) sc_law_scanned.nd rfl (by first | exact Or.inl rfl | exact Or.inr rfl) (pe_op op_add (pv 3) pe_int))
    (pss_one (ps_set (i := 2) sc_law_scanned.nd rfl (by first | exact Or.inl rfl | exact Or.inr rfl) pe_int))) (pss_one (ps_ret (pv 4)))))))))))))
    (pss_one (ps_ret (pe_ifExp (PW.pt (pw_and (pt_cmpR op_eq (pv 1) pe_str (nomark _)) (pw_and1 (pt_cmpR op_eq (pv 3) pe_int (nomark _))))) pe_non (pe_callB (id := "len") call_len_str (by rfl) (fr_len S) (by decide +kernel) (pa_cons (pv 0) pa_nil))))))))), ?_⟩
  have lenS : ∀ {σ : L2.St} {H' : Hp}, σ[0]? = some (some (.str (SX.S cs))) → EvR rN (tCB (fun xs H Q => ∃ z : Str, xs = [.str z] ∧ z.length ≤ sizeLine ∧ Q (.int z.length) H) (tCons (tVar 0) tNil)) σ H' cs.length := fun {σ H'} h =>
    (e_lenS (e_var h rfl) (by rw [SX.S_len]; exact Nat.le_trans hlen (by decide))).is (SX.S_len cs)
  refine q_asg (A := rS) (a := "begin") e_str fun v1 H1 e1 r1 => ?_
  have a1 : v1 = V.str "begin" := r1
  subst a1
  refine q_asg (A := rN) (a := 0) e_nat fun v2 H2 e2 r2 => ?_
  have a2 : v2 = V.int ((0 : Nat) : Int) := r2
  subst a2
  refine q_asg (A := rN) (a := 0) e_nat fun v3 H3 e3 r3 => ?_
  have a3 : v3 = V.int ((0 : Nat) : Int) := r3
  subst a3
  have s3 := (e1.trans e2).trans e3
  refine q_rng (n := cs.length) (lenS rfl) (by omega) (fun i σ H' => ∃ (s : Sc) (n : Nat) (a4 a5 : Option V), σ = [some (.str (SX.S cs)), some (.str (stS s.d)), some (.int (n : Int)), some (.int (s.b : Int)), a4, a5] ∧ Same H H' ∧ chk s i (cs.drop i) = chk s0 0 cs ∧ (s.d = false → n = s.n) ∧ (s.d = true → s.n = 0)) (fun H4 e4 => ⟨s0, 0, none, none, rfl, s3.trans e4, rfl, fun _ => rfl, fun z => nomatch z⟩) (fun i σ' H' hi q => ?_) (fun σ' H' q => ?_)
  · obtain ⟨s, n, a4, a5, rfl, q1, q2, q3, q4⟩ := q
    have hd := drop_at hi
    obtain ⟨c, hc⟩ : ∃ c, c = cs[i] := ⟨_, rfl⟩
    rw [← hc] at hd
    rw [hd] at q2
    have q2' : (if (s.take c).1 = true then chk (s.take c).2 (i + 1) (cs.drop (i + 1)) else some i) = chk s0 0 cs := q2
    have stop : (s.take c).1 = false → chk s0 0 cs = some i := fun h => by rw [← q2', h, if_neg (by decide)]
    have go : (s.take c).1 = true → chk (s.take c).2 (i + 1) (cs.drop (i + 1)) = chk s0 0 cs := fun h => by rw [← q2', if_pos h]
    have ret : ∀ {σ : L2.St} {H5 : Hp} {D : Ends}, (s.take c).1 = false → Same H H5 → D.rt = Q → σ[4]? = some (some (.int (i : Int))) → tRet (tVar 4) D σ H5 := fun {σ H5 D} h e5 hD hv => by
      refine s_ret (A := rN) (a := i) (e_var hv rfl) fun v6 H6 e6 r6 => ?_
      rw [hD]
      have a6 : v6 = V.int (i : Int) := r6
      subst a6
      refine k _ H6 (e5.trans e6) ?_
      rw [stop h]
      exact some_nat
    refine q_asg (A := rS) (a := ⟨#[c]⟩) (e_ixS (z := SX.S cs) (i := i) (e_var rfl rfl) (e_toI (e_var (A := rN) rfl rfl)) rfl (by rw [SX.S_len]; exact Nat.le_trans hlen (by decide)) (by rw [hc]; simp [SX.S, hi])) fun v5 H5 e5 r5 => ?_
    have a5' : v5 = V.str ⟨#[c]⟩ := r5
    subst a5'
    have q5 := q1.trans e5
    refine s_if (b := s.d) (b_test (e_stS (e_var rfl rfl))) (fun hdn H6 e6 => ?_) (fun hdn H6 e6 => ?_)
    · have q6 := q5.trans e6
      have hsn := q4 hdn
      refine s_if (b := decide (c = 41) && decide (0 < s.b)) (b_and (b_test (e_eqC (e_var rfl rfl) rfl)) fun _ => EvB.is (b_test (e_gt (e_toI (e_var (A := rN) rfl rfl)) e_int)) (by simp)) (fun hb H7 e7 => ?_) (fun hb H7 e7 => ?_)
      · have hb0 : 0 < s.b := of_decide_eq_true (Bool.and_eq_true_iff.mp hb).2
        have et : s.take c = (true, ⟨s.n, s.d, s.b - 1⟩) := by unfold Sc.take; rw [if_pos hdn, if_pos hb]
        refine s_asg (A := rN) (a := s.b - 1) (e_toN (e_sub (e_toI (e_var (A := rN) rfl rfl)) e_int) (by omega)) fun v8 H8 e8 r8 => ?_
        have a8 : v8 = V.int ((s.b - 1 : Nat) : Int) := r8
        subst a8
        have g := go (by rw [et])
        rw [et] at g
        refine ⟨⟨s.n, s.d, s.b - 1⟩, n, _, _, rfl, (q6.trans e7).trans e8, g, q3, q4⟩
      · refine s_if (b := decide (c = 62) || decide (c = 124)) (b_or (b_test (e_eqC (e_var rfl rfl) rfl)) fun _ => b_test (e_eqC (e_var rfl rfl) rfl)) (fun hg H8 e8 => ?_) (fun hg H8 e8 => ?_)
        · have et : s.take c = (true, ⟨s.n, false, s.b⟩) := by unfold Sc.take; rw [if_pos hdn, if_neg (by rw [hb]; decide), hg]
          refine q_asg (A := rS) (a := "begin") e_str fun v9 H9 e9 r9 => ?_
          have a9 : v9 = V.str "begin" := r9
          subst a9
          refine s_asg (A := rN) (a := 0) e_nat fun v10 H10 e10 r10 => ?_
          have a10 : v10 = V.int ((0 : Nat) : Int) := r10
          subst a10
          have g := go (by rw [et])
          rw [et] at g
          exact ⟨⟨s.n, false, s.b⟩, 0, _, _, rfl, (((q6.trans e7).trans e8).trans e9).trans e10, g, fun _ => hsn.symm, fun z => nomatch z⟩
        · have et : (s.take c).1 = false := by unfold Sc.take; rw [if_pos hdn, if_neg (by rw [hb]; decide)]; exact hg
          exact ret et ((q6.trans e7).trans e8) rfl rfl
    · have q6 := q5.trans e6
      have hdf : ¬ s.d = true := by rw [hdn]; decide
      have hn := q3 hdn
      subst hn
      refine s_if (b := isFig c) (EvB.is (b_test (e_sign (e_var rfl rfl) (e_c (A := rS) rfl))) (fig_mem c)) (fun hf H7 e7 => ?_) (fun hf H7 e7 => ?_)
      · refine q_asg (A := rN) (a := s.n * 10 + (c - 48)) (e_toN (e_add (e_mul (e_toI (e_var (A := rN) rfl rfl)) e_int (.inr ⟨by decide, by decide⟩)) (e_toI (e_figIx (k := c) (e_c (A := rS) rfl) (e_var rfl rfl) hf))) (by push_cast; omega)) fun v8 H8 e8 r8 => ?_
        have a8 : v8 = V.int ((s.n * 10 + (c - 48) : Nat) : Int) := r8
        subst a8
        have et : s.take c = (decide (1 ≤ s.n * 10 + (c - 48)) && decide (s.n * 10 + (c - 48) ≤ 40), ⟨s.n * 10 + (c - 48), s.d, s.b⟩) := by unfold Sc.take; rw [if_neg hdf, if_pos hf]
        refine s_when (b := !(decide (1 ≤ s.n * 10 + (c - 48)) && decide (s.n * 10 + (c - 48) ≤ 40))) (EvB.is (b_or (b_test (e_eqI (e_toI (e_var (A := rN) rfl rfl)) e_int)) fun _ => b_test (e_gt (e_toI (e_var (A := rN) rfl rfl)) e_int)) ?_) (fun hx H9 e9 => ?_) (fun hx H9 e9 => ?_)
        · rw [Bool.not_and]
          congr 1
          · rw [← decide_not]
            exact decide_eq_decide.mpr (by omega)
          · rw [← decide_not]
            exact decide_eq_decide.mpr (by omega)
        · refine ret ?_ (((q6.trans e7).trans e8).trans e9) rfl rfl
          rw [et]
          exact Bool.not_eq_true' _ |>.mp hx
        · have ht : (decide (1 ≤ s.n * 10 + (c - 48)) && decide (s.n * 10 + (c - 48) ≤ 40)) = true := by simpa using hx
          have g := go (by rw [et]; exact ht)
          rw [et] at g
          exact ⟨⟨s.n * 10 + (c - 48), s.d, s.b⟩, _, _, _, rfl, ((q6.trans e7).trans e8).trans e9, g, fun _ => rfl, fun z => absurd z hdf⟩
      · have hfn : ¬ isFig c = true := by rw [hf]; decide
        refine s_if (b := decide (c = 46)) (b_test (e_eqC (e_var rfl rfl) rfl)) (fun h8 H8 e8 => ?_) (fun h8 H8 e8 => ?_)
        · have c8 : c = 46 := of_decide_eq_true h8
          have et : s.take c = (true, ⟨0, true, s.b⟩) := by subst c8; unfold Sc.take; rw [if_neg hdf, if_neg hfn, if_neg (by decide)] <;> rfl
          refine s_asg (A := rS) (a := "done") e_str fun v9 H9 e9 r9 => ?_
          have a9 : v9 = V.str "done" := r9
          subst a9
          have g := go (by rw [et])
          rw [et] at g
          exact ⟨⟨0, true, s.b⟩, s.n, _, _, rfl, ((q6.trans e7).trans e8).trans e9, g, (fun z => nomatch z), fun _ => rfl⟩
        · have c8 : ¬ c = 46 := of_decide_eq_false h8
          refine s_if (b := decide (c = 40)) (b_test (e_eqC (e_var rfl rfl) rfl)) (fun h9 H9 e9 => ?_) (fun h9 H9 e9 => ?_)
          · have c9 : c = 40 := of_decide_eq_true h9
            have et : s.take c = (true, ⟨0, s.d, s.b + 1⟩) := by unfold Sc.take; rw [if_neg hdf, if_neg hfn, if_pos c9]
            refine q_asg (A := rN) (a := s.b + 1) (e_toN (e_add (e_toI (e_var (A := rN) rfl rfl)) e_int) (by push_cast; rfl)) fun v10 H10 e10 r10 => ?_
            have a10 : v10 = V.int ((s.b + 1 : Nat) : Int) := r10
            subst a10
            refine s_asg (A := rN) (a := 0) e_nat fun v11 H11 e11 r11 => ?_
            have a11 : v11 = V.int ((0 : Nat) : Int) := r11
            subst a11
            have g := go (by rw [et])
            rw [et] at g
            exact ⟨⟨0, s.d, s.b + 1⟩, 0, _, _, rfl, ((((q6.trans e7).trans e8).trans e9).trans e10).trans e11, g, fun _ => rfl, fun z => absurd z hdf⟩
          · have c9 : ¬ c = 40 := of_decide_eq_false h9
            have et : (s.take c).1 = false := by unfold Sc.take; rw [if_neg hdf, if_neg hfn, if_neg c9]; exact decide_eq_false c8
            exact ret et (((q6.trans e7).trans e8).trans e9) rfl rfl
  · obtain ⟨s, n, a4, a5, rfl, q1, q2, q3, q4⟩ := q
    rw [List.drop_length] at q2
    have q2' : (if (s.d && decide (s.b = 0)) = true then none else some cs.length) = chk s0 0 cs := q2
    refine s_ret (A := rO rN) (a := chk s0 0 cs) (e_if (k := s.d && decide (s.b = 0)) (b_and (b_test (e_stS (e_var rfl rfl))) fun _ => EvB.is (b_test (e_eqI (e_toI (e_var (A := rN) rfl rfl)) e_int)) (decide_eq_decide.mpr (by omega))) (fun hk => ?_) (fun hk => ?_)) fun v6 H6 e6 r6 => k v6 H6 (q1.trans e6) r6
    · rw [if_pos hk] at q2'
      rw [← q2']
      exact e_non
    · rw [if_neg (by rw [hk]; decide)] at q2'
      rw [← q2']
      exact (lenS rfl).as fun _ v hv => ⟨hv, by rw [show v = V.int _ from hv]; exact fun z => nomatch z⟩
end
end K84
end
section
set_option Elab.async false
set_option linter.all false
set_option maxRecDepth 100000
set_option maxHeartbeats 4000000
namespace K84
open PySem PySem.Spec PyProof.Rows L2 XE
/-! ### the two ways agree -/
def RelU (u : OP) (m : Nat) : Prop := (u = none ∧ 40 < m) ∨ ∃ p, u = some p ∧ p.length = m
def RelS (u : OP) (m : Nat) : Prop := (u = none ∧ 40 < m) ∨ ∃ p, u = some p ∧ p.length = m ∧ m ≤ 40
theorem RelS.u {u : OP} {m : Nat} (h : RelS u m) : RelU u m := by
  rcases h with h | ⟨p, h1, h2, _⟩
  · exact .inl h
  · exact .inr ⟨p, h1, h2⟩
def RelL (L : Lv) (q : Nat × Nat) : Prop := L.t = q.1 ∧ 1 ≤ q.1 ∧ ((∃ a b : Pl, L.s = some a ∧ L.r = some b ∧ q.2 = a.length + b.length) ∨ ((L.s = none ∨ L.r = none) ∧ 40 < q.2))
theorem both_none_l {d : Bool} {b : OP} : bothP d none b = none := by cases b <;> rfl
theorem both_none_r {d : Bool} {a : OP} : bothP d a none = none := by cases a <;> rfl
theorem rel_both {d : Bool} {a b : OP} {m n : Nat} (ha : RelU a m) (hb : RelU b n) : RelS (bothP d a b) (m + n) := by
  rcases ha with ⟨rfl, ha⟩ | ⟨x, rfl, rfl⟩
  · rw [both_none_l]; exact .inl ⟨rfl, by omega⟩
  · rcases hb with ⟨rfl, hb⟩ | ⟨y, rfl, rfl⟩
    · rw [both_none_r]; exact .inl ⟨rfl, by omega⟩
    · rw [both_some]
      by_cases h : 40 < x.length + y.length
      · rw [if_pos h]; exact .inl ⟨rfl, h⟩
      · rw [if_neg h]
        refine .inr ⟨_, rfl, ?_, by omega⟩
        cases d with
        | true => rw [if_pos rfl, behindP_len]
        | false => rw [if_neg (by decide), besideP_len]
theorem rel_times {a : OP} {m n : Nat} (ha : RelU a m) (hn : 1 ≤ n) : RelU (timesP a n) (n * m) := by
  rcases ha with ⟨rfl, ha⟩ | ⟨x, rfl, rfl⟩
  · exact .inl ⟨rfl, Nat.lt_of_lt_of_le ha (Nat.le_mul_of_pos_left m hn)⟩
  · rw [times_some]
    by_cases h : 40 < x.length * n
    · rw [if_pos h]; exact .inl ⟨rfl, by rw [Nat.mul_comm]; exact h⟩
    · rw [if_neg h]; exact .inr ⟨_, rfl, by rw [repP_len, Nat.mul_comm]⟩
theorem rel_turn {L : Lv} {q : Nat × Nat} (h : RelL L q) : RelS L.turn.s q.2 := by
  obtain ⟨_, _, ⟨a, b, h1, h2, h3⟩ | ⟨h1, h2⟩⟩ := h
  · show RelS (bothP false L.s L.r) q.2
    rw [h1, h2, h3]
    exact rel_both (.inr ⟨a, rfl, rfl⟩) (.inr ⟨b, rfl, rfl⟩)
  · show RelS (bothP false L.s L.r) q.2
    rcases h1 with h1 | h1
    · rw [h1, both_none_l]; exact .inl ⟨rfl, h2⟩
    · rw [h1, both_none_r]; exact .inl ⟨rfl, h2⟩
theorem rel_turnL {L : Lv} {q : Nat × Nat} (h : RelL L q) : RelL L.turn q := by
  refine ⟨h.1, h.2.1, ?_⟩
  rcases rel_turn h with ⟨h1, h2⟩ | ⟨p, h1, h2, _⟩
  · exact .inr ⟨.inl h1, h2⟩
  · exact .inl ⟨p, [], h1, rfl, by rw [h2]; rfl⟩
theorem rel_add {L : Lv} {q : Nat × Nat} {u : OP} {m : Nat} (h : RelL L q) (hu : RelU u m) : RelL (L.add u) (q.1, q.2 + m) := by
  refine ⟨h.1, h.2.1, ?_⟩
  obtain ⟨_, _, ⟨a, b, h1, h2, h3⟩ | ⟨h1, h2⟩⟩ := h
  · have h4 : RelU (bothP true L.r u) (b.length + m) := by rw [h2]; exact (rel_both (.inr ⟨b, rfl, rfl⟩) hu).u
    rcases h4 with ⟨h4, h5⟩ | ⟨p, h4, h5⟩
    · exact .inr ⟨.inr h4, by show 40 < q.2 + m; omega⟩
    · exact .inl ⟨a, p, h1, h4, by show q.2 + m = _; omega⟩
  · refine .inr ⟨?_, by show 40 < q.2 + m; omega⟩
    rcases h1 with h1 | h1
    · exact .inl h1
    · exact .inr (by show bothP true L.r u = none; rw [h1, both_none_l])

/-! ### both machines at once -/
abbrev Mc := Sc × List Lv
def stepM (q : Mc) (c : Nat) : Option Mc := if (q.1.take c).1 = true then some ((q.1.take c).2, rst q.1.n q.2 c) else none
def runM : Mc → List Nat → Option Mc
  | q, [] => some q
  | q, c :: r => match stepM q c with
    | some q' => runM q' r
    | none => none
theorem runM_cons {q q' : Mc} {c : Nat} {r : List Nat} (h : stepM q c = some q') : runM q (c :: r) = runM q' r := by
  show (match stepM q c with | some q' => runM q' r | none => none) = _
  rw [h]
theorem runM_app : ∀ (a b : List Nat) (q : Mc), runM q (a ++ b) = (match runM q a with | some q' => runM q' b | none => none)
  | [], _, _ => rfl
  | c :: r, b, q => by
    show (match stepM q c with | some q' => runM q' (r ++ b) | none => none) = (match (match stepM q c with | some q' => runM q' r | none => none) with | some q' => runM q' b | none => none)
    cases stepM q c with
    | none => rfl
    | some q' => exact runM_app r b q'
theorem runM_then {a b : List Nat} {q q' : Mc} (h : runM q a = some q') : runM q (a ++ b) = runM q' b := by rw [runM_app, h]
theorem runM_split {a b : List Nat} {q q2 : Mc} (h : runM q (a ++ b) = some q2) : ∃ q', runM q a = some q' ∧ runM q' b = some q2 := by
  rw [runM_app] at h
  cases h1 : runM q a with
  | none => rw [h1] at h; cases h
  | some q' => rw [h1] at h; exact ⟨q', rfl, h⟩
theorem run_chk : ∀ (cs : List Nat) (s : Sc) (st : List Lv) (i : Nat) (q : Mc), runM (s, st) cs = some q → q.1.d = true → q.1.b = 0 → chk s i cs = none ∧ rrun s st cs = q.2
  | [], s, st, i, q, h, hd, hb => by
    cases h
    refine ⟨?_, rfl⟩
    show (if (s.d && decide (s.b = 0)) = true then none else some i) = none
    rw [if_pos (by rw [show s.d = true from hd, decide_eq_true (show s.b = 0 from hb)]; rfl)]
  | c :: r, s, st, i, q, h, hd, hb => by
    have h2 : (match stepM (s, st) c with | some q' => runM q' r | none => none) = some q := h
    unfold stepM at h2
    by_cases ht : (s.take c).1 = true
    · rw [if_pos ht] at h2
      have ih := run_chk r (s.take c).2 (rst s.n st c) (i + 1) q h2 hd hb
      refine ⟨?_, ih.2⟩
      show (if (s.take c).1 = true then chk (s.take c).2 (i + 1) r else some i) = none
      rw [if_pos ht]
      exact ih.1
    · rw [if_neg ht] at h2
      cases h2
/-- one sign, from a state that is not done -/
theorem st_open {n b : Nat} {st : List Lv} : stepM (⟨n, false, b⟩, st) 40 = some (⟨0, false, b + 1⟩, ⟨max n 1, some [], some []⟩ :: st) := rfl
theorem st_dot {n b : Nat} {L : Lv} {st : List Lv} : stepM (⟨n, false, b⟩, L :: st) 46 = some (⟨0, true, b⟩, L.add (timesP (some [[]]) (max n 1)) :: st) := rfl
theorem st_close {n b : Nat} {D L : Lv} {st : List Lv} : stepM (⟨n, true, b + 1⟩, D :: L :: st) 41 = some (⟨n, true, b⟩, L.add (timesP D.turn.s D.t) :: st) := rfl
theorem st_then {n b : Nat} {st : List Lv} : stepM (⟨n, true, b⟩, st) 62 = some (⟨n, false, b⟩, st) := rfl
theorem st_bar {n b : Nat} {L : Lv} {st : List Lv} : stepM (⟨n, true, b⟩, L :: st) 124 = some (⟨n, false, b⟩, L.turn :: st) := rfl
theorem st_fig {n b k : Nat} {st : List Lv} (h1 : k ≤ 9) (h2 : 1 ≤ n * 10 + k) (h3 : n * 10 + k ≤ 40) : stepM (⟨n, false, b⟩, st) (48 + k) = some (⟨n * 10 + k, false, b⟩, st) := by
  have hf : isFig (48 + k) = true := by unfold isFig; rw [decide_eq_true (by omega), decide_eq_true (by omega)]; rfl
  have hk : 48 + k - 48 = k := by omega
  have et : (⟨n, false, b⟩ : Sc).take (48 + k) = (true, ⟨n * 10 + k, false, b⟩) := by
    unfold Sc.take
    rw [if_neg (fun z => nomatch z), if_pos hf, hk, decide_eq_true h2, decide_eq_true h3]
    rfl
  have er : rst n st (48 + k) = st := by unfold rst; rw [if_pos hf]
  show (if ((⟨n, false, b⟩ : Sc).take (48 + k)).1 = true then some (((⟨n, false, b⟩ : Sc).take (48 + k)).2, rst n st (48 + k)) else none) = _
  rw [et, er]
  rfl
/-! ### numbers -/
def Nm (n : Nat) (m : List Nat) : Prop := (n = 1 ∧ m = []) ∨ (1 ≤ n ∧ n ≤ 40 ∧ m = TL.numL n)
theorem nm_pos {n : Nat} {m : List Nat} (h : Nm n m) : 1 ≤ n ∧ n ≤ 40 := by
  rcases h with ⟨rfl, _⟩ | ⟨h1, h2, _⟩
  · exact ⟨Nat.le_refl _, by decide⟩
  · exact ⟨h1, h2⟩
theorem num_len2 : ∀ n : Fin 41, (TL.numL n.val).length ≤ 2 := by decide +kernel
theorem nm_len {n : Nat} {m : List Nat} (h : Nm n m) : m.length ≤ 2 := by
  rcases h with ⟨rfl, rfl⟩ | ⟨h1, h2, rfl⟩
  · exact Nat.zero_le _
  · exact num_len2 ⟨n, by omega⟩
theorem num_digits : ∀ n : Fin 41, TL.numL n.val = if n.val < 10 then [48 + n.val] else [48 + n.val / 10, 48 + n.val % 10] := by decide +kernel
theorem run_num {n b : Nat} {m : List Nat} {st : List Lv} (h : Nm n m) : ∃ k, max k 1 = n ∧ runM (⟨0, false, b⟩, st) m = some (⟨k, false, b⟩, st) := by
  rcases h with ⟨rfl, rfl⟩ | ⟨h1, h2, rfl⟩
  · exact ⟨0, rfl, rfl⟩
  · refine ⟨n, by omega, ?_⟩
    have e := num_digits ⟨n, by omega⟩
    have e2 : TL.numL n = if n < 10 then [48 + n] else [48 + n / 10, 48 + n % 10] := e
    rw [e2]
    by_cases h3 : n < 10
    · rw [if_pos h3, runM_cons (st_fig (k := n) (by omega) (by omega) (by omega))]
      show some _ = _
      rw [show 0 * 10 + n = n by omega]
    · rw [if_neg h3, runM_cons (st_fig (k := n / 10) (by omega) (by omega) (by omega)), runM_cons (st_fig (k := n % 10) (by omega) (by omega) (by omega))]
      show some _ = _
      rw [show (0 * 10 + n / 10) * 10 + n % 10 = n by omega]
/-! ### what texts do -/
def UnO (t : List Nat) (u : OP) : Prop := ∀ b L st, runM (⟨0, false, b⟩, L :: st) t = some (⟨0, true, b⟩, L.add u :: st)
def RoO (t : List Nat) (x : OP) : Prop := ∀ b T S st, runM (⟨0, false, b⟩, ⟨T, S, some []⟩ :: st) t = some (⟨0, true, b⟩, ⟨T, S, x⟩ :: st)
def ShO (t : List Nat) (x : OP) : Prop := ∀ b T st, ∃ S R, runM (⟨0, false, b⟩, ⟨T, some [], some []⟩ :: st) t = some (⟨0, true, b⟩, ⟨T, S, R⟩ :: st) ∧ bothP false S R = x
theorem un_dot {n : Nat} {m : List Nat} (h : Nm n m) : UnO (m ++ [46]) (timesP (some [[]]) n) := fun b L st => by
  obtain ⟨k, hk, hr⟩ := run_num (b := b) (st := L :: st) h
  rw [runM_then hr, runM_cons st_dot, hk]
  rfl
theorem un_br {n : Nat} {m t : List Nat} {x : OP} (h : Nm n m) (s : ShO t x) : UnO (m ++ (40 :: (t ++ [41]))) (timesP x n) := fun b L st => by
  obtain ⟨k, hk, hr⟩ := run_num (b := b) (st := L :: st) h
  rw [runM_then hr, runM_cons st_open, hk]
  obtain ⟨S, R, h1, h2⟩ := s (b + 1) n (L :: st)
  rw [runM_then h1, runM_cons st_close]
  show some (_, L.add (timesP (bothP false S R) n) :: st) = _
  rw [h2]
theorem ro_one {t : List Nat} {u : OP} (h : UnO t u) : RoO t (bothP true (some []) u) := fun b T S st => h b ⟨T, S, some []⟩ st
theorem ro_more {t t2 : List Nat} {x u : OP} (h : RoO t x) (k : UnO t2 u) : RoO (t ++ (62 :: t2)) (bothP true x u) := fun b T S st => by
  rw [runM_then (h b T S st), runM_cons st_then, k b ⟨T, S, x⟩ st]
  rfl
theorem sh_one {t : List Nat} {x : OP} (h : RoO t x) : ShO t (bothP false (some []) x) := fun b T st => ⟨some [], x, h b T (some []) st, rfl⟩
theorem sh_more {t t2 : List Nat} {x y : OP} (h : ShO t x) (k : RoO t2 y) : ShO (t ++ (124 :: t2)) (bothP false x y) := fun b T st => by
  obtain ⟨S, R, h1, h2⟩ := h b T st
  refine ⟨x, y, ?_, rfl⟩
  rw [runM_then h1, runM_cons st_bar]
  have e : (⟨T, S, R⟩ : Lv).turn = ⟨T, x, some []⟩ := by show (⟨T, bothP false S R, some []⟩ : Lv) = _; rw [h2]
  rw [e, k b T x st]
/-- such a text is a shape, and is told as that -/
theorem sh_all {t : List Nat} {x : OP} (h : ShO t x) : chk s0 0 t = none ∧ rawP t = x := by
  obtain ⟨S, R, h1, h2⟩ := h 0 1 []
  obtain ⟨h3, h4⟩ := run_chk t s0 [l0] 0 _ h1 rfl rfl
  refine ⟨h3, ?_⟩
  unfold rawP
  rw [h4]
  exact h2
/-! ### sizes alone -/
def SzO (t : List Nat) (m : Nat) : Prop := ∀ b L k st, L.r = some [] → RelL L (L.t, k) → ∃ L', runM (⟨0, false, b⟩, L :: st) t = some (⟨0, true, b⟩, L' :: st) ∧ L'.t = L.t ∧ RelL L' (L.t, k + m)
/-- of a unit, wherever -/
def UzO (t : List Nat) (m : Nat) : Prop := ∀ b L k st, RelL L (L.t, k) → ∃ L', runM (⟨0, false, b⟩, L :: st) t = some (⟨0, true, b⟩, L' :: st) ∧ L'.t = L.t ∧ RelL L' (L.t, k + m)
theorem uz_sz {t : List Nat} {m : Nat} (h : UzO t m) : SzO t m := fun b L k st _ hr => h b L k st hr
theorem uz_of {t : List Nat} {u : OP} {m : Nat} (h : UnO t u) (hu : RelU u m) : UzO t m := fun b L k st hr => ⟨L.add u, h b L st, rfl, rel_add hr hu⟩
theorem uz_br {n m : Nat} {a t : List Nat} (h : Nm n a) (s : SzO t m) : UzO (a ++ (40 :: (t ++ [41]))) (n * m) := fun b L k st hr => by
  obtain ⟨k0, hk, hrn⟩ := run_num (b := b) (st := L :: st) h
  have hn := nm_pos h
  obtain ⟨D, h1, h2, h3⟩ := s (b + 1) ⟨n, some [], some []⟩ 0 (L :: st) rfl ⟨rfl, hn.1, .inl ⟨[], [], rfl, rfl, rfl⟩⟩
  refine ⟨L.add (timesP D.turn.s D.t), ?_, rfl, ?_⟩
  · rw [runM_then hrn, runM_cons st_open, hk, runM_then h1, runM_cons st_close]
    rfl
  · rw [h2]
    have h4 := (rel_turn h3).u
    rw [Nat.zero_add] at h4
    exact rel_add hr (rel_times h4 hn.1)
theorem sz_then {t t2 : List Nat} {m n : Nat} (h : SzO t m) (k : UzO t2 n) : SzO (t ++ (62 :: t2)) (m + n) := fun b L j st hL hr => by
  obtain ⟨L1, h1, h2, h3⟩ := h b L j st hL hr
  rw [← h2] at h3
  obtain ⟨L2, h4, h5, h6⟩ := k b L1 (j + m) st h3
  refine ⟨L2, ?_, h5.trans h2, ?_⟩
  · rw [runM_then h1, runM_cons st_then, h4]
  · rw [← h2, ← Nat.add_assoc]
    exact h6
theorem sz_bar {t t2 : List Nat} {m n : Nat} (h : SzO t m) (k : SzO t2 n) : SzO (t ++ (124 :: t2)) (m + n) := fun b L j st hL hr => by
  obtain ⟨L1, h1, h2, h3⟩ := h b L j st hL hr
  have h3t := rel_turnL h3
  obtain ⟨L2, h4, h5, h6⟩ := k b L1.turn (j + m) st rfl (by rw [show L1.turn.t = L.t from h2]; exact h3t)
  refine ⟨L2, ?_, h5.trans h2, ?_⟩
  · rw [runM_then h1, runM_cons st_bar, h4]
  · rw [← Nat.add_assoc, ← show L1.turn.t = L.t from h2]
    exact h6
theorem sz_all {t : List Nat} {m : Nat} (h : SzO t m) : chk s0 0 t = none ∧ RelS (rawP t) m := by
  obtain ⟨L', h1, h2, h3⟩ := h 0 l0 0 [] rfl ⟨rfl, Nat.le_refl _, .inl ⟨[], [], rfl, rfl, rfl⟩⟩
  obtain ⟨h4, h5⟩ := run_chk t s0 [l0] 0 _ h1 rfl rfl
  refine ⟨h4, ?_⟩
  unfold rawP
  rw [h5]
  have := rel_turn h3
  rwa [Nat.zero_add] at this
/-! ### with plans of at most 40 items -/
theorem behind_nil (p : Pl) : behindP [] p = p := by
  unfold behindP shiftP
  simp
theorem beside_nil (p : Pl) : besideP [] p = p := by
  unfold besideP shiftP
  simp
theorem both_t {p q : Pl} (h : p.length + q.length ≤ 40) : bothP true (some p) (some q) = some (behindP p q) := by rw [both_some, if_neg (by omega), if_pos rfl]
theorem both_f {p q : Pl} (h : p.length + q.length ≤ 40) : bothP false (some p) (some q) = some (besideP p q) := by rw [both_some, if_neg (by omega), if_neg (by decide)]
theorem times_ok {p : Pl} {n : Nat} (h : p.length * n ≤ 40) : timesP (some p) n = some (repP p n) := by rw [times_some, if_neg (by omega)]
def UnT (_ : Nat) (t : List Nat) (p : Pl) : Prop := UnO t (some p) ∧ 1 ≤ p.length
def RoT (_ : Nat) (t : List Nat) (p : Pl) : Prop := RoO t (some p) ∧ SzO t p.length ∧ 1 ≤ p.length
def ShT (_ : Nat) (t : List Nat) (p : Pl) : Prop := ShO t (some p) ∧ SzO t p.length ∧ 1 ≤ p.length
theorem UnT.dot {d n : Nat} {m : List Nat} (h : Nm n m) (hl : n ≤ 40) : UnT d (m ++ [46]) (repP [[]] n) := by
  have := un_dot h
  have hn := nm_pos h
  rw [times_ok (by show 1 * n ≤ 40; omega)] at this
  exact ⟨this, by rw [repP_len]; show 1 ≤ 1 * n; omega⟩
theorem UnT.br {d n : Nat} {m t : List Nat} {p : Pl} (h : Nm n m) (s : ShT d t p) (hl : p.length * n ≤ 40) : UnT (d + 1) (m ++ (40 :: (t ++ [41]))) (repP p n) := by
  have := un_br h s.1
  have hn := nm_pos h
  rw [times_ok hl] at this
  exact ⟨this, by rw [repP_len]; exact Nat.mul_pos s.2.2 hn.1⟩
theorem RoT.one {d : Nat} {t : List Nat} {p : Pl} (h : UnT d t p) (hl : p.length ≤ 40) : RoT d t p := by
  refine ⟨?_, uz_sz (uz_of h.1 (.inr ⟨p, rfl, rfl⟩)), h.2⟩
  have := ro_one h.1
  rw [both_t (by show 0 + p.length ≤ 40; omega), behind_nil] at this
  exact this
theorem RoT.more {d : Nat} {t u : List Nat} {p q : Pl} (h : RoT d t p) (k : UnT d u q) (hl : p.length + q.length ≤ 40) : RoT d (t ++ (62 :: u)) (behindP p q) := by
  refine ⟨?_, ?_, by rw [behindP_len]; have := k.2; omega⟩
  · have := ro_more h.1 k.1
    rw [both_t hl] at this
    exact this
  · rw [behindP_len]
    exact sz_then h.2.1 (uz_of k.1 (.inr ⟨q, rfl, rfl⟩))
theorem ShT.one {d : Nat} {t : List Nat} {p : Pl} (h : RoT d t p) (hl : p.length ≤ 40) : ShT d t p := by
  refine ⟨?_, h.2⟩
  have := sh_one h.1
  rw [both_f (by show 0 + p.length ≤ 40; omega), beside_nil] at this
  exact this
theorem ShT.more {d : Nat} {t u : List Nat} {p q : Pl} (h : ShT d t p) (k : RoT d u q) (hl : p.length + q.length ≤ 40) : ShT d (t ++ (124 :: u)) (besideP p q) := by
  refine ⟨?_, ?_, by rw [besideP_len]; have := k.2.2; omega⟩
  · have := sh_more h.1 k.1
    rw [both_f hl] at this
    exact this
  · rw [besideP_len]
    exact sz_bar h.2.1 k.2.1
theorem rot_ne {d : Nat} {t : List Nat} {p : Pl} (h : RoT d t p) : t ≠ [] := fun z => by
  subst z
  have h1 := h.1 0 1 (some []) []
  have h2 : (some ((⟨0, false, 0⟩, [⟨1, some [], some []⟩]) : Mc)) = some (⟨0, true, 0⟩, [⟨1, some [], some p⟩]) := h1
  have h3 := congrArg (fun z : Option Mc => z.map fun q => q.1.d) h2
  cases h3
end K84
end
section
set_option Elab.async false
set_option linter.all false
set_option maxRecDepth 100000
set_option maxHeartbeats 4000000
namespace K84
open PySem PySem.Spec PyProof.Rows L2 XE
section
variable {P : Program} {w : World} {K : PySem.W.Frag} {mg : Str → Option Value} {base : Heap} {X : Cx}
def spPool (K : PySem.W.Frag) : Sp := fun vs H Q _ => ∃ (a : Addr) (ns : List Int), vs = [.ref a] ∧ SqL K H a (ns.map V.int) ∧ (∀ H', Same H H' → SqL K H' a (ns.map V.int)) ∧ ns.length ≤ 63 ∧ ∀ p c H', Same H H' → PoolAt p c H' → Q (.ref p) H'
/-- law_pool: 0 _law_script, 1 _law_seed, 2 _law_cell -/
theorem c_law_pool (S : XC.Ctx fa fn P w K mg base) : C8.Cal P w K mg base 2 "_law_pool" (spPool K) [] := S.cal 18 14 rfl rfl
    (fun _ _ _ _ _ _ us hl => match us, hl with | [_], _ => rfl) sc_law_pool (fun vs H Q E h => by obtain ⟨a, ns, rfl, hS, hS2, hlen, k⟩ := h; rfl) fun cdv A outer s H vs Q E hr h => by
  have hu := hu_of hr
  obtain ⟨a, ns, rfl, hS, hS2, hlen, k⟩ := h
  refine ⟨_, (pss_cons (ps_set (i := 1) sc_law_pool.nd rfl (by first | exact Or.inl rfl | exact Or.inr rfl) (pe_op op_add (pe_op op_add (pe_op op_mod (pe_callTy (T := "int") call_int1 (by rfl) (fr_int S) (by decide +kernel) (pa_cons (pe_callB (id := "sum") (cr_sum rfl) (by rfl) (fr_sum S) (by decide +kernel) (pa_cons (pe_slice sl_list (pv 0) po_none (po_some pe_int)) pa_nil)) pa_nil)) pe_int) (pe_callB (id := "len") call_len_seq (by rfl) (fr_len S) (by decide +kernel) (pa_cons (pv 0) pa_nil))) pe_int))
    (pss_cons (ps_for PassesOwn.never rfl (pi_list (pe_slice sl_list (pv 0) po_none (po_some pe_int))) (pg_name (i := 2) sc_law_pool.nd rfl (by first | exact Or.inl rfl | exact Or.inr rfl)) (pss_one (ps_set (i := 1) sc_law_pool.nd rfl (by first | exact Or.inl rfl | exact Or.inr rfl) (pe_op op_mod (pe_callTy (T := "int") call_int1 (by rfl) (fr_int S) (by decide +kernel) (pa_cons (pe_op op_add (pe_op op_add (pe_op op_mul (pv 1) pe_int) (pe_op op_mod (pe_callTy (T := "int") call_int1 (by rfl) (fr_int S) (by decide +kernel) (pa_cons (pv 2) pa_nil)) pe_int)) pe_int) pa_nil)) pe_int))))
    (pss_one (ps_ret (pe_lst (pa_cons (pv 1) (pa_cons pe_int (pa_cons (pe_lc (own := [("_law_cell", 2)]) (g := gName 2) rfl sc_law_pool.nd (pi_list (pe_slice sl_list (pv 0) po_none (po_some pe_int))) (blkOk_by (N := N_law_pool) (sc := defScope s_law_pool) (by decide +kernel)) (fun _ _ _ _ _ => pg_name (i := 2) sc_law_pool.nd rfl (Or.inl rfl)) (fun _ _ _ _ _ => pts_one (pt_cmpR op_ge (pe_callB (id := "abs") call_abs (by rfl) (fr_abs S) (by decide +kernel) (pa_cons (pv 2) pa_nil)) (pe_op op_pow pe_int pe_int) (nomark _))) (fun _ _ _ _ _ => (pe_callB (id := "abs") call_abs (by rfl) (fr_abs S) (by decide +kernel) (pa_cons (pv 2) pa_nil)))) pa_nil)))))))), ?_⟩
  obtain ⟨m1, hm1, n1⟩ := n_slice (K := K) (σ := L2.start N_law_pool [.ref a]) (H := H) (i := 0) (n := 1) (q := a) (ns := ns) rfl hS2
  refine q_asg (A := rI) (e_add (e_add (e_mod (e_int1 (e_sumN n1)) e_int (by decide)) (e_toI (e_lenL (e_var (A := rV) rfl rfl) hS2))) e_int) fun v1 H1 e1 r1 => ?_
  have a1 : v1 = V.int _ := r1
  subst a1
  obtain ⟨m2, hm2, n2⟩ := n_slice (K := K) (σ := [some (.ref a), some (.int (m1.sum % 1000003 + ((ns.map V.int).length : Int) + 1)), none]) (H := H1) (i := 0) (n := 63) (q := a) (ns := ns) rfl fun H2 e2 => hS2 H2 (e1.trans e2)
  refine q_forN n2 (fun Hb i σ H' => Same Hb H' ∧ ∃ (s : Int) (a2 : Option V), σ = [some (.ref a), some (.int s), a2]) (fun H2 e2 => ⟨Same.refl H2, _, none, rfl⟩) (fun Hb i σ' H' q => q.1) (fun Hb i v σ' H' eb hv q => ?_) (fun Hb σ' H' eb q => ?_)
  · obtain ⟨q1, s, a2, rfl⟩ := q
    obtain ⟨n, hn, rfl⟩ : ∃ n, m2[i]? = some n ∧ v = V.int n := by
      rw [List.getElem?_map] at hv
      cases hh : m2[i]? with
      | none => rw [hh] at hv; cases hv
      | some n => rw [hh] at hv; exact ⟨n, rfl, (Option.some.inj hv).symm⟩
    refine s_asg (A := rI) (e_mod (e_int1 (e_add (e_add (e_mul (e_var (A := rI) rfl rfl) e_int (.inr ⟨by decide, by decide⟩)) (e_mod (e_int1 (e_var (A := rI) rfl rfl)) e_int (by decide))) e_int)) e_int (by decide)) fun v3 H3 e3 r3 => ?_
    have a3 : v3 = V.int _ := r3
    subst a3
    exact ⟨q1.trans e3, _, _, rfl⟩
  · obtain ⟨q1, s, a2, rfl⟩ := q
    have sH : Same H H' := (e1.trans eb).trans q1
    obtain ⟨m3, hm3, n3⟩ := n_slice (K := K) (σ := [some (.ref a), some (.int s), a2]) (H := H') (i := 0) (n := 63) (q := a) (ns := ns) rfl fun H2 e2 => hS2 H2 (sH.trans e2)
    refine s_retP (x := s) (e_var (A := rI) rfl rfl) (fun H2 e2 Q' q' => n_lcI (j := 2) (vs := [2]) (g := fun n => decide ((10 : Int) ^ 18 ≤ if n < 0 then -n else n)) (f := fun n => if n < 0 then -n else n) (n3.mono e2) (by omega) (fun _ => rfl) (fun H3 n e3 => b_test (e_ge (e_abs (e_var (A := rI) (i := 2) rfl rfl)) (e_pow (n := 18) e_int e_int (by decide) (by decide)))) (fun H3 n e3 => e_abs (e_var (A := rI) (i := 2) rfl rfl)) Q' q') fun l p cs H2 e2 hl hcs hp => ?_
    have hpl : p ≠ l := fun z => by rw [z, hl] at hp; cases hp
    exact k p l _ ((sH.trans e2).trans (same_new hp)) ⟨hpl, s, 0, cs, upd_same, by rw [upd_ne hpl.symm]; exact hl, hcs⟩
/-- law_draw: 0 _law_pool_here, 1 _law_many, 2 _law_cells, 3 _law_digit, 4 _law_mixed -/
theorem c_law_draw (S : XC.Ctx fa fn P w K mg base) : C8.Cal P w K mg base 1 "_law_draw" (spDraw) [] := S.cal 19 15 rfl rfl
    (fun _ _ _ _ _ _ us hl => match us, hl with | [_, _], _ => rfl) sc_law_draw (fun vs H Q E h => by obtain ⟨p, c, m, rfl, hm1, hm2, ⟨hpc, s, n, cs, hp, hc, hcs⟩, k⟩ := h; rfl) fun cdv A outer s H vs Q E hr h => by
  have hu := hu_of hr
  obtain ⟨p, c, m, rfl, hm1, hm2, ⟨hpc, s, n, cs, hp, hc, hcs⟩, k⟩ := h
  refine ⟨_, (pss_cons (ps_asg (pe_op op_add (pe_ix ix_list (pv 0) pe_int (fun _ _ => rfl)) pe_int) (pg_sub (pv 0) pe_int set_list))
    (pss_cons (ps_set (i := 2) sc_law_draw.nd rfl (by first | exact Or.inl rfl | exact Or.inr rfl) (pe_ix ix_list (pv 0) pe_int (fun _ _ => rfl)))
    (pss_cons (ps_if (pt_cmpR op_gt (pe_callB (id := "len") call_len_seq (by rfl) (fr_len S) (by decide +kernel) (pa_cons (pv 2) pa_nil)) pe_int (nomark _)) (pss_cons (ps_set (i := 3) sc_law_draw.nd rfl (by first | exact Or.inl rfl | exact Or.inr rfl) (pe_op op_mod (pe_callTy (T := "int") call_int1 (by rfl) (fr_int S) (by decide +kernel) (pa_cons (pe_ix ix_list (pv 2) pe_int (fun _ _ => rfl)) pa_nil)) (pv 1)))
    (pss_cons (ps_asg (pe_op op_fdivN (pe_callTy (T := "int") call_int1 (by rfl) (fr_int S) (by decide +kernel) (pa_cons (pe_ix ix_list (pv 2) pe_int (fun _ _ => rfl)) pa_nil)) (pv 1)) (pg_sub (pv 2) pe_int set_list))
    (pss_cons (ps_if (pt_cmpR op_eq (pe_ix ix_list (pv 2) pe_int (fun _ _ => rfl)) pe_int (nomark _)) (pss_one (ps_expr (pe_bm PySem.F.plainAttrs_list PySem.F.slot_list_pop PySem.F.type_list_pop mt_popAt (pv 2) (pa_cons pe_int pa_nil)))) pss_nil)
    (pss_one (ps_ret (pv 3)))))) pss_nil)
    (pss_cons (ps_set (i := 4) sc_law_draw.nd rfl (by first | exact Or.inl rfl | exact Or.inr rfl) (pe_op op_mod (pe_callTy (T := "int") call_int1 (by rfl) (fr_int S) (by decide +kernel) (pa_cons (pe_op op_mul (pe_op op_add (pe_ix ix_list (pv 0) pe_int (fun _ _ => rfl)) (pe_op op_mul pe_int (pe_ix ix_list (pv 0) pe_int (fun _ _ => rfl)))) pe_int) pa_nil)) pe_int))
    (pss_cons (ps_set (i := 4) sc_law_draw.nd rfl (by first | exact Or.inl rfl | exact Or.inr rfl) (pe_op op_mod (pe_callTy (T := "int") call_int1 (by rfl) (fr_int S) (by decide +kernel) (pa_cons (pe_op op_mul (pv 4) (pe_op op_add (pe_op op_fdivN (pv 4) pe_int) pe_int)) pa_nil)) pe_int))
    (pss_cons (ps_set (i := 4) sc_law_draw.nd rfl (by first | exact Or.inl rfl | exact Or.inr rfl) (pe_op op_mod (pe_callTy (T := "int") call_int1 (by rfl) (fr_int S) (by decide +kernel) (pa_cons (pe_op op_mul (pv 4) (pe_op op_add (pe_op op_fdivN (pv 4) pe_int) pe_int)) pa_nil)) pe_int))
    (pss_one (ps_ret (pe_op op_mod (pe_callTy (T := "int") call_int1 (by rfl) (fr_int S) (by decide +kernel) (pa_cons (pe_op op_fdivN (pv 4) pe_int) pa_nil)) (pv 1)))))))))), ?_⟩
  refine q_setL hp (e_add (e_ixL (A := rI) (i := 1) (e_var (A := rV) rfl rfl) e_int rfl hp rfl rfl) e_int) (e_var (A := rV) rfl rfl) (j := 1) e_int (by show 1 < 3; decide) fun v1 H1 e1 r1 => ?_
  have a1 : v1 = V.int (n + 1) := r1
  subst a1
  have hp1 : (upd H1 p (.lst [.int s, .int (n + 1), .ref c])) p = some (.lst [.int s, .int (n + 1), .ref c]) := upd_same
  have hc1 : (upd H1 p (.lst [.int s, .int (n + 1), .ref c])) c = some (.lst (cs.map V.int)) := by rw [upd_ne (fun z => hpc z.symm)]; exact e1 _ _ hc
  have tk1 : Tk H (upd H1 p (.lst [.int s, .int (n + 1), .ref c])) := (Same.tk e1).trans (tk_lst (e1 _ _ hp))
  have kp1 : ∀ a u, a ≠ p → a ≠ c → H a = some u → (upd H1 p (.lst [.int s, .int (n + 1), .ref c])) a = some u := fun a u h1 h2 h => by rw [upd_ne h1]; exact e1 a u h
  refine q_asg (A := rV) (e_ixL (A := rV) (i := 2) (x := .ref c) (e_var (A := rV) rfl rfl) e_int rfl hp1 rfl rfl) fun v2 H2 e2 r2 => ?_
  have a2 : v2 = V.ref c := r2
  subst a2
  have hc2 := e2 _ _ hc1
  have hp2 := e2 _ _ hp1
  cases cs with
  | nil =>
    refine q_when (b := false) (EvB.is (b_test (e_gt (e_toI (e_lenL (e_var (A := rV) rfl rfl) fun H3 e3 => SqL.of (e3 _ _ hc2))) e_int)) rfl) (fun z => nomatch z) fun _ H3 e3 => ?_
    refine q_asg (A := rI) (e_mod (e_int1 (e_mul (e_add (e_ixL (A := rI) (i := 0) (e_var (A := rV) rfl rfl) e_int rfl (e3 _ _ hp2) rfl rfl) (e_mul e_int (e_ixL (A := rI) (i := 1) (e_var (A := rV) rfl rfl) e_int rfl (e3 _ _ hp2) rfl rfl) (.inl ⟨by decide, by decide⟩))) e_int (.inr ⟨by decide, by decide⟩))) e_int (by decide)) fun v4 H4 e4 r4 => ?_
    generalize hx : ((s + 7919 * (n + 1)) * 48271) % 2147483647 = x at r4
    have bx : 0 ≤ x ∧ x < 2147483647 := by rw [← hx]; exact ⟨Int.emod_nonneg _ (by decide), Int.emod_lt_of_pos _ (by decide)⟩
    have a4 : v4 = V.int x := r4
    subst a4
    refine q_asg (A := rI) (e_mod (e_int1 (e_mul (e_var (A := rI) rfl rfl) (e_add (e_fdivN (e_var (A := rI) rfl rfl) e_int ⟨by decide, by decide⟩) e_int) (.inl ⟨by omega, by omega⟩))) e_int (by decide)) fun v5 H5 e5 r5 => ?_
    generalize hy : (x * (x.fdiv 1009 + 69621)) % 2147483647 = y at r5
    have by' : 0 ≤ y ∧ y < 2147483647 := by rw [← hy]; exact ⟨Int.emod_nonneg _ (by decide), Int.emod_lt_of_pos _ (by decide)⟩
    have a5 : v5 = V.int y := r5
    subst a5
    refine q_asg (A := rI) (e_mod (e_int1 (e_mul (e_var (A := rI) rfl rfl) (e_add (e_fdivN (e_var (A := rI) rfl rfl) e_int ⟨by decide, by decide⟩) e_int) (.inl ⟨by omega, by omega⟩))) e_int (by decide)) fun v6 H6 e6 r6 => ?_
    have a6 : v6 = V.int _ := r6
    subst a6
    refine s_ret (A := rI) (e_mod (e_int1 (e_fdivN (e_var (A := rI) rfl rfl) e_int ⟨by decide, by decide⟩)) (e_toI (e_var (A := rN) rfl rfl)) (by omega)) fun v7 H7 e7 r7 => ?_
    have a7 : v7 = V.int _ := r7
    subst a7
    have s7 := (((((e2.trans e3).trans e4).trans e5).trans e6).trans e7)
    have key : ∀ z : Int, ∃ d : Nat, d < m ∧ z % (m : Int) = (d : Int) := fun z => ⟨(z % (m : Int)).toNat, by
      have h1 := Int.emod_nonneg z (show (m : Int) ≠ 0 by omega)
      have h2 := Int.emod_lt_of_pos z (show (0 : Int) < m by omega)
      constructor <;> omega⟩
    obtain ⟨d, hd, ed⟩ := key ((y * (y.fdiv 2003 + 40692)) % 2147483399 |>.fdiv 16)
    show Q (V.int _) H7
    rw [ed]
    exact k d H7 hd ⟨fun a u h1 h2 h => s7 a u (kp1 a u h1 h2 h), tk1.trans (Same.tk s7), hpc, s, n + 1, [], s7 _ _ hp1, s7 _ _ hc1, Nat.zero_le _⟩
  | cons z cs =>
    refine q_if (b := true) (EvB.is (b_test (e_gt (e_toI (e_lenL (e_var (A := rV) rfl rfl) fun H3 e3 => SqL.of (e3 _ _ hc2))) e_int)) (decide_eq_true (by simp))) (fun _ H3 e3 => ?_) (fun z => nomatch z)
    have hc3 := e3 _ _ hc2
    refine q_asg (A := rI) (e_mod (e_int1 (e_ixL (A := rI) (i := 0) (e_var (A := rV) rfl rfl) e_int rfl hc3 rfl rfl)) (e_toI (e_var (A := rN) rfl rfl)) (by omega)) fun v4 H4 e4 r4 => ?_
    have a4 : v4 = V.int (z % (m : Int)) := r4
    subst a4
    have hc4 := e4 _ _ hc3
    refine q_setL hc4 (e_fdivN (e_int1 (e_ixL (A := rI) (i := 0) (e_var (A := rV) rfl rfl) e_int rfl hc4 rfl rfl)) (e_toI (e_var (A := rN) rfl rfl)) ⟨by omega, by omega⟩) (e_var (A := rV) rfl rfl) (j := 0) e_int (by simp) fun v5 H5 e5 r5 => ?_
    have a5 : v5 = V.int (z.fdiv (m : Int)) := r5
    subst a5
    have s5 := ((e2.trans e3).trans e4).trans e5
    have hp5 : H5 p = some (.lst [.int s, .int (n + 1), .ref c]) := s5 _ _ hp1
    have key : ∃ d : Nat, d < m ∧ z % (m : Int) = (d : Int) := ⟨(z % (m : Int)).toNat, by
      have h1 := Int.emod_nonneg z (show (m : Int) ≠ 0 by omega)
      have h2 := Int.emod_lt_of_pos z (show (0 : Int) < m by omega)
      constructor <;> omega⟩
    obtain ⟨d, hd, ed⟩ := key
    have hc6 : (upd H5 c (.lst (V.int (z.fdiv (m : Int)) :: cs.map V.int))) c = some (.lst (V.int (z.fdiv (m : Int)) :: cs.map V.int)) := upd_same
    have fin : ∀ H7 (l : List Int), l.length ≤ 1000 → (∀ a u, a ≠ c → H5 a = some u → H7 a = some u) → Tk H5 H7 → H7 c = some (.lst (l.map V.int)) → Q (.int (d : Int)) H7 := fun H7 l hl kp tk hcl =>
      k d H7 hd ⟨fun a u h1 h2 h => kp a u h2 (s5 a u (kp1 a u h1 h2 h)), (tk1.trans (Same.tk s5)).trans tk, hpc, s, n + 1, l, kp _ _ hpc hp5, hcl, hl⟩
    have tk6 : Tk H5 (upd H5 c (.lst (V.int (z.fdiv (m : Int)) :: cs.map V.int))) := tk_lst (e5 _ _ hc4)
    refine q_when (b := decide (z.fdiv (m : Int) = 0)) (b_test (e_eqI (e_ixL (A := rI) (i := 0) (e_var (A := rV) rfl rfl) e_int rfl hc6 rfl rfl) e_int)) (fun h0 H7 e7 => ?_) (fun h0 H7 e7 => ?_)
    · have hc7 := e7 _ _ hc6
      refine ⟨_, rfl, .inl ⟨rfl, _, SqL.of hc7⟩, c, _, 0, 0, .int (z.fdiv (m : Int)), rfl, rfl, hc7, by decide, by decide, by simp [seqIndex?], rfl, ?_⟩
      refine s_ret (A := rI) (e_var (A := rI) rfl rfl) fun v8 H8 e8 r8 => ?_
      have a8 : v8 = V.int (z % (m : Int)) := r8
      subst a8
      rw [ed]
      refine fin H8 cs (Nat.le_trans (Nat.le_succ _) hcs) (fun a u h1 h => e8 a u (by rw [upd_ne h1]; exact e7 a u (by rw [upd_ne h1]; exact h))) (((tk6.trans (Same.tk e7)).trans (tk_lst hc7)).trans (Same.tk e8)) (e8 _ _ upd_same)
    · refine s_ret (A := rI) (e_var (A := rI) rfl rfl) fun v8 H8 e8 r8 => ?_
      have a8 : v8 = V.int (z % (m : Int)) := r8
      subst a8
      rw [ed]
      exact fin H8 (z.fdiv (m : Int) :: cs) (by simpa using hcs) (fun a u h1 h => e8 a u (e7 a u (by rw [upd_ne h1]; exact h))) ((tk6.trans (Same.tk e7)).trans (Same.tk e8)) (e8 _ _ (e7 _ _ hc6))
end
end K84
end
section
set_option Elab.async false
set_option linter.all false
set_option maxRecDepth 100000
set_option maxHeartbeats 4000000
namespace K84
open PySem PySem.Spec PyProof.Rows L2 XE
/-! ### texts that are told with their plans -/
def lenU : Nat → Nat
  | 0 => 4
  | d + 1 => 4 + 9 * (lenU d + 1)
def lenS (d : Nat) : Nat := 9 * (lenU d + 1)
/-- what stands behind the number of a unit -/
def Inn (d : Nat) (t : List Nat) (p : Pl) : Prop := (t = [46] ∧ p = [[]]) ∨ ∃ d' t', d = d' + 1 ∧ t = 40 :: (t' ++ [41]) ∧ ShT d' t' p
theorem inn_un {d n : Nat} {m t : List Nat} {p : Pl} (h : Nm n m) (i : Inn d t p) (hl : p.length * n ≤ 40) : UnT d (m ++ t) (repP p n) := by
  rcases i with ⟨rfl, rfl⟩ | ⟨d', t', rfl, rfl, hs⟩
  · exact .dot h (nm_pos h).2
  · exact .br h hs hl
/-- a pair of a text and a plan -/
def rU (K : PySem.W.Frag) : Rp (List Nat × Pl) := ⟨fun H v x => ∃ a tv pv, v = .ref a ∧ SqT K H a [tv, pv] ∧ tv = .str (SX.S x.1) ∧ (rP K).r H pv x.2, fun e v x ⟨a, tv, pv, h1, h2, h3, h4⟩ => ⟨a, tv, pv, h1, tk_sq e h2, h3, (rP K).mono e h4⟩⟩
section
variable {K : PySem.W.Frag} {σ : L2.St} {H : Hp} {ta tb te : TE} {D : Ends} {tz ts : TS}
theorem e_fst {x : List Nat × Pl} (h : EvR (rU K) ta σ H x) : EvR rS (tOp (rIxT K) ta (tC (.int 0))) σ H (SX.S x.1) := e_op h e_int fun u v H1 _ hu hv Q q => by
  obtain ⟨a, tv, pv, rfl, h2, h3, h4⟩ := hu
  have ev : v = V.int 0 := hv
  subst ev
  exact ⟨a, _, 0, tv, rfl, rfl, h2, rfl, q _ H1 (Same.refl H1) h3⟩
theorem e_snd {x : List Nat × Pl} (h : EvR (rU K) ta σ H x) : EvR (rP K) (tOp (rIxT K) ta (tC (.int 1))) σ H x.2 := e_op h e_int fun u v H1 _ hu hv Q q => by
  obtain ⟨a, tv, pv, rfl, h2, h3, h4⟩ := hu
  have ev : v = V.int 1 := hv
  subst ev
  exact ⟨a, _, 1, pv, rfl, rfl, h2, rfl, q _ H1 (Same.refl H1) h4⟩
theorem e_pair {t : List Nat} {pl : Pl} (h1 : EvR rS ta σ H (SX.S t)) (h2 : EvR (rP K) tb σ H pl) : EvR (rU K) (tTup (tCons ta (tCons tb tNil))) σ H (t, pl) := fun H1 e Q q =>
  h1 H1 e _ fun u H2 e2 hu => h2 H2 (e.trans e2) _ fun v H3 e3 hv => ⟨by show 2 ≤ sizeLine; decide, fun p hp => q _ _ ((e2.trans e3).trans (same_new hp)) ⟨p, u, v, rfl, .inl (.inl upd_same), hu, (rP K).mono (tk_new hp) hv⟩⟩
theorem e_catL {a b : List Nat} (h1 : EvR rS ta σ H (SX.S a)) (h2 : EvR rS tb σ H (SX.S b)) (hl : a.length + b.length ≤ 3000000) : EvR rS (tOp (fun x y H Q => ∃ i j, x = .str i ∧ y = .str j ∧ i.length + j.length ≤ sizeLine ∧ Q (.str (i ++ j)) H) ta tb) σ H (SX.S (a ++ b)) := by
  have h := e_catS h1 h2 (by rw [SX.S_len, SX.S_len]; exact Nat.le_trans hl (by decide))
  rw [SX.S_cat] at h
  exact h
theorem e_tupV {α : Type} {A : Rp α} {as : List α} {l : Addr} {vs : List V} (ha : EvR rV ta σ H (.ref l)) (hl : H l = some (.lst vs)) (hr : Paired (A.r H) vs as) : EvR (rT K A) (tCB (fun xs H Q => ∃ p ys, xs = [.ref p] ∧ ((SqL K H p ys ∧ ∀ l, H l = none → Q (.ref l) (upd H l (.tup ys))) ∨ (SqT K H p ys ∧ Q (.ref p) H))) (tCons ta tNil)) σ H as := fun H1 e Q q =>
  ha H1 e _ fun v H2 e2 hv => by
    have ev : v = V.ref l := hv
    subst ev
    exact ⟨l, vs, rfl, .inl ⟨SqL.of ((e.trans e2) l _ hl), fun r hr2 => q _ _ (e2.trans (same_new hr2)) ⟨r, vs, rfl, .inl (.inl upd_same), Paired.imp (fun _ _ z => A.mono (((Same.tk (e.trans e2))).trans (tk_new hr2)) z) hr⟩⟩⟩
/-- if draw(..) == 0 without else, what both ways come to -/
theorem q_ifDM {p c : Addr} {i m : Nat} {tm : TE} {n : Int} (M : L2.St → Hp → Prop) (k : ∀ σ' H', M σ' H' → tz D σ' H') (hv : σ[i]? = some (some (.ref p))) (hp : PoolAt p c H) (hm : EvR rN tm σ H m) (h1 : 1 ≤ m) (h2 : m ≤ 1000000)
    (k1 : (∀ σ' H', M σ' H' → tz D σ' H') → ∀ H1, Dr p c H H1 → ts { D with nx := tz D } σ H1) (k2 : ∀ H1, Dr p c H H1 → M σ H1) :
    tSeq (tIfS (tTest (tOp rEq (tCall spDraw [] C8.E0 (tCons (tVar i) (tCons tm tNil))) (tC (.int n)))) ts tNext) tz D σ H := q_ifD hv hp hm h1 h2 (fun H1 dr => k1 k H1 dr) fun H1 dr => k σ H1 (k2 H1 dr)
theorem q_ifADM {p c : Addr} {i m : Nat} {tm : TE} {n : Int} {tt : TT} {b0 : Bool} (M : L2.St → Hp → Prop) (k : ∀ σ' H', M σ' H' → tz D σ' H') (hb : EvB tt σ H b0) (hv : σ[i]? = some (some (.ref p))) (hp : PoolAt p c H) (hm : EvR rN tm σ H m) (h1 : 1 ≤ m) (h2 : m ≤ 1000000)
    (k1 : b0 = true → (∀ σ' H', M σ' H' → tz D σ' H') → ∀ H1, Dr p c H H1 → ts { D with nx := tz D } σ H1) (k2 : ∀ H1, Dr p c H H1 → M σ H1) :
    tSeq (tIfS (tAnd tt (tTest (tOp rEq (tCall spDraw [] C8.E0 (tCons (tVar i) (tCons tm tNil))) (tC (.int n))))) ts tNext) tz D σ H := q_ifAD hb hv hp hm h1 h2 (fun hb H1 dr => k1 hb k H1 dr) fun H1 dr => k σ H1 (k2 H1 dr)
theorem e_strN {n : Nat} (h : EvR rN ta σ H n) (hn : n ≤ 1000) : EvR rS (tCB (fun xs H Q => ∃ i, xs = [.int i] ∧ i.natAbs.log2 < 1920 ∧ Q (.str (toString i)) H) (tCons ta tNil)) σ H (SX.S (TL.numL n)) := e_cb1 h fun u H1 _ hu Q q => by
  have eu : u = V.int (n : Int) := hu
  subst eu
  refine ⟨(n : Int), rfl, ?_, q _ H1 (Same.refl H1) (congrArg V.str (SX.num_S n))⟩
  have : n.log2 ≤ n := Nat.log2_le_self n
  rw [Int.natAbs_natCast]
  omega
theorem e_nat1 : EvR rN (tC (.int 1)) σ H 1 := e_c rfl
end
theorem take_snoc {α : Type} {l : List α} {i : Nat} {x : α} (h : l[i]? = some x) : l.take (i + 1) = l.take i ++ [x] := by rw [List.take_add_one, h] <;> rfl
section
variable {P : Program} {w : World} {K : PySem.W.Frag} {mg : Str → Option Value} {base : Heap} {X : Cx}
def spLBeh (K : PySem.W.Frag) : Sp := sp2 (rP K) (rP K) (rP K) fun a b c => Wf a ∧ Wf b ∧ a.length + b.length ≤ 1000 ∧ c = behindP a b
def spLBes (K : PySem.W.Frag) : Sp := sp2 (rP K) (rP K) (rP K) fun a b c => Wf a ∧ Wf b ∧ a.length + b.length ≤ 1000 ∧ c = besideP a b
/-- law_behind: 0 _law_one, 1 _law_other, 2 _law_found, 3 _law_row, 4 _law_item -/
theorem c_law_behind (S : XC.Ctx fa fn P w K mg base) : C8.Cal P w K mg base 1 "_law_behind" (spLBeh K) [] := S.cal 20 16 rfl rfl
    (fun _ _ _ _ _ _ us hl => match us, hl with | [_, _], _ => rfl) sc_law_behind (fun vs H Q E h => by obtain ⟨u0, u1, a, b, c, rfl, h0, h1, ⟨wa, wb, hl, rfl⟩, k⟩ := h; rfl) fun cdv A outer s H vs Q E hr h => by
  have hu := hu_of hr
  obtain ⟨u0, u1, a, b, c, rfl, h0, h1, ⟨wa, wb, hl, rfl⟩, k⟩ := h
  refine ⟨_, (pss_cons (ps_set (i := 2) sc_law_behind.nd rfl (by first | exact Or.inl rfl | exact Or.inr rfl) (pe_callTy (T := "list") call_list_of (by rfl) (fr_list S) (by decide +kernel) (pa_cons (pv 0) pa_nil)))
    (pss_cons (ps_for PassesOwn.never rfl (pi_tup (pv 1)) (pg_name (i := 3) sc_law_behind.nd rfl (by first | exact Or.inl rfl | exact Or.inr rfl)) (pss_one (ps_expr (pe_bm PySem.F.plainAttrs_list PySem.F.slot_list_append PySem.F.type_list_append mt_append (pv 2) (pa_cons (pe_op op_catA (pe_tupRg rfl (by rfl) (fr_tuple S) (prg_1 (by rfl) (fr_range S) (pe_callB (id := "len") call_len_seq (by rfl) (fr_len S) (by decide +kernel) (pa_cons (pv 0) pa_nil)))) (pe_callTy (T := "tuple") call_tuple_of (by rfl) (fr_tuple S) (by decide +kernel) (pa_cons (pe_lc (own := [("_law_item", 4)]) (g := gName 4) (tt := tYes) rfl sc_law_behind.nd (pi_tup (pv 3)) (blkOk_by (N := N_law_behind) (sc := defScope s_law_behind) (by decide +kernel)) (fun _ _ _ _ _ => pg_name (i := 4) sc_law_behind.nd rfl (Or.inl rfl)) (fun _ _ _ _ _ => pts_nil) (fun _ _ _ _ _ => (pe_op op_add (pv 4) (pe_callB (id := "len") (XC.call_len_seq_ (K := K) rfl) (by rfl) (fr_len S) (by decide +kernel) (pa_cons (pv 0) pa_nil))))) pa_nil))) pa_nil)))))
    (pss_one (ps_ret (pe_callTy (T := "tuple") call_tuple_of (by rfl) (fr_tuple S) (by decide +kernel) (pa_cons (pv 2) pa_nil)))))), ?_⟩
  refine q_asgL (A := rT K rN) (e_listT (e_var rfl h0)) fun l vs H1 e1 hl0 hl1 hr1 => ?_
  have h10 := h1
  obtain ⟨q, xs, rfl, hx, hr⟩ := h10
  refine q_forT (A := rT K rN) (p := q) (xs := xs) (as := b) (e_var (A := rV) rfl rfl) hx hr (fun i σ H' => Same H H' ∧ ∃ (ws : List V) (a3 a4 : Option V), σ = [some u0, some (.ref q), some (.ref l), a3, a4] ∧ H' l = some (.lst ws) ∧ Paired ((rT K rN).r H') ws (a ++ (shiftP b a.length (List.range a.length)).take i)) (fun H2 e2 => ⟨e1.trans e2, vs, none, none, rfl, e2 _ _ hl1, by simpa using Paired.imp (fun _ _ z => Rp.same _ e2 z) hr1⟩) (fun i σ H' q => Same.tk q.1) (fun i v row σ' H' hi hv q => ?_) (fun σ' H' q => ?_)
  · obtain ⟨q1, ws, a3, a4, rfl, q2, q3⟩ := q
    have hw := wb row (List.mem_of_getElem? hi)
    have hi2 := (List.getElem?_eq_some_iff.mp hi).1
    have hws := Paired.len q3
    rw [List.length_append, List.length_take, shiftP_len] at hws
    refine s_app (A := rT K rN) (a := List.range a.length ++ row.map (· + a.length)) q2 (e_var (A := rV) rfl rfl) (e_catT (e_tupRg (e_lenT (e_var rfl (Rp.same _ q1 h0))) (by omega)) (e_tupL (l_lcT (A := rN) (f := (· + a.length)) (e_var rfl hv) (by omega) (fun _ => rfl) fun H2 e2 y n hn hy => e_toN (e_add (e_toI (e_var rfl hy)) (e_toI (e_lenT (e_var rfl (Rp.same _ (q1.trans e2) h0))))) (by push_cast; rfl))) (by rw [List.length_range, List.length_map]; have := sz100; omega)) (by omega) fun v5 H5 e5 r5 => ?_
    have tk5 : Tk H5 (upd H5 l (.lst (ws ++ [v5]))) := tk_lst (e5 _ _ q2)
    refine ⟨same_mut (q1.trans e5) hl0, ws ++ [v5], _, a4, rfl, upd_same, ?_⟩
    rw [take_snoc (x := List.range a.length ++ row.map (· + a.length)) (by unfold shiftP; rw [List.getElem?_map, hi] <;> rfl), ← List.append_assoc]
    exact Paired.app (Paired.imp (fun _ _ z => (rT K rN).mono tk5 (Rp.same _ e5 z)) q3) (.cons ((rT K rN).mono tk5 r5) .nil)
  · obtain ⟨q1, ws, a3, a4, rfl, q2, q3⟩ := q
    rw [List.take_of_length_le (by rw [shiftP_len]; omega)] at q3
    exact s_ret (A := rP K) (a := behindP a b) (e_tupV (A := rT K rN) (e_var (A := rV) rfl rfl) q2 q3) fun w H2 e2 r2 => k w H2 (q1.trans e2) r2
/-- law_beside: 0 _law_one, 1 _law_other, 2 _law_found, 3 _law_row, 4 _law_item -/
theorem c_law_beside (S : XC.Ctx fa fn P w K mg base) : C8.Cal P w K mg base 1 "_law_beside" (spLBes K) [] := S.cal 21 17 rfl rfl
    (fun _ _ _ _ _ _ us hl => match us, hl with | [_, _], _ => rfl) sc_law_beside (fun vs H Q E h => by obtain ⟨u0, u1, a, b, c, rfl, h0, h1, ⟨wa, wb, hl, rfl⟩, k⟩ := h; rfl) fun cdv A outer s H vs Q E hr h => by
  have hu := hu_of hr
  obtain ⟨u0, u1, a, b, c, rfl, h0, h1, ⟨wa, wb, hl, rfl⟩, k⟩ := h
  refine ⟨_, (pss_cons (ps_set (i := 2) sc_law_beside.nd rfl (by first | exact Or.inl rfl | exact Or.inr rfl) (pe_callTy (T := "list") call_list_of (by rfl) (fr_list S) (by decide +kernel) (pa_cons (pv 0) pa_nil)))
    (pss_cons (ps_for PassesOwn.never rfl (pi_tup (pv 1)) (pg_name (i := 3) sc_law_beside.nd rfl (by first | exact Or.inl rfl | exact Or.inr rfl)) (pss_one (ps_expr (pe_bm PySem.F.plainAttrs_list PySem.F.slot_list_append PySem.F.type_list_append mt_append (pv 2) (pa_cons (pe_callTy (T := "tuple") call_tuple_of (by rfl) (fr_tuple S) (by decide +kernel) (pa_cons (pe_lc (own := [("_law_item", 4)]) (g := gName 4) (tt := tYes) rfl sc_law_beside.nd (pi_tup (pv 3)) (blkOk_by (N := N_law_beside) (sc := defScope s_law_beside) (by decide +kernel)) (fun _ _ _ _ _ => pg_name (i := 4) sc_law_beside.nd rfl (Or.inl rfl)) (fun _ _ _ _ _ => pts_nil) (fun _ _ _ _ _ => (pe_op op_add (pv 4) (pe_callB (id := "len") (XC.call_len_seq_ (K := K) rfl) (by rfl) (fr_len S) (by decide +kernel) (pa_cons (pv 0) pa_nil))))) pa_nil)) pa_nil)))))
    (pss_one (ps_ret (pe_callTy (T := "tuple") call_tuple_of (by rfl) (fr_tuple S) (by decide +kernel) (pa_cons (pv 2) pa_nil)))))), ?_⟩
  refine q_asgL (A := rT K rN) (e_listT (e_var rfl h0)) fun l vs H1 e1 hl0 hl1 hr1 => ?_
  have h10 := h1
  obtain ⟨q, xs, rfl, hx, hr⟩ := h10
  refine q_forT (A := rT K rN) (p := q) (xs := xs) (as := b) (e_var (A := rV) rfl rfl) hx hr (fun i σ H' => Same H H' ∧ ∃ (ws : List V) (a3 a4 : Option V), σ = [some u0, some (.ref q), some (.ref l), a3, a4] ∧ H' l = some (.lst ws) ∧ Paired ((rT K rN).r H') ws (a ++ (shiftP b a.length []).take i)) (fun H2 e2 => ⟨e1.trans e2, vs, none, none, rfl, e2 _ _ hl1, by simpa using Paired.imp (fun _ _ z => Rp.same _ e2 z) hr1⟩) (fun i σ H' q => Same.tk q.1) (fun i v row σ' H' hi hv q => ?_) (fun σ' H' q => ?_)
  · obtain ⟨q1, ws, a3, a4, rfl, q2, q3⟩ := q
    have hw := wb row (List.mem_of_getElem? hi)
    have hi2 := (List.getElem?_eq_some_iff.mp hi).1
    have hws := Paired.len q3
    rw [List.length_append, List.length_take, shiftP_len] at hws
    refine s_app (A := rT K rN) (a := row.map (· + a.length)) q2 (e_var (A := rV) rfl rfl) (e_tupL (l_lcT (A := rN) (f := (· + a.length)) (e_var rfl hv) (by omega) (fun _ => rfl) fun H2 e2 y n hn hy => e_toN (e_add (e_toI (e_var rfl hy)) (e_toI (e_lenT (e_var rfl (Rp.same _ (q1.trans e2) h0))))) (by push_cast; rfl))) (by omega) fun v5 H5 e5 r5 => ?_
    have tk5 : Tk H5 (upd H5 l (.lst (ws ++ [v5]))) := tk_lst (e5 _ _ q2)
    refine ⟨same_mut (q1.trans e5) hl0, ws ++ [v5], _, a4, rfl, upd_same, ?_⟩
    rw [take_snoc (x := row.map (· + a.length)) (by unfold shiftP; rw [List.getElem?_map, hi] <;> rfl), ← List.append_assoc]
    exact Paired.app (Paired.imp (fun _ _ z => (rT K rN).mono tk5 (Rp.same _ e5 z)) q3) (.cons ((rT K rN).mono tk5 r5) .nil)
  · obtain ⟨q1, ws, a3, a4, rfl, q2, q3⟩ := q
    rw [List.take_of_length_le (by rw [shiftP_len]; omega)] at q3
    exact s_ret (A := rP K) (a := besideP a b) (e_tupV (A := rT K rN) (e_var (A := rV) rfl rfl) q2 q3) fun w H2 e2 r2 => k w H2 (q1.trans e2) r2
end
end K84
end
section
set_option Elab.async false
set_option linter.all false
set_option maxRecDepth 100000
set_option maxHeartbeats 4000000
namespace K84
open PySem PySem.Spec PyProof.Rows L2 XE
section
variable {P : Program} {w : World} {K : PySem.W.Frag} {mg : Str → Option Value} {base : Heap} {X : Cx}
def spUnit (K : PySem.W.Frag) (d : Nat) : Sp := fun vs H Q _ => ∃ (p c : Addr) (room : Nat), vs = [.ref p, .int (room : Int), .int (d : Int)] ∧ PoolAt p c H ∧ 1 ≤ room ∧ room ≤ 40 ∧
  ∀ w H' t pl, Dr p c H H' → (rU K).r H' w (t, pl) → UnT d t pl → t.length ≤ lenU d → pl.length ≤ room → Wf pl → Q w H'
def spShape (K : PySem.W.Frag) (d : Nat) : Sp := fun vs H Q _ => ∃ (p c : Addr) (room : Nat), vs = [.ref p, .int (room : Int), .int (d : Int)] ∧ PoolAt p c H ∧ 1 ≤ room ∧ room ≤ 40 ∧
  ∀ w H' t pl, Dr p c H H' → (rU K).r H' w (t, pl) → ShT d t pl → t.length ≤ lenS d → pl.length ≤ room → Wf pl → Q w H'
theorem e_lbeh {σ : L2.St} {H : Hp} {ta tb : TE} {a b : Pl} (h1 : EvR (rP K) ta σ H a) (h2 : EvR (rP K) tb σ H b) (wa : Wf a) (wb : Wf b) (hl : a.length + b.length ≤ 1000) : EvR (rP K) (tCall (spLBeh K) [] C8.E0 (tCons ta (tCons tb tNil))) σ H (behindP a b) := e_call2 h1 h2 (sp2_ok ⟨wa, wb, hl, rfl⟩)
theorem e_lbes {σ : L2.St} {H : Hp} {ta tb : TE} {a b : Pl} (h1 : EvR (rP K) ta σ H a) (h2 : EvR (rP K) tb σ H b) (wa : Wf a) (wb : Wf b) (hl : a.length + b.length ≤ 1000) : EvR (rP K) (tCall (spLBes K) [] C8.E0 (tCons ta (tCons tb tNil))) σ H (besideP a b) := e_call2 h1 h2 (sp2_ok ⟨wa, wb, hl, rfl⟩)
theorem lenU_ge : ∀ d, 4 ≤ lenU d
  | 0 => Nat.le_refl _
  | d + 1 => Nat.le_add_right _ _
theorem q_asgSh {σ : L2.St} {H : Hp} {i j d room : Nat} {p c : Addr} {tb tc : TE} {tz : TS} {D : Ends} (hv : σ[i]? = some (some (.ref p))) (hp : PoolAt p c H) (h2 : EvR rN tb σ H room) (h3 : EvR rN tc σ H d) (hr1 : 1 ≤ room) (hr2 : room ≤ 40)
    (k : ∀ v H1 t pl, Dr p c H H1 → (rU K).r H1 v (t, pl) → ShT d t pl → t.length ≤ lenS d → pl.length ≤ room → Wf pl → tz D (σ.set j (some v)) H1) :
    tSeq (tAsg (tCall (spShape K d) [] C8.E0 (tCons (tVar i) (tCons tb (tCons tc tNil)))) (gName j)) tz D σ H := ⟨_, hv, h2 H (Same.refl H) _ fun u H1 e1 hu => h3 H1 e1 _ fun v H2 e2 hv2 => by
  have a1 : u = V.int (room : Int) := hu
  have a2 : v = V.int (d : Int) := hv2
  subst a1 a2
  exact ⟨p, c, room, rfl, hp.same (e1.trans e2), hr1, hr2, fun w H3 t pl dr r1 r2 r3 r4 r5 => k w H3 t pl ((Dr.of hp (e1.trans e2)).trans dr) r1 r2 r3 r4 r5⟩⟩
theorem q_asgUn {σ : L2.St} {H : Hp} {i j d room : Nat} {p c : Addr} {tb tc : TE} {tz : TS} {D : Ends} (hv : σ[i]? = some (some (.ref p))) (hp : PoolAt p c H) (h2 : EvR rN tb σ H room) (h3 : EvR rN tc σ H d) (hr1 : 1 ≤ room) (hr2 : room ≤ 40)
    (k : ∀ v H1 t pl, Dr p c H H1 → (rU K).r H1 v (t, pl) → UnT d t pl → t.length ≤ lenU d → pl.length ≤ room → Wf pl → tz D (σ.set j (some v)) H1) :
    tSeq (tAsg (tCall (spUnit K d) [] C8.E0 (tCons (tVar i) (tCons tb (tCons tc tNil)))) (gName j)) tz D σ H := ⟨_, hv, h2 H (Same.refl H) _ fun u H1 e1 hu => h3 H1 e1 _ fun v H2 e2 hv2 => by
  have a1 : u = V.int (room : Int) := hu
  have a2 : v = V.int (d : Int) := hv2
  subst a1 a2
  exact ⟨p, c, room, rfl, hp.same (e1.trans e2), hr1, hr2, fun w H3 t pl dr r1 r2 r3 r4 r5 => k w H3 t pl ((Dr.of hp (e1.trans e2)).trans dr) r1 r2 r3 r4 r5⟩⟩
theorem c_law_unit (S : XC.Ctx fa fn P w K mg base) (d : Nat) {kS : Nat} {spS : Sp} (cS : C8.Cal P w K mg base kS "_law_shape" spS []) (hS : ∀ d', d = d' + 1 → spS = spShape K d') (hd3 : lenU d ≤ 900000) : C8.Cal P w K mg base (kS + 4) "_law_unit" (spUnit K d) [] := S.cal (k := kS + 3) 22 18 rfl rfl
    (fun _ _ _ _ _ _ us hl => match us, hl with | [_, _, _], _ => rfl) sc_law_unit (fun vs H Q E h => by obtain ⟨p, c, room, rfl, h⟩ := h; rfl) fun cdv A outer s H vs Q E hr h => by
  have hu := hu_of hr
  obtain ⟨p, c, room, rfl, hp, hr1, hr2, k⟩ := h
  refine ⟨_, (pss_cons (ps_set (i := 3) sc_law_unit.nd rfl (by first | exact Or.inl rfl | exact Or.inr rfl) pe_int)
    (pss_cons (ps_set (i := 4) sc_law_unit.nd rfl (by first | exact Or.inl rfl | exact Or.inr rfl) pe_str)
    (pss_cons (ps_if (pt_cmpR op_eq (C8.pe_c (c_law_draw S) hr (by omega) (by rfl) (pa_cons (pv 0) (pa_cons pe_int pa_nil))) pe_int (nomark _)) (pss_cons (ps_set (i := 3) sc_law_unit.nd rfl (by first | exact Or.inl rfl | exact Or.inr rfl) (pe_op op_add pe_int (C8.pe_c (c_law_draw S) hr (by omega) (by rfl) (pa_cons (pv 0) (pa_cons (pe_callB (id := "min") (call_min2 rfl) (by rfl) (fr_min S) (by decide +kernel) (pa_cons (pv 1) (pa_cons pe_int pa_nil))) pa_nil)))))
    (pss_one (ps_set (i := 4) sc_law_unit.nd rfl (by first | exact Or.inl rfl | exact Or.inr rfl) (pe_callTy (T := "str") call_str_int (by rfl) (fr_str S) (by decide +kernel) (pa_cons (pv 3) pa_nil))))) pss_nil)
    (pss_cons (ps_set (i := 5) sc_law_unit.nd rfl (by first | exact Or.inl rfl | exact Or.inr rfl) (pe_tup (pa_cons pe_str (pa_cons (pe_tup (pa_cons (pe_tup pa_nil) pa_nil)) pa_nil))))
    (pss_cons (ps_if (PW.pt (pw_and (pt_cmpR op_gt (pv 2) pe_int (nomark _)) (pw_and1 (pt_cmpR op_eq (C8.pe_c (c_law_draw S) hr (by omega) (by rfl) (pa_cons (pv 0) (pa_cons pe_int pa_nil))) pe_int (nomark _))))) (pss_cons (ps_set (i := 5) sc_law_unit.nd rfl (by first | exact Or.inl rfl | exact Or.inr rfl) (C8.pe_c cS hr (by omega) (by rfl) (pa_cons (pv 0) (pa_cons (pe_op op_fdivN (pv 1) (pv 3)) (pa_cons (pe_op op_sub (pv 2) pe_int) pa_nil)))))
    (pss_one (ps_set (i := 5) sc_law_unit.nd rfl (by first | exact Or.inl rfl | exact Or.inr rfl) (pe_tup (pa_cons (pe_op op_add_str (pe_op op_add_str pe_str (pe_ix ix_tup (pv 5) pe_int (fun _ _ => rfl))) pe_str) (pa_cons (pe_ix ix_tup (pv 5) pe_int (fun _ _ => rfl)) pa_nil)))))) pss_nil)
    (pss_cons (ps_set (i := 6) sc_law_unit.nd rfl (by first | exact Or.inl rfl | exact Or.inr rfl) (pe_tup pa_nil))
    (pss_cons (ps_for PassesOwn.never rfl (pi_range1 (by rfl) (fr_range S) (pa_cons (pv 3) pa_nil)) (pg_name (i := 7) sc_law_unit.nd rfl (by first | exact Or.inl rfl | exact Or.inr rfl)) (pss_one (ps_set (i := 6) sc_law_unit.nd rfl (by first | exact Or.inl rfl | exact Or.inr rfl) (C8.pe_c (c_law_behind S) hr (by omega) (by rfl) (pa_cons (pv 6) (pa_cons (pe_ix ix_tup (pv 5) pe_int (fun _ _ => rfl)) pa_nil))))))
    (pss_one (ps_ret (pe_tup (pa_cons (pe_op op_add_str (pv 4) (pe_ix ix_tup (pv 5) pe_int (fun _ _ => rfl))) (pa_cons (pv 6) pa_nil)))))))))))), ?_⟩
  refine q_asg (A := rN) (a := 1) e_nat1 fun v1 H1 e1 r1 => ?_
  have a1 : v1 = V.int ((1 : Nat) : Int) := r1
  subst a1
  refine q_asg (A := rS) (a := SX.S []) (e_c rfl) fun v2 H2 e2 r2 => ?_
  have a2 : v2 = V.str (SX.S []) := r2
  subst a2
  have s2 := e1.trans e2
  refine q_ifDM (p := p) (c := c) (m := 4) (fun σ' H' => ∃ (n : Nat) (m : List Nat), σ' = [some (.ref p), some (.int (room : Int)), some (.int (d : Int)), some (.int (n : Int)), some (.str (SX.S m)), none, none, none] ∧ Nm n m ∧ n ≤ room ∧ Dr p c H H') ?_ rfl (hp.same s2) (e_c rfl) (by decide) (by decide) (fun kk H3 dr3 => ?_) (fun H3 dr3 => ⟨1, [], rfl, .inl ⟨rfl, rfl⟩, hr1, (Dr.of hp s2).trans dr3⟩)
  · rintro σ' H' ⟨n, m, rfl, hnm, hn, dr⟩
    have hn12 := nm_pos hnm
    have hml := nm_len hnm
    refine q_asg (A := rU K) (a := ([46], [[]])) (e_pair (t := [46]) (pl := [[]]) (e_c rfl) (e_tup1 e_tup0)) fun v4 H4 e4 r4 => ?_
    refine q_ifADM (p := p) (c := c) (m := 2) (b0 := decide (0 < d)) (fun σ' H' => ∃ (v : V) (t : List Nat) (pl : Pl), σ' = [some (.ref p), some (.int (room : Int)), some (.int (d : Int)), some (.int (n : Int)), some (.str (SX.S m)), some v, none, none] ∧ (rU K).r H' v (t, pl) ∧ Inn d t pl ∧ t.length + 2 ≤ lenU d ∧ n * pl.length ≤ room ∧ Wf pl ∧ Dr p c H H') ?_ (EvB.is (b_test (e_gt (e_toI (e_var (A := rN) rfl rfl)) e_int)) (decide_eq_decide.mpr (by omega))) rfl (dr.then e4).pool (e_c rfl) (by decide) (by decide) (fun hd kk H5 dr5 => ?_) (fun H5 dr5 => ⟨v4, [46], [[]], rfl, Rp.dr _ dr5 r4, .inl ⟨rfl, rfl⟩, ?_, by simpa using hn, fun r hr => ?_, (dr.then e4).trans dr5⟩)
    · rintro σ' H' ⟨v, t, pl, rfl, rv, hi, htl, hpl, wf, dr'⟩
      refine q_asg (A := rP K) (a := []) e_tup0 fun v6 H6 e6 r6 => ?_
      have hnp : ∀ i, i ≤ n → i * pl.length ≤ 40 := fun i hi => Nat.le_trans (Nat.mul_le_mul_right _ hi) (Nat.le_trans hpl hr2)
      refine q_rng (n := n) (e_var (A := rN) rfl rfl) (by omega) (fun i σ' H'' => ∃ (v7 : V) (a7 : Option V), σ' = [some (.ref p), some (.int (room : Int)), some (.int (d : Int)), some (.int (n : Int)), some (.str (SX.S m)), some v, some v7, a7] ∧ (rP K).r H'' v7 (repP pl i) ∧ Same H' H'') (fun H7 e7 => ⟨v6, none, rfl, Rp.same _ e7 r6, e6.trans e7⟩) (fun i σ'' H'' hi2 q => ?_) (fun σ'' H'' q => ?_)
      · obtain ⟨v7, a7, rfl, q1, q2⟩ := q
        have h1 := hnp (i + 1) hi2
        refine s_asg (A := rP K) (e_lbeh (a := repP pl i) (b := pl) (e_var rfl q1) (e_snd (x := (t, pl)) (e_var rfl (Rp.same _ q2 rv))) (wf_rep wf i) wf (by rw [repP_len]; rw [Nat.succ_mul] at h1; rw [Nat.mul_comm]; omega)) fun v8 H8 e8 r8 => ⟨v8, _, rfl, r8, q2.trans e8⟩
      · obtain ⟨v7, a7, rfl, q1, q2⟩ := q
        refine s_ret (A := rU K) (a := (m ++ t, repP pl n)) (e_pair (e_catL (a := m) (b := t) (e_var rfl rfl) (e_fst (x := (t, pl)) (e_var rfl (Rp.same _ q2 rv))) ?_) (e_var rfl q1)) fun v9 H9 e9 r9 => ?_
        · omega
        · exact k v9 H9 _ _ ((dr'.then q2).then e9) r9 (inn_un hnm hi (by rw [Nat.mul_comm]; exact Nat.le_trans hpl hr2)) (by rw [List.length_append]; omega) (by rw [repP_len, Nat.mul_comm]; exact hpl) (wf_rep wf n)
    · have hd0 := of_decide_eq_true hd
      obtain ⟨d', rfl⟩ : ∃ d', d = d' + 1 := ⟨d - 1, by omega⟩
      have es := hS d' rfl
      subst es
      have s45 := Same.refl H5
      have drn : 1 ≤ room / n := (Nat.one_le_div_iff (by omega)).mpr hn
      refine q_asgSh (c := c) (room := room / n) (d := d') rfl dr5.pool (e_toN (e_fdivN (e_toI (e_var (A := rN) rfl rfl)) (e_toI (e_var (A := rN) rfl rfl)) ⟨by omega, by omega⟩) (Int.ofNat_fdiv _ _).symm) (e_toN (e_sub (e_toI (e_var (A := rN) rfl rfl)) e_int) (by push_cast; omega)) drn (Nat.le_trans (Nat.div_le_self _ _) hr2) fun v6 H6 t pl dr6 rv hsh hlt hlp wf => ?_
      have htl : t.length ≤ 900000 := by
        have h9 : lenS d' + 4 ≤ lenU (d' + 1) := by show 9 * (lenU d' + 1) + 4 ≤ 4 + 9 * (lenU d' + 1); omega
        omega
      refine s_asg (A := rU K) (a := (40 :: (t ++ [41]), pl)) (e_pair (t := 40 :: (t ++ [41])) (pl := pl) (EvR.is (e_catL (a := [40] ++ t) (b := [41]) (e_catL (a := [40]) (b := t) (e_c rfl) (e_fst (x := (t, pl)) (e_var rfl rv)) (by simp; omega)) (e_c rfl) (by simp; omega)) (by simp)) (e_snd (x := (t, pl)) (e_var rfl rv))) fun v7 H7 e7 r7 => ?_
      refine kk _ _ ⟨v7, 40 :: (t ++ [41]), pl, rfl, r7, .inr ⟨d', t, rfl, rfl, hsh⟩, ?_, ?_, wf, (((dr.then e4).trans dr5).trans dr6).then e7⟩
      · show (t ++ [41]).length + 1 + 2 ≤ 4 + 9 * (lenU d' + 1)
        have : t.length ≤ 9 * (lenU d' + 1) := hlt
        rw [List.length_append]
        show t.length + 1 + 1 + 2 ≤ _
        omega
      · rw [Nat.mul_comm]
        exact Nat.mul_le_of_le_div _ _ _ hlp
    · have := lenU_ge d
      show 1 + 2 ≤ lenU d
      omega
    · rcases List.mem_singleton.mp hr with rfl
      exact Nat.zero_le _
  · have hp3 := dr3.pool
    refine q_asgD (p := p) (c := c) (m := room) (n := 1) rfl hp3 (e_toN (e_min (e_toI (e_var (A := rN) rfl rfl)) e_int) (by
      by_cases hh : (40 : Int) < (room : Int)
      · omega
      · rw [if_neg hh])) hr1 (by omega) fun n H4 hn1 hn2 dr4 => ?_
    refine s_asg (A := rS) (a := SX.S (TL.numL n)) (e_strN (e_var (A := rN) rfl rfl) (by omega)) fun v5 H5 e5 r5 => ?_
    have a5 : v5 = V.str (SX.S (TL.numL n)) := r5
    subst a5
    exact kk _ _ ⟨n, _, rfl, .inr ⟨hn1, by omega, rfl⟩, by omega, (((Dr.of hp s2).trans dr3).trans dr4).then e5⟩
end
end K84
end
section
set_option Elab.async false
set_option linter.all false
set_option maxRecDepth 100000
set_option maxHeartbeats 4000000
namespace K84
open PySem PySem.Spec PyProof.Rows L2 XE
theorem joinL_snoc (s : List Nat) : ∀ (ws : List (List Nat)) (t : List Nat), ws ≠ [] → TL.joinL s (ws ++ [t]) = TL.joinL s ws ++ (s ++ t)
  | [], _, h => absurd rfl h
  | [p], _, _ => rfl
  | p :: q :: r, t, _ => by
    have ih := joinL_snoc s (q :: r) t (fun z => nomatch z)
    show p ++ (s ++ TL.joinL s (q :: r ++ [t])) = p ++ (s ++ TL.joinL s (q :: r)) ++ (s ++ t)
    rw [ih]
    simp only [List.append_assoc]
theorem sum_join (s : List Nat) : ∀ ws : List (List Nat), (ws.map List.length).sum ≤ (TL.joinL s ws).length
  | [] => Nat.le_refl _
  | [p] => by simp [TL.joinL]
  | p :: q :: r => by
    have ih := sum_join s (q :: r)
    rw [List.map_cons, List.sum_cons]
    show p.length + _ ≤ (p ++ (s ++ TL.joinL s (q :: r))).length
    rw [List.length_append, List.length_append]
    exact Nat.add_le_add_left (Nat.le_trans ih (Nat.le_add_left _ _)) _
section
variable {K : PySem.W.Frag} {σ : L2.St} {H : Hp} {ta tb te : TE} {D : Ends} {tz ts : TS}
/-- ["|", ""][int(text == "")] -/
theorem e_bar {tx : List Nat} (h : EvR rS ta σ H (SX.S tx)) : EvR rS (tOp (rIxL K) (tLst (tCons (tC (.str "|")) (tCons (tC (.str "")) tNil))) (tCB (fun xs H Q => (∃ i, xs = [.int i] ∧ Q (.int i) H) ∨ ∃ k, xs = [.bl k] ∧ Q (.int (if k then 1 else 0)) H) (tCons (tOp rEq ta (tC (.str ""))) tNil))) σ H (SX.S (if tx = [] then [] else [124])) := fun H1 e Q q =>
  ⟨by show 2 ≤ sizeLine; decide, fun l hl => (e_eqS h e_str) _ (e.trans (same_new hl)) _ fun u H2 e2 hu => by
    have eu : u = V.bl (decide (SX.S tx = "")) := hu
    subst eu
    refine .inr ⟨_, rfl, ?_⟩
    have hl2 : H2 l = some (.lst [.str "|", .str ""]) := e2 l _ upd_same
    by_cases hx : tx = []
    · subst hx
      rw [if_pos rfl] at q
      exact ⟨l, _, 1, .str "", rfl, rfl, SqL.of hl2, rfl, q _ H2 ((same_new hl).trans e2) rfl⟩
    · rw [if_neg hx] at q
      have hne : ¬ SX.S tx = "" := fun z => hx (SX.S_inj (b := []) z)
      rw [decide_eq_false hne]
      exact ⟨l, _, 0, .str "|", rfl, rfl, SqL.of hl2, rfl, q _ H2 ((same_new hl).trans e2) rfl⟩⟩
/-- ">".join(words) -/
theorem e_joinW {l : Addr} {ws : List (List Nat)} {sp : Str} {s : Nat} (hs : sp = SX.S [s]) (ha : EvR rV ta σ H (.ref l)) (hl : H l = some (.lst (ws.map fun t => V.str (SX.S t)))) (hb : (TL.joinL [s] ws).length + ws.length ≤ 1000000) :
    EvR rS (tBM K "str" (fun x xs H Q => ∃ a p, ∃ ys : List Str, x = .str a ∧ xs = [.ref p] ∧ (SqL K H p (ys.map V.str) ∨ SqT K H p (ys.map V.str)) ∧ (ys.map (·.length)).sum + ys.length * a.length ≤ 16777216 ∧ Q (.str (Txt.join a ys)) H) (tC (.str sp)) (tCons ta tNil)) σ H (SX.S (TL.joinL [s] ws)) := fun H1 e Q q => by
  refine ⟨rfl, ha H1 e _ fun u H2 e2 hu => ?_⟩
  have eu : u = V.ref l := hu
  subst eu
  refine ⟨sp, l, ws.map SX.S, rfl, rfl, .inl (SqL.of ?_), ?_, q _ H2 e2 ?_⟩
  · rw [List.map_map]
    exact (e.trans e2) l _ hl
  · subst hs
    have h1 := sum_join [s] ws
    have h2 : ((ws.map SX.S).map (·.length)) = ws.map List.length := by
      rw [List.map_map]
      exact List.map_congr_left fun t _ => SX.S_len t
    rw [h2, List.length_map, SX.S_len]
    simp
    omega
  · subst hs
    show V.str _ = V.str _
    rw [SX.join_S]
end
section
variable {P : Program} {w : World} {K : PySem.W.Frag} {mg : Str → Option Value} {base : Heap} {X : Cx}
theorem c_law_shape (S : XC.Ctx fa fn P w K mg base) (d : Nat) {kU : Nat} (cU : C8.Cal P w K mg base kU "_law_unit" (spUnit K d) []) (hd3 : lenU d ≤ 9000) : C8.Cal P w K mg base (kU + 2) "_law_shape" (spShape K d) [] := S.cal (k := kU + 1) 23 19 rfl rfl
    (fun _ _ _ _ _ _ us hl => match us, hl with | [_, _, _], _ => rfl) sc_law_shape (fun vs H Q E h => by obtain ⟨p, c, room, rfl, h⟩ := h; rfl) fun cdv A outer s H vs Q E hr h => by
  have hu := hu_of hr
  obtain ⟨p, c, room, rfl, hp, hr1, hr2, k⟩ := h
  refine ⟨_, (pss_cons (ps_set (i := 3) sc_law_shape.nd rfl (by first | exact Or.inl rfl | exact Or.inr rfl) pe_str)
    (pss_cons (ps_set (i := 4) sc_law_shape.nd rfl (by first | exact Or.inl rfl | exact Or.inr rfl) (pe_tup pa_nil))
    (pss_cons (ps_for PassesOwn.never rfl (pi_range1 (by rfl) (fr_range S) (pa_cons (pe_op op_add pe_int (C8.pe_c (c_law_draw S) hr (by omega) (by rfl) (pa_cons (pv 0) (pa_cons pe_int pa_nil)))) pa_nil)) (pg_name (i := 5) sc_law_shape.nd rfl (by first | exact Or.inl rfl | exact Or.inr rfl)) (pss_cons (ps_set (i := 6) sc_law_shape.nd rfl (by first | exact Or.inl rfl | exact Or.inr rfl) (pe_tup pa_nil))
    (pss_cons (ps_set (i := 7) sc_law_shape.nd rfl (by first | exact Or.inl rfl | exact Or.inr rfl) (pe_lst pa_nil))
    (pss_cons (ps_for PassesOwn.never rfl (pi_range1 (by rfl) (fr_range S) (pa_cons (pe_op op_add pe_int (C8.pe_c (c_law_draw S) hr (by omega) (by rfl) (pa_cons (pv 0) (pa_cons pe_int pa_nil)))) pa_nil)) (pg_name (i := 8) sc_law_shape.nd rfl (by first | exact Or.inl rfl | exact Or.inr rfl)) (pss_cons (ps_set (i := 9) sc_law_shape.nd rfl (by first | exact Or.inl rfl | exact Or.inr rfl) (pe_op op_sub (pe_op op_sub (pv 1) (pe_callB (id := "len") call_len_seq (by rfl) (fr_len S) (by decide +kernel) (pa_cons (pv 4) pa_nil))) (pe_callB (id := "len") call_len_seq (by rfl) (fr_len S) (by decide +kernel) (pa_cons (pv 6) pa_nil))))
    (pss_one (ps_if (pt_cmpR op_gt (pv 9) pe_int (nomark _)) (pss_cons (ps_set (i := 10) sc_law_shape.nd rfl (by first | exact Or.inl rfl | exact Or.inr rfl) (C8.pe_c cU hr (by omega) (by rfl) (pa_cons (pv 0) (pa_cons (pv 9) (pa_cons (pv 2) pa_nil)))))
    (pss_cons (ps_set (i := 6) sc_law_shape.nd rfl (by first | exact Or.inl rfl | exact Or.inr rfl) (C8.pe_c (c_law_behind S) hr (by omega) (by rfl) (pa_cons (pv 6) (pa_cons (pe_ix ix_tup (pv 10) pe_int (fun _ _ => rfl)) pa_nil))))
    (pss_one (ps_expr (pe_bm PySem.F.plainAttrs_list PySem.F.slot_list_append PySem.F.type_list_append mt_append (pv 7) (pa_cons (pe_ix ix_tup (pv 10) pe_int (fun _ _ => rfl)) pa_nil)))))) pss_nil))))
    (pss_one (ps_if (pt_cmpR op_gt (pe_callB (id := "len") call_len_seq (by rfl) (fr_len S) (by decide +kernel) (pa_cons (pv 7) pa_nil)) pe_int (nomark _)) (pss_cons (ps_set (i := 3) sc_law_shape.nd rfl (by first | exact Or.inl rfl | exact Or.inr rfl) (pe_op op_add_str (pe_op op_add_str (pv 3) (pe_ix ix_list (pe_lst (pa_cons pe_str (pa_cons pe_str pa_nil))) (pe_callTy (T := "int") call_int1 (by rfl) (fr_int S) (by decide +kernel) (pa_cons (pe_cmpR op_eq (pv 3) pe_str (nomark _)) pa_nil)) (fun _ _ => rfl))) (pe_bm PySem.F.plainAttrs_str PySem.F.slot_str_join PySem.F.type_str_join mt_join pe_str (pa_cons (pv 7) pa_nil))))
    (pss_one (ps_set (i := 4) sc_law_shape.nd rfl (by first | exact Or.inl rfl | exact Or.inr rfl) (C8.pe_c (c_law_beside S) hr (by omega) (by rfl) (pa_cons (pv 4) (pa_cons (pv 6) pa_nil)))))) pss_nil))))))
    (pss_one (ps_ret (pe_tup (pa_cons (pv 3) (pa_cons (pv 4) pa_nil)))))))), ?_⟩
  obtain ⟨U, hU⟩ : ∃ U, U = lenU d + 1 := ⟨_, rfl⟩
  refine q_asg (A := rS) (a := SX.S []) (e_c rfl) fun v1 H1 e1 r1 => ?_
  have a1 : v1 = V.str (SX.S []) := r1
  subst a1
  refine q_asg (A := rP K) (a := []) e_tup0 fun v2 H2 e2 r2 => ?_
  have s2 := e1.trans e2
  refine q_rngD (p := p) (c := c) (m := 3) (n := 1) rfl (hp.same s2) (e_c rfl) (by decide) (by decide) (by decide) (fun i σ H' => ∃ (tx : List Nat) (sv : V) (sd : Pl) (a5 a6 a7 a8 a9 a10 : Option V), σ = [some (.ref p), some (.int (room : Int)), some (.int (d : Int)), some (.str (SX.S tx)), some sv, a5, a6, a7, a8, a9, a10] ∧ (rP K).r H' sv sd ∧ Dr p c H H' ∧ ((tx = [] ∧ sd = [] ∧ i = 0) ∨ (tx ≠ [] ∧ ShT d tx sd)) ∧ Wf sd ∧ sd.length ≤ room ∧ tx.length ≤ i * (3 * U))
    (fun H3 dr3 => ⟨[], v2, [], none, none, none, none, none, none, rfl, Rp.dr _ dr3 r2, (Dr.of hp s2).trans dr3, .inl ⟨rfl, rfl, rfl⟩, wf_nil, Nat.zero_le _, Nat.zero_le _⟩) (fun i σ' H' hi q => ?_) (fun r σ' H' hn1 hn2 q => ?_)
  · obtain ⟨tx, sv, sd, a5, a6, a7, a8, a9, a10, rfl, rs, dr, sh, wfs, hsd, htx⟩ := q
    refine q_asg (A := rP K) (a := []) e_tup0 fun v6 H6 e6 r6 => ?_
    refine ⟨Nat.zero_le _, fun wl hwl => ?_⟩
    dsimp only [gName]
    have dr6 := dr.then e6
    have hwlne := dr6.pool.ne hwl
    have hwl0 : H wl = none := by
      cases h0 : H wl with
      | none => rfl
      | some o =>
        have := dr6.keep wl o hwlne.1 hwlne.2 h0
        rw [hwl] at this
        cases this
    have drL : Dr p c H (upd H6 wl (.lst [])) := dr6.then (same_new hwl)
    refine q_rngD (p := p) (c := c) (m := 3) (n := 1) rfl drL.pool (e_c rfl) (by decide) (by decide) (by decide) (fun j σ H'' => ∃ (rv : V) (row : Pl) (ws : List (List Nat)) (b5 b8 b9 b10 : Option V), σ = [some (.ref p), some (.int (room : Int)), some (.int (d : Int)), some (.str (SX.S tx)), some sv, b5, some rv, some (.ref wl), b8, b9, b10] ∧ (rP K).r H'' sv sd ∧ (rP K).r H'' rv row ∧ Dr p c H H'' ∧ H'' wl = some (.lst (ws.map fun t => V.str (SX.S t))) ∧
        ((ws = [] ∧ row = [] ∧ (j = 0 ∨ room ≤ sd.length)) ∨ (ws ≠ [] ∧ RoT d (TL.joinL [62] ws) row ∧ (TL.joinL [62] ws).length + 1 ≤ j * U)) ∧ Wf row ∧ sd.length + row.length ≤ room ∧ (TL.joinL [62] ws).length ≤ j * U ∧ ws.length ≤ j ∧ j ≤ 3)
      (fun H7 dr7 => ⟨v6, [], [], _, _, _, _, rfl, Rp.dr _ dr7 (Rp.same _ (e6.trans (same_new hwl)) rs), Rp.dr _ dr7 (Rp.same _ (same_new hwl) r6), drL.trans dr7, dr7.keep wl _ hwlne.1 hwlne.2 upd_same, .inl ⟨rfl, rfl, .inl rfl⟩, wf_nil, hsd, Nat.zero_le _, Nat.zero_le _, Nat.zero_le _⟩) (fun j σ'' H'' hj q => ?_) (fun j' σ'' H'' hrn1 hrn2 q => ?_)
    · obtain ⟨rv, row, ws, b5, b8, b9, b10, rfl, rs2, rr, dr2, hw, hst, wfr, hlen, hjl, hwsl, hj3⟩ := q
      refine q_asg (A := rI) (a := (room : Int) - (sd.length : Int) - (row.length : Int)) (e_sub (e_sub (e_toI (e_var (A := rN) rfl rfl)) (e_toI (e_lenT (e_var rfl rs2)))) (e_toI (e_lenT (e_var rfl rr)))) fun v9 H9 e9 r9 => ?_
      have a9' : v9 = V.int ((room - sd.length - row.length : Nat) : Int) := by
        have z : v9 = V.int _ := r9
        rw [z]
        congr 1
        omega
      subst a9'
      have dr9 := dr2.then e9
      refine s_when (b := decide (0 < room - sd.length - row.length)) (EvB.is (b_test (e_gt (e_toI (e_var (A := rN) rfl rfl)) e_int)) (decide_eq_decide.mpr (by omega))) (fun hl H10 e10 => ?_) (fun hl H10 e10 => ?_)
      · have hl0 := of_decide_eq_true hl
        have dr10 := dr9.then e10
        refine q_asgUn (c := c) (room := room - sd.length - row.length) (d := d) rfl dr10.pool (e_var (A := rN) rfl rfl) (e_var (A := rN) rfl rfl) hl0 (by omega) fun v11 H11 t pl dr11 ru hun htl hpl wfp => ?_
        have e910 := e9.trans e10
        refine q_asg (A := rP K) (e_lbeh (a := row) (b := pl) (e_var rfl (Rp.dr _ dr11 (Rp.same _ e910 rr))) (e_snd (x := (t, pl)) (e_var rfl ru)) wfr wfp (by omega)) fun v12 H12 e12 r12 => ?_
        have hw12 : H12 wl = some (.lst (ws.map fun t => V.str (SX.S t))) := e12 _ _ (dr11.keep wl _ hwlne.1 hwlne.2 (e910 _ _ hw))
        have drA := (dr10.trans dr11).then e12
        refine s_app (A := rS) (a := SX.S t) hw12 (e_var (A := rV) rfl rfl) (e_fst (x := (t, pl)) (e_var rfl (Rp.same _ e12 ru))) (by rw [List.length_map]; omega) fun v13 H13 e13 r13 => ?_
        have a13 : v13 = V.str (SX.S t) := r13
        subst a13
        have hw13 := e13 _ _ hw12
        have tk13 : Tk H13 (upd H13 wl (.lst ((ws.map fun t => V.str (SX.S t)) ++ [.str (SX.S t)]))) := tk_lst hw13
        have hjoin : (TL.joinL [62] (ws ++ [t])).length + 1 ≤ (j + 1) * U ∧ RoT d (TL.joinL [62] (ws ++ [t])) (behindP row pl) := by
          rcases hst with ⟨rfl, rfl, _⟩ | ⟨hne, hro, hj1⟩
          · constructor
            · show t.length + 1 ≤ _
              have := Nat.le_mul_of_pos_left U (show 0 < j + 1 by omega)
              omega
            · have eb : behindP [] pl = pl := by
                unfold behindP shiftP
                simp
              rw [eb]
              exact .one hun (by omega)
          · rw [joinL_snoc _ _ _ hne]
            constructor
            · rw [List.length_append, Nat.succ_mul]
              show _ + (t.length + 1) + 1 ≤ _
              omega
            · exact .more hro hun (by omega)
        refine ⟨v12, behindP row pl, ws ++ [t], _, _, _, _, rfl, ?_, ?_, ((drA.then e13).own hwl0 hwlne.1 hwlne.2 hw13), ?_, (.inr ⟨by simp, hjoin.2, hjoin.1⟩), wf_behind wfr wfp, by rw [behindP_len]; omega, Nat.le_of_succ_le hjoin.1, by rw [List.length_append]; simp; omega, by omega⟩
        · exact (rP K).mono tk13 (Rp.same _ e13 (Rp.same _ e12 (Rp.dr _ dr11 (Rp.same _ e910 rs2))))
        · exact (rP K).mono tk13 (Rp.same _ e13 r12)
        · rw [upd_same, List.map_append] <;> rfl
      · have hl0 := of_decide_eq_false hl
        have e910 := e9.trans e10
        refine ⟨rv, row, ws, _, _, _, _, rfl, Rp.same _ e910 rs2, Rp.same _ e910 rr, dr9.then e10, e910 _ _ hw, ?_, wfr, hlen, Nat.le_trans hjl (Nat.mul_le_mul_right _ (Nat.le_succ j)), by omega, by omega⟩
        rcases hst with ⟨rfl, rfl, _⟩ | h2
        · exact .inl ⟨rfl, rfl, .inr (by simp at hl0; omega)⟩
        · exact .inr ⟨h2.1, h2.2.1, Nat.le_trans h2.2.2 (Nat.mul_le_mul_right _ (Nat.le_succ j))⟩
    · obtain ⟨rv, row, ws, b5, b8, b9, b10, rfl, rs2, rr, dr2, hw, hst, wfr, hlen, hjl, hwsl, hj3⟩ := q
      have hju : j' * U ≤ 3 * U := Nat.mul_le_mul_right _ hj3
      have hjl3 : (TL.joinL [62] ws).length ≤ 3 * U := Nat.le_trans hjl hju
      have htx9 : tx.length ≤ 9 * U := by
        have h1 : i * (3 * U) ≤ 3 * (3 * U) := Nat.mul_le_mul_right _ (by omega)
        omega
      refine s_when (b := decide (0 < ws.length)) (EvB.is (b_test (e_gt (e_toI (e_lenL (e_var (A := rV) rfl rfl) fun H3 e3 => SqL.of (e3 _ _ hw))) e_int)) (by rw [List.length_map]; exact decide_eq_decide.mpr (by omega))) (fun hl H10 e10 => ?_) (fun hl H10 e10 => ?_)
      · have hl0 := of_decide_eq_true hl
        have hne : ws ≠ [] := fun z => by subst z; exact absurd hl0 (by decide)
        obtain ⟨_, hro, hj1⟩ : ws ≠ [] ∧ RoT d (TL.joinL [62] ws) row ∧ (TL.joinL [62] ws).length + 1 ≤ j' * U := by
          rcases hst with ⟨h, _⟩ | h
          · exact absurd h hne
          · exact h
        have hw10 := e10 _ _ hw
        refine q_asg (A := rS) (a := SX.S ((tx ++ (if tx = [] then [] else [124])) ++ TL.joinL [62] ws)) (e_catL (e_catL (e_var rfl rfl) (e_bar (e_var rfl rfl)) ?_) (e_joinW (s := 62) rfl (e_var (A := rV) rfl rfl) hw10 (by omega)) ?_) fun v11 H11 e11 r11 => ?_
        · split <;> simp <;> omega
        · rw [List.length_append]
          split <;> simp <;> omega
        · have a11 : v11 = V.str _ := r11
          subst a11
          have e1011 := e10.trans e11
          refine s_asg (A := rP K) (e_lbes (a := sd) (b := row) (e_var rfl (Rp.same _ e1011 rs2)) (e_var rfl (Rp.same _ e1011 rr)) wfs wfr (by omega)) fun v12 H12 e12 r12 => ?_
          refine ⟨_, v12, besideP sd row, _, _, _, _, _, _, rfl, r12, (dr2.then e1011).then e12, .inr ?_, wf_beside wfs wfr, by rw [besideP_len]; omega, ?_⟩
          · rcases sh with ⟨rfl, rfl, _⟩ | ⟨htne, hsh⟩
            · rw [if_pos rfl]
              have eb : besideP [] row = row := by
                unfold besideP shiftP
                simp
              rw [eb]
              refine ⟨?_, .one hro (by omega)⟩
              show TL.joinL [62] ws ≠ []
              exact rot_ne hro
            · rw [if_neg htne, List.append_assoc]
              exact ⟨by simp [htne], .more hsh hro (by omega)⟩
          · rw [List.length_append, List.length_append, Nat.succ_mul]
            rcases sh with ⟨rfl, rfl, _⟩ | ⟨htne, hsh⟩
            · rw [if_pos rfl]
              simp
              omega
            · rw [if_neg htne]
              show tx.length + 1 + _ ≤ _
              omega
      · have hl0 := of_decide_eq_false hl
        have hws : ws = [] := List.length_eq_zero_iff.mp (by omega)
        refine ⟨tx, sv, sd, _, _, _, _, _, _, rfl, Rp.same _ e10 rs2, dr2.then e10, .inr ?_, wfs, hsd, Nat.le_trans htx (Nat.mul_le_mul_right _ (Nat.le_succ i))⟩
        rcases hst with ⟨_, _, h | h⟩ | ⟨h, _⟩
        · omega
        · rcases sh with ⟨rfl, rfl, _⟩ | h2
          · simp at h; omega
          · exact h2
        · exact absurd hws h
  · obtain ⟨tx, sv, sd, a5, a6, a7, a8, a9, a10, rfl, rs, dr, sh, wfs, hsd, htx⟩ := q
    refine s_ret (A := rU K) (a := (tx, sd)) (e_pair (t := tx) (pl := sd) (e_var rfl rfl) (e_var rfl rs)) fun v3 H3 e3 r3 => ?_
    refine k v3 H3 tx sd (dr.then e3) r3 ?_ ?_ hsd wfs
    · rcases sh with ⟨_, _, h⟩ | ⟨_, h⟩
      · omega
      · exact h
    · have h1 : r * (3 * U) ≤ 3 * (3 * U) := Nat.mul_le_mul_right _ (by omega)
      show tx.length ≤ 9 * (lenU d + 1)
      omega
end
end K84
end
section
set_option Elab.async false
set_option linter.all false
set_option maxRecDepth 100000
set_option maxHeartbeats 4000000
namespace K84
open PySem PySem.Spec PyProof.Rows L2 XE
theorem uz_then {t t2 : List Nat} {m n : Nat} (h : UzO t m) (k : UzO t2 n) : UzO (t ++ (62 :: t2)) (m + n) := fun b L j st hr => by
  obtain ⟨L1, h1, h2, h3⟩ := h b L j st hr
  rw [← h2] at h3
  obtain ⟨L2, h4, h5, h6⟩ := k b L1 (j + m) st h3
  refine ⟨L2, ?_, h5.trans h2, ?_⟩
  · rw [runM_then h1, runM_cons st_then, h4]
  · rw [← h2, ← Nat.add_assoc]
    exact h6
theorem uz_join {t : List Nat} {m : Nat} (h : UzO t m) : ∀ k, UzO (TL.joinL [62] (List.replicate (k + 1) t)) ((k + 1) * m)
  | 0 => by rw [Nat.one_mul]; exact h
  | k + 1 => by
    have ih := uz_then h (uz_join h k)
    rw [show (k + 1 + 1) * m = m + (k + 1) * m by rw [Nat.succ_mul]; omega]
    exact ih
theorem sz_join {t : List Nat} {m : Nat} (h : SzO t m) : ∀ k, SzO (TL.joinL [124] (List.replicate (k + 1) t)) ((k + 1) * m)
  | 0 => by rw [Nat.one_mul]; exact h
  | k + 1 => by
    have ih := sz_bar h (sz_join h k)
    rw [show (k + 1 + 1) * m = m + (k + 1) * m by rw [Nat.succ_mul]; omega]
    exact ih
theorem join_len (s : Nat) (t : List Nat) : ∀ k, (TL.joinL [s] (List.replicate (k + 1) t)).length ≤ (k + 1) * (t.length + 1)
  | 0 => by show t.length ≤ _; omega
  | k + 1 => by
    have ih := join_len s t k
    show (t ++ ([s] ++ TL.joinL [s] (List.replicate (k + 1) t))).length ≤ _
    rw [List.length_append, List.length_append, Nat.succ_mul]
    simp at ih ⊢
    omega
theorem nm40 : Nm 40 [52, 48] := .inr ⟨by decide, by decide, by decide +kernel⟩
theorem sz_deep {t : List Nat} {m : Nat} (h : SzO t m) (hm : 2 ≤ m) : ∀ d, ∃ n, m ≤ n ∧ (1 ≤ d → 40 < n) ∧ SzO ((List.replicate d [52, 48, 40]).flatten ++ t ++ (List.replicate d [41]).flatten) n
  | 0 => ⟨m, Nat.le_refl _, fun z => absurd z (by decide), by simpa using h⟩
  | d + 1 => by
    obtain ⟨n, h1, h2, h3⟩ := sz_deep h hm d
    refine ⟨40 * n, by omega, fun _ => by omega, ?_⟩
    have e : (List.replicate (d + 1) [52, 48, 40]).flatten ++ t ++ (List.replicate (d + 1) [41]).flatten = [52, 48] ++ (40 :: (((List.replicate d [52, 48, 40]).flatten ++ t ++ (List.replicate d [41]).flatten) ++ [41])) := by
      rw [List.replicate_succ, List.flatten_cons, List.replicate_succ' (a := [41]), List.flatten_append]
      simp
    rw [e]
    exact uz_sz (uz_br nm40 h3)
theorem uz_one : UzO [46] 1 := uz_of (un_dot (n := 1) (m := []) (.inl ⟨rfl, rfl⟩)) (.inr ⟨[[]], by rw [times_some] <;> rfl, rfl⟩)
section
variable {K : PySem.W.Frag} {σ : L2.St} {H : Hp} {ta tb te : TE} {D : Ends} {tz ts : TS} {p c : Addr} {i j m : Nat} {tm : TE}
/-- x = e + draw(..) -/
theorem q_asgED {n : Nat} (he : EvR rN te σ H n) (hv : σ[i]? = some (some (.ref p))) (hp : PoolAt p c H) (hm : ∀ H1, EvR rN tm σ H1 m) (h1 : 1 ≤ m) (h2 : m ≤ 1000000) (k : ∀ (d : Nat) H1, n ≤ d → d < n + m → Dr p c H H1 → tz D (σ.set j (some (.int (d : Int)))) H1) :
    tSeq (tAsg (tOp (rI0 fun i j => .int (i + j)) te (tCall spDraw [] C8.E0 (tCons (tVar i) (tCons tm tNil)))) (gName j)) tz D σ H := he H (Same.refl H) _ fun u H0 e0 hu => by
  have eu : u = V.int (n : Int) := hu
  subst eu
  refine e_draw (p := p) (c := c) (m := m) hv (hp.same e0) (hm H0) h1 h2 fun d H1 hd dr => ⟨(n : Int), (d : Int), rfl, rfl, ?_⟩
  have := k (n + d) H1 (by omega) (by omega) ((Dr.of hp e0).trans dr)
  rw [show (((n + d : Nat)) : Int) = (n : Int) + (d : Int) by push_cast; rfl] at this
  exact this
/-- sep.join([e] * n) -/
theorem e_joinRep {t : List Nat} {sp : Str} {s n : Nat} (hs : sp = SX.S [s]) (ha : EvR rS ta σ H (SX.S t)) (hb : ∀ H1, Same H H1 → EvR rN tb σ H1 (n + 1)) (hn : n ≤ 100) (hl : t.length ≤ 100000) :
    EvR rS (tBM K "str" (fun x xs H Q => ∃ a p, ∃ ys : List Str, x = .str a ∧ xs = [.ref p] ∧ (SqL K H p (ys.map V.str) ∨ SqT K H p (ys.map V.str)) ∧ (ys.map (·.length)).sum + ys.length * a.length ≤ 16777216 ∧ Q (.str (Txt.join a ys)) H) (tC (.str sp)) (tCons (tOp rRep (tLst (tCons ta tNil)) tb) tNil)) σ H (SX.S (TL.joinL [s] (List.replicate (n + 1) t))) := fun H1 e Q q => by
  refine ⟨rfl, ha H1 e _ fun u H2 e2 hu => ?_⟩
  have eu : u = V.str (SX.S t) := hu
  subst eu
  refine ⟨by show 1 ≤ sizeLine; decide, fun l hl2 => hb _ ((e.trans e2).trans (same_new hl2)) _ (Same.refl _) _ fun v H3 e3 hv => ?_⟩
  have ev : v = V.int (((n + 1 : Nat)) : Int) := hv
  subst ev
  have et : (((n + 1 : Nat)) : Int).toNat = n + 1 := by omega
  have hfl : (List.replicate (n + 1) [V.str (SX.S t)]).flatten = (List.replicate (n + 1) (SX.S t)).map V.str := by
    rw [List.map_replicate]
    generalize n + 1 = k
    induction k with
    | zero => rfl
    | succ k ih => rw [List.replicate_succ, List.flatten_cons, ih, List.replicate_succ]; rfl
  have es : (1000 : Nat) < sizeLine := by decide
  refine ⟨l, _, _, rfl, rfl, e3 l _ upd_same, by omega, by omega, by rw [et]; show 1 * (n + 1) ≤ _; omega, fun p hp => ?_⟩
  rw [et, hfl]
  refine ⟨sp, p, List.replicate (n + 1) (SX.S t), rfl, rfl, .inl (SqL.of upd_same), ?_, q _ _ (((e2.trans (same_new hl2)).trans e3).trans (same_new hp)) ?_⟩
  · subst hs
    rw [List.map_replicate, List.sum_replicate_nat, List.length_replicate, SX.S_len, SX.S_len]
    have : (n + 1) * t.length ≤ 101 * 100000 := Nat.mul_le_mul (by omega) hl
    simp
    omega
  · subst hs
    show V.str _ = V.str _
    rw [← List.map_replicate (f := SX.S), SX.join_S]
end
section
variable {P : Program} {w : World} {K : PySem.W.Frag} {mg : Str → Option Value} {base : Heap} {X : Cx}
def spTold (K : PySem.W.Frag) : Sp := fun vs H Q _ => ∃ cs, vs = [.str (SX.S cs)] ∧ cs.length ≤ 2000000 ∧ chk s0 0 cs = none ∧ rawP cs = none ∧ ∀ p H', Same H H' → H p = none → H' p = some (.lst [.str "large", .int 40]) → Q (.ref p) H'
/-- law_told: 0 _law_text, 1 _law_told_here, 2 e -/
theorem c_law_told (S : XC.Ctx fa fn P w K mg base) (Z : Zs P w K mg base) : C8.Cal P w K mg base 10 "_law_told" (spTold K) [] := S.cal 25 21 rfl rfl
    (fun _ _ _ _ _ _ us hl => match us, hl with | [_], _ => rfl) sc_law_told (fun vs H Q E h => by obtain ⟨cs, rfl, hlen, hn, hr0, kk⟩ := h; rfl) fun cdv A outer s H vs Q E hr h => by
  have hu := hu_of hr
  obtain ⟨cs, rfl, hlen, hn, hr0, kk⟩ := h
  refine ⟨_, (pss_cons (XT.ps_try_named rfl rfl sc_law_told.nd takes_none5 (fun W pn xe tk _ => (pss_one (ps_set (i := 1) sc_law_told.nd rfl (by first | exact Or.inl rfl | exact Or.inr rfl) (XC.pe_cX (c_read_shape S Z) hr (by decide) (by rfl) tk (pa_cons (pv 0) pa_nil))))) (XT.Clauses.cons (i := 2) ⟨by rfl, by decide, .inl Z.TooLarge.mg⟩ rfl rfl (fun ex oe cls d pn hz hf => (pss_one (ps_set (i := 1) sc_law_told.nd rfl (by first | exact Or.inl rfl | exact Or.inr rfl) (pe_lst (pa_cons pe_str (pa_cons (pe_xf Z.TooLarge.xf Z.TooLarge.no hz hf (pv 2)) pa_nil)))))) XT.Clauses.nil))
    (pss_one (ps_ret (pv 1)))), ?_⟩
  refine ⟨_, rfl, _, rfl, .inl ⟨cs, rfl, hlen, fun i hi => (by rw [hn] at hi; cases hi), fun _ _ d H1 e1 h1 h2 => ?_, fun _ pl hr => (by rw [hr0] at hr; cases hr)⟩⟩
  refine ⟨true, Z.ell, fun _ e he => ?_, fun z => nomatch z⟩
  refine ⟨_, rfl, rfl, rfl, d, _, _, rfl, h2, rfl, ?_⟩
  exact ⟨by show 2 ≤ sizeLine; decide, fun p hp => ⟨_, rfl, kk p _ (e1.trans (same_new hp)) (Same.free e1 hp) upd_same⟩⟩
def spLarge : Sp := fun vs H Q _ => ∃ (p c : Addr) (t : List Nat) (m : Nat) , vs = [.ref p, .str (SX.S t), .int (m : Int)] ∧ PoolAt p c H ∧ 1 ≤ m ∧ m ≤ 40 ∧ t.length ≤ 37000 ∧ SzO t m ∧ ∀ u n H', Dr p c H H' → u.length ≤ 2000000 → 40 < n → SzO u n → Q (.str (SX.S u)) H'
/-- law_large: 0 _law_pool_here, 1 _law_text, 2 _law_many, 3 _law_kind, 4 _law_times, 5 _law_deep -/
theorem c_law_large (S : XC.Ctx fa fn P w K mg base) : C8.Cal P w K mg base 2 "_law_large" (spLarge) [] := S.cal 27 23 rfl rfl
    (fun _ _ _ _ _ _ us hl => match us, hl with | [_, _, _], _ => rfl) sc_law_large (fun vs H Q E h => by obtain ⟨p, c, t, m, rfl, hp, hm1, hm2, hl, hsz, k⟩ := h; rfl) fun cdv A outer s H vs Q E hr h => by
  have hu := hu_of hr
  obtain ⟨p, c, t, m, rfl, hp, hm1, hm2, hl, hsz, k⟩ := h
  refine ⟨_, (pss_cons (ps_set (i := 3) sc_law_large.nd rfl (by first | exact Or.inl rfl | exact Or.inr rfl) (C8.pe_c (c_law_draw S) hr (by decide) (by rfl) (pa_cons (pv 0) (pa_cons pe_int pa_nil))))
    (pss_cons (ps_set (i := 4) sc_law_large.nd rfl (by first | exact Or.inl rfl | exact Or.inr rfl) (pe_op op_add (pe_op op_add (pe_op op_fdivN pe_int (pv 2)) pe_int) (C8.pe_c (c_law_draw S) hr (by decide) (by rfl) (pa_cons (pv 0) (pa_cons pe_int pa_nil)))))
    (pss_cons (ps_if (PW.pt (pw_and (pt_cmpR op_eq (pv 3) pe_int (nomark _)) (pw_and1 (pt_cmpR op_le (pv 4) pe_int (nomark _))))) (pss_one (ps_ret (pe_op op_add_str (pe_op op_add_str (pe_op op_add_str (pe_callTy (T := "str") call_str_int (by rfl) (fr_str S) (by decide +kernel) (pa_cons (pv 4) pa_nil)) pe_str) (pv 1)) pe_str))) pss_nil)
    (pss_cons (ps_if (pt_cmpR op_eq (pv 3) pe_int (nomark _)) (pss_one (ps_ret (pe_bm PySem.F.plainAttrs_str PySem.F.slot_str_join PySem.F.type_str_join mt_join pe_str (pa_cons (pe_op op_rep (pe_lst (pa_cons (pe_op op_add_str (pe_op op_add_str pe_str (pv 1)) pe_str) pa_nil)) (pv 4)) pa_nil)))) pss_nil)
    (pss_cons (ps_if (pt_cmpR op_eq (pv 3) pe_int (nomark _)) (pss_one (ps_ret (pe_bm PySem.F.plainAttrs_str PySem.F.slot_str_join PySem.F.type_str_join mt_join pe_str (pa_cons (pe_op op_rep (pe_lst (pa_cons (pv 1) pa_nil)) (pv 4)) pa_nil)))) pss_nil)
    (pss_cons (ps_set (i := 5) sc_law_large.nd rfl (by first | exact Or.inl rfl | exact Or.inr rfl) (pe_op op_add pe_int (C8.pe_c (c_law_draw S) hr (by decide) (by rfl) (pa_cons (pv 0) (pa_cons pe_int pa_nil)))))
    (pss_one (ps_ret (pe_op op_add_str (pe_op op_add_str (pe_op op_add_str (pe_op XC.op_mulS pe_str (pv 5)) (pv 1)) pe_str) (pe_op XC.op_mulS pe_str (pv 5))))))))))), ?_⟩
  refine q_asgD0 (p := p) (c := c) (m := 4) rfl hp (e_c rfl) (by decide) (by decide) fun kd H1 hkd dr1 => ?_
  refine q_asgED (p := p) (c := c) (m := 3) (n := 40 / m + 1) (e_toN (e_add (e_fdivN e_int (e_toI (e_var (A := rN) rfl rfl)) ⟨by omega, by omega⟩) e_int) (by rw [show (40 : Int) = ((40 : Nat) : Int) from rfl, ← Int.ofNat_fdiv]; push_cast; rfl)) rfl dr1.pool (fun H1 => e_c rfl) (by decide) (by decide) fun T H2 hT1 hT2 dr2 => ?_
  have dr := dr1.trans dr2
  have hT40 : 40 / m ≤ 40 := Nat.div_le_self _ _
  have hbig : 40 < T * m := by
    have h1 : 40 < (40 / m + 1) * m := by
      have := Nat.div_add_mod 40 m
      have h2 := Nat.mod_lt 40 hm1
      rw [Nat.succ_mul, Nat.mul_comm (40 / m) m]
      omega
    exact Nat.lt_of_lt_of_le h1 (Nat.mul_le_mul_right _ hT1)
  generalize 40 / m = g at hT1 hT2 hT40
  obtain ⟨T', rfl⟩ : ∃ T', T = T' + 1 := ⟨T - 1, by omega⟩
  have fin : ∀ (u : List Nat) (n : Nat) H9, Same H2 H9 → u.length ≤ 2000000 → 40 < n → SzO u n → ∀ v H10, Same H9 H10 → rS.r H10 v (SX.S u) → Q v H10 := fun u n H9 e9 hul hn hs v H10 e10 r => by
    have a : v = V.str (SX.S u) := r
    subst a
    exact k u n H10 (dr.then (e9.trans e10)) hul hn hs
  refine q_when (b := decide ((kd : Int) = 0) && decide (((T' + 1 : Nat) : Int) ≤ 40)) (b_and (b_test (e_eqI (e_toI (e_var (A := rN) rfl rfl)) e_int)) fun _ => b_test (e_le (e_toI (e_var (A := rN) rfl rfl)) e_int)) (fun hb H4 e4 => ?_) (fun _ H4 e4 => ?_)
  · have hT3 : ((T' + 1 : Nat) : Int) ≤ 40 := of_decide_eq_true (Bool.and_eq_true_iff.mp hb).2
    have hnm : Nm (T' + 1) (TL.numL (T' + 1)) := .inr ⟨by omega, by omega, rfl⟩
    have hnl := nm_len hnm
    refine s_ret (A := rS) (a := SX.S (TL.numL (T' + 1) ++ (40 :: (t ++ [41])))) (EvR.is (e_catL (e_catL (e_catL (e_strN (e_var (A := rN) rfl rfl) (by omega)) (b := [40]) (e_c rfl) (by simp; omega)) (e_var (A := rS) rfl rfl) (by simp; omega)) (b := [41]) (e_c rfl) (by simp; omega)) (by simp)) fun v H5 e5 r5 => fin _ ((T' + 1) * m) H4 e4 (by simp; omega) hbig (uz_sz (uz_br hnm hsz)) v H5 e5 r5
  refine q_when (b := decide ((kd : Int) = 1)) (b_test (e_eqI (e_toI (e_var (A := rN) rfl rfl)) e_int)) (fun _ H5 e5 => ?_) (fun _ H5 e5 => ?_)
  · have hu : UzO ([] ++ (40 :: (t ++ [41]))) (1 * m) := uz_br (.inl ⟨rfl, rfl⟩) hsz
    rw [Nat.one_mul] at hu
    have hjl := join_len 62 ([] ++ (40 :: (t ++ [41]))) T'
    have htl : ([] ++ (40 :: (t ++ [41]))).length = t.length + 2 := by simp
    have hml : (T' + 1) * (t.length + 2 + 1) ≤ 50 * 37003 := Nat.mul_le_mul (by omega) (by omega)
    rw [htl] at hjl
    exact s_ret (e_joinRep (t := [] ++ (40 :: (t ++ [41]))) (s := 62) rfl (EvR.is (e_catL (e_catL (a := [40]) (e_c rfl) (e_var (A := rS) rfl rfl) (by simp; omega)) (b := [41]) (e_c rfl) (by simp; omega)) (by simp)) (fun H9 e9 => e_var (A := rN) rfl rfl) (by omega) (by simp; omega)) fun v H6 e6 r6 => fin _ ((T' + 1) * m) H5 (e4.trans e5) (by omega) hbig (uz_sz (uz_join hu T')) v H6 e6 r6
  refine q_when (b := decide ((kd : Int) = 2)) (b_test (e_eqI (e_toI (e_var (A := rN) rfl rfl)) e_int)) (fun _ H6 e6 => ?_) (fun _ H6 e6 => ?_)
  · have hjl := join_len 124 t T'
    have hml : (T' + 1) * (t.length + 1) ≤ 50 * 37001 := Nat.mul_le_mul (by omega) (by omega)
    exact s_ret (e_joinRep (t := t) (s := 124) rfl (e_var (A := rS) rfl rfl) (fun H9 e9 => e_var (A := rN) rfl rfl) (by omega) (by omega)) fun v H7 e7 r7 => fin _ ((T' + 1) * m) H6 ((e4.trans e5).trans e6) (by omega) hbig (sz_join hsz T') v H7 e7 r7
  have dr6 := dr.then ((e4.trans e5).trans e6)
  refine q_asgD (p := p) (c := c) (m := 5) (n := 1) rfl dr6.pool (e_c rfl) (by decide) (by decide) fun dp H7 hd1 hd2 dr7 => ?_
  obtain ⟨n, h1, h2, h3⟩ := sz_deep (sz_then hsz uz_one) (by omega) dp
  have l1 : (List.replicate dp [52, 48, 40]).flatten.length = dp * 3 := by
    rw [List.length_flatten, List.map_replicate, List.sum_replicate_nat] <;> rfl
  have l2 : (List.replicate dp [41]).flatten.length = dp * 1 := by
    rw [List.length_flatten, List.map_replicate, List.sum_replicate_nat] <;> rfl
  refine s_ret (A := rS) (a := SX.S ((List.replicate dp [52, 48, 40]).flatten ++ (t ++ (62 :: [46])) ++ (List.replicate dp [41]).flatten)) (EvR.is (e_catL (e_catL (e_catL (e_mulS (a := [52, 48, 40]) (e_c rfl) (e_var (A := rN) (i := 5) rfl rfl) (by omega) (by decide)) (e_var (A := rS) (i := 1) rfl rfl) (by rw [l1]; omega)) (b := [62, 46]) (e_c rfl) (by rw [List.length_append, l1]; simp; omega)) (e_mulS (a := [41]) (e_c rfl) (e_var (A := rN) (i := 5) rfl rfl) (by omega) (by decide)) (by rw [List.length_append, List.length_append, l1, l2]; simp; omega)) (by simp)) fun v H8 e8 r8 => ?_
  have a8 : v = V.str _ := r8
  subst a8
  exact k _ n H8 ((dr6.trans dr7).then e8) (by rw [List.length_append, List.length_append, List.length_append, l1, l2]; simp; omega) (h2 hd1) h3
end
end K84
end
section
set_option Elab.async false
set_option linter.all false
set_option maxRecDepth 100000
set_option maxHeartbeats 4000000
namespace K84
open PySem PySem.Spec PyProof.Rows L2 XE
theorem rst_ne {n c : Nat} {st : List Lv} (h : st ≠ []) : rst n st c ≠ [] := by
  unfold rst
  cases st with
  | nil => exact absurd rfl h
  | cons L r =>
    split
    · exact h
    · split
      · exact fun z => nomatch z
      · split
        · exact fun z => nomatch z
        · split
          · cases r with
            | nil => exact fun z => nomatch z
            | cons L2 r2 => exact fun z => nomatch z
          · split
            · exact fun z => nomatch z
            · exact h
theorem stepM_some {q q' : Mc} {c : Nat} (h : stepM q c = some q') : (q.1.take c).1 = true ∧ q' = ((q.1.take c).2, rst q.1.n q.2 c) := by
  unfold stepM at h
  by_cases ht : (q.1.take c).1 = true
  · rw [if_pos ht] at h
    exact ⟨ht, (Option.some.inj h).symm⟩
  · rw [if_neg ht] at h
    cases h
theorem run_step {q q2 : Mc} {c : Nat} {r : List Nat} (h : runM q (c :: r) = some q2) : ∃ q', stepM q c = some q' ∧ runM q' r = some q2 := by
  have h2 : (match stepM q c with | some q' => runM q' r | none => none) = some q2 := h
  cases h3 : stepM q c with
  | none => rw [h3] at h2; cases h2
  | some q' => rw [h3] at h2; exact ⟨q', rfl, h2⟩
theorem run_ne : ∀ (t : List Nat) (q q2 : Mc), runM q t = some q2 → q.2 ≠ [] → q2.2 ≠ []
  | [], q, q2, h, hn => by cases h; exact hn
  | c :: r, q, q2, h, hn => by
    obtain ⟨q', h1, h2⟩ := run_step h
    obtain ⟨_, rfl⟩ := stepM_some h1
    exact run_ne r _ q2 h2 (rst_ne hn)
/-- done: no number is begun -/
def Inv0 (s : Sc) : Prop := s.d = true → s.n = 0
theorem take_inv {s : Sc} {c : Nat} (h : Inv0 s) (ht : (s.take c).1 = true) : Inv0 (s.take c).2 := by
  unfold Inv0 Sc.take at *
  by_cases h1 : s.d = true
  · have h0 := h h1
    rw [if_pos h1]
    split
    · exact fun _ => h0
    · exact fun z => nomatch z
  · rw [if_neg h1]
    split
    · exact fun z => absurd z h1
    · split
      · exact fun _ => rfl
      · exact fun _ => rfl
theorem take_nofig {s : Sc} {c : Nat} (h : Inv0 s) (hf : ¬ isFig c = true) : (s.take c).2.n = 0 := by
  unfold Inv0 at h
  unfold Sc.take
  by_cases h1 : s.d = true
  · have h0 := h h1
    rw [if_pos h1]
    split
    · exact h0
    · exact h0
  · rw [if_neg h1, if_neg hf]
    split <;> rfl
theorem run_inv : ∀ (t : List Nat) (q q2 : Mc), runM q t = some q2 → Inv0 q.1 → Inv0 q2.1
  | [], q, q2, h, hn => by cases h; exact hn
  | c :: r, q, q2, h, hn => by
    obtain ⟨q', h1, h2⟩ := run_step h
    obtain ⟨ht, rfl⟩ := stepM_some h1
    exact run_inv r _ q2 h2 (take_inv hn ht)
theorem run_last {a : List Nat} {c : Nat} {q q2 : Mc} (h : runM q (a ++ [c]) = some q2) (hi : Inv0 q.1) (hf : ¬ isFig c = true) : q2.1.n = 0 := by
  obtain ⟨q1, h1, h2⟩ := runM_split h
  obtain ⟨q', h3, h4⟩ := run_step h2
  obtain ⟨ht, rfl⟩ := stepM_some h3
  cases h4
  exact take_nofig (run_inv a q q1 h1 hi) hf
theorem run_dot : ∀ (t : List Nat) (q q2 : Mc), runM q t = some q2 → q.1.d = false → q2.1.d = true → 46 ∈ t
  | [], q, q2, h, h1, h2 => by cases h; rw [h1] at h2; cases h2
  | c :: r, q, q2, h, h1, h2 => by
    by_cases hc : c = 46
    · subst hc; exact .head _
    · obtain ⟨q', h3, h4⟩ := run_step h
      obtain ⟨ht, rfl⟩ := stepM_some h3
      refine .tail _ (run_dot r _ q2 h4 ?_ h2)
      show (q.1.take c).2.d = false
      unfold Sc.take
      rw [if_neg (by rw [h1]; decide)]
      split
      · exact h1
      · split
        · exact h1
        · exact decide_eq_false hc
/-- what a dot may be exchanged for -/
def Seg (n : Nat) (g : List Nat) : Prop := ∀ b L st, runM (⟨n, false, b⟩, L :: st) g = some (⟨0, true, b⟩, L.add (timesP (some [[]]) (max n 1)) :: st)
theorem seg1 {n : Nat} : Seg n [40, 46, 41] := fun b L st => by
  rw [runM_cons st_open, runM_cons st_dot, runM_cons st_close]
  rfl
theorem seg2 {n : Nat} : Seg n [40, 40, 46, 41, 41] := fun b L st => by
  rw [runM_cons st_open, runM_cons st_open, runM_cons st_dot, runM_cons st_close, runM_cons st_close]
  rfl
theorem seg3 : Seg 0 [49, 40, 46, 41] := fun b L st => by
  rw [runM_cons (st_fig (n := 0) (k := 1) (by decide) (by decide) (by decide)), runM_cons st_open, runM_cons st_dot, runM_cons st_close]
  rfl
theorem run_sub {a b g : List Nat} {q qf : Mc} (h : runM q (a ++ (46 :: b)) = some qf) (hq : q.2 ≠ []) (hg : ∀ q1, runM q a = some q1 → Seg q1.1.n g) : runM q (a ++ (g ++ b)) = some qf := by
  obtain ⟨q1, h1, h2⟩ := runM_split h
  rw [runM_then h1]
  have hs := hg q1 h1
  have hne := run_ne a q q1 h1 hq
  obtain ⟨⟨n, d, b1⟩, st⟩ := q1
  cases st with
  | nil => exact absurd rfl hne
  | cons L r =>
    cases d with
    | true =>
      obtain ⟨q', h3, _⟩ := run_step h2
      obtain ⟨ht, _⟩ := stepM_some h3
      have hf : (((⟨n, true, b1⟩ : Sc).take 46).1) = false := by
        unfold Sc.take
        simp
      rw [hf] at ht
      cases ht
    | false =>
      rw [runM_cons st_dot] at h2
      rw [runM_then (hs b1 L r)]
      exact h2
theorem sh_sub {a b g : List Nat} {x : OP} (h : ShO (a ++ (46 :: b)) x) (hg : ∀ q q1, Inv0 q.1 → q.1.n = 0 → runM q a = some q1 → Seg q1.1.n g) : ShO (a ++ (g ++ b)) x := fun b1 T st => by
  obtain ⟨S, R, h1, h2⟩ := h b1 T st
  exact ⟨S, R, run_sub h1 (List.cons_ne_nil _ _) fun q1 h3 => hg _ q1 (fun (z : false = true) => Bool.noConfusion z) rfl h3, h2⟩
theorem sh_dot {t : List Nat} {x : OP} (h : ShO t x) : 46 ∈ t := by
  obtain ⟨S, R, h1, _⟩ := h 0 1 []
  exact run_dot t _ _ h1 rfl rfl
theorem sh_wrap {t : List Nat} {p : Pl} (h : ShO t (some p)) (hl : p.length ≤ 40) : ShO (40 :: (t ++ [41])) (some p) := by
  have h1 := un_br (n := 1) (m := []) (.inl ⟨rfl, rfl⟩) h
  rw [times_ok (by omega)] at h1
  have h2 : repP p 1 = p := behind_nil p
  rw [h2] at h1
  have h3 := sh_one (ro_one h1)
  rw [both_t (by show 0 + p.length ≤ 40; omega), behind_nil, both_f (by show 0 + p.length ≤ 40; omega), beside_nil] at h3
  exact h3
/-- the number that is begun behind a part whose last sign is no figure -/
theorem pre_zero {a : List Nat} {q q1 : Mc} (h : runM q a = some q1) (hi : Inv0 q.1) (h0 : q.1.n = 0) (ha : ∀ c, a.getLast? = some c → ¬ isFig c = true) : q1.1.n = 0 := by
  rcases List.eq_nil_or_concat a with rfl | ⟨a', c, rfl⟩
  · cases h; exact h0
  · rw [List.concat_eq_append] at h ha
    exact run_last h hi (ha c (by simp))
end K84
end
section
set_option Elab.async false
set_option linter.all false
set_option maxRecDepth 100000
set_option maxHeartbeats 4000000
namespace K84
open PySem PySem.Spec PyProof.Rows L2 XE
section
variable {K : PySem.W.Frag} {σ : L2.St} {H : Hp} {ta tb te tl : TE} {D : Ends} {tz ts : TS} {tt : TT} {p c : Addr} {i j m : Nat} {t w : List Nat}
theorem q_whenM {b : Bool} (M : L2.St → Hp → Prop) (k : ∀ σ' H', M σ' H' → tz D σ' H') (hb : EvB tt σ H b) (k1 : b = true → (∀ σ' H', M σ' H' → tz D σ' H') → ∀ H1, Same H H1 → ts { D with nx := tz D } σ H1) (k2 : b = false → ∀ H1, Same H H1 → M σ H1) :
    tSeq (tIfS tt ts tNext) tz D σ H := q_when hb (fun hb H1 e => k1 hb k H1 e) fun hb H1 e => k σ H1 (k2 hb H1 e)
/-- [k for k in range(len(text)) if text[k] == "."] -/
theorem n_spots {z : Str} {it ik : Nat} {vs : List Nat} (hz : z = SX.S [46]) (he : EvR rN te σ H t.length) (hl : t.length ≤ 100000) (hw : ∀ x, wipe ((wipe σ vs).set ik (some x)) vs = wipe σ vs) (ht : ∀ x, ((wipe σ vs).set ik (some x))[it]? = some (some (.str (SX.S t)))) (hk : ∀ x, ((wipe σ vs).set ik (some x))[ik]? = some (some x))
    (Q : VK) (q : ∀ (l : Addr) (ks : List Nat) H2, Same H H2 → H l = none → H2 l = some (.lst (ks.map fun (n : Nat) => V.int (n : Int))) → (∀ k ∈ ks, t[k]? = some 46) → (46 ∈ t → ks ≠ []) → ks.length ≤ 100000 → Q (.ref l) H2) :
    tLc (iRng1 (tCons te tNil)) (gName ik) (tTest (tOp rEq (tOp rIxS (tVar it) (tVar ik)) (tC (.str z)))) (tVar ik) vs σ H Q := he H (Same.refl H) _ fun u H1 e1 hu => by
  have eu : u = V.int ((t.length : Nat) : Int) := hu
  subst eu
  refine ⟨((t.length : Nat) : Int), rfl, by omega, by omega, fun Dl hD => ?_⟩
  rw [show (((t.length : Nat) : Int)).toNat = t.length by omega]
  have esz : (100000 : Nat) < sizeLine := by decide
  refine lc_range (lo := 0) (n := t.length) (fun i H' => Same H1 H' ∧ ∃ ks : List Nat, H' Dl = some (.lst (ks.map fun (n : Nat) => V.int (n : Int))) ∧ (∀ k ∈ ks, t[k]? = some 46) ∧ (∀ k, k < i → t[k]? = some 46 → ks ≠ []) ∧ ks.length ≤ i) ⟨same_new hD, [], upd_same, (fun _ z => nomatch z), (fun k hk => absurd hk (by omega)), Nat.le_refl _⟩ (fun i H' hi pv => ⟨hw _, ?_⟩) (fun H' pv => ?_)
  · obtain ⟨q1, ks, q2, q3, q4, q5⟩ := pv
    have e0 : (0 : Int) + (i : Int) = (i : Int) := Int.zero_add _
    rw [e0]
    have hat : (SX.S t).cps.toList[i]? = some t[i] := by simp [SX.S, hi]
    have hb : EvB (tTest (tOp rEq (tOp rIxS (tVar it) (tVar ik)) (tC (.str z)))) ((wipe σ vs).set ik (some (.int (i : Int)))) H' (decide (t[i] = 46)) := b_test (e_eqC (e_ixS (z := SX.S t) (i := i) (e_var (ht _) rfl) (e_var (A := rI) (hk _) rfl) rfl (by rw [SX.S_len]; omega) hat) hz)
    refine hb H' (Same.refl H') _ fun H3 e3 => ?_
    by_cases h46 : t[i] = 46
    · rw [decide_eq_true h46, if_pos rfl]
      refine ⟨_, hk _, _, e3 _ _ q2, by rw [List.length_map]; omega, same_mut (q1.trans e3) hD, ks ++ [i], ?_, fun k hkm => ?_, fun k _ _ => by simp, by rw [List.length_append]; simp; omega⟩
      · rw [upd_same, List.map_append] <;> rfl
      · rcases List.mem_append.mp hkm with h | h
        · exact q3 k h
        · rcases List.mem_singleton.mp h with rfl
          rw [List.getElem?_eq_getElem hi, h46]
    · rw [decide_eq_false h46, if_neg (by decide)]
      refine ⟨q1.trans e3, ks, e3 _ _ q2, q3, fun k hk2 hk3 => ?_, by omega⟩
      by_cases hki : k = i
      · subst hki
        rw [List.getElem?_eq_getElem hi] at hk3
        exact absurd (Option.some.inj hk3) h46
      · exact q4 k (by omega) hk3
  · obtain ⟨q1, ks, q2, q3, q4, q5⟩ := pv
    refine q Dl ks H' (e1.trans q1) (Same.free e1 hD) q2 q3 (fun hm => ?_) (by omega)
    obtain ⟨k, hk1⟩ := List.mem_iff_getElem?.mp hm
    exact q4 k (List.getElem?_eq_some_iff.mp hk1).1 hk1
theorem q_spots {z : Str} {it ik : Nat} {vs : List Nat} (hz : z = SX.S [46]) (he : EvR rN te σ H t.length) (hl : t.length ≤ 100000) (hw : ∀ x, wipe ((wipe σ vs).set ik (some x)) vs = wipe σ vs) (ht : ∀ x, ((wipe σ vs).set ik (some x))[it]? = some (some (.str (SX.S t)))) (hk : ∀ x, ((wipe σ vs).set ik (some x))[ik]? = some (some x))
    (q : ∀ (l : Addr) (ks : List Nat) H2, Same H H2 → H l = none → H2 l = some (.lst (ks.map fun (n : Nat) => V.int (n : Int))) → (∀ k ∈ ks, t[k]? = some 46) → (46 ∈ t → ks ≠ []) → ks.length ≤ 100000 → tz D (σ.set j (some (.ref l))) H2) :
    tSeq (tAsg (tLc (iRng1 (tCons te tNil)) (gName ik) (tTest (tOp rEq (tOp rIxS (tVar it) (tVar ik)) (tC (.str z)))) (tVar ik) vs) (gName j)) tz D σ H := n_spots hz he hl hw ht hk (fun v H1 => tz D (σ.set j (some v)) H1) fun l ks H2 h1 h2 h3 h4 h5 h6 => q l ks H2 h1 h2 h3 h4 h5 h6
/-- x = list[draw(len(list))] -/
theorem q_spot {l : Addr} {il : Nat} {ks : List Nat} (hv : σ[i]? = some (some (.ref p))) (hvl : σ[il]? = some (some (.ref l))) (hp : PoolAt p c H) (hlp : l ≠ p) (hlc : l ≠ c) (hl : H l = some (.lst (ks.map fun (n : Nat) => V.int (n : Int)))) (hk : ks ≠ []) (hkl : ks.length ≤ 100000)
    (k : ∀ (d : Nat) H1, d ∈ ks → Dr p c H H1 → tz D (σ.set j (some (.int (d : Int)))) H1) :
    tSeq (tAsg (tOp (rIxL K) (tVar il) (tCall spDraw [] C8.E0 (tCons (tVar i) (tCons (tCB (fun xs H Q => ∃ p ys, xs = [.ref p] ∧ (SqL K H p ys ∨ SqT K H p ys) ∧ Q (.int ys.length) H) (tCons (tVar il) tNil)) tNil)))) (gName j)) tz D σ H := by
  have hpos : 1 ≤ ks.length := by
    cases ks with
    | nil => exact absurd rfl hk
    | cons a r => simp
  refine ⟨_, hvl, e_draw (p := p) (c := c) (m := ks.length) hv hp (EvR.is (e_lenL (e_var (A := rV) hvl rfl) fun H1 e1 => SqL.of (e1 _ _ hl)) (by rw [List.length_map])) hpos (by omega) fun d H1 hd dr => ?_⟩
  refine ⟨l, _, (d : Int), .int ((ks[d] : Nat) : Int), rfl, rfl, SqL.of (dr.keep l _ hlp hlc hl), atI_nat (by rw [List.getElem?_map, List.getElem?_eq_getElem hd]; rfl), ?_⟩
  exact k ks[d] H1 (List.getElem_mem hd) dr
/-- x = [four texts][draw(4)] -/
theorem q_word {s1 s2 s3 s4 : Str} (hv : σ[i]? = some (some (.ref p))) (hp : PoolAt p c H) (k : ∀ (s : Str) H1, (s = s1 ∨ s = s2 ∨ s = s3 ∨ s = s4) → Dr p c H H1 → tz D (σ.set j (some (.str s))) H1) :
    tSeq (tAsg (tOp (rIxL K) (tLst (tCons (tC (.str s1)) (tCons (tC (.str s2)) (tCons (tC (.str s3)) (tCons (tC (.str s4)) tNil))))) (tCall spDraw [] C8.E0 (tCons (tVar i) (tCons (tC (.int 4)) tNil)))) (gName j)) tz D σ H := ⟨by show 4 ≤ sizeLine; decide, fun l hl => e_draw (p := p) (c := c) (m := 4) hv (hp.same (same_new hl)) (e_c rfl) (by decide) (by decide) fun d H1 hd dr => by
  have hne := hp.ne hl
  have hl1 := dr.keep l _ hne.1 hne.2 upd_same
  have drH := (Dr.of hp (same_new (o := .lst [.str s1, .str s2, .str s3, .str s4]) hl)).trans dr
  have hd3 : d = 0 ∨ d = 1 ∨ d = 2 ∨ d = 3 := by omega
  rcases hd3 with rfl | rfl | rfl | rfl
  · exact ⟨l, _, 0, _, rfl, rfl, SqL.of hl1, rfl, k s1 H1 (.inl rfl) drH⟩
  · exact ⟨l, _, 1, _, rfl, rfl, SqL.of hl1, rfl, k s2 H1 (.inr (.inl rfl)) drH⟩
  · exact ⟨l, _, 2, _, rfl, rfl, SqL.of hl1, rfl, k s3 H1 (.inr (.inr (.inl rfl))) drH⟩
  · exact ⟨l, _, 3, _, rfl, rfl, SqL.of hl1, rfl, k s4 H1 (.inr (.inr (.inr rfl))) drH⟩⟩
/-- len([s for s in word if s == "("]) -/
theorem e_count {z : Str} {ik : Nat} {vs : List Nat} {s : Nat} (hz : z = SX.S [s]) (he : EvR rS te σ H (SX.S w)) (hl : w.length ≤ 1000) (hw : ∀ x, wipe ((wipe σ vs).set ik (some x)) vs = wipe σ vs) (hk : ∀ x, ((wipe σ vs).set ik (some x))[ik]? = some (some x)) :
    EvR rN (tCB (fun xs H Q => ∃ p ys, xs = [.ref p] ∧ (SqL K H p ys ∨ SqT K H p ys) ∧ Q (.int ys.length) H) (tCons (tLc (iStr te) (gName ik) (tTest (tOp rEq (tVar ik) (tC (.str z)))) (tVar ik) vs) tNil)) σ H (w.filter fun q => decide (q = s)).length := fun H0 e0 Q q => he H0 e0 _ fun u H1 e1 hu => by
  have eu : u = V.str (SX.S w) := hu
  subst eu
  refine ⟨_, rfl, fun Dl hD => ?_⟩
  have esz : (1000 : Nat) < sizeLine := by decide
  refine lc_it (walk_str (z := SX.S w)) (fun i H' => Same H1 H' ∧ ∃ ys : List V, H' Dl = some (.lst ys) ∧ ys.length = ((w.take i).filter fun q => decide (q = s)).length) ⟨same_new hD, [], upd_same, rfl⟩ (fun _ _ _ _ => True.intro) (fun i x H2 H' hi pv y => ⟨hw x, ?_⟩) (fun H' pv => ?_)
  · obtain ⟨rfl, k, hk2, rfl⟩ := y
    obtain ⟨q1, ys, q2, q3⟩ := pv
    have hwi : w[i]? = some k := by simpa [SX.S] using hk2
    have hlen : ys.length ≤ 1000 := by
      rw [q3]
      refine Nat.le_trans (List.length_filter_le _ _) ?_
      rw [List.length_take]
      omega
    have hb : EvB (tTest (tOp rEq (tVar ik) (tC (.str z)))) ((wipe σ vs).set ik (some (.str ⟨#[k]⟩))) H' (decide (k = s)) := b_test (e_eqC (e_var (hk _) rfl) hz)
    refine hb H' (Same.refl H') _ fun H3 e3 => ?_
    by_cases hks : k = s
    · rw [decide_eq_true hks, if_pos rfl]
      refine ⟨_, hk _, _, e3 _ _ q2, by omega, same_mut (q1.trans e3) hD, _, upd_same, ?_⟩
      rw [List.length_append, q3, List.take_add_one, hwi, List.filter_append, List.length_append]
      simp [hks]
    · rw [decide_eq_false hks, if_neg (by decide)]
      refine ⟨q1.trans e3, ys, e3 _ _ q2, ?_⟩
      rw [q3, List.take_add_one, hwi, List.filter_append, List.length_append]
      simp [hks]
  · obtain ⟨q1, ys, q2, q3⟩ := pv
    refine ⟨Dl, ys, rfl, .inl (SqL.of q2), q _ H' (e1.trans q1) ?_⟩
    show V.int _ = V.int _
    rw [q3, List.take_of_length_le (by simp [SX.S])]
theorem e_repl {y z : Str} {r : Str} {s : Str} (h : EvR rS te σ H s) (hl : s.length + (s.length + 1) * z.length ≤ 16777216) (hr : Txt.replace s y z = r) : EvR rS (CwR.tReplC te y z) σ H r := fun H1 e Q q => h H1 e _ fun u H2 e2 hu => ⟨s, hu, hl, q _ H2 e2 (by show V.str _ = V.str _; rw [hr])⟩
end
section
variable {P : Program} {w : World} {K : PySem.W.Frag} {mg : Str → Option Value} {base : Heap} {X : Cx}
def spBrack : Sp := fun vs H Q _ => ∃ (p c : Addr) (t : List Nat) (pl : Pl), vs = [.ref p, .str (SX.S t)] ∧ PoolAt p c H ∧ t.length ≤ 90000 ∧ ShO t (some pl) ∧ pl.length ≤ 40 ∧ ∀ u H', Dr p c H H' → u.length ≤ t.length + 6 → ShO u (some pl) → Q (.str (SX.S u)) H'
/-- word, end, and what must stand ahead -/
def WE0 (t : List Nat) (sp : Nat) (wd en : List Nat) : Prop := (wd = [40] ∧ en = [41]) ∨ (wd = [40, 40] ∧ en = [41, 41]) ∨ (wd = [49, 40] ∧ en = [41] ∧ ∀ c, (t.take sp).getLast? = some c → ¬ isFig c = true)
/-- law_bracketed: 0 _law_pool_here, 1 _law_text, 2 _law_spots, 3 _law_k, 4 _law_spot, 5 _law_word, 6 _law_end, 7 _law_sign -/
theorem c_law_bracketed (S : XC.Ctx fa fn P w K mg base) : C8.Cal P w K mg base 2 "_law_bracketed" (spBrack) [] := S.cal 26 22 rfl rfl
    (fun _ _ _ _ _ _ us hl => match us, hl with | [_, _], _ => rfl) sc_law_bracketed (fun vs H Q E h => by obtain ⟨p, c, t, pl, rfl, hp, hl, hsh, hpl, k⟩ := h; rfl) fun cdv A outer s H vs Q E hr h => by
  have hu := hu_of hr
  obtain ⟨p, c, t, pl, rfl, hp, hl, hsh, hpl, k⟩ := h
  refine ⟨_, (pss_cons (ps_setLc (i := 2) (own := [("_law_k", 3)]) (g := gName 3) rfl sc_law_bracketed.nd rfl rfl (sw_true rfl rfl rfl (by decide +kernel)) (pi_range1 (by rfl) (fr_range S) (pa_cons (pe_callB (id := "len") call_len_str (by rfl) (fr_len S) (by decide +kernel) (pa_cons (pv 1) pa_nil)) pa_nil)) (blkOk_by (N := N_law_bracketed) (sc := defScope s_law_bracketed) (by decide +kernel)) (fun _ _ _ _ _ => pg_name (i := 3) sc_law_bracketed.nd rfl (Or.inl rfl)) (fun _ _ _ _ _ => pts_one (pt_cmpR op_eq (pe_ix ix_str (pv 1) (pv 3) (fun _ _ => rfl)) pe_str (nomark _))) (fun _ _ _ _ _ => (pv 3)))
    (pss_cons (ps_set (i := 4) sc_law_bracketed.nd rfl (by first | exact Or.inl rfl | exact Or.inr rfl) (pe_ix ix_list (pv 2) (C8.pe_c (c_law_draw S) hr (by decide) (by rfl) (pa_cons (pv 0) (pa_cons (pe_callB (id := "len") call_len_seq (by rfl) (fr_len S) (by decide +kernel) (pa_cons (pv 2) pa_nil)) pa_nil))) (fun _ _ => rfl)))
    (pss_cons (ps_set (i := 5) sc_law_bracketed.nd rfl (by first | exact Or.inl rfl | exact Or.inr rfl) (pe_ix ix_list (pe_lst (pa_cons pe_str (pa_cons pe_str (pa_cons pe_str (pa_cons pe_str pa_nil))))) (C8.pe_c (c_law_draw S) hr (by decide) (by rfl) (pa_cons (pv 0) (pa_cons pe_int pa_nil))) (fun _ _ => rfl)))
    (pss_cons (ps_set (i := 6) sc_law_bracketed.nd rfl (by first | exact Or.inl rfl | exact Or.inr rfl) (pe_op XC.op_mulS pe_str (pe_callB (id := "len") call_len_seq (by rfl) (fr_len S) (by decide +kernel) (pa_cons (pe_lc (own := [("_law_sign", 7)]) (g := gName 7) rfl sc_law_bracketed.nd (pi_str (pv 5)) (blkOk_by (N := N_law_bracketed) (sc := defScope s_law_bracketed) (by decide +kernel)) (fun _ _ _ _ _ => pg_name (i := 7) sc_law_bracketed.nd rfl (Or.inl rfl)) (fun _ _ _ _ _ => pts_one (pt_cmpR op_eq (pv 7) pe_str (nomark _))) (fun _ _ _ _ _ => (pv 7))) pa_nil))))
    (pss_cons (ps_if (PW.pt (pw_and (pt_cmpR op_gt (pv 4) pe_int (nomark _)) (pw_and1 (pt_cmpR op_in_sign (pe_ix ix_str (pv 1) (pe_op op_sub (pv 4) pe_int) (fun _ _ => rfl)) pe_str (by rfl))))) (pss_cons (ps_set (i := 5) sc_law_bracketed.nd rfl (by first | exact Or.inl rfl | exact Or.inr rfl) pe_str)
    (pss_one (ps_set (i := 6) sc_law_bracketed.nd rfl (by first | exact Or.inl rfl | exact Or.inr rfl) pe_str))) pss_nil)
    (pss_cons (XR.ps_ifK op_eq (C8.pe_c (c_law_draw S) hr (by decide) (by rfl) (pa_cons (pv 0) (pa_cons pe_int pa_nil))) (nomark _) (CwR.psst_one (CwR.pst_ret (CwR.pet_op op_add_str (CwR.pet_op op_add_str (CwR.pet_replC (pv 5)) (CwR.PET.of (pv 1))) (CwR.PET.of (pv 6))))) pss_nil)
    (pss_one (ps_ret (pe_op op_add_str (pe_op op_add_str (pe_op op_add_str (pe_op op_add_str (pe_slice C8.sl_txt (pv 1) po_none (po_some (pv 4))) (pv 5)) pe_str) (pv 6)) (pe_slice C8.sl_txt (pv 1) (po_some (pe_op op_add (pv 4) pe_int)) po_none)))))))))), ?_⟩
  have lenS : ∀ {σ : L2.St} {H' : Hp}, σ[1]? = some (some (.str (SX.S t))) → EvR rN (tCB (fun xs H Q => ∃ z : Str, xs = [.str z] ∧ z.length ≤ sizeLine ∧ Q (.int z.length) H) (tCons (tVar 1) tNil)) σ H' t.length := fun {σ H'} h =>
    (e_lenS (e_var h rfl) (by rw [SX.S_len]; exact Nat.le_trans hl (by decide))).is (SX.S_len t)
  refine q_spots (t := t) (it := 1) (ik := 3) (vs := [3]) rfl (lenS rfl) (by omega) (fun _ => rfl) (fun _ => rfl) (fun _ => rfl) fun l ks H1 e1 hl0 hl1 hks hne hkl => ?_
  have dr1 := Dr.of hp e1
  have hlne := hp.ne hl0
  refine q_spot (p := p) (c := c) (l := l) (ks := ks) rfl rfl dr1.pool hlne.1 hlne.2 hl1 (hne (sh_dot hsh)) hkl fun sp H2 hsp dr2 => ?_
  have hat := hks sp hsp
  obtain ⟨hsl, hsv⟩ := List.getElem?_eq_some_iff.mp hat
  have dr12 := dr1.trans dr2
  refine q_word (p := p) (c := c) rfl dr12.pool fun wd H3 hwd dr3 => ?_
  have dr13 := dr12.trans dr3
  obtain ⟨wl, rfl, hwl⟩ : ∃ wl : List Nat, wd = SX.S wl ∧ (wl = [40] ∨ wl = [49, 40] ∨ wl = [40, 40]) := by
    rcases hwd with rfl | rfl | rfl | rfl
    · exact ⟨[40], rfl, .inl rfl⟩
    · exact ⟨[49, 40], rfl, .inr (.inl rfl)⟩
    · exact ⟨[40, 40], rfl, .inr (.inr rfl)⟩
    · exact ⟨[49, 40], rfl, .inr (.inl rfl)⟩
  have hwll : wl.length ≤ 2 := by rcases hwl with rfl | rfl | rfl <;> decide
  obtain ⟨n, hn⟩ : ∃ n, n = (wl.filter fun q => decide (q = 40)).length := ⟨_, rfl⟩
  have hn2 : n ≤ 2 := by rw [hn]; exact Nat.le_trans (List.length_filter_le _ _) hwll
  refine q_asg (A := rS) (a := SX.S (List.replicate n [41]).flatten) (e_mulS (a := [41]) (e_c rfl) (by rw [hn]; exact e_count (ik := 7) (vs := [7]) (w := wl) rfl (e_var (i := 5) rfl rfl) (by omega) (fun _ => rfl) (fun _ => rfl)) (by omega) (by decide)) fun v4 H4 e4 r4 => ?_
  have a4 : v4 = V.str (SX.S (List.replicate n [41]).flatten) := r4
  subst a4
  have dr14 := dr13.then e4
  refine q_whenM (b := decide (0 < sp) && isFig (t.getD (sp - 1) 0)) (fun σ' H' => ∃ (wd en : List Nat) (a3 a7 : Option V), σ' = [some (.ref p), some (.str (SX.S t)), some (.ref l), a3, some (.int (sp : Int)), some (.str (SX.S wd)), some (.str (SX.S en)), a7] ∧ WE0 t sp wd en ∧ Dr p c H H') ?_ (b_and (EvB.is (b_test (e_gt (e_toI (e_var (A := rN) rfl rfl)) e_int)) (decide_eq_decide.mpr (by omega))) fun hs0 => EvB.is (b_test (e_sign (k := t.getD (sp - 1) 0) (e_ixS (z := SX.S t) (i := sp - 1) (e_var rfl rfl) (e_sub (e_toI (e_var (A := rN) rfl rfl)) e_int) ?_ ?_ ?_) (e_c (A := rS) rfl))) (fig_mem _)) (fun hb kk H5 e5 => ?_) (fun hb H5 e5 => ?_)
  · rintro σ' H' ⟨wd, en, a3, a7, rfl, hwe, dr⟩
    have hwel : wd.length + en.length ≤ 4 := by rcases hwe with ⟨rfl, rfl⟩ | ⟨rfl, rfl⟩ | ⟨rfl, rfl, _⟩ <;> decide
    have split : t = t.take sp ++ (46 :: t.drop (sp + 1)) := by
      conv => lhs; rw [← List.take_append_drop sp t]
      rw [List.drop_eq_getElem_cons hsl, hsv]
    refine q_ifD (p := p) (c := c) (m := 3) rfl dr.pool (e_c rfl) (by decide) (by decide) (fun H6 dr6 => ?_) (fun H6 dr6 => ?_)
    · have fin : ∀ (wr : List Nat), Txt.replace (SX.S wd) "1" "" = SX.S wr → wr.length ≤ 2 → ShO ((wr ++ t) ++ en) (some pl) → tRet (tOp (fun x y H Q => ∃ i j, x = .str i ∧ y = .str j ∧ i.length + j.length ≤ sizeLine ∧ Q (.str (i ++ j)) H) (tOp (fun x y H Q => ∃ i j, x = .str i ∧ y = .str j ∧ i.length + j.length ≤ sizeLine ∧ Q (.str (i ++ j)) H) (CwR.tReplC (tVar 5) "1" "") (tVar 1)) (tVar 6)) { nx := fun _ H' => Q .non H', rt := Q } [some (.ref p), some (.str (SX.S t)), some (.ref l), a3, some (.int (sp : Int)), some (.str (SX.S wd)), some (.str (SX.S en)), a7] H6 := fun wr hr hrl hsh2 => by
        refine s_ret (A := rS) (a := SX.S ((wr ++ t) ++ en)) (e_catL (e_catL (e_repl (s := SX.S wd) (e_var rfl rfl) (by
          have h0 : ("" : Str).length = 0 := by decide +kernel
          rw [SX.S_len, h0]; omega) hr) (e_var (A := rS) rfl rfl) (by omega)) (e_var (A := rS) rfl rfl) (by rw [List.length_append]; omega)) fun v H7 e7 r7 => ?_
        have a7 : v = V.str _ := r7
        subst a7
        exact k _ H7 ((dr.trans dr6).then e7) (by rw [List.length_append, List.length_append]; omega) hsh2
      rcases hwe with ⟨rfl, rfl⟩ | ⟨rfl, rfl⟩ | ⟨rfl, rfl, _⟩
      · exact fin [40] (by decide +kernel) (by decide) (sh_wrap hsh hpl)
      · refine fin [40, 40] (by decide +kernel) (by decide) ?_
        have := sh_wrap (sh_wrap hsh hpl) hpl
        simpa using this
      · exact fin [40] (by decide +kernel) (by decide) (sh_wrap hsh hpl)
    · have lt := List.length_take (i := sp) (l := t)
      have ld := List.length_drop (i := sp + 1) (l := t)
      refine s_ret (A := rS) (a := SX.S ((((t.take sp ++ wd) ++ [46]) ++ en) ++ t.drop (sp + 1))) (e_catL (e_catL (e_catL (e_catL (e_slTo (e_var (A := rS) rfl rfl) (e_var (A := rN) rfl rfl) (by omega)) (e_var (A := rS) rfl rfl) (by omega)) (b := [46]) (e_c rfl) (by simp; omega)) (e_var (A := rS) rfl rfl) (by simp; omega)) (e_slFrom (i := sp + 1) (e_var (A := rS) rfl rfl) (e_toN (e_add (e_toI (e_var (A := rN) rfl rfl)) e_int) (by push_cast; rfl)) (by omega)) (by simp; omega)) fun v H7 e7 r7 => ?_
      have a7 : v = V.str _ := r7
      subst a7
      refine k _ H7 ((dr.trans dr6).then e7) (by simp; omega) ?_
      rw [split] at hsh
      have fin : ∀ g : List Nat, g = wd ++ ([46] ++ en) → (∀ q q1, Inv0 q.1 → q.1.n = 0 → runM q (t.take sp) = some q1 → Seg q1.1.n g) → ShO ((((t.take sp ++ wd) ++ [46]) ++ en) ++ t.drop (sp + 1)) (some pl) := fun g hg hseg => by
        have h := sh_sub hsh hseg
        subst hg
        simpa using h
      rcases hwe with ⟨rfl, rfl⟩ | ⟨rfl, rfl⟩ | ⟨rfl, rfl, hnf⟩
      · exact fin _ rfl fun q q1 _ _ _ => seg1
      · exact fin _ rfl fun q q1 _ _ _ => seg2
      · refine fin _ rfl fun q q1 hi h0 hr => ?_
        rw [pre_zero hr hi h0 hnf]
        exact seg3
  · have := of_decide_eq_true hs0
    omega
  · rw [SX.S_len]; exact Nat.le_trans hl (by decide)
  · have := of_decide_eq_true hs0
    have h1 : sp - 1 < t.length := by omega
    simp [SX.S, h1]
  · refine q_asg (A := rS) (a := SX.S [40]) (e_c rfl) fun v6 H6 e6 r6 => ?_
    have a6 : v6 = V.str (SX.S [40]) := r6
    subst a6
    refine s_asg (A := rS) (a := SX.S [41]) (e_c rfl) fun v7 H7 e7 r7 => ?_
    have a7 : v7 = V.str (SX.S [41]) := r7
    subst a7
    exact kk _ _ ⟨[40], [41], _, _, rfl, .inl ⟨rfl, rfl⟩, dr14.then ((e5.trans e6).trans e7)⟩
  · refine ⟨wl, (List.replicate n [41]).flatten, _, _, rfl, ?_, dr14.then e5⟩
    rcases hwl with rfl | rfl | rfl
    · have : n = 1 := by rw [hn]; decide
      subst this
      exact .inl ⟨rfl, rfl⟩
    · have : n = 1 := by rw [hn]; decide
      subst this
      refine .inr (.inr ⟨rfl, rfl, fun q hq hf => ?_⟩)
      have hs0 : 0 < sp := by
        rcases Nat.eq_zero_or_pos sp with h | h
        · rw [h] at hq; simp at hq
        · exact h
      have h1 : sp - 1 < t.length := by omega
      have hg : (t.take sp).getLast? = some t[sp - 1] := by
        rw [List.getLast?_eq_getElem?, List.length_take, Nat.min_eq_left (by omega), List.getElem?_take_of_lt (by omega), List.getElem?_eq_getElem h1]
      rw [hg] at hq
      have hq2 : t.getD (sp - 1) 0 = q := by
        rw [List.getD_eq_getElem?_getD, List.getElem?_eq_getElem h1]
        exact Option.some.inj hq
      rw [decide_eq_true hs0, Bool.true_and, hq2, hf] at hb
      cases hb
    · have : n = 2 := by rw [hn]; decide
      subst this
      exact .inr (.inl ⟨rfl, rfl⟩)
end
end K84
end
section
set_option Elab.async false
set_option linter.all false
set_option maxRecDepth 100000
set_option maxHeartbeats 4000000
namespace K84
open PySem PySem.Spec PyProof.Rows L2 XE
def datR (row : List Nat) : PyData := .tuple (row.map fun (n : Nat) => .int (n : Int))
def datP (p : Pl) : PyData := .tuple (p.map datR)
theorem lay_row : ∀ row : List Nat, PyData.canLayAll0 (row.map fun (n : Nat) => .int (n : Int)) = true
  | [] => rfl
  | n :: r => by show (true && PyData.canLayAll0 (r.map fun (n : Nat) => .int (n : Int))) = true; rw [lay_row r] <;> rfl
theorem lay_pl : ∀ p : Pl, PyData.canLayAll0 (p.map datR) = true
  | [] => rfl
  | row :: r => by show (PyData.canLayAll0 (row.map fun (n : Nat) => .int (n : Int)) && PyData.canLayAll0 (r.map datR)) = true; rw [lay_row, lay_pl r] <;> rfl
theorem dep_row : ∀ row : List Nat, PyData.depthAll (row.map fun (n : Nat) => .int (n : Int)) = 0
  | [] => rfl
  | n :: r => by show max 0 (PyData.depthAll (r.map fun (n : Nat) => .int (n : Int))) = 0; rw [dep_row r] <;> rfl
theorem dep_pl : ∀ p : Pl, PyData.depthAll (p.map datR) ≤ 1
  | [] => Nat.zero_le _
  | row :: r => by
    show max (PyData.depthAll (row.map fun (n : Nat) => .int (n : Int)) + 1) (PyData.depthAll (r.map datR)) ≤ 1
    have := dep_pl r
    rw [dep_row]
    omega
theorem shp (p : Pl) : SeqAt.shaped (datP p) = true := by
  unfold SeqAt.shaped
  rw [Bool.and_eq_true]
  refine ⟨lay_pl p, decide_eq_true ?_⟩
  show PyData.depthAll (p.map datR) + 1 ≤ 64
  have := dep_pl p
  omega
section
variable {K : PySem.W.Frag} {σ : L2.St} {H : Hp} {ta tb te tl : TE} {D : Ends} {tz ts : TS} {tt : TT} {p c : Addr} {i j m : Nat} {pl : Pl} {cs : List Nat}
theorem dp_row {v : V} {row : List Nat} (h : (rT K rN).r H v row) : Dp K H v (datR row) := by
  obtain ⟨a, vs, rfl, h2, h3⟩ := h
  refine .tup h2 ?_
  clear h2
  induction h3 with
  | nil => exact .nil
  | cons f t ih =>
    have hf : _ = V.int _ := f
    rw [hf]
    exact .cons (.int _) ih
theorem dp_pl {v : V} (h : (rP K).r H v pl) : Dp K H v (datP pl) := by
  obtain ⟨a, vs, rfl, h2, h3⟩ := h
  refine .tup h2 ?_
  clear h2
  induction h3 with
  | nil => exact .nil
  | cons f t ih => exact .cons (dp_row f) ih
theorem e_eqP (h1 : EvR (rP K) ta σ H pl) (h2 : EvR (rP K) tb σ H pl) : EvR rB (tOp (rEqD K) ta tb) σ H true := e_op h1 h2 fun u v H1 _ hu hv Q q => ⟨_, _, dp_pl hu, dp_pl hv, shp pl, shp pl, by
  rw [SeqAt.eqv_refl _ (SeqAt.canLay_of_shaped (shp pl))]
  exact q _ H1 (Same.refl H1) rfl⟩
theorem e_neP (h1 : EvR (rP K) ta σ H pl) (h2 : EvR (rP K) tb σ H pl) : EvR rB (tOp (rNeD K) ta tb) σ H false := e_op h1 h2 fun u v H1 _ hu hv Q q => ⟨_, _, dp_pl hu, dp_pl hv, shp pl, shp pl, by
  rw [SeqAt.eqv_refl _ (SeqAt.canLay_of_shaped (shp pl))]
  exact q _ H1 (Same.refl H1) rfl⟩
theorem e_read (h : EvR rS ta σ H (SX.S cs)) (hl : cs.length ≤ 2000000) (hc : chk s0 0 cs = none) (hr : rawP cs = some pl) : EvR (rP K) (tCallS (spRead K) (WE fun _ _ _ _ => False) (tCons ta tNil)) σ H pl := fun H1 e Q q => h H1 e _ fun v H2 e2 hv => by
  have ev : v = V.str (SX.S cs) := hv
  subst ev
  refine ⟨_, rfl, .inl ⟨cs, rfl, hl, fun i hi => (by rw [hc] at hi; cases hi), fun _ h0 => (by rw [hr] at h0; cases h0), fun _ p' hp' _ _ w H' e3 r3 => ?_⟩⟩
  rw [hr] at hp'
  cases hp'
  exact q w H' (e2.trans e3) r3
theorem e_scan (h : EvR rS ta σ H (SX.S cs)) (hl : cs.length ≤ 2000000) : EvR (rO rN) (tCall (spScan K) [] C8.E0 (tCons ta tNil)) σ H (chk s0 0 cs) := e_call1 h fun u H hu Q E k => by
  have eu : u = V.str (SX.S cs) := hu
  subst eu
  exact ⟨cs, rfl, hl, k⟩
theorem e_toldL (h : EvR rS ta σ H (SX.S cs)) (hl : cs.length ≤ 2000000) (hc : chk s0 0 cs = none) (hr : rawP cs = none) : EvN (tCall (spTold K) [] C8.E0 (tCons ta tNil)) σ H [.str "large", .int 40] := fun H1 e Q q => h H1 e _ fun v H2 e2 hv => by
  have ev : v = V.str (SX.S cs) := hv
  subst ev
  exact ⟨cs, rfl, hl, hc, hr, fun p H' e3 h1 h2 => q p H' (e2.trans e3) (Same.free e2 h1) h2⟩
theorem e_pick {σ : L2.St} {H : Hp} {i : Nat} {p c : Addr} {Q : VK} (hv : σ[i]? = some (some (.ref p))) (hp : PoolAt p c H) (k : ∀ (room : Nat) H1, 1 ≤ room → room ≤ 40 → PoolAt p c H1 → Dr p c H H1 → Q (.int (room : Int)) H1) :
    tOp (rIxL K) (tLst (tCons (tC (.int 3)) (tCons (tC (.int 8)) (tCons (tC (.int 40)) tNil)))) (tCall spDraw [] C8.E0 (tCons (tVar i) (tCons (tC (.int 3)) tNil))) σ H Q := ⟨by show 3 ≤ sizeLine; decide, fun l hl => e_draw (p := p) (c := c) (m := 3) hv (hp.same (same_new hl)) (e_c rfl) (by decide) (by decide) fun d H1 hd dr => by
  have hne := hp.ne hl
  have hl1 := dr.keep l _ hne.1 hne.2 upd_same
  have drH := (Dr.of hp (same_new (o := .lst [.int 3, .int 8, .int 40]) hl)).trans dr
  have hd3 : d = 0 ∨ d = 1 ∨ d = 2 := by omega
  rcases hd3 with rfl | rfl | rfl
  · exact ⟨l, _, 0, _, rfl, rfl, SqL.of hl1, rfl, k 3 H1 (by decide) (by decide) dr.pool drH⟩
  · exact ⟨l, _, 1, _, rfl, rfl, SqL.of hl1, rfl, k 8 H1 (by decide) (by decide) dr.pool drH⟩
  · exact ⟨l, _, 2, _, rfl, rfl, SqL.of hl1, rfl, k 40 H1 (by decide) (by decide) dr.pool drH⟩⟩

/-- text, plan = shape(pool, .., 3) -/
theorem q_shape2 {d j1 j2 : Nat} (hv : σ[i]? = some (some (.ref p))) (hp : PoolAt p c H) (k : ∀ t pl pv H1, Dr p c H H1 → (rP K).r H1 pv pl → ShT d t pl → t.length ≤ lenS d → pl.length ≤ 40 → tz D ((σ.set j1 (some (.str (SX.S t)))).set j2 (some pv)) H1) :
    tSeq (tAsg (tCall (spShape K d) [] C8.E0 (tCons (tVar i) (tCons (tOp (rIxL K) (tLst (tCons (tC (.int 3)) (tCons (tC (.int 8)) (tCons (tC (.int 40)) tNil)))) (tCall spDraw [] C8.E0 (tCons (tVar i) (tCons (tC (.int 3)) tNil)))) (tCons (tC (.int (d : Int))) tNil)))) (gTup K 2 (gCons (gName j1) (gCons (gName j2) gNil)))) tz D σ H :=
  ⟨_, hv, e_pick (K := K) (p := p) (c := c) hv hp fun room H1 h1 h2 hp1 dr => ⟨p, c, room, rfl, hp1, h1, h2, fun w H2 t pl dr2 rw1 sh hl hpl _ => by
    obtain ⟨a, tv, pv, rfl, h3, h4, h5⟩ := rw1
    have h4' : tv = .str (SX.S t) := h4
    subst h4'
    exact ⟨a, _, rfl, h3, rfl, _, _, rfl, _, _, rfl, rfl, k t pl pv H2 (dr.trans dr2) h5 sh hl (by omega)⟩⟩⟩
theorem q_brack2 {it : Nat} {t : List Nat} (hv : σ[i]? = some (some (.ref p))) (ht : σ[it]? = some (some (.str (SX.S t)))) (hp : PoolAt p c H) (hl : t.length ≤ 80000) (hsh : ShO t (some pl)) (hpl : pl.length ≤ 40) (k : ∀ u H1, Dr p c H H1 → u.length ≤ 90100 → ShO u (some pl) → tz D (σ.set j (some (.str (SX.S u)))) H1) :
    tSeq (tAsg (tCall spBrack [] C8.E0 (tCons (tVar i) (tCons (tCall spBrack [] C8.E0 (tCons (tVar i) (tCons (tVar it) tNil))) tNil))) (gName j)) tz D σ H :=
  ⟨_, hv, _, hv, _, ht, p, c, t, pl, rfl, hp, by omega, hsh, hpl, fun u H1 dr1 hul hsu => ⟨p, c, u, pl, rfl, dr1.pool, by omega, hsu, hpl, fun u2 H2 dr2 hul2 hsu2 => k u2 H2 (dr1.trans dr2) (by omega) hsu2⟩⟩
theorem q_large {it ip : Nat} {t : List Nat} {pv : V} (hv : σ[i]? = some (some (.ref p))) (ht : σ[it]? = some (some (.str (SX.S t)))) (hpv : σ[ip]? = some (some pv)) (hr : (rP K).r H pv pl) (hp : PoolAt p c H) (hl : t.length ≤ 37000) (hsz : SzO t pl.length) (h1 : 1 ≤ pl.length) (h2 : pl.length ≤ 40)
    (k : ∀ u n H1, Dr p c H H1 → u.length ≤ 2000000 → 40 < n → SzO u n → tz D (σ.set j (some (.str (SX.S u)))) H1) :
    tSeq (tAsg (tCall spLarge [] C8.E0 (tCons (tVar i) (tCons (tVar it) (tCons (tCB (fun xs H Q => ∃ p ys, xs = [.ref p] ∧ (SqL K H p ys ∨ SqT K H p ys) ∧ Q (.int ys.length) H) (tCons (tVar ip) tNil)) tNil)))) (gName j)) tz D σ H :=
  ⟨_, hv, _, ht, (e_lenT (A := rT K rN) (e_var hpv hr)) H (Same.refl H) _ fun v H1 e1 hv1 => by
    have ev : v = V.int ((pl.length : Nat) : Int) := hv1
    subst ev
    exact ⟨p, c, t, pl.length, rfl, hp.same e1, h1, h2, hl, hsz, fun u n H2 dr2 a1 a2 a3 => k u n H2 ((Dr.of hp e1).trans dr2) a1 a2 a3⟩⟩
theorem paired_rep {α : Type} {F : V → α → Prop} {v : V} {x : α} (h : F v x) : ∀ n, Paired F (List.replicate n v) (List.replicate n x)
  | 0 => .nil
  | n + 1 => .cons h (paired_rep h n)
/-- (x,) * n -/
theorem e_repT1 {α : Type} {A : Rp α} {x : α} {n : Nat} (h : EvR A ta σ H x) (h1 : 2 ≤ n) (h2 : n ≤ 1000) : EvR (rT K A) (tOp (rRepT K) (tTup (tCons ta tNil)) (tC (.int (n : Int)))) σ H (List.replicate n x) := fun H1 e Q q => h H1 e _ fun v H2 e2 hv =>
  ⟨by show 1 ≤ sizeLine; decide, fun a ha => ⟨a, (n : Int), [v], rfl, rfl, .inl (.inl upd_same), List.cons_ne_nil _ _, by omega, by omega, by show 1 ≤ 1000; decide, fun l hl => by
    have e3 : (List.replicate ((n : Int)).toNat [v]).flatten = List.replicate n v := by
      rw [show ((n : Int)).toNat = n by omega]
      clear h1 h2 hl q
      induction n with
      | zero => rfl
      | succ n ih => rw [List.replicate_succ, List.flatten_cons, ih, List.replicate_succ]; rfl
    rw [e3]
    exact q _ _ ((e2.trans (same_new ha)).trans (same_new hl)) ⟨l, _, rfl, .inl (.inl upd_same), paired_rep (A.mono ((tk_new ha).trans (tk_new hl)) hv) n⟩⟩⟩
/-- [f(k) for k in range(n)] -/
theorem l_lcR {α : Type} {A : Rp α} {f : Nat → α} {n ik : Nat} {vs : List Nat} (hn : n ≤ 1000) (hw : ∀ x, wipe ((wipe σ vs).set ik (some x)) vs = wipe σ vs) (he : ∀ H1 (k : Nat), Same H H1 → k < n → EvR A te ((wipe σ vs).set ik (some (.int (k : Int)))) H1 (f k)) :
    EvL A (tLc (iRng1 (tCons (tC (.int (n : Int))) tNil)) (gName ik) tYes te vs) σ H ((List.range n).map f) := fun H0 e Q q => by
  refine ⟨(n : Int), rfl, by omega, by omega, fun Dl hD => ?_⟩
  rw [show ((n : Int)).toNat = n by omega]
  have esz : (1000 : Nat) < sizeLine := by decide
  refine lc_range (lo := 0) (n := n) (fun i H' => Same H0 H' ∧ ∃ ys, H' Dl = some (.lst ys) ∧ Paired (A.r H') ys ((List.range i).map f)) ⟨same_new hD, [], upd_same, .nil⟩ (fun i H' hi pv => ⟨hw _, ?_⟩) (fun H' pv => ?_)
  · obtain ⟨p1, ys, p2, p3⟩ := pv
    have e0 : (0 : Int) + (i : Int) = (i : Int) := Int.zero_add _
    rw [e0]
    have hly := Paired.len p3
    rw [List.length_map, List.length_range] at hly
    unfold tYes
    dsimp only
    rw [if_pos rfl]
    refine he H' i (e.trans p1) hi H' (Same.refl _) _ fun y H4 e4 hy => ?_
    refine ⟨ys, e4 _ _ p2, by omega, same_mut (p1.trans e4) hD, _, upd_same, ?_⟩
    have tk : Tk H4 (upd H4 Dl (.lst (ys ++ [y]))) := tk_lst (e4 _ _ p2)
    rw [List.range_succ, List.map_append]
    exact Paired.app (Paired.imp (fun _ _ z => A.mono tk (A.same e4 z)) p3) (.cons (A.mono tk hy) .nil)
  · obtain ⟨p1, ys, p2, p3⟩ := pv
    exact q Dl ys H' p1 hD p2 p3
theorem sh_item : ShO [46] (some [[]]) := by
  have h := sh_one (ro_one (un_dot (n := 1) (m := []) (.inl ⟨rfl, rfl⟩)))
  exact h
theorem sh_deep : ∀ d, ShO (((List.replicate d [40]).flatten ++ [46]) ++ (List.replicate d [41]).flatten) (some [[]])
  | 0 => sh_item
  | d + 1 => by
    have h := sh_wrap (sh_deep d) (by decide)
    have e : (((List.replicate (d + 1) [40]).flatten ++ [46]) ++ (List.replicate (d + 1) [41]).flatten) = 40 :: ((((List.replicate d [40]).flatten ++ [46]) ++ (List.replicate d [41]).flatten) ++ [41]) := by
      rw [List.replicate_succ, List.flatten_cons, List.replicate_succ' (a := [41]), List.flatten_append]
      simp
    rw [e]
    exact h
end
section
variable {P : Program} {w : World} {K : PySem.W.Frag} {mg : Str → Option Value} {base : Heap} {X : Cx}
theorem c_none (S : XC.Ctx fa fn P w K mg base) : C8.Cal P w K mg base 1 "_law_shape" (fun _ _ _ _ => False) [] := S.cal (k := 0) 23 19 rfl rfl (fun _ _ _ _ _ _ us hl => match us, hl with | [_, _, _], _ => rfl) sc_law_shape (fun _ _ _ _ h => h.elim) fun _ _ _ _ _ _ _ _ _ h => h.elim
theorem c_shape0 (S : XC.Ctx fa fn P w K mg base) : C8.Cal P w K mg base 7 "_law_shape" (spShape K 0) [] := c_law_shape S 0 (c_law_unit S 0 (c_none S) (fun _ h => nomatch h) (by decide)) (by decide)
theorem c_shape1 (S : XC.Ctx fa fn P w K mg base) : C8.Cal P w K mg base 13 "_law_shape" (spShape K 1) [] := c_law_shape S 1 (c_law_unit S 1 (c_shape0 S) (fun d h => by cases h; rfl) (by decide)) (by decide)
theorem c_shape2 (S : XC.Ctx fa fn P w K mg base) : C8.Cal P w K mg base 19 "_law_shape" (spShape K 2) [] := c_law_shape S 2 (c_law_unit S 2 (c_shape1 S) (fun d h => by cases h; rfl) (by decide)) (by decide)
theorem c_shape3 (S : XC.Ctx fa fn P w K mg base) : C8.Cal P w K mg base 25 "_law_shape" (spShape K 3) [] := c_law_shape S 3 (c_law_unit S 3 (c_shape2 S) (fun d h => by cases h; rfl) (by decide)) (by decide)

def spLaw (K : PySem.W.Frag) : Sp := fun vs H Q _ => ∃ (a : Addr) (ns : List Int), vs = [.ref a] ∧ SqL K H a (ns.map V.int) ∧ ns.length ≤ 63 ∧ ∀ H', Q (.bl true) H'
/-- law: 0 _law_script, 1 _law_pool_here, 2 _law_turn, 3 _law_text, 4 _law_plan, 5 _law_more, 6 _law_great, 7 _law_deep, 8 _law_item -/
theorem f_law (S : XC.Ctx fa fn P w K mg base) (Z : Zs P w K mg base) {fd : FuncData} (F : FunD K "law" "law" (defArgs s_law) (defBody s_law) (defScope s_law) [] [] (He.ga K "law") fd) : FnOk P w K mg base C8.CX0 27 (He.ga K "law") fd ["_law_script"] (spLaw K) := XC.fnz F
    sc_law (fun vs H Q E h => by obtain ⟨a, ns, rfl, hS, hlen, k⟩ := h; rfl) fun cdv A outer s H vs Q E hr h => by
  have hu := hu_of hr
  obtain ⟨a, ns, rfl, hS, hlen, k⟩ := h
  refine ⟨_, (pss_cons (ps_set (i := 1) sc_law.nd rfl (by first | exact Or.inl rfl | exact Or.inr rfl) (C8.pe_c (c_law_pool S) hr (by decide) (by rfl) (pa_cons (pv 0) pa_nil)))
    (pss_cons (ps_for PassesOwn.never rfl (pi_range1 (by rfl) (fr_range S) (pa_cons pe_int pa_nil)) (pg_name (i := 2) sc_law.nd rfl (by first | exact Or.inl rfl | exact Or.inr rfl)) (pss_cons (ps_asg (C8.pe_c (c_shape3 S) hr (by decide) (by rfl) (pa_cons (pv 1) (pa_cons (pe_ix ix_list (pe_lst (pa_cons pe_int (pa_cons pe_int (pa_cons pe_int pa_nil)))) (C8.pe_c (c_law_draw S) hr (by decide) (by rfl) (pa_cons (pv 1) (pa_cons pe_int pa_nil))) (fun _ _ => rfl)) (pa_cons pe_int pa_nil)))) (pg_tup rfl (pgs_cons (pg_name (i := 3) sc_law.nd rfl (by first | exact Or.inl rfl | exact Or.inr rfl)) (pgs_cons (pg_name (i := 4) sc_law.nd rfl (by first | exact Or.inl rfl | exact Or.inr rfl)) pgs_nil))))
    (pss_cons (ps_if (PW.pt (pw_or (pt_cmpR (op_neD hr.units) (XC.pe_cX (c_read_shape S Z) hr (by decide) (by rfl) takes_none5 (pa_cons (pv 3) pa_nil)) (pv 4) (nomark _)) (pw_or1 (pt_cmpR op_notN (C8.pe_c (c_law_scanned S) hr (by decide) (by rfl) (pa_cons (pv 3) pa_nil)) pe_non (nomark _))))) (pss_one (ps_ret pe_bl)) pss_nil)
    (pss_cons (ps_set (i := 5) sc_law.nd rfl (by first | exact Or.inl rfl | exact Or.inr rfl) (C8.pe_c (c_law_bracketed S) hr (by decide) (by rfl) (pa_cons (pv 1) (pa_cons (C8.pe_c (c_law_bracketed S) hr (by decide) (by rfl) (pa_cons (pv 1) (pa_cons (pv 3) pa_nil))) pa_nil))))
    (pss_cons (ps_if (pt_cmpR (op_neD hr.units) (XC.pe_cX (c_read_shape S Z) hr (by decide) (by rfl) takes_none5 (pa_cons (pv 5) pa_nil)) (pv 4) (nomark _)) (pss_one (ps_ret pe_bl)) pss_nil)
    (pss_cons (ps_set (i := 6) sc_law.nd rfl (by first | exact Or.inl rfl | exact Or.inr rfl) (C8.pe_c (c_law_large S) hr (by decide) (by rfl) (pa_cons (pv 1) (pa_cons (pv 3) (pa_cons (pe_callB (id := "len") call_len_seq (by rfl) (fr_len S) (by decide +kernel) (pa_cons (pv 4) pa_nil)) pa_nil)))))
    (pss_one (ps_if (PW.pt (pw_and (pt_cmpR op_isN (C8.pe_c (c_law_scanned S) hr (by decide) (by rfl) (pa_cons (pv 6) pa_nil)) pe_non (nomark _)) (pw_and1 (pt_cmpR (op_neD hr.units) (C8.pe_c (c_law_told S Z) hr (by decide) (by rfl) (pa_cons (pv 6) pa_nil)) (pe_lst (pa_cons pe_str (pa_cons pe_int pa_nil))) (nomark _))))) (pss_one (ps_ret pe_bl)) pss_nil))))))))
    (pss_cons (ps_set (i := 7) sc_law.nd rfl (by first | exact Or.inl rfl | exact Or.inr rfl) (pe_op op_add pe_int (C8.pe_c (c_law_draw S) hr (by decide) (by rfl) (pa_cons (pv 1) (pa_cons pe_int pa_nil)))))
    (pss_cons (ps_if (pt_cmpR (op_neD hr.units) (XC.pe_cX (c_read_shape S Z) hr (by decide) (by rfl) takes_none5 (pa_cons (pe_op op_add_str (pe_op op_add_str (pe_op XC.op_mulS pe_str (pv 7)) pe_str) (pe_op XC.op_mulS pe_str (pv 7))) pa_nil)) (pe_tup (pa_cons (pe_tup pa_nil) pa_nil)) (nomark _)) (pss_one (ps_ret pe_bl)) pss_nil)
    (pss_cons (ps_if (PW.pt (pw_or (pt_cmpR (op_neD hr.units) (XC.pe_cX (c_read_shape S Z) hr (by decide) (by rfl) takes_none5 (pa_cons (pe_bm PySem.F.plainAttrs_str PySem.F.slot_str_join PySem.F.type_str_join mt_join pe_str (pa_cons (pe_op op_rep (pe_lst (pa_cons pe_str pa_nil)) pe_int) pa_nil)) pa_nil)) (pe_op op_repT (pe_tup (pa_cons (pe_tup pa_nil) pa_nil)) pe_int) (nomark _)) (pw_or1 (pt_cmpR (op_neD hr.units) (C8.pe_c (c_law_told S Z) hr (by decide) (by rfl) (pa_cons (pe_bm PySem.F.plainAttrs_str PySem.F.slot_str_join PySem.F.type_str_join mt_join pe_str (pa_cons (pe_op op_rep (pe_lst (pa_cons pe_str pa_nil)) pe_int) pa_nil)) pa_nil)) (pe_lst (pa_cons pe_str (pa_cons pe_int pa_nil))) (nomark _))))) (pss_one (ps_ret pe_bl)) pss_nil)
    (pss_one (ps_ret (pe_and (pe_cmpR (op_eqD hr.units) (XC.pe_cX (c_read_shape S Z) hr (by decide) (by rfl) takes_none5 (pa_cons pe_str pa_nil)) (pe_callTy (T := "tuple") call_tuple_of (by rfl) (fr_tuple S) (by decide +kernel) (pa_cons (pe_lc (own := [("_law_item", 8)]) (g := gName 8) (tt := tYes) rfl sc_law.nd (pi_range1 (by rfl) (fr_range S) (pa_cons pe_int pa_nil)) (blkOk_by (N := N_law) (sc := defScope s_law) (by decide +kernel)) (fun _ _ _ _ _ => pg_name (i := 8) sc_law.nd rfl (Or.inl rfl)) (fun _ _ _ _ _ => pts_nil) (fun _ _ _ _ _ => (pe_tupRg rfl (by rfl) (fr_tuple S) (prg_1 (by rfl) (fr_range S) (pv 8))))) pa_nil)) (nomark _)) (pe_one (pe_cmpR (op_eqD hr.units) (XC.pe_cX (c_read_shape S Z) hr (by decide) (by rfl) takes_none5 (pa_cons pe_str pa_nil)) (XC.pe_cX (c_read_shape S Z) hr (by decide) (by rfl) takes_none5 (pa_cons pe_str pa_nil)) (nomark _))))))))))), ?_⟩
  refine ⟨_, rfl, a, ns, rfl, hS, fun H' e => e.seq hS, hlen, fun p c H1 e1 hp => ?_⟩
  dsimp only [gName]
  refine q_rng (n := 4) (e_c rfl) (by decide) (fun i σ H' => ∃ (a2 a3 a4 a5 a6 a7 a8 : Option V), σ = [some (.ref a), some (.ref p), a2, a3, a4, a5, a6, a7, a8] ∧ PoolAt p c H') (fun H2 e2 => ⟨_, _, _, _, _, _, _, rfl, hp.same e2⟩) (fun i σ' H' hi q => ?_) (fun σ' H' q => ?_)
  · obtain ⟨a2, a3, a4, a5, a6, a7, a8, rfl, hp'⟩ := q
    refine q_shape2 (p := p) (c := c) (d := 3) rfl hp' fun t pl pv H2 dr2 rp sh ht hpl => ?_
    have ht3 : t.length ≤ 36900 := ht
    obtain ⟨hc, hr⟩ := sh_all sh.1
    refine q_when (b := false) (EvB.is (b_or (b_test (e_neP (e_read (e_var rfl rfl) (by omega) hc hr) (e_var rfl rp))) fun _ => b_test (e_notNO (A := rN) (e_scan (cs := t) (e_var rfl rfl) (by omega)))) (by rw [hc] <;> rfl)) (fun z => nomatch z) fun _ H3 e3 => ?_
    refine q_brack2 (p := p) (c := c) (t := t) (pl := pl) rfl rfl (dr2.pool.same e3) (by omega) sh.1 hpl fun u H4 dr4 hul hsu => ?_
    obtain ⟨hc2, hr2⟩ := sh_all hsu
    have rp4 := Rp.dr _ dr4 (Rp.same _ e3 rp)
    refine q_when (b := false) (b_test (e_neP (e_read (e_var rfl rfl) (by omega) hc2 hr2) (e_var rfl rp4))) (fun z => nomatch z) fun _ H5 e5 => ?_
    refine q_large (p := p) (c := c) (t := t) (pl := pl) rfl rfl rfl (Rp.same _ e5 rp4) (dr4.pool.same e5) (by omega) sh.2.1 sh.2.2 hpl fun g n H6 dr6 hgl hn hsz => ?_
    obtain ⟨hc3, hrs⟩ := sz_all hsz
    have hr3 : rawP g = none := by
      rcases hrs with ⟨h, _⟩ | ⟨_, _, h, h4⟩
      · exact h
      · omega
    refine s_when (b := false) (EvB.is (b_and (j := false) (b_test (e_isNO (A := rN) (e_scan (cs := g) (e_var rfl rfl) hgl))) fun _ => b_test (e_neN (d := .int 40) (fun _ => .int _) (by kernel_rfl) (e_toldL (e_var rfl rfl) hgl hc3 hr3) (e_n2 (e_c rfl)))) (by rw [hc3] <;> rfl)) (fun z => nomatch z) fun _ H7 e7 => ⟨_, _, _, _, _, _, _, rfl, dr6.pool.same e7⟩
  · obtain ⟨a2, a3, a4, a5, a6, a7, a8, rfl, hp'⟩ := q
    refine q_asgD (p := p) (c := c) (m := 1500) (n := 500) rfl hp' (e_c rfl) (by decide) (by decide) fun dp H2 hd1 hd2 dr2 => ?_
    have len1 : ∀ (cc n : Nat), (List.replicate n [cc]).flatten.length = n := fun cc n => by
      rw [List.length_flatten, List.map_replicate, List.sum_replicate_nat]
      simp
    obtain ⟨hc, hr⟩ := sh_all (sh_deep dp)
    refine q_when (b := false) (b_test (e_neP (e_read (e_catL (e_catL (e_mulS (a := [40]) (e_c rfl) (e_var (A := rN) (i := 7) rfl rfl) (by omega) (by decide)) (b := [46]) (e_c rfl) (by rw [len1]; simp; omega)) (e_mulS (a := [41]) (e_c rfl) (e_var (A := rN) (i := 7) rfl rfl) (by omega) (by decide)) (by rw [List.length_append, len1, len1]; simp; omega)) (by rw [List.length_append, List.length_append, len1, len1]; simp; omega) hc hr) (e_tup1 e_tup0))) (fun z => nomatch z) fun _ H3 e3 => ?_
    refine q_when (b := false) (EvB.is (b_or (b_test (e_neP (pl := List.replicate 40 []) (e_read (e_joinRep (t := [46]) (s := 124) (n := 39) rfl (e_c rfl) (fun H9 e9 => e_c rfl) (by decide) (by decide)) (by decide +kernel) (by decide +kernel) (by decide +kernel)) (e_repT1 e_tup0 (by decide) (by decide)))) fun _ => b_test (e_neN (d := .int 40) (fun _ => .int _) (by kernel_rfl) (e_toldL (e_joinRep (t := [46]) (s := 62) (n := 40) rfl (e_c rfl) (fun H9 e9 => e_c rfl) (by decide) (by decide)) (by decide +kernel) (by decide +kernel) (by decide +kernel)) (e_n2 (e_c rfl)))) rfl) (fun z => nomatch z) fun _ H4 e4 => ?_
    refine s_ret (A := rB) (e_andV (e_eqP (pl := (List.range 40).map List.range) (e_read (cs := [52, 48, 46]) (e_c rfl) (by decide) (by decide +kernel) (by decide +kernel)) (e_tupL (l_lcR (n := 40) (f := List.range) (by decide) (fun _ => rfl) fun H9 q e9 hq => e_tupRg (e_var (A := rN) rfl rfl) (by omega)))) fun _ => e_eqP (pl := [[], [0], [0, 1]]) (e_read (cs := [49, 46, 62, 50, 46]) (e_c rfl) (by decide) (by decide +kernel) (by decide +kernel)) (e_read (cs := [51, 46]) (e_c rfl) (by decide) (by decide +kernel) (by decide +kernel))) fun v H5 e5 r5 => ?_
    have a5 : v = V.bl true := r5
    subst a5
    exact k H5
end
end K84
end
set_option Elab.async false
set_option linter.all false
set_option maxRecDepth 100000
set_option maxHeartbeats 0
namespace K84
open PySem PySem.Spec PyProof.Rows L2 XE He XH
theorem facts {w : World} {K : PySem.W.Frag} {h : Heap} {mg : Str → Option Value} {f : Addr} (X : K.In h) (G : h.Ns mainGlobals mg) (hfa : mg ("law" : Str) = some (.ref f)) (c : SaysD fa fn K) (he : ex K = true) (hs : (su.map fun q => supO K (ga K q.1)) = su.map Prod.snd) :
    ∃ fd : FuncData, (∀ (s : Shared) (v : Value), BindsTo s fd ⟨[v], []⟩ [("_law_script", v)]) ∧ ∀ base : Heap, K.In base → base.Ns mainGlobals mg → FnOk PySem.Challenge.pw_putbetween_k84_whole_shapes_read w K mg base C8.CX0 27 f fd ["_law_script"] (spLaw K) := by
  have S : ∀ base : Heap, XC.Ctx fa fn PySem.Challenge.pw_putbetween_k84_whole_shapes_read w K mg base := fun base => ⟨h, X, G, c⟩
  obtain ⟨fd, F⟩ := c.def_ 24 (d := ⟨("law", none), "law", "law", defArgs s_law, defBody s_law, defScope s_law, [], []⟩) rfl
  have e := hfa.symm.trans (glo_ok X G (c.fact 28 (f := .glo "law") rfl))
  cases e
  have b := FunD.bindsA (ps := ["_law_script"]) F fun _ _ _ _ _ _ us hl => match us, hl with | [_], _ => rfl
  refine ⟨fd, fun s v => b s [v] rfl, fun base _ _ => f_law (S base) ?_ F⟩
  obtain ⟨h1, h3⟩ := ba he
  obtain ⟨h1, h2⟩ := ba h1
  obtain ⟨a1, a2⟩ := ba h1
  obtain ⟨a2, a3⟩ := ba a2
  obtain ⟨b1, b2⟩ := ba h2
  obtain ⟨b2, b3⟩ := ba b2
  have hms : mg "super" = none := fr_super (S base)
  have tx : SupTx PySem.Challenge.pw_putbetween_k84_whole_shapes_read "most" (defArgs s_TooLarge_init) (defScope s_TooLarge_init) := ⟨⟨_, rfl, rfl⟩, rfl, rfl, rfl, by decide +kernel, by decide +kernel, by decide +kernel, by decide +kernel, by decide +kernel, by decide +kernel, by decide +kernel, by decide +kernel, by decide +kernel⟩
  have tb : SupTx PySem.Challenge.pw_putbetween_k84_whole_shapes_read "at" (defArgs s_BadShape_init) (defScope s_BadShape_init) := ⟨⟨_, rfl, rfl⟩, rfl, rfl, rfl, by decide +kernel, by decide +kernel, by decide +kernel, by decide +kernel, by decide +kernel, by decide +kernel, by decide +kernel, by decide +kernel, by decide +kernel⟩
  have s1 := sup_in hs (q := ("TooLarge", some ("__init__", "TooLarge.__init__", defArgs s_TooLarge_init, .stmts (defBody s_TooLarge_init), defScope s_TooLarge_init, mainGlobals, builtinsNs))) (.head _)
  have s2 := sup_in hs (q := ("BadShape", some ("__init__", "BadShape.__init__", defArgs s_BadShape_init, .stmts (defBody s_BadShape_init), defScope s_BadShape_init, mainGlobals, builtinsNs))) (.tail _ (.head _))
  exact ⟨XC.exn_of b1 b2 b3 (a_BadShape (S base)) s2 tb rfl hms fun _ _ _ _ _ _ _ us hl => match us, hl with | [_, _], _ => rfl,
    XC.exn_of a1 a2 a3 (a_TooLarge (S base)) s1 tx rfl hms fun _ _ _ _ _ _ _ us hl => match us, hl with | [_, _], _ => rfl,
    h3, exm_ok (c.fact 56 (f := .exm "TooLarge" "TooLarge" true) rfl)⟩
end K84
open PySem PySem.W PySem.Calls PyProof.Rows
theorem PySem.Challenge.cw_putbetween_k84_whole_shapes_read_holds : PySem.Challenge.rw_putbetween_k84_whole_shapes_read.Holds := by
  w_on; o_law
  refine HandSHeadRun.head_any (r := OpenLaw.row PySem.Challenge.rw_putbetween_k84_whole_shapes_read) (q := view (OpenLaw.row PySem.Challenge.rw_putbetween_k84_whole_shapes_read).prog [32]) (H := K84.hk) (ob := K84.ob) (M := 3000) (loose := K84.loose) (d := HandSHeadRun.topDef (OpenLaw.row PySem.Challenge.rw_putbetween_k84_whole_shapes_read).prog 32) (kwd := []) K84.ob_eq
    (by kernel_rfl) (fun s => by kernel_rfl) K84.run (by kernel_rfl) (by kernel_rfl) (by kernel_rfl) (by rfl) (by first | assumption | decide +kernel) (by decide +kernel) ⟨rfl, rfl, rfl, rfl, rfl, by decide +kernel⟩ ?hw ?hc
  case hw => w_witness2
  case hc =>
    refine L2.walk_ofE (l := PySem.Challenge.rw_putbetween_k84_whole_shapes_read) (n := 63) (k := 27) (x := "_law_script") (CX := C8.CX0) rfl (by decide) (by kernel_rfl) ⟨rfl, by decide, by decide⟩ ?F (fun _ _ _ _ z => z)
    intro w mg fa h Y G hmg0
    obtain ⟨K, KX, c, he, hs⟩ := Y
    have hmg : mg ("law" : PySem.Str) = some (.ref fa) := by
      have e : (HandSHeadRun.topDef (OpenLaw.row PySem.Challenge.rw_putbetween_k84_whole_shapes_read).prog 32).name = ("law" : PySem.Str) := by kernel_rfl
      rw [← e]
      exact hmg0
    obtain ⟨fd, hb, hF⟩ := K84.facts (w := w) KX G hmg c he hs
    exact ⟨K, fd, K84.spLaw K, KX, hb, fun H a ns hl _ hS => ⟨a, ns, rfl, hS, hl, fun _ => rfl⟩, hF⟩
