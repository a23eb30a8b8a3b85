import PyProof.Rows.All
import Wide.All
import OpenK.AllK
import Wide.FinOn
import HandS.ForMost
import HandS.Wide
import HandS.WideBits
import HandS.Codes
import HandS.Steps
import HandS.Exc
import HandS.ExcOwn
import HandS.ExcInit
import HandS.TryOnly
import HandS.TryMany
import HandS.WordsExc
import HandS.Walk
import HandS.IsInst
import HandS.ExcIs
import HandS.ExcField
import HandS.FStr
import HandS.Style
import HandS.StrMore
import HandS.More
import HandS.Conv
import HandS.SortInts
import HandS.RaiseMore
import HandS.Defaults
import HandS.OwnEq
import HandS.EndBits
import HandS.Head0
import HandS.Head1
import HandS.Head2
import HandS.HeadEnd
import HandS.HeadHook1
import HandS.HeadHook2
import HandS.HeadHook3
import HandS.CallLocal
import HandS.Zip
import KE.GoesEnum
import KE.GoesMore
import KE.KExcIs
import PySem.Challenge.RW_runsums_k71_not_made_one
set_option Elab.async false
set_option linter.all false
set_option maxRecDepth 100000
set_option maxHeartbeats 8000000

namespace Z
open PySem L2 PyProof.Rows

/-! ### enumerate of a list, a tuple, a text -/
theorem meets_enum1 {v : Value} {o : Obj} {H : Heap → Prop} (B : Begins v o H) :
    Meets (Builtin.«enumerate.__new__» ⟨[.type "enumerate", v], []⟩) (fun _ R s => H s.heap ∧
      R (.ok (.ret (.ref (s.heap.push o).objs.size))) { s with heap := (s.heap.push o).push { cls := .type "enumerate", data := .fields #[.none, .bool false, .ref s.heap.objs.size, rawInt 0, .none, .none] } }) :=
  .of_wp fun prog w A R s h => by
    obtain ⟨hp, g, d, tk, os⟩ := s; obtain ⟨h1, h⟩ := h
    have hsub := sub_enumerate
    have q1 : ∀ {A' : Around} {E : Value → Shared → Prop} {Q : Value → Shared → Prop}, Q (.ref hp.objs.size) ⟨hp.push o, g, d, tk, os⟩ → wpAny (model prog w) A' (pyIter v) Q E ⟨hp, g, d, tk, os⟩ :=
      fun q => B.iter prog w _ _ ⟨hp, g, d, tk, os⟩ _ h1 q
    wp_walk using q1
    refine wpAny_stack_any fun st => wpAny_pure ?_
    split
    · rename_i c _ _ _ _ _
      cases (c == Value.type "enumerate")
      · wp_walk using q1
        exact ⟨_, rfl, h⟩
      · wp_walk using q1
        exact ⟨_, rfl, h⟩
    · wp_walk using q1
      exact ⟨_, rfl, h⟩
theorem enum_begins1 {prog : Program} {w : World} {A : Around} {E : Value → Shared → Prop} {s : Shared} {v : Value} {o : Obj} {H : Heap → Prop} {Q : Value → Shared → Prop} (B : Begins v o H) (h1 : H s.heap)
    (h : ∀ h', IsEnum h' (s.heap.objs.size + 1) s.heap.objs.size 0 .none → h'.get? s.heap.objs.size = some o → h'.objs.size = s.heap.objs.size + 2 →
      (∀ b o, s.heap.get? b = some o → h'.get? b = some o) → Q (.ref (s.heap.objs.size + 1)) { s with heap := h' }) :
    wpAny (model prog w) A (call (.type "enumerate") [v]) Q E s := by
  refine callType_new F.called_enumerate (by decide) (F.typeCall_enumerate_1 _) (F.newCall_enumerate_1 _) (fun obj => F.args_object_init_2 obj _) F.entry_enumerate_new
    (meets_enum1 B) ⟨h1, ?_⟩
  have hz : (s.heap.push o).objs.size = s.heap.objs.size + 1 := Heap.size_push ..
  show _ ∧ _
  rw [hz]
  have he : IsEnum ((s.heap.push o).push { cls := .type "enumerate", data := .fields #[.none, .bool false, .ref s.heap.objs.size, rawInt 0, .none, .none] }) (s.heap.objs.size + 1) s.heap.objs.size 0 .none := by
    have := Heap.get?_push_size (s.heap.push o) (o := { cls := .type "enumerate", data := .fields #[.none, .bool false, .ref s.heap.objs.size, rawInt 0, .none, .none] }) rfl
    rw [hz] at this; exact this
  refine ⟨⟨_, he, rfl⟩, h _ he (Heap.get?_push_of_some _ (Heap.get?_push_size _ B.free)) (by rw [Heap.size_push, hz]) fun b o x => Heap.get?_push_of_some _ (Heap.get?_push_of_some _ x)⟩
/-- the tuple at a, each item in a new pair -/
def IteT (K : PySem.W.Frag) (a : Addr) : It :=
  ⟨fun i H => ∃ (xs : List V) (x : V), SqT K H a xs ∧ xs[i]? = some x, fun i H v H' => ∃ T x, v = .ref T ∧ H T = none ∧ H' = upd H T (.tup [.int (i : Nat), x]) ∧ ∀ xs, SqT K H a xs → xs[i]? = some x, fun i H => ∃ xs : List V, SqT K H a xs ∧ xs.length ≤ i⟩
/-- one turn of an enumeration: D draws x, which is u -/
theorem enum_turn {X : Cx} {pins : List (Addr × Obj)} {s : Shared} {σ : L2.St} {H : Hp} {E : Value → Shared → Prop} {e it : Addr} {fp : List Addr} {n i : Nat} {Pd : Nat → Value → Prop} {St : Nat → Heap → Prop} {old : Value} {elts : List Expr} {kk : Nat} {tpos : Pos} {tn : Heap → Prop} {J : V → Hp → Prop}
    (D : Draws X.prog X.w X.A.in1 it fp n Pd St) (I : Inv X pins σ H s) (hf : ∀ b ∈ [e, it], FpOk X pins H b) (he : IsEnum s.heap e it ((i : Nat) : Int) old) (hst : St i s.heap) (hlt : i < n) (hne : e ≠ it) (hef : e ∉ fp)
    (ht : ∀ h', St (i + 1) h' → tn h') (hx : ∀ u, Pd i u → ∃ x, RelV x u ∧ ∀ T, H T = none → J (.ref T) (upd H T (.tup [.int (i : Nat), x]))) (hfr : ∀ h h', (∀ b ∈ fp, ∀ o, h.get? b = some o → h'.get? b = some o) → St (i + 1) h → St (i + 1) h') (hil : it < s.heap.objs.size) :
    wpAny (model X.prog X.w) X.A (pyNext (.ref e)) (fun r s1 => ∃ u, r = some u ∧
      wpAny (model X.prog X.w) X.A (letOwnedTupleGo (.Tuple elts kk tpos) (.ref e) u) (fun _ s2 => ∃ x H', Inv X pins σ H' s2 ∧ RelV x u ∧ J x H' ∧ ((∃ old, IsEnum s2.heap e it (((i + 1 : Nat) : Nat) : Int) old) ∧ tn s2.heap ∧ e ≠ it) ∧ ∀ b ∈ [e, it], H' b = none) E s1) E s := by
  have hel : e < s.heap.objs.size := Heap.lt_size he
  refine wpAny_pyNext_enum_itemD D he hst hlt hne hef fun u h' tk hp ho hs' hT hsz hk => ?_
  obtain ⟨x, ru, hJ⟩ := hx u hp
  refine ⟨_, rfl, wpAny_letOwnedTupleGo_enum (s := { s with heap := h', toks := tk + 1 }) ho fun h'' he' sb => ?_⟩
  have hT2 : h''.get? s.heap.objs.size = some { cls := .type "tuple", data := .seq #[.int i tk, u] } := (sb.2 _ (Nat.ne_of_gt hel)).trans hT
  have new : ObjOk X.prog X.w (upd H s.heap.objs.size (.tup [.int (i : Nat), x])) h'' s.heap.objs.size (.tup [.int (i : Nat), x]) :=
    ⟨by show 2 ≤ sizeLine; decide, [.int i tk, u], .cons ⟨_, rfl⟩ (.cons ru .nil), ⟨_, hT2, rfl, _, rfl⟩⟩
  have I1 : Inv X pins σ (upd H s.heap.objs.size (.tup [.int (i : Nat), x])) { s with heap := h'', toks := tk + 1 } :=
    I.turnedNew (ch := [e, it]) (fun b ob hb q => (sb.2 b (fun z => hb (by simp [z]))).trans (hk b ob (fun z => hb (by simp [z])) (fun z => hb (by simp [z])) q)) hf (Nat.le_refl _) new
  refine ⟨.ref s.heap.objs.size, _, I1, rfl, hJ _ (I.hok.fresh (Nat.le_refl _)), ⟨⟨u, ?_⟩, ht _ (hfr h' h'' (fun b hb o q => (sb.2 b (fun z => hef (z ▸ hb))).trans q) hs'), hne⟩, fun b hb => ?_⟩
  · have e1 : ((i + 1 : Nat) : Int) = (i : Int) + 1 := by omega
    rw [e1]; exact he'
  · have hb' : b < s.heap.objs.size := by
      have e' : b = e ∨ b = it := by simpa using hb
      rcases e' with z | z
      · rw [z]; exact hel
      · rw [z]; exact hil
    rw [upd_ne (Nat.ne_of_lt hb')]
    exact (hf b hb).1
theorem turn_enumT {P : Program} {w : World} {K : PySem.W.Frag} {elts : List Expr} {kk : Nat} {tpos : Pos} (a e it : Addr) :
    Turn P w K (.Tuple elts kk tpos) (IteT K a) [e, it] e (fun i h => (∃ old, IsEnum h e it ((i : Nat) : Int) old) ∧ h.IsTupleIter it a i ∧ e ≠ it) where
  mem := by simp
  obj := fun i h st b hb => by
    obtain ⟨⟨old, he⟩, ⟨o, ho, hc, hd⟩, _⟩ := st
    have e' : b = e ∨ b = it := by simpa using hb
    rcases e' with z | z
    · rw [z]; exact ⟨_, he, fun v q => nomatch q⟩
    · rw [z]; exact ⟨o, ho, fun v q => by rw [hd] at q; cases q⟩
  keep := fun i h h' st k => let ⟨⟨old, he⟩, hi, hne⟩ := st; ⟨⟨old, k e (by simp) _ he⟩, hi.at fun o q => k it (by simp) o q, hne⟩
  item := by
    intro X hP hw hK hc i pins s σ H E I hf st hg
    subst hP hw hK
    obtain ⟨⟨old, he⟩, hit, hne⟩ := st
    obtain ⟨xs, x, hq, hx⟩ := hg
    obtain ⟨its, rv, p, hz⟩ := I.tuple hq
    obtain ⟨u, hu, ru⟩ := rv.get hx
    have hil : it < s.heap.objs.size := by obtain ⟨_, q, _⟩ := hit; exact Heap.lt_size q
    have pt : s.heap.IsTuple a its.toArray := p
    have hne2 : a ≠ it := fun z => by
      obtain ⟨o, q, hc1, _⟩ := hit
      obtain ⟨o', q', hc2, _⟩ := pt
      rw [z, q] at q'; cases q'; rw [hc1] at hc2
      injection hc2 with z2; exact absurd z2 (by decide)
    have hne3 : e ∉ [it, a] := fun z => by
      have z' : e = it ∨ e = a := by simpa using z
      rcases z' with z | z
      · exact hne z
      · obtain ⟨o', q', hc2, _⟩ := pt
        rw [← z, he] at q'; cases q'
        injection hc2 with z2; exact absurd z2 (by decide)
    have hh : X.A.in1.handled = none := I.ok.hd hc
    exact enum_turn (tn := fun h => h.IsTupleIter it a (i + 1)) (J := (IteT X.K a).yld i H) (Draws.tuple (A := X.A.in1) hh it a hne2 its.toArray) I hf he ⟨hit, pt⟩ (by simp; exact (List.getElem?_eq_some_iff.mp hu).1) hne hne3
      (fun h' q => q.1) (fun u' hu' => by
        have e1 : u' = u := by
          have : its.toArray[i]? = some u' := hu'
          rw [List.getElem?_toArray, hu] at this
          exact (Option.some.inj this).symm
        subst e1
        exact ⟨x, ru, fun T hT => ⟨T, x, rfl, hT, rfl, fun ys hy => by rw [I.tuple_inj hy hq]; exact hx⟩⟩)
      (fun h h' k q => ⟨q.1.at fun o z => k it (by simp) o z, q.2.at fun o z => k a (by simp) o z⟩) hil
  done := by
    intro X hP hw hK hc i pins s σ H E I hf st hg
    subst hP hw hK
    obtain ⟨⟨old, he⟩, hit, hne⟩ := st
    obtain ⟨xs, hq, hx⟩ := hg
    obtain ⟨its, rv, p, hz⟩ := I.tuple hq
    obtain ⟨f0, f1, f2, f3, f4, f5⟩ := hf it (by simp)
    have hl := rv.length
    have pt : s.heap.IsTuple a its.toArray := p
    have hh : X.A.in1.handled = none := I.ok.hd hc
    have hT : s.TypeIs (.ref e) "enumerate" := ⟨_, he, rfl⟩
    unfold pyNext
    refine wpAny_bind (wpAny_attempt (wpAny_callSpecial?_slot (name := Str.ofString "__next__") hT F.slot_enumerate_next
      (wpAny_call_entry F.slot_enumerate_next hT F.entry_enumerate_next ?_ (F.args_enumerate_next_1 _))))
    show wpAny _ _ (field (.ref e) 2 >>= _) _ _ _
    refine wpAny_bind (wpAny_field he rfl (x := .ref it) rfl ?_)
    refine wpAny_bind (wpAny_nextOf_tuple_end hh hit pt (by simp; omega) fun h' x he' hx' => ?_)
    obtain ⟨o, ho, hc'⟩ := hx'
    refine wpAny_bind (wpAny_isInstance (T := "StopIteration") (b := true) ⟨o, ho, hc'⟩ isSubtype_stop ?_)
    exact wpAny_pure ⟨rfl, I.turned (t' := s.toks) (fun b o hb q => he' b o hb q) f0 f1 f3 f4 f5⟩
  self := fun A i s Q E st h => let ⟨⟨_, he⟩, _⟩ := st; wpAny_pyIter_enum he h
/-- a text, each sign in a new pair -/
def IteS (z : Str) : It :=
  ⟨fun i _ => i < z.cps.size, fun i H v H' => ∃ T c, v = .ref T ∧ H T = none ∧ H' = upd H T (.tup [.int (i : Nat), .str ⟨#[c]⟩]) ∧ z.cps[i]? = some c, fun i _ => i = z.cps.size⟩
theorem turn_enumS {P : Program} {w : World} {K : PySem.W.Frag} {elts : List Expr} {kk : Nat} {tpos : Pos} (z : Str) (t : Tok) (e it : Addr) :
    Turn P w K (.Tuple elts kk tpos) (IteS z) [e, it] e (fun i h => (∃ old, IsEnum h e it ((i : Nat) : Int) old) ∧ h.IsStrIter it (strIterType z) z t i ∧ e ≠ it) where
  mem := by simp
  obj := fun i h st b hb => by
    obtain ⟨⟨old, he⟩, ⟨o, ho, hc, hd⟩, _⟩ := st
    have e' : b = e ∨ b = it := by simpa using hb
    rcases e' with z | z
    · rw [z]; exact ⟨_, he, fun v q => nomatch q⟩
    · rw [z]; exact ⟨o, ho, fun v q => by rw [hd] at q; cases q⟩
  keep := fun i h h' st k => let ⟨⟨old, he⟩, ⟨o, ho, hi⟩, hne⟩ := st; ⟨⟨old, k e (by simp) _ he⟩, ⟨o, k it (by simp) o ho, hi⟩, hne⟩
  item := by
    intro X hP hw hK hc i pins s σ H E I hf st hg
    subst hP hw hK
    obtain ⟨⟨old, he⟩, hit, hne⟩ := st
    have hil : it < s.heap.objs.size := by obtain ⟨_, q, _⟩ := hit; exact Heap.lt_size q
    have hh : X.A.in1.handled = none := I.ok.hd hc
    exact enum_turn (tn := fun h => h.IsStrIter it (strIterType z) z t (i + 1)) (J := (IteS z).yld i H) (Draws.text (A := X.A.in1) hh it z t) I hf he hit hg hne (by simpa using hne)
      (fun h' q => q) (fun u' hu' => by
        obtain ⟨c, tk, hc', rfl⟩ := hu'
        exact ⟨.str ⟨#[c]⟩, ⟨_, rfl⟩, fun T hT => ⟨T, c, rfl, hT, rfl, hc'⟩⟩)
      (fun h h' k q => let ⟨o, ho, hi⟩ := q; ⟨o, k it (by simp) o ho, hi⟩) hil
  done := by
    intro X hP hw hK hc i pins s σ H E I hf st hg
    subst hP hw hK
    obtain ⟨⟨old, he⟩, hit, hne⟩ := st
    obtain ⟨f0, f1, f2, f3, f4, f5⟩ := hf it (by simp)
    have hh : X.A.in1.handled = none := I.ok.hd hc
    have e1 : i = z.cps.size := hg
    subst e1
    exact wpAny_pyNext_enum_endD (Draws.text (A := X.A.in1) hh it z t) he hit fun h' eb => ⟨rfl, I.turned (t' := s.toks) (fun b o hb q => eb b o hb q) f0 f1 f3 f4 f5⟩
  self := fun A i s Q E st h => let ⟨⟨_, he⟩, _⟩ := st; wpAny_pyIter_enum he h
def iEnumA (K : PySem.W.Frag) (ta : TA) : TI := fun σ H R => ta σ H fun vs H1 =>
  (∃ a xs, vs = [.ref a] ∧ SqL K H1 a xs ∧ R (Ite K a) H1) ∨ (∃ a xs, vs = [.ref a] ∧ SqT K H1 a xs ∧ R (IteT K a) H1) ∨ ∃ z, vs = [.str z] ∧ R (IteS z) H1
theorem z_enum {X : Cx} {K : PySem.W.Frag} {e : Expr} {ta : TA} {p pos tpos : Pos} {elts : List Expr} {kk : Nat} (hK : X.K = K) (hg : Gl X "enumerate") (hm : X.mg "enumerate" = none) (ha : PA X [e] ta) (hs : starEach [e] X.env = [(false, eval e X.env)] := by rfl) :
    PI X (.Tuple elts kk tpos) (.Call (.Name "enumerate" p) [e] [] pos) (iEnumA K ta) := by
  subst hK
  refine ⟨fun pins s σ H R I h => ?_⟩
  refine Call_ (ld_blt I hg hm boot_enumerate (PyProof.Rows.callWith_type1 (thn (ha.run pos pins s σ H _ I h) fun us s1 ⟨vs, H1, I1, r1, q1⟩ => ?_) hs rfl))
  have two : ∀ b : Addr, b ∈ [s1.heap.objs.size + 1, s1.heap.objs.size] → s1.heap.objs.size ≤ b := fun b hb => by
    have e' : b = s1.heap.objs.size + 1 ∨ b = s1.heap.objs.size := by simpa using hb
    rcases e' with z | z
    · rw [z]; exact Nat.le_add_right _ _
    · rw [z]; exact Nat.le_refl _
  rcases q1 with ⟨a, xs, ex, hq, q⟩ | ⟨a, xs, ex, hq, q⟩ | ⟨z, ex, q⟩
  · subst ex
    cases r1 with
    | cons r rr =>
      cases rr
      cases r
      obtain ⟨its, rv, p', hz⟩ := I1.list hq
      refine enum_begins1 (begins_list a its.toArray) p'.isList fun h' he hit hsz hk => wpAny_pyIter_enum he ?_
      exact ⟨s1.heap.objs.size + 1, [s1.heap.objs.size + 1, s1.heap.objs.size], _, _, H1, rfl, I1.kept (t' := s1.toks) hk, turn_enum a (s1.heap.objs.size + 1) s1.heap.objs.size, ⟨⟨.none, he⟩, ⟨_, hit, rfl, rfl⟩, Nat.succ_ne_self _⟩, fun b hb => I1.fpOk (two b hb) (I1.hok.fresh (two b hb)), q⟩
  · subst ex
    cases r1 with
    | cons r rr =>
      cases rr
      cases r
      obtain ⟨its, rv, p', hz⟩ := I1.tuple hq
      refine enum_begins1 (begins_tuple a its.toArray) p' fun h' he hit hsz hk => wpAny_pyIter_enum he ?_
      exact ⟨s1.heap.objs.size + 1, [s1.heap.objs.size + 1, s1.heap.objs.size], _, _, H1, rfl, I1.kept (t' := s1.toks) hk, turn_enumT a (s1.heap.objs.size + 1) s1.heap.objs.size, ⟨⟨.none, he⟩, ⟨_, hit, rfl, rfl⟩, Nat.succ_ne_self _⟩, fun b hb => I1.fpOk (two b hb) (I1.hok.fresh (two b hb)), q⟩
  · subst ex
    cases r1 with
    | cons r rr =>
      cases rr
      obtain ⟨t, rfl⟩ := r
      refine enum_begins1 (begins_text z t) trivial fun h' he hit hsz hk => wpAny_pyIter_enum he ?_
      exact ⟨s1.heap.objs.size + 1, [s1.heap.objs.size + 1, s1.heap.objs.size], _, _, H1, rfl, I1.kept (t' := s1.toks) hk, turn_enumS z t (s1.heap.objs.size + 1) s1.heap.objs.size, ⟨⟨.none, he⟩, ⟨_, hit, rfl, rfl⟩, Nat.succ_ne_self _⟩, fun b hb => I1.fpOk (two b hb) (I1.hok.fresh (two b hb)), q⟩
/-- for over a list, a tuple, a text -/
def iAnyS (K : PySem.W.Frag) (te : TE) : TI := fun σ H R => te σ H fun x H1 =>
  (∃ a, x = .ref a ∧ (∃ xs, SqL K H1 a xs) ∧ R (Itl K a) H1) ∨ (∃ a, x = .ref a ∧ (∃ xs, SqT K H1 a xs) ∧ R (Itt K a) H1) ∨ ∃ z, x = .str z ∧ R (Its z) H1
theorem z_iter {X : Cx} {K : PySem.W.Frag} {tg l : Expr} {tl : TE} (hK : X.K = K) (hl : PE X l tl) : PI X tg l (iAnyS K tl) := by
  subst hK
  refine ⟨fun pins s σ H R I h => ?_⟩
  refine thn (hl.run pins s σ H _ I h) fun v s1 ⟨x, H1, I1, r1, q1⟩ => ?_
  rcases q1 with ⟨a, e, ⟨xs, hq⟩, q⟩ | ⟨a, e, ⟨xs, hq⟩, q⟩ | ⟨z, e, q⟩
  · subst e
    cases r1
    obtain ⟨its, rv, p, hz⟩ := I1.list hq
    refine wpAny_pyIter_list p.isList ?_
    refine ⟨s1.heap.objs.size, [s1.heap.objs.size], _, _, H1, rfl, I1.kept (t' := s1.toks) fun b o e => Heap.get?_push_of_some _ e, turn_list a _, ⟨_, Heap.get?_push_size _ rfl, rfl, rfl⟩, fun b hb => ?_, q⟩
    have e : b = s1.heap.objs.size := by simpa using hb
    subst e
    exact I1.fpOk (Nat.le_refl _) (I1.hok.fresh (Nat.le_refl _))
  · subst e
    cases r1
    obtain ⟨its, rv, p, hz⟩ := I1.tuple hq
    refine wpAny_pyIter_tuple (show s1.heap.IsTuple a its.toArray from p) ?_
    refine ⟨s1.heap.objs.size, [s1.heap.objs.size], _, _, H1, rfl, I1.kept (t' := s1.toks) fun b o e => Heap.get?_push_of_some _ e, turn_tuple a _, ⟨_, Heap.get?_push_size _ rfl, rfl, rfl⟩, fun b hb => ?_, q⟩
    have e : b = s1.heap.objs.size := by simpa using hb
    subst e
    exact I1.fpOk (Nat.le_refl _) (I1.hok.fresh (Nat.le_refl _))
  · subst e
    obtain ⟨t, rfl⟩ := r1
    cases ha : z.cps.all (· < 128)
    · exact wpAny_pyIter_wide ha (pi_one (tk := s1.toks) I1 _ (turn_str _ z t "str_iterator" (.inr rfl)) ⟨_, Heap.get?_push_size _ rfl, rfl, rfl⟩ q)
    · exact wpAny_pyIter_ascii ha (pi_one (tk := s1.toks) I1 _ (turn_str _ z t "str_ascii_iterator" (.inl rfl)) ⟨_, Heap.get?_push_size _ rfl, rfl, rfl⟩ q)
end Z

namespace Z
open PySem L2 PyProof.Rows

theorem r_ref (q : Addr) : RelV (.ref q) (.ref q) := rfl
theorem r_ty (n : String) : RelV (.ty n) (.type n) := rfl
/-! ### calls -/
structure Cl (P : Program) (w : World) (K : PySem.W.Frag) (mg : Str → Option Value) (base : Heap) (CX : CXT) (k : Nat) (x : Str) (sp : Sp) (dvs : List V) : Prop where
  ex : ∃ (f : Addr) (fd : FuncData) (ps : List Str) (ds : List Value), FnOk P w K mg base CX k f fd ps sp ∧ mg x = some (.ref f) ∧ PySem.W.keepIn K (.ref f) = true ∧ Binds K fd ps ds ∧ Vals dvs ds
/-- a class that may be made -/
structure Mc (P : Program) (w : World) (K : PySem.W.Frag) (mg : Str → Option Value) (base : Heap) (CX : CXT) (k : Nat) (x : Str) (C : Addr) (sp : Sp) : Prop where
  ex : ∃ (f : Addr) (fd : FuncData) (ps : List Str), Mk K C f ∧ FnOk P w K mg base CX k f fd ps sp ∧ mg x = some (.ref C) ∧ Binds K fd ps []
/-- a method -/
structure Mt (P : Program) (w : World) (K : PySem.W.Frag) (mg : Str → Option Value) (base : Heap) (CX : CXT) (k : Nat) (C : Addr) (m : Str) (sp : Sp) : Prop where
  ex : ∃ (f : Addr) (fd : FuncData) (ps : List Str), Cls K C ∧ Meth K C m f ∧ FnOk P w K mg base CX k f fd ps sp ∧ Binds K fd ps []
/-- a def as the top has left it -/
structure DefAt (K : PySem.W.Frag) (mg : Str → Option Value) (x : Str) (st : Stmt) (ps : List Str) : Prop where
  ex : ∃ (f : Addr) (fd : FuncData), FunD K x x (defArgs st) (defBody st) (defScope st) [] [] f fd ∧ mg x = some (.ref f) ∧ Binds K fd ps []
/-- a class with its __init__ -/
structure InitAt (K : PySem.W.Frag) (mg : Str → Option Value) (x q : Str) (C : Addr) (st : Stmt) (ps : List Str) : Prop where
  ex : ∃ (f : Addr) (fd : FuncData), FunD K "__init__" q (defArgs st) (defBody st) (defScope st) [] [] f fd ∧ Mk K C f ∧ mg x = some (.ref C) ∧ Binds K fd ps []
section
variable {P : Program} {w : World} {K : PySem.W.Frag} {mg : Str → Option Value} {base : Heap}
theorem Cl.mono {CX : CXT} {j k : Nat} {x : Str} {sp : Sp} {dvs : List V} (c : Cl P w K mg base CX j x sp dvs) (h : j ≤ k) : Cl P w K mg base CX k x sp dvs := by
  obtain ⟨f, fd, ps, ds, F, r⟩ := c.ex
  exact ⟨f, fd, ps, ds, F.mono h, r⟩
theorem Cl.imp {CX : CXT} {k : Nat} {x : Str} {sp sp' : Sp} {dvs : List V} (c : Cl P w K mg base CX k x sp dvs) (h : ∀ vs H Q E, sp' vs H Q E → sp vs H Q E) : Cl P w K mg base CX k x sp' dvs := by
  obtain ⟨f, fd, ps, ds, F, r⟩ := c.ex
  exact ⟨f, fd, ps, ds, F.imp h, r⟩
def spPred (s : Nat → Sp) : Nat → Sp
  | 0 => fun _ _ _ _ => False
  | n + 1 => s n
/-- a def that is not called -/
theorem cl_bot {CX : CXT} {x : Str} {st : Stmt} {ps : List Str} {s : Nat → Sp} (d : DefAt K mg x st ps) (k : Nat) : Cl P w K mg base CX k x (spPred s 0) [] := by
  obtain ⟨f, fd, F, hm, b⟩ := d.ex
  exact ⟨f, fd, ps, [], ⟨fun _ _ _ _ h => h.elim, fun _ _ _ _ _ _ _ _ _ _ _ _ _ h => h.elim⟩, hm, F.kp, b, .nil⟩
theorem cl_n {x : Str} {st : Stmt} {N ps : List Str} {k : Nat} {sp : Sp} (d : DefAt K mg x st ps) (S : FnScope N ps (L2.defScope st)) (len : ∀ vs H Q E, sp vs H Q E → vs.length = ps.length)
    (hbody : ∀ (f : Addr) (cdv : Value) (A : Around) (outer : List Env) (s : Shared) (H : Hp) (vs : List V) (Q : VK) (E : XK), Room k (A.deeper (envOfC x (L2.defScope st) s.heap.objs.size f cdv)) → sp vs H Q E →
      ∃ t, PSs (cxOf L2.CX0 P w K mg base N x (L2.defScope st) f cdv A outer s H E).nox (L2.defBody st) t ∧ t { nx := fun _ H' => Q .non H', rt := Q } (start N vs) H) : Cl P w K mg base L2.CX0 (k + 1) x sp [] := by
  obtain ⟨f, fd, F, hm, b⟩ := d.ex
  exact ⟨f, fd, ps, [], F.ok S len (fun cdv A outer s H vs Q E hr h => let ⟨t, a, q⟩ := hbody f cdv A outer s H vs Q E hr h; ⟨t, a.nox, q⟩), hm, F.kp, b, .nil⟩
theorem fn_n {x : Str} {st : Stmt} {N ps : List Str} {k : Nat} {sp : Sp} {f : Addr} {fd : FuncData} (F : FunD K x x (defArgs st) (defBody st) (defScope st) [] [] f fd) (S : FnScope N ps (L2.defScope st)) (len : ∀ vs H Q E, sp vs H Q E → vs.length = ps.length)
    (hbody : ∀ (f : Addr) (cdv : Value) (A : Around) (outer : List Env) (s : Shared) (H : Hp) (vs : List V) (Q : VK) (E : XK), Room k (A.deeper (envOfC x (L2.defScope st) s.heap.objs.size f cdv)) → sp vs H Q E →
      ∃ t, PSs (cxOf L2.CX0 P w K mg base N x (L2.defScope st) f cdv A outer s H E).nox (L2.defBody st) t ∧ t { nx := fun _ H' => Q .non H', rt := Q } (start N vs) H) : FnOk P w K mg base L2.CX0 (k + 1) f fd ps sp :=
  F.ok S len fun cdv A outer s H vs Q E hr h => let ⟨t, a, q⟩ := hbody f cdv A outer s H vs Q E hr h; ⟨t, a.nox, q⟩
theorem cl_x {x : Str} {st : Stmt} {N ps : List Str} {k : Nat} {sp : Sp} (d : DefAt K mg x st ps) (S : FnScope N ps (L2.defScope st)) (len : ∀ vs H Q E, sp vs H Q E → vs.length = ps.length)
    (hbody : ∀ (f : Addr) (cdv : Value) (A : Around) (outer : List Env) (s : Shared) (H : Hp) (vs : List V) (Q : VK) (E : XK), Room k (A.deeper (envOfC x (L2.defScope st) s.heap.objs.size f cdv)) → sp vs H Q E →
      ∃ t, PSs (cxOf (L2.CX P w) P w K mg base N x (L2.defScope st) f cdv A outer s H E) (L2.defBody st) t ∧ t { nx := fun _ H' => Q .non H', rt := Q } (start N vs) H) : Cl P w K mg base (L2.CX P w) (k + 1) x sp [] := by
  obtain ⟨f, fd, F, hm, b⟩ := d.ex
  exact ⟨f, fd, ps, [], F.ok S len (hbody f), hm, F.kp, b, .nil⟩
theorem mc_n {x q : Str} {C : Addr} {st : Stmt} {N ps : List Str} {k : Nat} {sp : Sp} (d : InitAt K mg x q C st ps) (S : FnScope N ps (L2.defScope st)) (len : ∀ vs H Q E, sp vs H Q E → vs.length = ps.length)
    (hbody : ∀ (f : Addr) (cdv : Value) (A : Around) (outer : List Env) (s : Shared) (H : Hp) (vs : List V) (Q : VK) (E : XK), Room k (A.deeper (envOfC q (L2.defScope st) s.heap.objs.size f cdv)) → sp vs H Q E →
      ∃ t, PSs (cxOf L2.CX0 P w K mg base N q (L2.defScope st) f cdv A outer s H E).nox (L2.defBody st) t ∧ t { nx := fun _ H' => Q .non H', rt := Q } (start N vs) H) : Mc P w K mg base L2.CX0 (k + 1) x C sp := by
  obtain ⟨f, fd, F, M, hm, b⟩ := d.ex
  exact ⟨f, fd, ps, M, F.ok S len (fun cdv A outer s H vs Q E hr h => let ⟨t, a, q⟩ := hbody f cdv A outer s H vs Q E hr h; ⟨t, a.nox, q⟩), hm, b⟩
end
section
variable {X : Cx} {CX : CXT} {K : PySem.W.Frag} {k j : Nat} {C : Addr} {x m f : Str} {sp : Sp} {dvs : List V} {p pos apos : Pos} {e o : Expr} {es : List Expr} {ta te : TE} {t : TA}
theorem z_call (c : Cl X.prog X.w X.K X.mg X.base L2.CX0 k x sp dvs) (hr : Room j X.A) (hk : k ≤ j) (hg : Gl X x) (ha : PA X (e :: es) t)
    (hdb : (x == ("__debug__" : Str)) = false := by decide) (he : starEach (e :: es) X.env = (false, eval e X.env) :: starEach es X.env := by rfl) (hpl : (backTo pos (starEach es X.env)).any (·.1) = false := by rfl) :
    PE X (.Call (.Name x p) (e :: es) [] pos) (tCall sp dvs L2.E0 t) := by
  obtain ⟨f, fd, ps, ds, F, hm, kp, b, d⟩ := c.ex
  exact pe_call F (hr.mono hk) hg hm kp b d L2.pass0 ha hdb he hpl
theorem z_call0 (c : Cl X.prog X.w X.K X.mg X.base L2.CX0 k x sp dvs) (hr : Room j X.A) (hk : k ≤ j) (hg : Gl X x) (hdb : (x == ("__debug__" : Str)) = false := by decide) : PE X (.Call (.Name x p) [] [] pos) (tCall sp dvs L2.E0 tNil) := by
  obtain ⟨f, fd, ps, ds, F, hm, kp, b, d⟩ := c.ex
  exact pe_call0 F (hr.mono hk) hg hm kp b d L2.pass0 hdb
/-- of a def that may raise, where it doesn't -/
theorem z_callQ (c : Cl X.prog X.w X.K X.mg X.base (L2.CX X.prog X.w) k x sp dvs) (hr : Room j X.A) (hk : k ≤ j) (hg : Gl X x) (ha : PA X (e :: es) t)
    (hdb : (x == ("__debug__" : Str)) = false := by decide) (he : starEach (e :: es) X.env = (false, eval e X.env) :: starEach es X.env := by rfl) (hpl : (backTo pos (starEach es X.env)).any (·.1) = false := by rfl) :
    PE X (.Call (.Name x p) (e :: es) [] pos) (tCall sp dvs L2.E0 t) := by
  obtain ⟨f, fd, ps, ds, F, hm, kp, b, d⟩ := c.ex
  exact pe_call F (hr.mono hk) hg hm kp b d L2.passL ha hdb he hpl
/-- .. where it may -/
theorem z_callX {W : WX} (c : Cl X.prog X.w X.K X.mg X.base (L2.CX X.prog X.w) k x sp []) (hr : Room j X.A) (hk : k ≤ j) (hg : Gl X x) (tk : Takes X W) (ha : PA X (e :: es) t)
    (hdb : (x == ("__debug__" : Str)) = false := by decide) (he : starEach (e :: es) X.env = (false, eval e X.env) :: starEach es X.env := by rfl) (hpl : (backTo pos (starEach es X.env)).any (·.1) = false := by rfl) :
    PE X (.Call (.Name x p) (e :: es) [] pos) (tCallS sp (WE W) t) := by
  obtain ⟨f, fd, ps, ds, F, hm, kp, b, d⟩ := c.ex
  cases d
  exact pe_callS F (hr.mono hk) hg hm kp b (fun σ => passAt tk σ) ha hdb he hpl
theorem z_make (c : Mc X.prog X.w X.K X.mg X.base L2.CX0 k x C sp) (hr : Room j X.A) (hk : k + 1 ≤ j) (hg : Gl X x) (ha : PA X (e :: es) t)
    (hdb : (x == ("__debug__" : Str)) = false := by decide) (he : starEach (e :: es) X.env = (false, eval e X.env) :: starEach es X.env := by rfl) (hpl : (backTo pos (starEach es X.env)).any (·.1) = false := by rfl) :
    PE X (.Call (.Name x p) (e :: es) [] pos) (tMake C sp [] L2.E0 t) := by
  obtain ⟨f, fd, ps, M, F, hm, b⟩ := c.ex
  exact pe_make M F (hr.mono hk) hg hm b .nil L2.pass0 ha hdb he hpl
theorem z_fld (hK : X.K = K) (he : PE X e ta) (hb : attributeBase e f X.env (eval e X.env) = eval e X.env := by rfl) : PE X (.Attribute e f pos) (tFld K ta f) := by subst hK; exact pe_fld he hb
theorem z_sfld {value : Expr} {tv : TE} {pos' : Pos} (hK : X.K = K) (ha : PE X o ta) (hv : PE X value tv) (hs : swapsWith value (some (.Attribute o f pos')) pos.line X.env = pure false := by rfl) : PS X (.Assign [.Attribute o f pos'] value pos) (sFld K ta tv f) := by subst hK; exact ps_fld ha hv hs
theorem z_gtup {es : List Expr} {k : Nat} {t : TGs} {n : Nat} (hK : X.K = K) (hc : X.calm = true) (h : PGs X es t)
    (hn : (assignEach es X.env).length = n := by rfl) (hst : (assignEach es X.env).findIdx? (·.1) = none := by rfl) : PG X (.Tuple es k pos) (gTup K n t) := by subst hK; exact pg_tup hc h hn hst
theorem z_par {i j : Nat} {x y : Str} {a b : Expr} {px py pt : Pos} {kt k2 pt2} (hN : X.N.Nodup) (hi : X.N[i]? = some x) (hj : X.N[j]? = some y) (hij : i ≠ j) (ha : PA X [a, b] t)
    (hc : X.calm = true := by rfl) (hx : X.env.scope.names.lookup x = some .local := by rfl) (hy : X.env.scope.names.lookup y = some .local := by rfl)
    (hw : swappedStores [.Tuple [.Name x px, .Name y py] kt pt] (.Tuple [a, b] k2 pt2) X.env = pure (some [x, y]) := by rfl)
    (hs : swapsWithSole [.Tuple [.Name x px, .Name y py] kt pt] (.Tuple [a, b] k2 pt2) pos.line X.env = pure false := by rfl) :
    PS X (.Assign [.Tuple [.Name x px, .Name y py] kt pt] (.Tuple [a, b] k2 pt2) pos) (tPar i j t) := ps_par hc hN hi hj hij hx hy ha hw hs
theorem z_setLc {i : Nat} {y : Str} {py : Pos} {elt tg iter : Expr} {ifs : List Expr} {scope : Scope} {own : List (Str × Nat)} {pos spos : Pos} {wi : TI} {g : TG} {tt : TT} {te : TE} (hN : X.N.Nodup) (hi : PI X tg iter wi) (ok : BlkOk X.N X.env.scope scope own)
    (hg : ∀ (s : Shared) (H : Hp) (C : Addr) (cl : List (Str × Addr)) (fp : List Addr), PG (X.blk s H scope (compEnvC scope cl C X.env) fp) tg g) (ht : ∀ (s : Shared) (H : Hp) (C : Addr) (cl : List (Str × Addr)) (fp : List Addr), PTs (X.blk s H scope (compEnvC scope cl C X.env) fp) ifs tt)
    (he : ∀ (s : Shared) (H : Hp) (C : Addr) (cl : List (Str × Addr)) (fp : List Addr), PE (X.blk s H scope (compEnvC scope cl C X.env) fp) elt te) (hc : X.calm = true := by rfl) (hy : X.N[i]? = some y := by rfl) (hyl : X.env.scope.names.lookup y = some .local := by rfl)
    (hsw : swapsWith (.ListComp elt [⟨tg, iter, ifs, 0⟩] scope pos) (some (.Name y py)) spos.line X.env = pure true := by rfl) (hs : ∀ x, foldedSetIterable iter X.env x = pure x := by intro _; rfl) :
    PS X (.Assign [.Name y py] (.ListComp elt [⟨tg, iter, ifs, 0⟩] scope pos) spos) (tAsg (tLc wi g tt te (own.map (·.2))) (gName i)) := ps_setLc hc hN hy hyl hsw hi ok hg ht he hs
theorem z_bm0 {T : String} {name : Str} {id : String} {r : V → List V → Hp → VK → Prop} {to : TE} (hK : X.K = K) (pa : PlainAttrs T) (slot : Slot T name id) (hty : typeOf (.builtin id) = pure (.type "method_descriptor")) (hm : MtR X id r) (ho : PE X o to)
    (hbase : attributeBase o name X.env (eval o X.env) = eval o X.env := by rfl) (hline : (apos.endLine == pos.line) = true := by rfl) : PE X (.Call (.Attribute o name apos) [] [] pos) (tBM0 K T r to) := by subst hK; exact pe_bm0 pa slot hty hm ho hbase hline
theorem z_bm {T : String} {name : Str} {id : String} {r : V → List V → Hp → VK → Prop} {to : TE} (hK : X.K = K) (pa : PlainAttrs T) (slot : Slot T name id) (hty : typeOf (.builtin id) = pure (.type "method_descriptor")) (hm : MtR X id r) (ho : PE X o to) (ha : PA X (e :: es) t)
    (hbase : attributeBase o name X.env (eval o X.env) = eval o X.env := by rfl)
    (hfew : ((backTo pos (starEach (e :: es) X.env)).all (fun x => !x.1) && (backToKw pos (keywordEach [] X.env)).all (fun x => x.1.isSome)
      && decide ((e :: es).length + ([] : List Keyword).length + (if ([] : List Keyword).isEmpty then 0 else 1) < 30)) = true := by rfl)
    (hline : (apos.endLine == pos.line) = true := by rfl) (hs : starEach (e :: es) X.env = (false, eval e X.env) :: starEach es X.env := by rfl) (hplain : (backTo pos (starEach es X.env)).any (·.1) = false := by rfl) :
    PE X (.Call (.Attribute o name apos) (e :: es) [] pos) (tBM K T r to t) := by subst hK; exact pe_bm pa slot hty hm ho ha hbase hfew hline hs hplain
end
/-! ### operators on any values -/
section
variable {X : Cx} {K : PySem.W.Frag}
def rAddA (K : PySem.W.Frag) : R2 := fun x y H Q => (rI0 fun i j => .int (i + j)) x y H Q ∨ ((fun x y H Q => ∃ i j, x = .str i ∧ y = .str j ∧ i.length + j.length ≤ sizeLine ∧ Q (.str (i ++ j)) H) : R2) x y H Q ∨ rCat x y H Q ∨ rCatT K x y H Q
theorem o_add (hK : X.K = K) : OpR X (binaryOp .Add) (rAddA K) := by subst hK; exact op_add.or (op_add_str.or (op_cat.or op_catT))
def rSubA : R2 := rI0 fun i j => .int (i - j)
theorem o_sub : OpR X (binaryOp .Sub) rSubA := op_sub
/-- i * j: together at most 2^27 bits; a list some times -/
def repS (z : Str) (n : Nat) : Str := ⟨(List.replicate n z.cps.toList).flatten.toArray⟩
def rRepS : R2 := fun x y H Q => ∃ z k, x = .str z ∧ y = .int k ∧ (0 ≤ k ∧ k ≤ 1000000) ∧ z.length * k.toNat ≤ 1000000 ∧ Q (.str (repS z k.toNat)) H
theorem foldl_repN (l : List Nat) : ∀ (k : Nat) (acc : List Nat), List.foldl (fun x1 x2 => x1 ++ x2) acc.toArray (List.replicate k l.toArray) = (acc ++ (List.replicate k l).flatten).toArray
  | 0, acc => by simp
  | k + 1, acc => by
    have e : acc.toArray ++ l.toArray = (acc ++ l).toArray := by simp
    rw [List.replicate_succ, List.foldl_cons, e, foldl_repN l k (acc ++ l), List.replicate_succ, List.flatten_cons, List.append_assoc]
theorem flatten_nils {α : Type} (k : Nat) : (List.replicate k ([] : List α)).flatten = [] := by
  induction k with
  | zero => rfl
  | succ k ih => rw [List.replicate_succ, List.flatten_cons, ih]; rfl
theorem op_repS : OpR X (binaryOp .Mult) rRepS := by
  intro pins s σ H x y v u Q I rx ry h
  obtain ⟨z, k, rfl, rfl, ⟨h0, h1⟩, hz, q⟩ := h
  obtain ⟨t, rfl⟩ := rx
  obtain ⟨t', rfl⟩ := ry
  have fin : ∀ (z' : Str) (t : Tok) (s' : Nat), z' = repS z k.toNat → ∃ v' H', Inv X pins σ H' { s with toks := s' } ∧ RelV v' (.str z' t) ∧ Q v' H' := fun z' t s' e => ⟨.str z', H, I.tok _, ⟨_, rfl⟩, by rw [e]; exact q⟩
  refine PySem.P.mul_str (by rw [decide_eq_false (by omega), decide_eq_false (by omega)]; rfl) (fun _ _ => ?_) (fun _ _ => ?_) ?_
  · have e : (z.length : Int) * k ≤ 2 ^ 63 - 1 := by
      have e1 : ((z.length * k.toNat : Nat) : Int) = (z.length : Int) * k := by rw [Int.natCast_mul]; congr 1; omega
      rw [← e1]; omega
    have e2 : (z.length : Int) ≤ (2 ^ 63 - 1) / k := Int.le_ediv_of_mul_le (by omega) e
    omega
  · show decide (_ > sizeLine) = false
    have : (1000000 : Nat) ≤ sizeLine := by decide
    exact decide_eq_false (by omega)
  · by_cases c : k < 1
    · rw [if_pos c]
      have e : k = 0 := by omega
      subst e
      exact ⟨by decide, fin _ _ _ rfl⟩
    · rw [if_neg c]
      by_cases c2 : (k == 1 || z.length == 0) = true
      · rw [if_pos c2]
        refine fin z t s.toks ?_
        rcases Bool.or_eq_true_iff.mp c2 with d | d
        · have e : k = 1 := by simpa using d
          subst e
          show z = ⟨(List.replicate 1 z.cps.toList).flatten.toArray⟩
          simp
        · have e : z.cps.toList = [] := by
            have d' : z.length = 0 := by simpa using d
            have d2 : z.cps.size = 0 := d'
            exact List.eq_nil_of_length_eq_zero (by simpa using d2)
          show z = ⟨(List.replicate k.toNat z.cps.toList).flatten.toArray⟩
          rw [e, flatten_nils]
          have : z = ⟨z.cps.toList.toArray⟩ := by simp
          rw [this, e]
      · rw [if_neg c2]
        have e := foldl_repN z.cps.toList k.toNat []
        rw [List.nil_append] at e
        have e' : (⟨(List.replicate k.toNat z.cps).foldl (· ++ ·) #[]⟩ : Str) = repS z k.toNat := by
          have e3 : z.cps = z.cps.toList.toArray := by simp
          unfold repS
          rw [← e, ← e3]
        rw [e']
        refine ⟨?_, fin _ _ _ rfl⟩
        have : (1000000 : Nat) ≤ sizeLine := by decide
        have e4 : (repS z k.toNat).length = z.length * k.toNat := by
          show (List.replicate k.toNat z.cps.toList).flatten.toArray.size = _
          rw [List.size_toArray, List.length_flatten, List.map_replicate, List.sum_replicate_nat, Array.length_toList]
          exact Nat.mul_comm _ _
        rw [e4]; omega
def rMulA (K : PySem.W.Frag) : R2 := fun x y H Q => rI CMulX (fun i j => .int (i * j)) x y H Q ∨ rRep x y H Q ∨ rRepS x y H Q
theorem o_mul (hK : X.K = K) : OpR X (binaryOp .Mult) (rMulA K) := op_mulX.or (op_rep.or op_repS)
def rDivA : R2 := rI CDivW fun i j => .int (i / j)
theorem o_div : OpR X (binaryOp .FloorDiv) rDivA := op_fdivW
def rModA : R2 := rI (fun _ j => 0 < j) fun i j => .int (i % j)
theorem o_mod : OpR X (binaryOp .Mod) rModA := op_mod
def rPowA : R2 := rI CPow fun i j => .int (i ^ j.toNat)
theorem o_pow : OpR X (binaryOp .Pow) rPowA := op_pow
def rShlA : R2 := rI CShl fun i j => .int (i * 2 ^ j.toNat)
theorem o_shl : OpR X (binaryOp .LShift) rShlA := op_shlW
def rShrA : R2 := rI (fun _ j => 0 ≤ j) fun i j => .int (i / 2 ^ j.toNat)
theorem o_shr : OpR X (binaryOp .RShift) rShrA := op_shr
def rAndA : R2 := rI0 fun i j => .int (Builtin.bitAnd i j)
theorem o_and : OpR X (binaryOp .BitAnd) rAndA := op_and
def rOrA : R2 := rI0 fun i j => .int (Builtin.bitOr i j)
theorem o_or : OpR X (binaryOp .BitOr) rOrA := op_or
def rXorA : R2 := rI0 fun i j => .int (Builtin.bitXor i j)
theorem o_xor : OpR X (binaryOp .BitXor) rXorA := op_xor
/-- a dict of the top: some of its keys -/
def WDict (K : PySem.W.Frag) (w : World) (a : Addr) (kvs : List (Str × V)) : Prop := (∃ es n, KDict K w a es n) ∧ ∀ q ∈ kvs, ∃ u, PySem.W.nsIn K a q.1 = some (some u) ∧ RelV q.2 u
/-- xs[i], t[i], s[i], d[k] -/
def rIxA (w : World) (K : PySem.W.Frag) : R2 := fun x y H Q => rIx K x y H Q ∨ (∃ a v, x = .ref a ∧ DGet H a y (some v) ∧ Q v H) ∨ ∃ d z v kvs, x = .ref d ∧ y = .str z ∧ WDict K w d kvs ∧ (z, v) ∈ kvs ∧ Q v H
theorem ix_dict (hu : X.A.units + 1 < cLine) : IxR X (fun x y H Q => ∃ a v, x = .ref a ∧ DGet H a y (some v) ∧ Q v H) := by
  intro value slice pins s σ H x y v u Q I rx ry h hs
  obtain ⟨a, z, rfl, g, q⟩ := h
  cases rx
  exact tail_any (dict_typeIs I g) PySem.F.slot_dict_getitem.lookup (d_getItem hu I g ry fun w' s' I' r' => ⟨z, H, I', r', q⟩) hs
theorem ix_kd : IxR X (fun x y H Q => ∃ d z v kvs, x = .ref d ∧ y = .str z ∧ WDict X.K X.w d kvs ∧ (z, v) ∈ kvs ∧ Q v H) := by
  intro value slice pins s σ H x y v u Q I rx ry h hs
  obtain ⟨d, z, v0, kvs, rfl, rfl, ⟨⟨es, n, D⟩, hk⟩, hm, q⟩ := h
  obtain ⟨u0, e0, r0⟩ := hk _ hm
  cases rx
  exact tail_any (kd_type D I) PySem.F.slot_dict_getitem.lookup (op_item_kd D pins s σ H (V.ref d) (V.str z) (Value.ref d) _ Q I (Eq.refl (Value.ref d)) ry ⟨z, u0, v0, rfl, rfl, e0, r0, q⟩) hs
theorem o_ix {w : World} (hK : X.K = K) (hw : X.w = w) (hu : X.A.units + 1 < cLine) : IxR X (rIxA w K) := by subst hK hw; exact ix_seq.or ((ix_dict hu).or ix_kd)
/-- == of flat things, of data -/
def rEqA (K : PySem.W.Frag) : R2 := fun x y H Q => rEq x y H Q ∨ rEqD K x y H Q
def rNeA (K : PySem.W.Frag) : R2 := fun x y H Q => rNe x y H Q ∨ rNeD K x y H Q
theorem o_eq (hK : X.K = K) (hu : X.A.units + 64 < cLine) : OpR X (compareOp .Eq) (rEqA K) := by subst hK; exact op_eq.or (op_eqD hu)
theorem o_ne (hK : X.K = K) (hu : X.A.units + 64 < cLine) : OpR X (compareOp .NotEq) (rNeA K) := by subst hK; exact op_ne.or (op_neD hu)
/-- in: flat things of a list, a tuple; a key of a dict; a sign of a text -/
def rInA (w : World) (K : PySem.W.Frag) (neg : Bool) : R2 := fun x y H Q => rIn K neg x y H Q ∨ (∃ a o, y = .ref a ∧ DGet H a x o ∧ Q (.bl (if neg then !o.isSome else o.isSome)) H) ∨ (∃ (c : Nat) (z : Str), x = .str ⟨#[c]⟩ ∧ y = .str z ∧ Q (.bl (if neg then !decide (c ∈ z.cps.toList) else decide (c ∈ z.cps.toList))) H) ∨
  ∃ d z v kvs, y = .ref d ∧ x = .str z ∧ WDict K w d kvs ∧ (z, v) ∈ kvs ∧ Q (.bl (!neg)) H
theorem op_inD (hu : X.A.units + 1 < cLine) : OpR X (compareOp .In) (fun x y H Q => ∃ a o, y = .ref a ∧ DGet H a x o ∧ Q (.bl o.isSome) H) := by
  intro pins s σ H x y u v Q I rx ry h
  obtain ⟨a, o, rfl, g, q⟩ := h
  cases ry
  exact d_in hu I g rx fun s' I' => ⟨.bl _, H, I', rfl, q⟩
theorem op_ninD (hu : X.A.units + 1 < cLine) : OpR X (compareOp .NotIn) (fun x y H Q => ∃ a o, y = .ref a ∧ DGet H a x o ∧ Q (.bl (!o.isSome)) H) := by
  intro pins s σ H x y u v Q I rx ry h
  obtain ⟨a, o, rfl, g, q⟩ := h
  cases ry
  exact d_notIn hu I g rx fun s' I' => ⟨.bl _, H, I', rfl, q⟩
theorem op_inW : OpR X (compareOp .In) (fun x y H Q => ∃ d z v kvs, y = .ref d ∧ x = .str z ∧ WDict X.K X.w d kvs ∧ (z, v) ∈ kvs ∧ Q (.bl (!false)) H) := by
  intro pins s σ H x y u v Q I rx ry h
  obtain ⟨d, z, v0, kvs, rfl, rfl, ⟨⟨es, n, D⟩, hk⟩, hm, q⟩ := h
  obtain ⟨u0, e0, r0⟩ := hk _ hm
  exact op_in_kd D pins s σ H _ _ _ _ Q I rx ry ⟨z, _, rfl, rfl, e0, q⟩
theorem op_ninW : OpR X (compareOp .NotIn) (fun x y H Q => ∃ d z v kvs, y = .ref d ∧ x = .str z ∧ WDict X.K X.w d kvs ∧ (z, v) ∈ kvs ∧ Q (.bl (!true)) H) := by
  intro pins s σ H x y u v Q I rx ry h
  obtain ⟨d, z, v0, kvs, rfl, rfl, ⟨⟨es, n, D⟩, hk⟩, hm, q⟩ := h
  obtain ⟨u0, e0, r0⟩ := hk _ hm
  exact op_notIn_kd D pins s σ H _ _ _ _ Q I rx ry ⟨z, _, rfl, rfl, e0, q⟩
theorem o_in {w : World} (hK : X.K = K) (hw : X.w = w) (hu : X.A.units + 1 < cLine) : OpR X (compareOp .In) (rInA w K false) := by subst hK hw; exact op_in_seq.or ((op_inD hu).or (op_in_sign.or op_inW))
theorem o_nin {w : World} (hK : X.K = K) (hw : X.w = w) (hu : X.A.units + 1 < cLine) : OpR X (compareOp .NotIn) (rInA w K true) := by subst hK hw; exact op_notIn_seq.or ((op_ninD hu).or (op_notIn_sign.or op_ninW))
/-- is, is not None -/
def rIsA : R2 := fun x y H Q => y = .non ∧ Q (.bl (decide (x = .non))) H
def rIsNotA : R2 := fun x y H Q => y = .non ∧ Q (.bl (!decide (x = .non))) H
theorem o_is : OpR X (compareOp .Is) rIsA := op_isN
theorem o_isnot : OpR X (compareOp .IsNot) rIsNotA := op_notN
/-- slices -/
def rSlA (K : PySem.W.Frag) : V → Option Int → Option Int → Hp → VK → Prop := fun x lo hi H Q => rSlL K x lo hi H Q ∨ rSlT K x lo hi H Q ∨ C8.rSlX x lo hi H Q
theorem s_any (hK : X.K = K) : SlR X (rSlA K) := by subst hK; exact sl_list.or (sl_tup.or C8.sl_txt)
/-- stores -/
def rSetA : V → V → V → Hp → (Hp → Prop) → Prop := fun o i v H Q => rSetL o i v H Q ∨ ∃ a H', o = .ref a ∧ DPut H a i v H' ∧ Q H'
theorem o_set (hu : X.A.units + 1 < cLine) : PSet X rSetA := by
  intro pins s σ H o i v ov iv u Q I ro ri rv h
  rcases (show rSetL o i v H Q ∨ ∃ a H', o = .ref a ∧ DPut H a i v H' ∧ Q H' from h) with h | ⟨a, H', rfl, g, q⟩
  · exact set_list pins s σ H o i v ov iv u Q I ro ri rv h
  · cases ro
    exact d_setItem hu I g ri rv fun s' I' => ⟨H', I', q⟩
/-- name op= e -/
def ipI (g : Int → Int → V) : TIp := fun x y H Q => ∃ i j, x = .int i ∧ y = .int j ∧ Q (g i j) H
theorem i_of {op : Operator} {r : R2} (h : OpR X (inplaceOp op) r) : PIp X op r := fun pins s σ H x y v u Q I rx ry q => h pins s σ H x y v u Q I rx ry q
theorem i_add : PIp X .Add (fun x y H Q => (rI0 fun i j => .int (i + j)) x y H Q ∨ ((fun x y H Q => ∃ i j, x = .str i ∧ y = .str j ∧ i.length + j.length ≤ sizeLine ∧ Q (.str (i ++ j)) H) : R2) x y H Q) := i_of (iop_add.or iop_add_str)
theorem i_sub : PIp X .Sub rSubA := i_of iop_sub
end
/-! ### built-in calls -/
section
variable {X : Cx} {K : PySem.W.Frag}
def rLenA (K : PySem.W.Frag) : List V → Hp → VK → Prop := fun xs H Q => (∃ p ys, xs = [.ref p] ∧ (SqL K H p ys ∨ SqT K H p ys) ∧ Q (.int ys.length) H) ∨ (∃ z, xs = [.str z] ∧ z.length ≤ sizeLine ∧ Q (.int z.length) H) ∨ ∃ a kvs, xs = [V.ref a] ∧ H a = some (.dK kvs) ∧ Q (.int kvs.length) H
theorem c_len (hK : X.K = K) : CallR X (.builtin "len") (rLenA K) := by subst hK; exact call_len_seq.or (call_len_str.or call_lenD)
theorem c_divmod : CallR X (.builtin "divmod") (fun xs H Q => ∃ i j, xs = [.int i, .int j] ∧ CDivP i j ∧ ∀ p, H p = none → Q (.ref p) (upd H p (.tup [.int (i / j), .int (i % j)]))) := call_divmodW
def rIntA : List V → Hp → VK → Prop := fun xs H Q => (∃ i, xs = [.int i] ∧ Q (.int i) H) ∨ ∃ k, xs = [.bl k] ∧ Q (.int (if k then 1 else 0)) H
theorem c_int : CallR X (.type "int") rIntA := call_int1
def rStrA : List V → Hp → VK → Prop := fun xs H Q => (∃ i, xs = [.int i] ∧ i.natAbs.log2 < 1920 ∧ Q (.str (toString i)) H) ∨ ∃ a, xs = [.str a] ∧ Q (.str a) H
theorem c_str : CallR X (.type "str") rStrA := call_str_int.or SkE.call_str_str
def rMaxA (K : PySem.W.Frag) : List V → Hp → VK → Prop := fun xs H Q => (∃ i j, xs = [.int i, .int j] ∧ Q (.int (if j > i then j else i)) H) ∨ rMax K xs H Q
theorem c_max (hK : X.K = K) (hc : X.calm = true) : CallR X (.builtin "max") (rMaxA K) := by subst hK; exact (call_max2 hc).or (cr_max hc)
def rMinA : List V → Hp → VK → Prop := fun xs H Q => ∃ i j, xs = [.int i, .int j] ∧ Q (.int (if j < i then j else i)) H
theorem c_min (hK : X.K = K) (hc : X.calm = true) : CallR X (.builtin "min") rMinA := call_min2 hc
theorem c_sum (hK : X.K = K) (hc : X.calm = true) : CallR X (.builtin "sum") (rSum K) := by subst hK; exact cr_sum hc
theorem c_all (hK : X.K = K) (hc : X.calm = true) : CallR X (.builtin "all") (rAll K) := by subst hK; exact cr_all hc
def rListA (K : PySem.W.Frag) : List V → Hp → VK → Prop := fun xs H Q => (∃ p ys, xs = [.ref p] ∧ (SqL K H p ys ∨ SqT K H p ys) ∧ ∀ l, H l = none → Q (.ref l) (upd H l (.lst ys))) ∨ (∃ (a : Addr) (kvs : List (Key × V)), xs = [.ref a] ∧ Rd H a (.dK kvs) ∧ ∀ p, H p = none → Q (.ref p) (upd H p (.lst (kvs.map fun kv => kV kv.1))))
theorem c_list (hK : X.K = K) (hc : X.calm = true) : CallR X (.type "list") (rListA K) := by subst hK; exact call_list_of.or (call_listD hc)
def rTupA (K : PySem.W.Frag) : List V → Hp → VK → Prop := fun xs H Q => ∃ p ys, xs = [.ref p] ∧ ((SqL K H p ys ∧ ∀ l, H l = none → Q (.ref l) (upd H l (.tup ys))) ∨ (SqT K H p ys ∧ Q (.ref p) H))
theorem c_tuple (hK : X.K = K) : CallR X (.type "tuple") (rTupA K) := by subst hK; exact call_tuple_of
def rDictA (K : PySem.W.Frag) : List V → Hp → VK → Prop := fun xs H Q => (∃ (a : Addr) (kvs : List (Key × V)), xs = [.ref a] ∧ Rd H a (.dK kvs) ∧ ∀ p, H p = none → Q (.ref p) (upd H p (.dK kvs))) ∨ ∃ (a : Addr) (ps : List Addr) (kvs : List (Key × V)), xs = [.ref a] ∧ SqL K H a (ps.map V.ref) ∧ Paired (fun p kv => SqT K H p [kV kv.1, kv.2]) ps kvs ∧ ∀ p, H p = none → Q (.ref p) (upd H p (.dK (mergeK [] kvs)))
theorem c_dict (hK : X.K = K) (hc : X.calm = true) : CallR X (.type "dict") (rDictA K) := by subst hK; exact call_dictD.or (call_dictP hc)
def rJoinA (K : PySem.W.Frag) : V → List V → Hp → VK → Prop := fun x xs H Q => ∃ a p, ∃ ys : List Str, x = .str a ∧ xs = [.ref p] ∧ (SqL K H p (ys.map V.str) ∨ SqT K H p (ys.map V.str)) ∧
    (ys.map (·.length)).sum + ys.length * a.length ≤ 16777216 ∧ Q (.str (Txt.join a ys)) H
theorem m_join (hK : X.K = K) : MtR X "str.join" (rJoinA K) := by subst hK; exact mt_join
end
end Z

namespace Z
open PySem L2 PyProof.Rows
/-! heaps: all but S kept, what never changes kept, nothing freed -/
def Imm : HO → Prop
  | .tup _ => True
  | .ins _ _ ((f, _) :: _) => f = "word" ∨ f = "boxes"
  | _ => False
structure Kp (S : List Addr) (H H' : Hp) : Prop where
  k : ∀ a o, a ∉ S → H a = some o → H' a = some o
  t : ∀ a o, Imm o → H a = some o → H' a = some o
  n : ∀ a, H' a = none → H a = none
theorem Kp.refl {S : List Addr} {H : Hp} : Kp S H H := ⟨fun _ _ _ h => h, fun _ _ _ h => h, fun _ h => h⟩
theorem Kp.trans {S : List Addr} {H H1 H2 : Hp} (a : Kp S H H1) (b : Kp S H1 H2) : Kp S H H2 :=
  ⟨fun x o n h => b.k x o n (a.k x o n h), fun x o i h => b.t x o i (a.t x o i h), fun x h => a.n x (b.n x h)⟩
theorem Kp.mono {S S' : List Addr} {H H1 : Hp} (a : Kp S H H1) (s : ∀ x ∈ S, x ∈ S') : Kp S' H H1 := ⟨fun x o n h => a.k x o (fun z => n (s x z)) h, a.t, a.n⟩
theorem Kp.up {S : List Addr} {H H1 : Hp} (a : Kp [] H H1) : Kp S H H1 := a.mono fun _ z => nomatch z
theorem Kp.new {S : List Addr} {H : Hp} {p : Addr} {o : HO} (h : H p = none) : Kp S H (upd H p o) :=
  ⟨fun a u _ e => by rw [upd_ne (ne_of_none e h)]; exact e, fun a u _ e => by rw [upd_ne (ne_of_none e h)]; exact e, fun a e => by
    by_cases q : a = p
    · rw [q]; exact h
    · rw [upd_ne q] at e; exact e⟩
/-- what may change is written, at p in S -/
theorem Kp.wr {S : List Addr} {H : Hp} {p : Addr} {o u : HO} (hp : p ∈ S) (h : H p = some u) (nt : ¬ Imm u) : Kp S H (upd H p o) :=
  ⟨fun a w n e => by rw [upd_ne (fun z => n (by rw [z]; exact hp))]; exact e, fun a w i e => by
    rw [upd_ne (fun z => by rw [z, h] at e; cases e; exact nt i)]; exact e, fun a e => by
    by_cases q : a = p
    · rw [q, upd_same] at e; cases e
    · rw [upd_ne q] at e; exact e⟩
/-- what was not there at the outset changes -/
theorem Kp.ch {S : List Addr} {H0 H : Hp} {p : Addr} {o : HO} (k : Kp S H0 H) (h : H0 p = none) : Kp S H0 (upd H p o) :=
  ⟨fun a w n e => by rw [upd_ne (ne_of_none e h)]; exact k.k a w n e, fun a w i e => by rw [upd_ne (ne_of_none e h)]; exact k.t a w i e, fun a e => by
    by_cases q : a = p
    · rw [q]; exact h
    · rw [upd_ne q] at e; exact k.n a e⟩
/-- what a call with its own box changed, the box not being there at the outset -/
theorem Kp.drop {S : List Addr} {H0 H H' : Hp} {b : Addr} (k : Kp S H0 H) (h : H0 b = none) (c : Kp (b :: S) H H') : Kp S H0 H' :=
  ⟨fun a w n e => c.k a w (by simp only [List.mem_cons, not_or]; exact ⟨ne_of_none e h, n⟩) (k.k a w n e), fun a w i e => c.t a w i (k.t a w i e), fun a e => k.n a (c.n a e)⟩
theorem Kp.l {H H' : Hp} {S : List Addr} {K : PySem.W.Frag} {a : Addr} {xs : List V} (e : Kp S H H') (n : a ∉ S) (h : SqL K H a xs) : SqL K H' a xs := by
  rcases h with (h | ⟨o, h⟩) | h
  · exact .inl (.inl (e.k _ _ n h))
  · exact .inl (.inr ⟨o, e.k _ _ n h⟩)
  · exact .inr h
/-- a tuple, made or written -/
def Tu (K : PySem.W.Frag) (H : Hp) (p : Addr) (xs : List V) : Prop := H p = some (.tup xs) ∨ ∃ (o : Obj) (its : Array Value) (n : Nat), K.lookup p = some o ∧ o.cls = .type "tuple" ∧ o.data = .seq its n ∧ its.size ≤ sizeLine ∧ Vals xs its.toList
theorem Tu.sq {K : PySem.W.Frag} {H : Hp} {p : Addr} {xs : List V} (h : Tu K H p xs) : SqT K H p xs := by
  rcases h with h | h
  · exact .inl (.inl h)
  · exact .inr h
/-- a tuple of the top -/
theorem tu_of {K : PySem.W.Frag} {p : Addr} {xs : List V} (h : ∀ H, SqT K H p xs) (H : Hp) : Tu K H p xs := by
  rcases h (fun _ => none) with (h | ⟨o, h⟩) | h
  · cases h
  · cases h
  · exact .inr h
theorem Tu.of {K : PySem.W.Frag} {H : Hp} {p : Addr} {xs : List V} (h : H p = some (.tup xs)) : Tu K H p xs := .inl h
theorem Tu.up {S : List Addr} {K : PySem.W.Frag} {H H' : Hp} {p : Addr} {xs : List V} (e : Kp S H H') (h : Tu K H p xs) : Tu K H' p xs := by
  rcases h with h | h
  · exact .inl (e.t _ _ trivial h)
  · exact .inr h
theorem ne_nn {H : Hp} {a b : Addr} {o : HO} (h' : H b = none) (h : H a = some o) : a ≠ b := ne_of_none h h'
theorem ne_cc {H : Hp} {a b : Addr} {o u : HO} (h : H a = some o) (h' : H b = some u) (d : o ≠ u) : a ≠ b := ne_of h h' d
theorem upd_other {H : Hp} {p a : Addr} {o u : HO} (h : a ≠ p) (e : H a = some u) : upd H p o a = some u := by rw [upd_ne h]; exact e
theorem upd_keep {H : Hp} {p a : Addr} {o u : HO} (h : H p = none) (e : H a = some u) : upd H p o a = some u := by rw [upd_ne (ne_of_none e h)]; exact e

section
variable {K : PySem.W.Frag} {σ : L2.St} {H : Hp} {Q : VK} {D : Ends} {te ta tb : TE} {t u : TS} {v x y : V} {i : Nat} {g : TG}
theorem g_var (h : σ[i]? = some (some v)) (q : Q v H) : tVar i σ H Q := ⟨v, h, q⟩
theorem g_c (q : Q v H) : tC v σ H Q := q
theorem g_seq (h : t { D with nx := u D } σ H) : tSeq t u D σ H := h
theorem g_next (h : D.nx σ H) : tNext D σ H := h
theorem g_asg (h : te σ H fun x H1 => g x σ H1 D.nx) : tAsg te g D σ H := h
theorem g_name {Q : L2.St → Hp → Prop} (h : Q (σ.set i (some v)) H) : gName i v σ H Q := h
theorem g_ret (h : te σ H D.rt) : tRet te D σ H := h
theorem g_drop (h : te σ H fun _ H1 => D.nx σ H1) : tDrop te D σ H := h
theorem g_op {r : R2} (h : ta σ H fun x H1 => tb σ H1 fun y H2 => r x y H2 Q) : tOp r ta tb σ H Q := h
theorem g_un {r : V → Hp → VK → Prop} (h : ta σ H fun x H1 => r x H1 Q) : tUn r ta σ H Q := h
theorem g_if {c : TT} (h : c σ H fun b H1 => if b = true then t D σ H1 else u D σ H1) : tIfS c t u D σ H := h
theorem g_test {Q : Bool → Hp → Prop} (h : te σ H fun x H' => ∃ k, x = .bl k ∧ Q k H') : tTest te σ H Q := h
theorem g_B {Q : Bool → Hp → Prop} (h : te σ H fun x H' => ∃ k, x = .bl k ∧ Q k H') : tB te σ H Q := h
theorem g_bl {b : Bool} {Q : Bool → Prop} (h : Q b) : ∃ k, V.bl b = .bl k ∧ Q k := ⟨b, rfl, h⟩
theorem g_and {a b : TT} {Q : Bool → Hp → Prop} (h : a σ H fun c H1 => if c = true then b σ H1 Q else Q false H1) : tAnd a b σ H Q := h
theorem g_or {a b : TT} {Q : Bool → Hp → Prop} (h : a σ H fun c H1 => if c = true then Q true H1 else b σ H1 Q) : tOr a b σ H Q := h
theorem g_not {a : TT} {Q : Bool → Hp → Prop} (h : a σ H fun c H1 => Q (!c) H1) : tNot a σ H Q := h
theorem g_nil {Q : List V → Hp → Prop} (h : Q [] H) : tNil σ H Q := h
theorem g_cons {tr : TA} {Q : List V → Hp → Prop} (h : te σ H fun x H1 => tr σ H1 fun xs H2 => Q (x :: xs) H2) : tCons te tr σ H Q := h
theorem g_call {sp : Sp} {dvs : List V} {E : XK} {t : TA} (h : t σ H fun vs H1 => sp (vs ++ dvs) H1 Q E) : tCall sp dvs E t σ H Q := h
theorem g_cb {r : List V → Hp → VK → Prop} {t : TA} (h : t σ H fun vs H1 => r vs H1 Q) : tCB r t σ H Q := h
theorem g_tup {t : TA} (h : t σ H fun xs H1 => xs.length ≤ sizeLine ∧ ∀ p, H1 p = none → Q (.ref p) (upd H1 p (.tup xs))) : tTup t σ H Q := h
theorem g_lst {t : TA} (h : t σ H fun xs H1 => xs.length ≤ sizeLine ∧ ∀ p, H1 p = none → Q (.ref p) (upd H1 p (.lst xs))) : tLst t σ H Q := h
theorem g_par {i j : Nat} {t : TA} (h : t σ H fun vs H1 => ∃ v w, vs = [v, w] ∧ D.nx ((σ.set i (some v)).set j (some w)) H1) : tPar i j t D σ H := h
theorem g_par2 {a b : V} {Q : V → V → Prop} (h : Q a b) : ∃ v w, [a, b] = [v, w] ∧ Q v w := ⟨a, b, rfl, h⟩

theorem g_add {i j : Int} (q : Q (.int (i + j)) H) : rAddA K (.int i) (.int j) H Q := .inl ⟨i, j, rfl, rfl, q⟩
theorem g_addS {i j : Str} (l : i.length + j.length ≤ sizeLine) (q : Q (.str (i ++ j)) H) : rAddA K (.str i) (.str j) H Q := .inr (.inl ⟨i, j, rfl, rfl, l, q⟩)
theorem g_addL {a b : Addr} {xs ys : List V} (ha : H a = some (.lst xs)) (hb : H b = some (.lst ys)) (l : xs.length + ys.length ≤ sizeLine) (q : ∀ p, H p = none → Q (.ref p) (upd H p (.lst (xs ++ ys)))) : rAddA K (.ref a) (.ref b) H Q :=
  .inr (.inr (.inl ⟨a, b, xs, ys, rfl, rfl, ha, hb, l, q⟩))
theorem g_sub {i j : Int} (q : Q (.int (i - j)) H) : rSubA (.int i) (.int j) H Q := ⟨i, j, rfl, rfl, q⟩
theorem g_mul {i j : Int} (h : CMulX i j) (q : Q (.int (i * j)) H) : rMulA K (.int i) (.int j) H Q := .inl ⟨i, j, rfl, rfl, h, q⟩
theorem g_mulL {a : Addr} {xs : List V} {j : Int} (h : H a = some (.lst xs)) (h0 : -(2 ^ 63) ≤ j ∧ j < 2 ^ 63 ∧ xs.length * j.toNat ≤ sizeLine) (q : ∀ p, H p = none → Q (.ref p) (upd H p (.lst (List.replicate j.toNat xs).flatten))) : rMulA K (.ref a) (.int j) H Q :=
  .inr (.inl ⟨a, j, xs, rfl, rfl, h, h0.1, h0.2.1, h0.2.2, q⟩)
theorem g_mulS {z : Str} {j : Int} (h : (0 ≤ j ∧ j ≤ 1000000) ∧ z.length * j.toNat ≤ 1000000) (q : Q (.str (repS z j.toNat)) H) : rMulA K (.str z) (.int j) H Q := .inr (.inr ⟨z, j, rfl, rfl, h.1, h.2, q⟩)
theorem small_div {i j : Int} (h : 0 < j) (h2 : j < 2 ^ 64) : CDivW i j := wide_div (b := 64) h (by omega) (by decide) (by decide)
theorem g_div {i j : Int} (h : 0 < j ∧ j < 2 ^ 64) (q : Q (.int (i / j)) H) : rDivA (.int i) (.int j) H Q := ⟨i, j, rfl, rfl, small_div h.1 h.2, q⟩
theorem g_divW {i j : Int} (h : CDivW i j) (q : Q (.int (i / j)) H) : rDivA (.int i) (.int j) H Q := ⟨i, j, rfl, rfl, h, q⟩
theorem g_mod {i j : Int} (h : 0 < j) (q : Q (.int (i % j)) H) : rModA (.int i) (.int j) H Q := ⟨i, j, rfl, rfl, h, q⟩
theorem g_pow {i j : Int} (h : 0 ≤ j ∧ j ≤ 1000000 ∧ i.natAbs < 2 ^ 64) (q : Q (.int (i ^ j.toNat)) H) : rPowA (.int i) (.int j) H Q := ⟨i, j, rfl, rfl, h, q⟩
theorem g_shl {i j : Int} (h : CShl i j) (q : Q (.int (i * 2 ^ j.toNat)) H) : rShlA (.int i) (.int j) H Q := ⟨i, j, rfl, rfl, h, q⟩
theorem g_shr {i j : Int} (h : 0 ≤ j) (q : Q (.int (i / 2 ^ j.toNat)) H) : rShrA (.int i) (.int j) H Q := ⟨i, j, rfl, rfl, h, q⟩
theorem g_band {i j : Int} (q : Q (.int (Builtin.bitAnd i j)) H) : rAndA (.int i) (.int j) H Q := ⟨i, j, rfl, rfl, q⟩
theorem g_bor {i j : Int} (q : Q (.int (Builtin.bitOr i j)) H) : rOrA (.int i) (.int j) H Q := ⟨i, j, rfl, rfl, q⟩
theorem g_bxor {i j : Int} (q : Q (.int (Builtin.bitXor i j)) H) : rXorA (.int i) (.int j) H Q := ⟨i, j, rfl, rfl, q⟩
/-- xs[i] of a list, a tuple, a text, a dict -/
theorem g_ixL {w : World} {p : Addr} {xs : List V} {i : Int} (h : SqL K H p xs) (a : atI xs i = some v) (q : Q v H) : rIxA w K (.ref p) (.int i) H Q := .inl (.inl ⟨p, xs, i, v, rfl, rfl, h, a, q⟩)
theorem g_ixT {w : World} {p : Addr} {xs : List V} {i : Int} (h : SqT K H p xs) (a : atI xs i = some v) (q : Q v H) : rIxA w K (.ref p) (.int i) H Q := .inl (.inr (.inl ⟨p, xs, i, v, rfl, rfl, h, a, q⟩))
theorem g_ixS {w : World} {z : Str} {i : Int} {c : Nat} (l : z.length ≤ sizeLine) (a : atI z.cps.toList i = some c) (q : Q (.str ⟨#[c]⟩) H) : rIxA w K (.str z) (.int i) H Q := .inl (.inr (.inr ⟨z, i, c, rfl, rfl, l, a, q⟩))
theorem g_ixDS {w : World} {a : Addr} {kvs : List (Key × V)} {x : Str} (h : Rd H a (.dK kvs)) (e : valV kvs (Sum.inr x : Key) = some v) (q : Q v H) : rIxA w K (.ref a) (.str x) H Q :=
  .inr (.inl ⟨a, v, rfl, .inl ⟨kvs, Sum.inr x, h, rfl, e.symm⟩, q⟩)
theorem g_ixW {w : World} {a : Addr} {kvs : List (Str × V)} {x : Str} (h : WDict K w a kvs) (e : (x, v) ∈ kvs) (q : Q v H) : rIxA w K (.ref a) (.str x) H Q := .inr (.inr ⟨a, x, v, kvs, rfl, rfl, h, e, q⟩)
/-- in, not in -/
theorem g_inT {w : World} {p : Addr} {xs : List V} {x : V} (h : SqT K H p xs) (f : flatV x = true) (fs : xs.all flatV = true) (q : Q (.bl (inV x xs)) H) : rInA w K false x (.ref p) H Q := .inl ⟨p, xs, rfl, .inr h, f, fs, q⟩
theorem g_ninT {w : World} {p : Addr} {xs : List V} {x : V} (h : SqT K H p xs) (f : flatV x = true) (fs : xs.all flatV = true) (q : Q (.bl (!inV x xs)) H) : rInA w K true x (.ref p) H Q := .inl ⟨p, xs, rfl, .inr h, f, fs, q⟩
theorem g_inL {w : World} {p : Addr} {xs : List V} {x : V} (h : SqL K H p xs) (f : flatV x = true) (fs : xs.all flatV = true) (q : Q (.bl (inV x xs)) H) : rInA w K false x (.ref p) H Q := .inl ⟨p, xs, rfl, .inl h, f, fs, q⟩
theorem g_ninL {w : World} {p : Addr} {xs : List V} {x : V} (h : SqL K H p xs) (f : flatV x = true) (fs : xs.all flatV = true) (q : Q (.bl (!inV x xs)) H) : rInA w K true x (.ref p) H Q := .inl ⟨p, xs, rfl, .inl h, f, fs, q⟩
theorem g_inW {w : World} {a : Addr} {kvs : List (Str × V)} {x : Str} (h : WDict K w a kvs) (e : (x, v) ∈ kvs) (q : Q (.bl true) H) : rInA w K false (.str x) (.ref a) H Q := .inr (.inr (.inr ⟨a, x, v, kvs, rfl, rfl, h, e, q⟩))
theorem g_ninW {w : World} {a : Addr} {kvs : List (Str × V)} {x : Str} (h : WDict K w a kvs) (e : (x, v) ∈ kvs) (q : Q (.bl false) H) : rInA w K true (.str x) (.ref a) H Q := .inr (.inr (.inr ⟨a, x, v, kvs, rfl, rfl, h, e, q⟩))
theorem g_inDS {w : World} {a : Addr} {kvs : List (Key × V)} {x : Str} (h : Rd H a (.dK kvs)) (q : Q (.bl (valV kvs (Sum.inr x : Key)).isSome) H) : rInA w K false (.str x) (.ref a) H Q := .inr (.inl ⟨a, _, rfl, .inl ⟨kvs, Sum.inr x, h, rfl, rfl⟩, q⟩)
theorem g_ninDS {w : World} {a : Addr} {kvs : List (Key × V)} {x : Str} (h : Rd H a (.dK kvs)) (q : Q (.bl (!(valV kvs (Sum.inr x : Key)).isSome)) H) : rInA w K true (.str x) (.ref a) H Q := .inr (.inl ⟨a, _, rfl, .inl ⟨kvs, Sum.inr x, h, rfl, rfl⟩, q⟩)
/-- comparisons -/
theorem g_lt {i j : Int} (q : Q (.bl (decide (i < j))) H) : (rI0 fun i j => .bl (decide (i < j))) (.int i) (.int j) H Q := ⟨i, j, rfl, rfl, q⟩
theorem g_le {i j : Int} (q : Q (.bl (decide (i ≤ j))) H) : (rI0 fun i j => .bl (decide (i ≤ j))) (.int i) (.int j) H Q := ⟨i, j, rfl, rfl, q⟩
theorem g_gt {i j : Int} (q : Q (.bl (decide (j < i))) H) : (rI0 fun i j => .bl (decide (j < i))) (.int i) (.int j) H Q := ⟨i, j, rfl, rfl, q⟩
theorem g_ge {i j : Int} (q : Q (.bl (decide (j ≤ i))) H) : (rI0 fun i j => .bl (decide (j ≤ i))) (.int i) (.int j) H Q := ⟨i, j, rfl, rfl, q⟩
theorem decI {i j : Int} : decide (V.int i = V.int j) = decide (i = j) := by
  by_cases h : i = j
  · subst h; simp
  · rw [decide_eq_false h]; exact decide_eq_false fun z => h (V.int.inj z)
theorem decS {i j : Str} : decide (V.str i = V.str j) = decide (i = j) := by
  by_cases h : i = j
  · subst h; simp
  · rw [decide_eq_false h]; exact decide_eq_false fun z => h (V.str.inj z)
theorem decB {i j : Bool} : decide (V.bl i = V.bl j) = decide (i = j) := by
  by_cases h : i = j
  · subst h; simp
  · rw [decide_eq_false h]; exact decide_eq_false fun z => h (V.bl.inj z)
theorem g_eqI {i j : Int} (q : Q (.bl (decide (i = j))) H) : rEqA K (.int i) (.int j) H Q := .inl ⟨rfl, by rw [decI]; exact q⟩
theorem g_neI {i j : Int} (q : Q (.bl (!decide (i = j))) H) : rNeA K (.int i) (.int j) H Q := .inl ⟨rfl, by rw [decI]; exact q⟩
theorem g_eqS {i j : Str} (q : Q (.bl (decide (i = j))) H) : rEqA K (.str i) (.str j) H Q := .inl ⟨rfl, by rw [decS]; exact q⟩
theorem g_neS {i j : Str} (q : Q (.bl (!decide (i = j))) H) : rNeA K (.str i) (.str j) H Q := .inl ⟨rfl, by rw [decS]; exact q⟩
theorem g_eqB {i j : Bool} (q : Q (.bl (decide (i = j))) H) : rEqA K (.bl i) (.bl j) H Q := .inl ⟨rfl, by rw [decB]; exact q⟩
theorem g_neB {i j : Bool} (q : Q (.bl (!decide (i = j))) H) : rNeA K (.bl i) (.bl j) H Q := .inl ⟨rfl, by rw [decB]; exact q⟩
theorem g_eqD {x y : V} {d e : PyData} (hd : Dp K H x d) (he : Dp K H y e) (s1 : SeqAt.shaped d = true) (s2 : SeqAt.shaped e = true) (q : Q (.bl (PyData.eqv d e)) H) : rEqA K x y H Q := .inr ⟨d, e, hd, he, s1, s2, q⟩
theorem g_neD {x y : V} {d e : PyData} (hd : Dp K H x d) (he : Dp K H y e) (s1 : SeqAt.shaped d = true) (s2 : SeqAt.shaped e = true) (q : Q (.bl (!PyData.eqv d e)) H) : rNeA K x y H Q := .inr ⟨d, e, hd, he, s1, s2, q⟩
theorem g_isN {x : V} (q : Q (.bl (decide (x = .non))) H) : rIsA x .non H Q := ⟨rfl, q⟩
theorem g_isnotN {x : V} (q : Q (.bl (!decide (x = .non))) H) : rIsNotA x .non H Q := ⟨rfl, q⟩
/-- int(..), len(..) -/
theorem g_int {i : Int} (q : Q (.int i) H) : rIntA [.int i] H Q := .inl ⟨i, rfl, q⟩
theorem g_intB {b : Bool} (q : Q (.int (if b then 1 else 0)) H) : rIntA [.bl b] H Q := .inr ⟨b, rfl, q⟩
theorem g_lenL {p : Addr} {xs : List V} (h : SqL K H p xs) (q : Q (.int xs.length) H) : rLenA K [.ref p] H Q := .inl ⟨p, xs, rfl, .inl h, q⟩
theorem g_lenT {p : Addr} {xs : List V} (h : SqT K H p xs) (q : Q (.int xs.length) H) : rLenA K [.ref p] H Q := .inl ⟨p, xs, rfl, .inr h, q⟩
theorem g_lenS {z : Str} (l : z.length ≤ sizeLine) (q : Q (.int z.length) H) : rLenA K [.str z] H Q := .inr (.inl ⟨z, rfl, l, q⟩)
theorem g_lenD {p : Addr} {kvs : List (Key × V)} (h : H p = some (.dK kvs)) (q : Q (.int kvs.length) H) : rLenA K [.ref p] H Q := .inr (.inr ⟨p, kvs, rfl, h, q⟩)
theorem g_max2 {i j : Int} (q : Q (.int (if j > i then j else i)) H) : rMaxA K [.int i, .int j] H Q := .inl ⟨i, j, rfl, q⟩
theorem g_min2 {i j : Int} (q : Q (.int (if j < i then j else i)) H) : rMinA [.int i, .int j] H Q := ⟨i, j, rfl, q⟩
theorem g_all {p : Addr} {bs : List Bool} (h : SqL K H p (bs.map V.bl)) (q : Q (.bl (bs.all id)) H) : rAll K [.ref p] H Q := ⟨p, bs, rfl, h, q⟩
theorem g_sum {p : Addr} {ns : List Int} (h : SqL K H p (ns.map V.int)) (q : Q (.int ns.sum) H) : rSum K [.ref p] H Q := ⟨p, ns, rfl, h, q⟩
theorem g_strI {i : Int} (h : i.natAbs.log2 < 1920) (q : Q (.str (toString i)) H) : rStrA [.int i] H Q := .inl ⟨i, rfl, h, q⟩
theorem g_join {a : Str} {p : Addr} {ys : List Str} (h : SqL K H p (ys.map V.str)) (l : (ys.map (·.length)).sum + ys.length * a.length ≤ 16777216) (q : Q (.str (Txt.join a ys)) H) : rJoinA K (.str a) [.ref p] H Q := ⟨a, p, ys, rfl, rfl, .inl h, l, q⟩
/-- slices -/
theorem g_slS {z : Str} {lo hi : Option Int} (l : z.length ≤ sizeLine) (q : Q (.str (Txt.slice z lo hi)) H) : rSlA K (.str z) lo hi H Q := .inr (.inr ⟨z, rfl, l, q⟩)
/-- stores -/
theorem g_sub1 {to ti : TE} {t : TSet} {Q : L2.St → Hp → Prop} (h : to σ H fun o H1 => ti σ H1 fun i H2 => t o i v H2 fun H3 => Q σ H3) : gSub to ti t v σ H Q := h
theorem g_setL {p : Addr} {xs : List V} {i : Int} {j : Nat} {Q : Hp → Prop} (h : H p = some (.lst xs)) (e : ixN xs.length i = some j) (q : Q (upd H p (.lst (xs.set j v)))) : rSetA (.ref p) (.int i) v H Q := .inl ⟨p, xs, i, j, rfl, rfl, h, e, q⟩
theorem g_setDS {p : Addr} {kvs : List (Key × V)} {x : Str} {Q : Hp → Prop} (h : H p = some (.dK kvs)) (e : kvs.length < sizeLine) (q : Q (upd H p (.dK (putK kvs (Sum.inr x) v)))) : rSetA (.ref p) (.str x) v H Q := .inr ⟨p, _, rfl, DPut.k (k := Sum.inr x) h e, q⟩
/-- fields -/
def FldP (K : PySem.W.Frag) (f : Str) (x : V) (H1 : Hp) (Q : VK) : Prop := ∃ a C dx fs v, x = .ref a ∧ H1 a = some (.ins C dx fs) ∧ Cls K C ∧ NoAttr K C f ∧ fs.lookup f = some v ∧ Q v H1
theorem g_fld {f : Str} (h : ta σ H fun x H1 => FldP K f x H1 Q) : tFld K ta f σ H Q := h
theorem g_fld1 {a C dx : Addr} {fs : List (Str × V)} {f : Str} (h : H a = some (.ins C dx fs)) (c : Cls K C) (n : NoAttr K C f) (l : fs.lookup f = some v) (q : Q v H) : FldP K f (.ref a) H Q := ⟨a, C, dx, fs, v, rfl, h, c, n, l, q⟩
theorem g_sfld {tv : TE} {f : Str} (h : tv σ H fun y H1 => ta σ H1 fun x H2 => ∃ a C dx fs, x = .ref a ∧ H2 a = some (.ins C dx fs) ∧ Cls K C ∧ NoAttr K C f ∧ fs.length < 1000 ∧ D.nx σ (upd H2 a (.ins C dx (putF f y fs)))) : sFld K ta tv f D σ H := h
/-- methods of lists -/
theorem g_bm {T : String} {r : V → List V → Hp → VK → Prop} {t : TA} (h : ta σ H fun x H1 => tyV K T x H1 ∧ t σ H1 fun xs H2 => r x xs H2 Q) : tBM K T r ta t σ H Q := h
theorem g_bm0 {T : String} {r : V → List V → Hp → VK → Prop} (h : ta σ H fun x H1 => tyV K T x H1 ∧ r x [] H1 Q) : tBM0 K T r ta σ H Q := h
theorem g_tyL {p : Addr} {xs : List V} {R : Prop} (h : SqL K H p xs) (q : R) : tyV K "list" (.ref p) H ∧ R := ⟨.inl ⟨rfl, xs, h⟩, q⟩
theorem g_tyS {z : Str} {R : Prop} (q : R) : tyV K "str" (.str z) H ∧ R := ⟨rfl, q⟩
theorem g_append {p : Addr} {xs : List V} {y : V} (h : H p = some (.lst xs)) (l : xs.length < sizeLine) (q : Q .non (upd H p (.lst (xs ++ [y])))) : rAppend (.ref p) [y] H Q := ⟨p, xs, y, rfl, rfl, h, l, q⟩
theorem g_extend {p b : Addr} {xs ys : List V} (h : H p = some (.lst xs)) (hb : H b = some (.lst ys)) (l : xs.length + ys.length ≤ sizeLine) (q : Q .non (upd H p (.lst (xs ++ ys)))) : rExtend (.ref p) [.ref b] H Q := ⟨p, b, xs, ys, rfl, rfl, h, hb, l, q⟩
theorem g_pop {p : Addr} {xs : List V} {y : V} (h : H p = some (.lst xs)) (l : xs[xs.length - 1]? = some y) (q : Q y (upd H p (.lst xs.dropLast))) : rPop (.ref p) [] H Q := ⟨p, xs, y, rfl, rfl, h, l, q⟩
theorem g_ite {p : Prop} [Decidable p] {A B : Prop} (h1 : p → A) (h2 : ¬ p → B) : if decide p = true then A else B := by
  by_cases c : p
  · rw [decide_eq_true c]; exact iteT (h1 c)
  · rw [decide_eq_false c]; exact iteF (h2 c)
theorem g_iteN {p : Prop} [Decidable p] {A B : Prop} (h1 : ¬ p → A) (h2 : p → B) : if (!decide p) = true then A else B := by
  by_cases c : p
  · rw [decide_eq_true c]; exact iteF (h2 c)
  · rw [decide_eq_false c]; exact iteT (h1 c)
theorem g_iteB {b : Bool} {A B : Prop} (h1 : b = true → A) (h2 : b = false → B) : if b = true then A else B := by
  cases b with
  | true => exact iteT (h1 rfl)
  | false => exact iteF (h2 rfl)
theorem ite_t {b : Bool} {A B : Prop} (e : b = true) (h : A) : if b = true then A else B := by rw [if_pos e]; exact h
theorem ite_f {b : Bool} {A B : Prop} (e : b = false) (h : B) : if b = true then A else B := by rw [if_neg (by rw [e]; exact Bool.false_ne_true)]; exact h
theorem at_start {t : TS} {D : Ends} {σ σ' : L2.St} {H : Hp} (e : σ = σ') (h : t D σ' H) : t D σ H := by rw [e]; exact h
theorem ns0 {a : Addr} : a ∉ ([] : List Addr) := List.not_mem_nil
theorem ns1 {a b : Addr} (h : a ≠ b) : a ∉ [b] := by simpa using h
theorem ns2 {a b c : Addr} (h : a ≠ b) (h' : a ≠ c) : a ∉ [b, c] := by simp [h, h']
/-- small products -/
theorem bits64 {i : Int} (h : -(2 ^ 64) < i ∧ i < 2 ^ 64) : Builtin.Int.intBits i ≤ 64 := intBits_le_64 h.1 h.2
theorem mul_small {i j : Int} (h : -(2 ^ 64) < i ∧ i < 2 ^ 64) (h' : -(2 ^ 64) < j ∧ j < 2 ^ 64) : CMulX i j := by
  have := bits64 h; have := bits64 h'
  unfold CMulX; omega
end
/-! ### terms, sayings -/
inductive Op where | plus | times | power
  deriving DecidableEq
inductive Tm where
  | num (n : Int)
  | name (x : Str)
  | op (o : Op) (a b : Tm)
  deriving DecidableEq
def Op.str : Op → Str | .plus => "plus" | .times => "times" | .power => "power"
/-- v is the term t -/
def TmAt (K : PySem.W.Frag) (H : Hp) : V → Tm → Prop
  | v, .num n => ∃ p, v = .ref p ∧ Tu K H p [.str "num", .int n]
  | v, .name x => ∃ p, v = .ref p ∧ Tu K H p [.str "name", .str x]
  | v, .op o a b => ∃ p va vb, v = .ref p ∧ Tu K H p [.str o.str, va, vb] ∧ TmAt K H va a ∧ TmAt K H vb b
theorem TmAt.up {S : List Addr} {K : PySem.W.Frag} {H H' : Hp} (e : Kp S H H') : ∀ {t : Tm} {v : V}, TmAt K H v t → TmAt K H' v t
  | .num _, _, ⟨p, e1, h⟩ => ⟨p, e1, h.up e⟩
  | .name _, _, ⟨p, e1, h⟩ => ⟨p, e1, h.up e⟩
  | .op _ _ _, _, ⟨p, va, vb, e1, h, ha, hb⟩ => ⟨p, va, vb, e1, h.up e, TmAt.up e ha, TmAt.up e hb⟩
structure Sy where
  under : Bool
  l : Tm
  r : Tm
  deriving DecidableEq
def wordOf (b : Bool) : Str := if b then "under" else "same"
def sayF (b : Bool) (l r : V) : List (Str × V) := [("word", .str (wordOf b)), ("left", l), ("right", r)]
def SayAt (K : PySem.W.Frag) (C : Addr) (H : Hp) (v : V) (s : Sy) : Prop := ∃ p dx l r, v = .ref p ∧ H p = some (.ins C dx (sayF s.under l r)) ∧ TmAt K H l s.l ∧ TmAt K H r s.r
theorem SayAt.up {S : List Addr} {K : PySem.W.Frag} {C : Addr} {H H' : Hp} {v : V} {s : Sy} (e : Kp S H H') (h : SayAt K C H v s) : SayAt K C H' v s := by
  obtain ⟨p, dx, l, r, e1, h, hl, hr⟩ := h
  exact ⟨p, dx, l, r, e1, e.t _ _ (.inl rfl) h, hl.up e, hr.up e⟩
/-- values one by one -/
def AllAt {α : Type} (R : Hp → V → α → Prop) (H : Hp) : List V → List α → Prop := Paired (R H)
theorem AllAt.up {α : Type} {R : Hp → V → α → Prop} {H H' : Hp} (k : ∀ v a, R H v a → R H' v a) {vs : List V} {as : List α} (h : AllAt R H vs as) : AllAt R H' vs as := Paired.mapP h k
theorem AllAt.length {α : Type} {R : Hp → V → α → Prop} {H : Hp} {vs : List V} {as : List α} (h : AllAt R H vs as) : vs.length = as.length := Paired.length h
theorem AllAt.get {α : Type} {R : Hp → V → α → Prop} {H : Hp} : ∀ {vs : List V} {as : List α} {i : Nat} {v : V}, AllAt R H vs as → vs[i]? = some v → ∃ a, as[i]? = some a ∧ R H v a
  | _, _, _, _, .nil, e => by simp at e
  | _, _, 0, _, .cons r _, e => by simp at e; subst e; exact ⟨_, rfl, r⟩
  | _, _, i + 1, x, .cons _ t, e => by
    obtain ⟨u, h1, h2⟩ := AllAt.get (i := i) (v := x) t (by simpa using e)
    exact ⟨u, by simpa using h1, h2⟩
theorem AllAt.snoc {α : Type} {R : Hp → V → α → Prop} {H : Hp} {vs : List V} {as : List α} {v : V} {a : α} (h : AllAt R H vs as) (r : R H v a) : AllAt R H (vs ++ [v]) (as ++ [a]) := by
  induction h with
  | nil => exact .cons r .nil
  | cons r' _ ih => exact .cons r' ih
/-- the addresses of classes, defs and constants -/
structure Ad where
  say : Addr := 0
  prog : Addr := 0
  desk : Addr := 0
  row : Addr := 0
  one : Addr := 0
  two : Addr := 0
  words : Addr := 0
  signs : Addr := 0
  x : Str → Addr := fun _ => 0
end Z

namespace Z
open PySem L2 PyProof.Rows
/-! ### loops: what is walked is known -/
/-- n turns while ok holds; yl: what the i-th yields -/
structure Wk (J : It) (n : Nat) (ok : Hp → Prop) (yl : Nat → Hp → V → Hp → Prop) : Prop where
  go : ∀ i H, i < n → ok H → J.go i H
  stop : ∀ H, ok H → J.stop n H
  yld : ∀ i H x H', i < n → ok H → J.yld i H x H' → yl i H x H'
section
variable {K : PySem.W.Frag} {a : Addr} {xs : List V}
theorem getD_lt {α : Type} {xs : List α} {i : Nat} (h : i < xs.length) : ∃ x, xs[i]? = some x := ⟨xs[i], List.getElem?_eq_getElem h⟩
theorem wk_list : Wk (Itl K a) xs.length (fun H => SqL K H a xs) (fun i H x H' => H' = H ∧ xs[i]? = some x) :=
  ⟨fun _ _ hi h => let ⟨x, e⟩ := getD_lt hi; ⟨xs, x, h, e⟩, fun _ h => ⟨xs, h, Nat.le_refl _⟩, fun _ _ _ _ _ h y => ⟨y.1, y.2 xs h⟩⟩
theorem wk_tup : Wk (Itt K a) xs.length (fun H => SqT K H a xs) (fun i H x H' => H' = H ∧ xs[i]? = some x) :=
  ⟨fun _ _ hi h => let ⟨x, e⟩ := getD_lt hi; ⟨xs, x, h, e⟩, fun _ h => ⟨xs, h, Nat.le_refl _⟩, fun _ _ _ _ _ h y => ⟨y.1, y.2 xs h⟩⟩
theorem wk_rng {lo : Int} {n : Nat} : Wk (Itr lo n) n (fun _ => True) (fun i H x H' => H' = H ∧ x = .int (lo + i)) :=
  ⟨fun _ _ hi _ => hi, fun _ _ => Nat.le_refl _, fun _ _ _ _ _ _ y => y⟩
theorem wk_enum : Wk (Ite K a) xs.length (fun H => SqL K H a xs) (fun i H v H' => ∃ T x, v = .ref T ∧ H T = none ∧ H' = upd H T (.tup [.int (i : Nat), x]) ∧ xs[i]? = some x) :=
  ⟨fun _ _ hi h => let ⟨x, e⟩ := getD_lt hi; ⟨xs, x, h, e⟩, fun _ h => ⟨xs, h, Nat.le_refl _⟩, fun _ _ _ _ _ h ⟨T, x, e1, e2, e3, e4⟩ => ⟨T, x, e1, e2, e3, e4 xs h⟩⟩
theorem wk_enumT : Wk (IteT K a) xs.length (fun H => SqT K H a xs) (fun i H v H' => ∃ T x, v = .ref T ∧ H T = none ∧ H' = upd H T (.tup [.int (i : Nat), x]) ∧ xs[i]? = some x) :=
  ⟨fun _ _ hi h => let ⟨x, e⟩ := getD_lt hi; ⟨xs, x, h, e⟩, fun _ h => ⟨xs, h, Nat.le_refl _⟩, fun _ _ _ _ _ h ⟨T, x, e1, e2, e3, e4⟩ => ⟨T, x, e1, e2, e3, e4 xs h⟩⟩
theorem wk_enumS {z : Str} : Wk (IteS z) z.cps.size (fun _ => True) (fun i H v H' => ∃ T c, v = .ref T ∧ H T = none ∧ H' = upd H T (.tup [.int (i : Nat), .str ⟨#[c]⟩]) ∧ z.cps[i]? = some c) :=
  ⟨fun _ _ hi _ => hi, fun _ _ => rfl, fun _ _ _ _ _ _ y => y⟩
theorem wk_str {z : Str} : Wk (Its z) z.cps.size (fun _ => True) (fun i H v H' => H' = H ∧ ∃ c, z.cps[i]? = some c ∧ v = .str ⟨#[c]⟩) :=
  ⟨fun _ _ hi _ => hi, fun _ _ => Nat.le_refl _, fun _ _ _ _ _ _ y => y⟩
theorem wk_zip {b : Addr} {ys : List V} {n : Nat} (l : xs.length = n) (l' : ys.length = n) : Wk (Itz K a b) n (fun H => SqL K H a xs ∧ SqL K H b ys)
    (fun i H v H' => ∃ T x y, v = .ref T ∧ H T = none ∧ H' = upd H T (.tup [x, y]) ∧ xs[i]? = some x ∧ ys[i]? = some y) :=
  ⟨fun _ _ hi h => let ⟨x, e⟩ := getD_lt (xs := xs) (by omega); let ⟨y, e'⟩ := getD_lt (xs := ys) (by omega); ⟨xs, ys, x, y, h.1, h.2, e, e'⟩, fun _ h => ⟨xs, ys, h.1, h.2, .inl (by omega)⟩,
    fun _ _ _ _ _ h ⟨T, x, y, e1, e2, e3, e4, e5⟩ => ⟨T, x, y, e1, e2, e3, e4 xs h.1, e5 ys h.2⟩⟩
theorem wk_rev : Wk (Itv K a xs.length) xs.length (fun H => SqL K H a xs) (fun i H x H' => H' = H ∧ xs[xs.length - 1 - i]? = some x) :=
  ⟨fun _ _ hi h => let ⟨x, e⟩ := getD_lt (xs := xs) (i := xs.length - 1 - _) (by omega); ⟨hi, xs, x, h, e⟩, fun _ _ => Nat.le_refl _, fun _ _ _ _ _ h y => ⟨y.1, y.2 xs h⟩⟩
end
section
variable {J : It} {n : Nat} {ok : Hp → Prop} {yl : Nat → Hp → V → Hp → Prop} {σ : L2.St} {H1 : Hp} {D : Ends} {g : TG} {tb : TS} {tt : TT} {te : TE} {vs : List Nat} {Q : VK}
def ForP (J : It) (g : TG) (tb : TS) (D : Ends) (σ : L2.St) (H1 : Hp) : Prop := ∃ W : Nat → Nat → L2.St → Hp → Prop, (∃ m, W 0 m σ H1) ∧ ∀ i m σ H, W i m σ H →
  (J.stop i H ∧ D.nx σ H) ∨ (J.go i H ∧ ∃ N : L2.St → Hp → Prop, (∀ σ' H', N σ' H' → ∃ m', m' < m ∧ W (i + 1) m' σ' H') ∧ ∀ x H', J.yld i H x H' → g x σ H' fun σ2 H2 => tb { D with nx := N, ct := N, bk := D.nx } σ2 H2)
def LcP (J : It) (g : TG) (tt : TT) (te : TE) (vs : List Nat) (σ : L2.St) (Q : VK) (H1 : Hp) (D : Addr) : Prop := ∃ W : Nat → Nat → Hp → Prop, (∃ m, W 0 m (upd H1 D (.lst []))) ∧ ∀ i m H, W i m H →
  (J.stop i H ∧ Q (.ref D) H) ∨ (J.go i H ∧ ∃ Nx : Hp → Prop, (∀ H', Nx H' → ∃ m', m' < m ∧ W (i + 1) m' H') ∧ ∀ x H', J.yld i H x H' → g x (wipe σ vs) H' fun σ2 H2 => wipe σ2 vs = wipe σ vs ∧ tt σ2 H2 fun b H3 =>
    if b = true then te σ2 H3 fun y H4 => ∃ acc, H4 D = some (.lst acc) ∧ acc.length < sizeLine ∧ Nx (upd H4 D (.lst (acc ++ [y]))) else Nx H3)
/-- for: I i holds ahead of the i-th turn -/
theorem g_forW (w : Wk J n ok yl) (I : Nat → L2.St → Hp → Prop) (h0 : I 0 σ H1) (hok : ∀ i σ H, I i σ H → ok H)
    (step : ∀ i σ H x H', i < n → I i σ H → yl i H x H' → g x σ H' fun σ2 H2 => tb { D with nx := I (i + 1), ct := I (i + 1), bk := D.nx } σ2 H2) (fin : ∀ σ H, I n σ H → D.nx σ H) :
    ForP J g tb D σ H1 := by
  refine ⟨fun i m σ H => m + i = n ∧ I i σ H, ⟨n, rfl, h0⟩, fun i m σ H ⟨e, h⟩ => ?_⟩
  by_cases c : i < n
  · exact .inr ⟨w.go i H c (hok _ _ _ h), I (i + 1), fun σ' H' q => ⟨m - 1, by omega, by omega, q⟩, fun x H' y => step i σ H x H' c h (w.yld i H x H' c (hok _ _ _ h) y)⟩
  · have e' : i = n := by omega
    subst e'
    exact .inl ⟨w.stop H (hok _ _ _ h), fin σ H h⟩
/-- a comprehension: D the list, acc what it holds -/
def LcN (D : Addr) (I : Nat → List V → Hp → Prop) (i : Nat) : Hp → Prop := fun H => ∃ acc : List V, acc.length ≤ i ∧ H D = some (.lst acc) ∧ I i acc H
theorem g_lcW {D : Addr} (w : Wk J n ok yl) (I : Nat → List V → Hp → Prop) (h0 : I 0 [] (upd H1 D (.lst []))) (hok : ∀ i acc H, I i acc H → ok H)
    (step : ∀ i acc H x H', i < n → acc.length ≤ i → H D = some (.lst acc) → I i acc H → yl i H x H' → g x (wipe σ vs) H' fun σ2 H2 => wipe σ2 vs = wipe σ vs ∧ tt σ2 H2 fun b H3 =>
      if b = true then te σ2 H3 fun y H4 => ∃ acc, H4 D = some (.lst acc) ∧ acc.length < sizeLine ∧ LcN D I (i + 1) (upd H4 D (.lst (acc ++ [y]))) else LcN D I (i + 1) H3)
    (fin : ∀ acc H, acc.length ≤ n → H D = some (.lst acc) → I n acc H → Q (.ref D) H) :
    LcP J g tt te vs σ Q H1 D := by
  refine ⟨fun i m H => m + i = n ∧ LcN D I i H, ⟨n, rfl, [], Nat.le_refl _, upd_same, h0⟩, fun i m H ⟨e, acc, hl, hD, h⟩ => ?_⟩
  by_cases c : i < n
  · exact .inr ⟨w.go i H c (hok _ _ _ h), LcN D I (i + 1), fun H' q => ⟨m - 1, by omega, by omega, q⟩, fun x H' y => step i acc H x H' c hl hD h (w.yld i H x H' c (hok _ _ _ h) y)⟩
  · have e' : i = n := by omega
    subst e'
    exact .inl ⟨w.stop H (hok _ _ _ h), fin acc H hl hD h⟩
theorem g_lcy {D : Addr} {I : Nat → List V → Hp → Prop} {i : Nat} {acc : List V} {y : V} {H4 : Hp} (hD : H4 D = some (.lst acc)) (hl : acc.length ≤ i) (hn : i < sizeLine) (q : I (i + 1) (acc ++ [y]) (upd H4 D (.lst (acc ++ [y])))) :
    ∃ acc, H4 D = some (.lst acc) ∧ acc.length < sizeLine ∧ LcN D I (i + 1) (upd H4 D (.lst (acc ++ [y]))) :=
  ⟨acc, hD, Nat.lt_of_le_of_lt hl hn, acc ++ [y], by simp; exact hl, upd_same, q⟩
theorem g_lcn {D : Addr} {I : Nat → List V → Hp → Prop} {i : Nat} {acc : List V} {H3 : Hp} (hD : H3 D = some (.lst acc)) (hl : acc.length ≤ i) (q : I (i + 1) acc H3) : LcN D I (i + 1) H3 := ⟨acc, Nat.le_succ_of_le hl, hD, q⟩
end
/-! ### loops' heads, targets -/
section
variable {K : PySem.W.Frag} {σ : L2.St} {H : Hp} {R : It → Hp → Prop} {a : Addr} {xs : List V} {te : TE} {ta : TA} {wi : TI} {g : TG} {tb : TS} {D : Ends} {Q : VK} {tt : TT} {vs : List Nat}
theorem g_for (h : wi σ H fun J H1 => ForP J g tb D σ H1) : tFor wi g tb D σ H := h
theorem g_lc (h : wi σ H fun J H1 => ∀ D, H1 D = none → LcP J g tt te vs σ Q H1 D) : tLc wi g tt te vs σ H Q := h
/-- what is walked, by its kind -/
def ItP (K : PySem.W.Frag) (x : V) (H1 : Hp) (R : It → Hp → Prop) : Prop := (∃ a, x = .ref a ∧ (∃ xs, SqL K H1 a xs) ∧ R (Itl K a) H1) ∨ (∃ a, x = .ref a ∧ (∃ xs, SqT K H1 a xs) ∧ R (Itt K a) H1) ∨ ∃ z, x = .str z ∧ R (Its z) H1
theorem g_it (h : te σ H fun x H1 => ItP K x H1 R) : iAnyS K te σ H R := h
theorem g_itL (h : SqL K H a xs) (q : R (Itl K a) H) : ItP K (.ref a) H R := .inl ⟨a, rfl, ⟨xs, h⟩, q⟩
theorem g_itT (h : SqT K H a xs) (q : R (Itt K a) H) : ItP K (.ref a) H R := .inr (.inl ⟨a, rfl, ⟨xs, h⟩, q⟩)
theorem g_itS {z : Str} (q : R (Its z) H) : ItP K (.str z) H R := .inr (.inr ⟨z, rfl, q⟩)
def EnP (K : PySem.W.Frag) (vs : List V) (H1 : Hp) (R : It → Hp → Prop) : Prop := (∃ a xs, vs = [.ref a] ∧ SqL K H1 a xs ∧ R (Ite K a) H1) ∨ (∃ a xs, vs = [.ref a] ∧ SqT K H1 a xs ∧ R (IteT K a) H1) ∨ ∃ z, vs = [.str z] ∧ R (IteS z) H1
theorem g_en (h : ta σ H fun vs H1 => EnP K vs H1 R) : iEnumA K ta σ H R := h
theorem g_enL (h : SqL K H a xs) (q : R (Ite K a) H) : EnP K [.ref a] H R := .inl ⟨a, xs, rfl, h, q⟩
theorem g_enT (h : SqT K H a xs) (q : R (IteT K a) H) : EnP K [.ref a] H R := .inr (.inl ⟨a, xs, rfl, h, q⟩)
theorem g_enS {z : Str} (q : R (IteS z) H) : EnP K [.str z] H R := .inr (.inr ⟨z, rfl, q⟩)
def R1P (vs : List V) (H1 : Hp) (R : It → Hp → Prop) : Prop := ∃ j : Int, vs = [.int j] ∧ -(2 ^ 62) ≤ j ∧ j < 2 ^ 62 ∧ R (Itr 0 j.toNat) H1
theorem g_r1 (h : ta σ H fun vs H1 => R1P vs H1 R) : iRng1 ta σ H R := h
theorem g_r1' {j : Int} (b : -(2 ^ 62) ≤ j ∧ j < 2 ^ 62) (q : R (Itr 0 j.toNat) H) : R1P [.int j] H R := ⟨j, rfl, b.1, b.2, q⟩
def R2P (vs : List V) (H1 : Hp) (R : It → Hp → Prop) : Prop := ∃ i j : Int, vs = [.int i, .int j] ∧ (-(2 ^ 62) ≤ i ∧ i < 2 ^ 62 ∧ -(2 ^ 62) ≤ j ∧ j < 2 ^ 62) ∧ R (Itr i (j - i).toNat) H1
theorem g_r2 (h : ta σ H fun vs H1 => R2P vs H1 R) : iRng2 ta σ H R := h
theorem g_r2' {i j : Int} (b : -(2 ^ 62) ≤ i ∧ i < 2 ^ 62 ∧ -(2 ^ 62) ≤ j ∧ j < 2 ^ 62) (q : R (Itr i (j - i).toNat) H) : R2P [.int i, .int j] H R := ⟨i, j, rfl, b, q⟩
/-- a, b = a tuple of two .. -/
theorem g_tg {n : Nat} {t : TGs} {Q : L2.St → Hp → Prop} (h : SqT K H a xs) (l : xs.length = n) (q : t xs σ H Q) : gTup K n t (.ref a) σ H Q := ⟨a, xs, rfl, h, l, q⟩
theorem g_gc {g : TG} {u : TGs} {v : V} {Q : L2.St → Hp → Prop} (h : g v σ H fun σ' H' => u xs σ' H' Q) : gCons g u (v :: xs) σ H Q := ⟨v, xs, rfl, h⟩
theorem g_gn {Q : L2.St → Hp → Prop} (h : Q σ H) : gNil [] σ H Q := ⟨rfl, h⟩
theorem g_pts0 {Q : Bool → Hp → Prop} (h : Q true H) : tYes σ H Q := h
end
/-! ### joins, places -/
/-- what lies ahead is reached by J alone -/
theorem g_J {t : TS} {D : Ends} {σ : L2.St} {H : Hp} (J : L2.St → Hp → Prop) (h2 : ∀ X : L2.St → Hp → Prop, (∀ σ' H', J σ' H' → X σ' H') → t { D with nx := X } σ H) (h1 : ∀ σ' H', J σ' H' → D.nx σ' H') : t D σ H := h2 _ h1
theorem at_of {α : Type} {xs : List α} {k : Int} {v : α} (h0 : 0 ≤ k) (h : xs[k.toNat]? = some v) : atI xs k = some v := by
  obtain ⟨n, rfl⟩ : ∃ n : Nat, k = n := ⟨k.toNat, by omega⟩
  exact atI_nat (by simpa using h)
theorem at_int {ns : List Int} {k : Int} (h0 : 0 ≤ k) (h1 : k < ns.length) : ∃ n, ns[k.toNat]? = some n ∧ atI (ns.map V.int) k = some (.int n) := by
  have h : k.toNat < ns.length := by omega
  exact ⟨ns[k.toNat], List.getElem?_eq_getElem h, at_of h0 (by rw [List.getElem?_map, List.getElem?_eq_getElem h]; rfl)⟩
theorem at_bi {b : Bool} {i j : Int} : atI [V.int i, V.int j] (if b = true then 1 else 0) = some (V.int (if b = true then j else i)) := by cases b <;> rfl
theorem at_bb {b : Bool} {x y : V} : atI [x, y] (if b = true then 1 else 0) = some (if b = true then y else x) := by cases b <;> rfl
theorem le_line {n : Nat} (h : n ≤ 1000) : n ≤ sizeLine := Nat.le_trans h (by decide)
theorem lt_line {n : Nat} (h : n ≤ 1000) : n < sizeLine := Nat.lt_of_le_of_lt h (by decide)
theorem g_fresh {n : Nat} {H : Hp} {A : Addr → Prop} (l : Nat.ble n 1000 = true) (h : ∀ p, H p = none → A p) : n ≤ sizeLine ∧ ∀ p, H p = none → A p := ⟨le_line (Nat.le_of_ble_eq_true l), h⟩
theorem fr_upd {H : Hp} {p a : Addr} {o : HO} (h : upd H p o a = none) : H a = none := by
  by_cases q : a = p
  · rw [q, upd_same] at h; cases h
  · rw [upd_ne q] at h; exact h
/-! ### slices -/
section
variable {σ : L2.St} {H : Hp} {K : PySem.W.Frag} {te : TE} {tl th : TO} {Q : VK} {a : Addr} {xs : List V} {lo hi : Option Int}
theorem g_slc {r : V → Option Int → Option Int → Hp → VK → Prop} (h : te σ H fun x H1 => tl σ H1 fun l H2 => th σ H2 fun u H3 => r x l u H3 Q) : tSl r te tl th σ H Q := h
theorem g_np {Q : Option Int → Hp → Prop} (h : Q none H) : tNoPart σ H Q := h
def PtP (v : V) (H1 : Hp) (Q : Option Int → Hp → Prop) : Prop := ∃ i, v = .int i ∧ Q (some i) H1
theorem g_pt {Q : Option Int → Hp → Prop} (h : te σ H fun v H1 => PtP v H1 Q) : tPart te σ H Q := h
theorem g_pt1 {i : Int} {Q : Option Int → Hp → Prop} (h : Q (some i) H) : PtP (.int i) H Q := ⟨i, rfl, h⟩
theorem g_slL (h : SqL K H a xs) (q : ∀ p, H p = none → Q (.ref p) (upd H p (.lst (cutV xs lo hi)))) : rSlA K (.ref a) lo hi H Q := .inl ⟨a, xs, rfl, h, q⟩
end
/-! ### signs of a text -/
theorem sign_at (z : Str) {d : Int} (h0 : 0 ≤ d) (h1 : d < z.cps.toList.length) : atI z.cps.toList d = some (z.cps.toList.getD d.toNat 0) := by
  have h : d.toNat < z.cps.toList.length := by omega
  refine at_of h0 ?_
  rw [List.getD_eq_getElem?_getD, List.getElem?_eq_getElem h]
  rfl
theorem joinL_ones : ∀ cs : List Nat, TL.joinL [] (cs.map fun c => [c]) = cs
  | [] => rfl
  | [_] => rfl
  | c :: d :: r => by
    show [c] ++ ([] ++ TL.joinL [] (List.map (fun c => [c]) (d :: r))) = c :: d :: r
    rw [joinL_ones (d :: r)]
    rfl
theorem join_signs (cs : List Nat) : Txt.join ("" : Str) (cs.map fun c => (⟨#[c]⟩ : Str)) = SX.S cs := by
  have e1 : (cs.map fun c => (⟨#[c]⟩ : Str)) = (cs.map fun c => [c]).map SX.S := by rw [List.map_map]; rfl
  have e2 : ("" : Str) = SX.S [] := by decide
  rw [e1, e2, SX.join_S, joinL_ones]
theorem sum_ones (cs : List Nat) : ((cs.map fun c => (⟨#[c]⟩ : Str)).map (·.length)).sum = cs.length := by
  rw [List.map_map]
  induction cs with
  | nil => rfl
  | cons c r ih => rw [List.map_cons, List.sum_cons, ih, List.length_cons]; show 1 + _ = _; omega
theorem repS_len (z : Str) (n : Nat) : (repS z n).length = z.length * n := by
  show (List.replicate n z.cps.toList).flatten.toArray.size = _
  rw [List.size_toArray, List.length_flatten, List.map_replicate, List.sum_replicate_nat, Array.length_toList]
  exact Nat.mul_comm _ _
theorem at3i {x y z d : Int} (h0 : 0 ≤ d) (h1 : d < 3) : atI [V.int x, V.int y, V.int z] d = some (.int (if d = 0 then x else if d = 1 then y else z)) := by
  have : d = 0 ∨ d = 1 ∨ d = 2 := by omega
  rcases this with e | e | e <;> (subst e; rfl)
theorem at3s {x y z : Str} {d : Int} (h0 : 0 ≤ d) (h1 : d < 3) : atI [V.str x, V.str y, V.str z] d = some (.str (if d = 0 then x else if d = 1 then y else z)) := by
  have : d = 0 ∨ d = 1 ∨ d = 2 := by omega
  rcases this with e | e | e <;> (subst e; rfl)
theorem at_str {ns : List Str} {k : Int} (h0 : 0 ≤ k) (h1 : k < ns.length) : ∃ n, ns[k.toNat]? = some n ∧ n ∈ ns ∧ atI (ns.map V.str) k = some (.str n) := by
  have h : k.toNat < ns.length := by omega
  exact ⟨ns[k.toNat], List.getElem?_eq_getElem h, List.getElem_mem h, at_of h0 (by rw [List.getElem?_map, List.getElem?_eq_getElem h]; rfl)⟩
/-! ### tests that change nothing -/
theorem g_ifP {c : TT} {t u : TS} {D : Ends} {σ : L2.St} {H : Hp} {b : Bool} (h : ∀ Q : Bool → Hp → Prop, Q b H → c σ H Q) (h1 : b = true → t D σ H) (h2 : b = false → u D σ H) : tIfS c t u D σ H := by
  refine h (fun b H1 => if b = true then t D σ H1 else u D σ H1) ?_
  cases b with
  | true => exact iteT (h1 rfl)
  | false => exact iteF (h2 rfl)
theorem t_orX {p rest : Bool} {Q : Bool → Hp → Prop} {H : Hp} {X : Prop} (h : Q (p || rest) H) (hx : Q rest H → X) : if p = true then Q true H else X := by
  cases p with
  | true => exact iteT h
  | false => exact iteF (hx h)
theorem t_andX {p rest : Bool} {Q : Bool → Hp → Prop} {H : Hp} {X : Prop} (h : Q (p && rest) H) (hx : Q rest H → X) : if p = true then X else Q false H := by
  cases p with
  | true => exact iteT (hx h)
  | false => exact iteF h
/-! ### making an instance -/
def MakeP (C : Addr) (sp : Sp) (dvs : List V) (E : XK) (vs : List V) (H1 : Hp) (Q : VK) : Prop := ∀ x dx, H1 x = none → H1 dx = none → dx ≠ x → sp (.ref x :: (vs ++ dvs)) (upd (upd H1 dx (.own x)) x (.ins C dx [])) (fun v H2 => v = .non ∧ Q (.ref x) H2) E
theorem g_make {C : Addr} {sp : Sp} {dvs : List V} {E : XK} {t : TA} {σ : L2.St} {H : Hp} {Q : VK} (h : t σ H fun vs H1 => MakeP C sp dvs E vs H1 Q) : tMake C sp dvs E t σ H Q := h
/-- one by one: what stands at a place -/
theorem AllAt.at {α : Type} {R : Hp → V → α → Prop} {H : Hp} {vs : List V} {as : List α} (h : AllAt R H vs as) {i : Nat} {a : α} (e : as[i]? = some a) : ∃ v, vs[i]? = some v ∧ R H v a := by
  have hl := h.length
  obtain ⟨v, hv⟩ := getD_lt (xs := vs) (i := i) (by rw [hl]; exact (List.getElem?_eq_some_iff.mp e).1)
  obtain ⟨a', e', r⟩ := h.get hv
  rw [e] at e'
  exact ⟨v, hv, by rw [Option.some.inj e']; exact r⟩
/-- a sum -/
def sumT : List Tm → Tm
  | [] => .num 0
  | t :: r => r.foldl (.op .plus) t
theorem sumT_snoc (ts : List Tm) (t : Tm) (h : ts ≠ []) : sumT (ts ++ [t]) = .op .plus (sumT ts) t := by
  cases ts with
  | nil => exact absurd rfl h
  | cons a r => show (r ++ [t]).foldl _ a = _; rw [List.foldl_append]; rfl
theorem sq_new {K : PySem.W.Frag} {H : Hp} {p a : Addr} {o : HO} {xs : List V} (n : H p = none) (h : SqL K H a xs) : SqL K (upd H p o) a xs := (Kp.new n : Kp [] H _).l ns0 h
theorem lt1000 {n : Nat} (h : Nat.ble (n + 1) 1000 = true) : n < 1000 := Nat.le_of_ble_eq_true h
theorem le1000 {n : Nat} (h : Nat.ble n 1000 = true) : n ≤ 1000 := Nat.le_of_ble_eq_true h
/-! ### a list or a tuple, kept through what is walked -/
abbrev SqA (K : PySem.W.Frag) (H : Hp) (a : Addr) (xs : List V) : Prop := SqL K H a xs ∨ SqT K H a xs
theorem Kp.tq {H H' : Hp} {S : List Addr} {K : PySem.W.Frag} {a : Addr} {xs : List V} (e : Kp S H H') (h : SqT K H a xs) (n : a ∉ S) : SqT K H' a xs := by
  rcases h with (h | ⟨o, h⟩) | h
  · exact .inl (.inl (e.t _ _ trivial h))
  · exact .inl (.inr ⟨o, e.k _ _ n h⟩)
  · exact .inr h
theorem Kp.a {H H' : Hp} {S : List Addr} {K : PySem.W.Frag} {a : Addr} {xs : List V} (e : Kp S H H') (n : a ∉ S) (h : SqA K H a xs) : SqA K H' a xs := h.elim (fun h => .inl (e.l n h)) fun h => .inr (e.tq h n)
def ylE (xs : List V) : Nat → Hp → V → Hp → Prop := fun i H v H' => ∃ T x, v = .ref T ∧ H T = none ∧ H' = upd H T (.tup [.int (i : Nat), x]) ∧ xs[i]? = some x
def ylI (xs : List V) : Nat → Hp → V → Hp → Prop := fun i H v H' => H' = H ∧ xs[i]? = some v
theorem g_enA {K : PySem.W.Frag} {H H0 : Hp} {R : It → Hp → Prop} {a : Addr} {xs : List V} {S : List Addr} (k : Kp S H0 H) (h : SqA K H0 a xs) (n : a ∉ S) (q : ∀ J ok, Wk J xs.length ok (ylE xs) → (∀ H', Kp S H0 H' → ok H') → R J H) : EnP K [.ref a] H R := by
  rcases h with h | h
  · exact g_enL (k.l n h) (q _ _ wk_enum fun H' k => k.l n h)
  · exact g_enT (k.tq h n) (q _ _ wk_enumT fun H' k => k.tq h n)
theorem g_itA {K : PySem.W.Frag} {H H0 : Hp} {R : It → Hp → Prop} {a : Addr} {xs : List V} {S : List Addr} (k : Kp S H0 H) (h : SqA K H0 a xs) (n : a ∉ S) (q : ∀ J ok, Wk J xs.length ok (ylI xs) → (∀ H', Kp S H0 H' → ok H') → R J H) : ItP K (.ref a) H R := by
  rcases h with h | h
  · exact g_itL (k.l n h) (q _ _ wk_list fun H' k => k.l n h)
  · exact g_itT (k.tq h n) (q _ _ wk_tup fun H' k => k.tq h n)
/-- the first under -/
def fstU : Nat → List Sy → Option Nat
  | _, [] => none
  | i, s :: r => if s.under = true then some i else fstU (i + 1) r
theorem drop_at {α : Type} {l : List α} {i : Nat} {x : α} (h : l[i]? = some x) : l.drop i = x :: l.drop (i + 1) := by
  have hl : i < l.length := (List.getElem?_eq_some_iff.mp h).1
  rw [List.drop_eq_getElem_cons hl]
  rw [List.getElem?_eq_getElem hl] at h
  rw [Option.some.inj h]
theorem word_same (b : Bool) : decide (wordOf b = ("same" : Str)) = !b := by cases b <;> decide
theorem word_under (b : Bool) : decide (wordOf b = ("under" : Str)) = b := by cases b <;> decide
theorem g_callS {sp : Sp} {E : L2.St → XK} {t : TA} {σ : L2.St} {H : Hp} {Q : VK} (h : t σ H fun vs H1 => sp vs H1 Q (E σ)) : tCallS sp E t σ H Q := h
/-- all sayings made one -/
def sqT (s : Sy) : Tm := .op .plus (.op .times s.l s.l) (.op .times s.r s.r)
def prT (s : Sy) : Tm := .op .times (.num 2) (.op .times s.l s.r)
def oneOf (ss : List Sy) : Sy := ⟨false, sumT (ss.map sqT), sumT (ss.map prT)⟩
def eitherOf (s t : Sy) : Sy := ⟨false, .op .plus (.op .times s.l t.l) (.op .times s.r t.r), .op .plus (.op .times s.l t.r) (.op .times s.r t.l)⟩
theorem take_snoc {α : Type} {l : List α} {i : Nat} {x : α} (h : l[i]? = some x) : l.take (i + 1) = l.take i ++ [x] := by rw [List.take_succ, h]; rfl
theorem TmAt.mk {K : PySem.W.Frag} {H : Hp} {p : Addr} {va vb : V} {ta tb : Tm} (o : Op) (n : H p = none) (ha : TmAt K H va ta) (hb : TmAt K H vb tb) : TmAt K (upd H p (.tup [.str o.str, va, vb])) (.ref p) (.op o ta tb) :=
  ⟨p, va, vb, rfl, Tu.of upd_same, ha.up (Kp.new n : Kp [] _ _), hb.up (Kp.new n : Kp [] _ _)⟩
theorem TmAt.new {K : PySem.W.Frag} {H : Hp} {p : Addr} {o : HO} {v : V} {t : Tm} (h : TmAt K H v t) (n : H p = none) : TmAt K (upd H p o) v t := h.up (Kp.new n : Kp [] _ _)
theorem lt_big {n : Nat} (h : n ≤ 1000000) : n < sizeLine := Nat.lt_of_le_of_lt h (by decide)
theorem g_ixA {w : World} {K : PySem.W.Frag} {H : Hp} {Q : VK} {v : V} {p : Addr} {xs : List V} {i : Int} (h : SqA K H p xs) (a : atI xs i = some v) (q : Q v H) : rIxA w K (.ref p) (.int i) H Q := h.elim (fun h => g_ixL h a q) fun h => g_ixT h a q
/-! ### parts of lists -/
def cutA {α : Type} (xs : List α) (lo hi : Option Int) : List α := (xs.drop (HT.sIx xs.length 0 lo)).take (HT.sIx xs.length xs.length hi - HT.sIx xs.length 0 lo)
theorem AllAt.drop {α : Type} {R : Hp → V → α → Prop} {H : Hp} : ∀ (n : Nat) {vs : List V} {as : List α}, AllAt R H vs as → AllAt R H (vs.drop n) (as.drop n)
  | 0, _, _, h => h
  | _ + 1, _, _, .nil => .nil
  | n + 1, _, _, .cons _ h => AllAt.drop n h
theorem AllAt.take {α : Type} {R : Hp → V → α → Prop} {H : Hp} : ∀ (n : Nat) {vs : List V} {as : List α}, AllAt R H vs as → AllAt R H (vs.take n) (as.take n)
  | 0, _, _, _ => .nil
  | _ + 1, _, _, .nil => .nil
  | n + 1, _, _, .cons r h => .cons r (AllAt.take n h)
theorem AllAt.cut {α : Type} {R : Hp → V → α → Prop} {H : Hp} {vs : List V} {as : List α} (h : AllAt R H vs as) (lo hi : Option Int) : AllAt R H (cutV vs lo hi) (cutA as lo hi) := by
  have e := h.length
  unfold cutV cutA
  rw [e]
  exact (h.drop _).take _
theorem cutA_length {α : Type} (xs : List α) (lo hi : Option Int) : (cutA xs lo hi).length ≤ xs.length := by
  unfold cutA
  rw [List.length_take, List.length_drop]
  omega
theorem Kp.lst {S : List Addr} {H H' : Hp} {p : Addr} {xs : List V} (k : Kp S H H') (n : p ∉ S) (h : H p = some (.lst xs)) : H' p = some (.lst xs) := k.k _ _ n h
theorem g_neg {i : Int} {H : Hp} {Q : VK} (q : Q (.int (-i)) H) : rU (fun i => .int (-i)) (.int i) H Q := ⟨i, rfl, q⟩
theorem g_tupleL {K : PySem.W.Frag} {p : Addr} {ys : List V} {H : Hp} {Q : VK} (h : SqL K H p ys) (q : ∀ l, H l = none → Q (.ref l) (upd H l (.tup ys))) : rTupA K [.ref p] H Q := ⟨p, ys, rfl, .inl ⟨h, q⟩⟩
end Z

namespace Z
open PySem L2 PyProof.Rows
/-! ### own exceptions: made, raised, caught -/
/-- a class over ValueError whose __init__ is a def of the text -/
structure XInitAt (K : PySem.W.Frag) (mg : Str → Option Value) (x q : Str) (C : Addr) (st : Stmt) (ps : List Str) : Prop where
  ex : ∃ (f : Addr) (fd : FuncData), FunD K "__init__" q (defArgs st) (defBody st) (defScope st) [] [] f fd ∧ PySem.W.findIn K (.ref C) "__init__" = some (some (.ref f)) ∧ PySem.W.typeIn K (.ref f) = some (.type "function") ∧ mg x = some (.ref C) ∧ Binds K fd ps []
  cls : OexC K C
structure Xc (P : Program) (w : World) (K : PySem.W.Frag) (mg : Str → Option Value) (base : Heap) (CX : CXT) (k : Nat) (x : Str) (C : Addr) (sp : Sp) : Prop where
  ex : ∃ (f : Addr) (fd : FuncData) (ps : List Str), PySem.W.findIn K (.ref C) "__init__" = some (some (.ref f)) ∧ PySem.W.typeIn K (.ref f) = some (.type "function") ∧ FnOk P w K mg base CX k f fd ps sp ∧ mg x = some (.ref C) ∧ Binds K fd ps []
  cls : OexC K C
section
variable {P : Program} {w : World} {K : PySem.W.Frag} {mg : Str → Option Value} {base : Heap}
theorem xc_n {x q : Str} {C : Addr} {st : Stmt} {N ps : List Str} {k : Nat} {sp : Sp} (d : XInitAt K mg x q C st ps) (S : FnScope N ps (L2.defScope st)) (len : ∀ vs H Q E, sp vs H Q E → vs.length = ps.length)
    (hbody : ∀ (f : Addr) (cdv : Value) (A : Around) (outer : List Env) (s : Shared) (H : Hp) (vs : List V) (Q : VK) (E : XK), Room k (A.deeper (envOfC q (L2.defScope st) s.heap.objs.size f cdv)) → sp vs H Q E →
      ∃ t, PSs (cxOf L2.CX0 P w K mg base N q (L2.defScope st) f cdv A outer s H E).nox (L2.defBody st) t ∧ t { nx := fun _ H' => Q .non H', rt := Q } (start N vs) H) : Xc P w K mg base L2.CX0 (k + 1) x C sp := by
  obtain ⟨f, fd, F, h1, h2, hm, b⟩ := d.ex
  exact ⟨⟨f, fd, ps, h1, h2, F.ok S len (fun cdv A outer s H vs Q E hr h => let ⟨t, a, q⟩ := hbody f cdv A outer s H vs Q E hr h; ⟨t, a.nox, q⟩), hm, b⟩, d.cls⟩
end
def tRaiseO (C : Addr) (sp : Sp) (t : TA) (W : WX) : TS := fun _ σ H => tMkO C sp [] t σ H fun cls d H' => W cls d σ H'
section
variable {X : Cx} {k j : Nat} {x : Str} {C : Addr} {sp : Sp} {W : WX} {t : TA} {e : Expr} {es : List Expr} {p pos pos' : Pos}
theorem z_raise (c : Xc X.prog X.w X.K X.mg X.base L2.CX0 k x C sp) (hr : Room j X.A) (hk : k + 1 ≤ j) (hg : Gl X x) (hc : X.calm = true) (tk : Takes X W) (ha : PA X (e :: es) t)
    (hdb : (x == ("__debug__" : Str)) = false := by decide) (he : starEach (e :: es) X.env = (false, eval e X.env) :: starEach es X.env := by rfl) (hpl : (backTo pos (starEach es X.env)).any (·.1) = false := by rfl) :
    PS X (.Raise (some (.Call (.Name x p) (e :: es) [] pos)) none pos') (tRaiseO C sp t W) := by
  obtain ⟨f, fd, ps, h1, h2, F, hm, b⟩ := c.ex
  exact ps_raise hc tk (pmk_oex c.cls h1 h2 F (hr.mono hk) b .nil L2.pass0 hg hm ha hdb he hpl)
theorem g_raise {D : Ends} {σ : L2.St} {H : Hp} (h : t σ H fun vs H1 => vs.length ≤ 1000 ∧ ∀ a, H1 a = none → sp (.ref a :: (vs ++ [])) (upd H1 a (exo a C none))
  (fun v H2 => v = .non ∧ ∃ (d : Addr) (fs : List (Str × V)), H2 a = some (exo a C (some d)) ∧ H2 d = some (exd d fs) ∧ H1 d = none ∧ W (.ref C) (some d) σ (upd (del H2 a) d (.xd fs))) (fun _ _ _ => False)) : tRaiseO C sp t W D σ H := h
end
/-- self.f = y alone -/
def sp_exc1 (C : Addr) (f : Str) : Sp := fun vs H Q _ => ∃ (e : Addr) (y : V), vs = [.ref e, y] ∧ H e = some (exo e C none) ∧ ∀ dx, H dx = none → dx ≠ e → Q .non (upd (upd H dx (exd dx [(f, y)])) e (exo e C (some dx)))
def sp_exc2 (C : Addr) (f g : Str) : Sp := fun vs H Q _ => ∃ (e : Addr) (y z : V), vs = [.ref e, y, z] ∧ H e = some (exo e C none) ∧ ∀ dx, H dx = none → dx ≠ e → Q .non (upd (upd (upd H dx (exd dx [(f, y)])) e (exo e C (some dx))) dx (exd dx [(g, z), (f, y)]))
theorem exc_heap {H1 : Hp} {a d : Addr} {o1 o2 o3 o4 : HO} (n : H1 a = none) (ne : d ≠ a) : upd (del (upd (upd (upd H1 a o1) d o2) a o3) a) d o4 = upd H1 d o4 := by
  funext b
  by_cases e : b = d
  · rw [e, upd_same, upd_same]
  · rw [upd_ne e, upd_ne e]
    by_cases e2 : b = a
    · rw [e2, del_same, n]
    · rw [del_ne e2, upd_ne e2, upd_ne e, upd_ne e2]
theorem exc_heap2 {H1 : Hp} {a d : Addr} {o1 o2 o3 o4 o5 : HO} (n : H1 a = none) (ne : d ≠ a) : upd (del (upd (upd (upd (upd H1 a o1) d o2) a o3) d o5) a) d o4 = upd H1 d o4 := by
  funext b
  by_cases e : b = d
  · rw [e, upd_same, upd_same]
  · rw [upd_ne e, upd_ne e]
    by_cases e2 : b = a
    · rw [e2, del_same, n]
    · rw [del_ne e2, upd_ne e, upd_ne e2, upd_ne e, upd_ne e2]
theorem mk_exc1 {C : Addr} {f : Str} {y : V} {H1 : Hp} {R : Value → Option Addr → Hp → Prop} (h : ∀ d, H1 d = none → R (.ref C) (some d) (upd H1 d (.xd [(f, y)]))) :
    [y].length ≤ 1000 ∧ ∀ a, H1 a = none → sp_exc1 C f (.ref a :: ([y] ++ [])) (upd H1 a (exo a C none))
      (fun v H2 => v = .non ∧ ∃ (d : Addr) (fs : List (Str × V)), H2 a = some (exo a C (some d)) ∧ H2 d = some (exd d fs) ∧ H1 d = none ∧ R (.ref C) (some d) (upd (del H2 a) d (.xd fs))) (fun _ _ _ => False) :=
  ⟨le1000 rfl, fun a n => ⟨a, y, rfl, upd_same, fun dx n1 ne => ⟨rfl, dx, _, upd_same, by rw [upd_ne ne]; exact upd_same, fr_upd n1, by rw [exc_heap n ne]; exact h dx (fr_upd n1)⟩⟩⟩
theorem mk_exc2 {C : Addr} {f g : Str} {y z : V} {H1 : Hp} {R : Value → Option Addr → Hp → Prop} (h : ∀ d, H1 d = none → R (.ref C) (some d) (upd H1 d (.xd [(g, z), (f, y)]))) :
    [y, z].length ≤ 1000 ∧ ∀ a, H1 a = none → sp_exc2 C f g (.ref a :: ([y, z] ++ [])) (upd H1 a (exo a C none))
      (fun v H2 => v = .non ∧ ∃ (d : Addr) (fs : List (Str × V)), H2 a = some (exo a C (some d)) ∧ H2 d = some (exd d fs) ∧ H1 d = none ∧ R (.ref C) (some d) (upd (del H2 a) d (.xd fs))) (fun _ _ _ => False) :=
  ⟨le1000 rfl, fun a n => ⟨a, y, z, rfl, upd_same, fun dx n1 ne => ⟨rfl, dx, _, by rw [upd_ne (Ne.symm ne)]; exact upd_same, upd_same, fr_upd n1, by rw [exc_heap2 n ne]; exact h dx (fr_upd n1)⟩⟩⟩
/-! ### a local name that holds one of two defs, called -/
structure ClA (P : Program) (w : World) (K : PySem.W.Frag) (mg : Str → Option Value) (base : Heap) (CX : CXT) (k : Nat) (f : Addr) (sp : Sp) : Prop where
  ex : ∃ (fd : FuncData) (ps : List Str), FnOk P w K mg base CX k f fd ps sp ∧ PySem.W.keepIn K (.ref f) = true ∧ Binds K fd ps []
theorem Cl.at {P : Program} {w : World} {K : PySem.W.Frag} {mg : Str → Option Value} {base : Heap} {CX : CXT} {k : Nat} {x : Str} {f : Addr} {sp : Sp} (c : Cl P w K mg base CX k x sp []) (m : mg x = some (.ref f)) : ClA P w K mg base CX k f sp := by
  obtain ⟨f', fd, ps, ds, F, hm, kp, b, d⟩ := c.ex
  cases d
  rw [m] at hm
  cases hm
  exact ⟨fd, ps, F, kp, b⟩
def tCV2 (i : Nat) (f1 f2 : Addr) (sp1 sp2 : Sp) (E : L2.St → XK) (t : TA) : TE := fun σ H Q => (σ[i]? = some (some (.ref f1)) ∧ t σ H fun vs H1 => sp1 vs H1 Q (E σ)) ∨ (σ[i]? = some (some (.ref f2)) ∧ t σ H fun vs H1 => sp2 vs H1 Q (E σ))
theorem z_callV2 {X : Cx} {W : WX} {i j k1 k2 : Nat} {x : Str} {f1 f2 : Addr} {sp1 sp2 : Sp} {e : Expr} {es : List Expr} {t : TA} {p pos : Pos} (c1 : ClA X.prog X.w X.K X.mg X.base (L2.CX X.prog X.w) k1 f1 sp1) (c2 : ClA X.prog X.w X.K X.mg X.base (L2.CX X.prog X.w) k2 f2 sp2)
    (hr : Room j X.A) (h1 : k1 ≤ j) (h2 : k2 ≤ j) (hN : X.N[i]? = some x) (hv : Vis X.env.scope x) (tk : Takes X W) (ha : PA X (e :: es) t)
    (hd : (x == ("__debug__" : Str)) = false := by decide) (hcd : (x == ("__classdict__" : Str)) = false := by decide)
    (he : starEach (e :: es) X.env = (false, eval e X.env) :: starEach es X.env := by rfl) (hpl : (backTo pos (starEach es X.env)).any (·.1) = false := by rfl) :
    PE X (.Call (.Name x p) (e :: es) [] pos) (tCV2 i f1 f2 sp1 sp2 (WE W) t) := by
  refine ⟨fun pins s σ H Q I h => ?_⟩
  have main : ∀ (k : Nat) (f : Addr) (sp : Sp), ClA X.prog X.w X.K X.mg X.base (L2.CX X.prog X.w) k f sp → k ≤ j → σ[i]? = some (some (.ref f)) → (t σ H fun vs H1 => sp vs H1 Q (WE W σ)) → wpAny (model X.prog X.w) X.A (eval (.Call (.Name x p) (e :: es) [] pos) X.env) (EP X pins σ Q) X.xe s := fun k f sp c hk hs ht => by
    obtain ⟨fd, ps, F, kp, b⟩ := c.ex
    refine wpAny_Call_Name_kw (thn ((pe_var (pos := p) hN hv hd hcd).run pins s σ H (fun v H1 => v = .ref f ∧ H1 = H) I ⟨.ref f, hs, rfl, rfl⟩) fun u0 s1 ⟨v0, H1, I1, rv, qv⟩ => ?_)
    obtain ⟨z1, z2⟩ := qv
    subst z1 z2
    cases rv
    exact PySem.W.callWith_K (h₀ := X.base) I.ok.mod.kin kp (thn (ha.run pos pins s1 σ _ _ I1 ht) fun us s2 ⟨ws, H2, I2, rw2, q2⟩ => ⟨I2.kIn, run_fnS F (hr.mono hk) b (passAt tk σ) I2 rw2 q2⟩) he hpl
  rcases h with ⟨h1', h2'⟩ | ⟨h1', h2'⟩
  · exact main _ _ _ c1 h1 h1' h2'
  · exact main _ _ _ c2 h2 h1' h2'
/-! ### what the top says of such a class -/
def oexB (K : PySem.W.Frag) (C : Addr) : Bool := (match K.lookup C with
  | some ⟨.type "type", _, .cls cd, sl⟩ => (match cd.mro, sl.toList with
    | .ref C' :: bm, [_, _, _, _, some (.builtin n), _] => C' == C && (n == "ValueError.__new__" && (cd.hasDict && (!cd.hasDel && HandSPX.refsVE bm)))
    | _, _ => false)
  | _ => false) && (decide (PySem.W.findIn K (.ref C) "__setattr__" = some (some (.builtin "object.__setattr__"))) && (decide (PySem.W.subIn K (.ref C) (.type "BaseException") = some true) && (decide (PySem.W.typeIn K (.ref C) = some (.type "type")) && PySem.W.keepIn K (.ref C))))
theorem oexB_ok {K : PySem.W.Frag} {C : Addr} (h : oexB K C = true) : OexC K C := by
  obtain ⟨h1, h⟩ := Bool.and_eq_true_iff.mp h
  obtain ⟨h2, h⟩ := Bool.and_eq_true_iff.mp h
  obtain ⟨h3, h⟩ := Bool.and_eq_true_iff.mp h
  obtain ⟨h4, h5⟩ := Bool.and_eq_true_iff.mp h
  refine ⟨?_, of_decide_eq_true h2, of_decide_eq_true h3, of_decide_eq_true h4, h5⟩
  split at h1
  · rename_i dd cd sl hl
    split at h1
    · rename_i C2 bm k0 k1 k2 k3 n k5 hm hs
      obtain ⟨i1, h1⟩ := Bool.and_eq_true_iff.mp h1
      obtain ⟨i2, h1⟩ := Bool.and_eq_true_iff.mp h1
      obtain ⟨i3, h1⟩ := Bool.and_eq_true_iff.mp h1
      obtain ⟨i4, i5⟩ := Bool.and_eq_true_iff.mp h1
      have j1 : C2 = C := by simpa using i1
      have j2 : n = "ValueError.__new__" := by simpa using i2
      have j4 : cd.hasDel = false := by simpa using i4
      obtain ⟨nm, bs, mro, ns, qn, hd, sn, sub, ab, col, dl⟩ := cd
      dsimp only at hm i3 j4
      subst hm i3 j4 j1 j2
      have e : sl = #[k0, k1, k2, k3, some (.builtin "ValueError.__new__"), k5] := by
        obtain ⟨l⟩ := sl
        simp only at hs
        rw [hs]
      subst e
      exact ⟨nm, qn, ns, bs, bm, sn, sub, ab, col, dd, k0, k1, k2, k3, k5, hl, i5⟩
    · cases h1
  · cases h1
def excB (K : PySem.W.Frag) (D : Addr) : Bool := decide (PySem.W.findIn K (.ref D) "__getattribute__" = some (some (.builtin "BaseException.__getattribute__"))) && (decide (PySem.W.findIn K (.ref D) "__getattr__" = some none) && (decide (PySem.W.subIn K (.ref D) (.type "BaseException") = some true) &&
  (PySem.W.hasDictIn K D && (decide (PySem.W.findIn K (.ref D) "__class__" = some (some (.builtin "object.__class__"))) && (decide (PySem.W.specialIn K (.builtin "object.__class__") "__get__" = some (some (.builtin "getset_descriptor.__get__"))) &&
    (decide (PySem.W.takesIn K (.builtin "object.__class__") = some true) && decide (PySem.W.mroIn K D (.type "object") = some true)))))))
theorem excB_ok {K : PySem.W.Frag} {D : Addr} (h : excB K D = true) : L2.ExcC K D := by
  obtain ⟨h1, h⟩ := Bool.and_eq_true_iff.mp h
  obtain ⟨h2, h⟩ := Bool.and_eq_true_iff.mp h
  obtain ⟨h3, h⟩ := Bool.and_eq_true_iff.mp h
  obtain ⟨h4, h⟩ := Bool.and_eq_true_iff.mp h
  obtain ⟨h5, h⟩ := Bool.and_eq_true_iff.mp h
  obtain ⟨h6, h⟩ := Bool.and_eq_true_iff.mp h
  obtain ⟨h7, h8⟩ := Bool.and_eq_true_iff.mp h
  exact ⟨of_decide_eq_true h1, of_decide_eq_true h2, of_decide_eq_true h3, h4, of_decide_eq_true h5, of_decide_eq_true h6, of_decide_eq_true h7, of_decide_eq_true h8⟩
theorem xf_of {K : PySem.W.Frag} {D : Addr} (c : L2.ExcC K D) : XfC K D := ⟨c.hg, c.hk, c.hs, c.hd⟩
/-! ### isinstance of a caught one with its dict -/
def rIsX (K : PySem.W.Frag) (a : Addr) (cls : Value) (d : Option Addr) : List V → Hp → VK → Prop := fun xs H Q => (∃ (D dd : Addr) (fs : List (Str × V)) (c : V) (b : Bool), cls = .ref D ∧ d = some dd ∧ H dd = some (.xd fs) ∧ L2.ExcC K D ∧ xs = [.ref a, c] ∧
  ((∃ u, ClsV c u ∧ PySem.W.kitOne K (.ref D) u = some b) ∨ ∃ (tp : Addr) (cs : List V) (us : List Value), c = .ref tp ∧ H tp = some (.tup cs) ∧ Paired ClsV cs us ∧ PySem.W.kitAny K (.ref D) us = some b) ∧ Q (.bl b) H) ∨ rIsi K xs H Q
theorem call_isX {X : Cx} {a : Addr} {oe : Obj} {cls : Value} {d : Option Addr} {pn : List (Addr × Obj)} (hz : Zc cls d oe) (hf : ∃ vs, oe.data = .fields vs) : CallR (X.suite a ((a, oe) :: pn)) (.builtin "isinstance") (rIsX X.K a cls d) := by
  intro pins s σ H xs us Q I r h
  rcases h with ⟨D, dd, fs, c, b, rfl, rfl, hdd, T, rfl, h, q⟩ | h
  · obtain ⟨u1, u2, rfl, r1, r2⟩ := vals2 r
    obtain rfl : u1 = Value.ref a := r1
    obtain ⟨hget, _⟩ := I.pin (a, oe) (List.mem_append.mpr (.inl List.mem_cons_self))
    obtain ⟨vs, hv⟩ := hf
    have hx : ObjOk X.prog X.w H s.heap dd (.xd fs) := I.hok dd _ hdd
    obtain ⟨mA, hns, _⟩ := hx
    obtain ⟨od, ho, _⟩ := lookIn_ns hns
    have J : PySem.W.InstAt s.heap a oe D (some od) := ⟨hget, hz.1, by unfold PySem.W.notCls; rw [hv] <;> rfl, by rw [hz.2]; exact ho⟩
    have hcl : (PySem.W.clsIn X.K D).isSome = true := by
      have := T.hd
      unfold PySem.W.hasDictIn at this
      cases e : PySem.W.clsIn X.K D with
      | none => rw [e] at this; cases this
      | some _ => rfl
    have Z := PySem.W.kitx_exc (x := a) (ox := oe) (od := some od) hcl T.hg T.hk T.hs T.ha T.hn T.ht T.hm
    rcases h with ⟨u, k, e⟩ | ⟨tp, cs, ws, rfl, htp, k, e⟩
    · have e2 := k.eq r2
      subst e2
      exact PySem.W.kia_one Z I.kIn J e (fun z => nomatch z) fun tk => ⟨.bl b, H, I.tok tk, rfl, q⟩
    · cases (show u2 = Value.ref tp from r2)
      obtain ⟨_, its, rv, o, h1, h2, n, h3⟩ := (show ObjOk X.prog X.w H s.heap tp (.tup cs) from I.hok tp _ htp)
      have e3 := ClsV.all k rv
      subst e3
      obtain ⟨oc, odd, dt, sl⟩ := o
      simp only at h2 h3
      subst h2 h3
      exact PySem.W.kia_tup Z I.kIn J h1 e (fun z => nomatch z) fun tk => ⟨.bl b, H, I.tok tk, rfl, q⟩
  · exact call_isi pins s σ H xs us Q I r h
section
variable {K : PySem.W.Frag} {σ : L2.St} {H : Hp} {Q : VK}
theorem g_xf {te : TE} {a : Addr} {cls : Value} {d : Option Addr} {C : Addr} {f : Str} (h : te σ H fun x H1 => x = .ref a ∧ cls = .ref C ∧ ∃ (dd : Addr) (fs : List (Str × V)) (v : V), d = some dd ∧ H1 dd = some (.xd fs) ∧ fs.lookup f = some v ∧ Q v H1) : tXf a cls d C f te σ H Q := h
theorem g_isXT {ea d : Addr} {D : Addr} {fs : List (Str × V)} {tp : Addr} {cs : List V} {us : List Value} {b : Bool} (hd : H d = some (.xd fs)) (T : L2.ExcC K D) (htp : H tp = some (.tup cs)) (k : Paired ClsV cs us) (e : PySem.W.kitAny K (.ref D) us = some b) (q : Q (.bl b) H) : rIsX K ea (.ref D) (some d) [.ref ea, .ref tp] H Q :=
  .inl ⟨D, d, fs, _, b, rfl, rfl, hd, T, rfl, .inr ⟨tp, cs, us, rfl, htp, k, e⟩, q⟩
theorem g_isX1 {ea d : Addr} {D : Addr} {fs : List (Str × V)} {c : V} {u : Value} {b : Bool} (hd : H d = some (.xd fs)) (T : L2.ExcC K D) (k : ClsV c u) (e : PySem.W.kitOne K (.ref D) u = some b) (q : Q (.bl b) H) : rIsX K ea (.ref D) (some d) [.ref ea, c] H Q :=
  .inl ⟨D, d, fs, _, b, rfl, rfl, hd, T, rfl, .inl ⟨u, k, e⟩, q⟩
theorem g_isXi {ea : Addr} {cls : Value} {d : Option Addr} {i : Int} {n : String} {b : Bool} (e : kitB "int" n = some b) (q : Q (.bl b) H) : rIsX K ea cls d [.int i, .ty n] H Q := .inr ⟨_, _, _, _, b, rfl, .ty n, .base (.int i), kit_ty e, q⟩
def OrP (x : V) (H1 : Hp) (A : Prop) (B : Prop) : Prop := ∃ c, x = .bl c ∧ if c = true then A else B
theorem g_orV {ta tb : TE} (h : ta σ H fun x H1 => OrP x H1 (Q (.bl true) H1) (tb σ H1 Q)) : tOrV ta tb σ H Q := h
theorem g_andV {ta tb : TE} (h : ta σ H fun x H1 => OrP x H1 (tb σ H1 Q) (Q (.bl false) H1)) : tAndV ta tb σ H Q := h
theorem g_orB {b : Bool} {A B : Prop} (h : if b = true then A else B) : OrP (.bl b) H A B := ⟨b, rfl, h⟩
theorem g_orF {A B : Prop} (h : B) : OrP (.bl false) H A B := ⟨false, rfl, iteF h⟩
theorem g_orT {A B : Prop} (h : A) : OrP (.bl true) H A B := ⟨true, rfl, iteT h⟩
def NotP (x : V) (H1 : Hp) (Q : VK) : Prop := ∃ c, x = .bl c ∧ Q (.bl (!c)) H1
theorem g_notV {ta : TE} (h : ta σ H fun x H1 => NotP x H1 Q) : tNotV ta σ H Q := h
theorem g_notB {b : Bool} (h : Q (.bl (!b)) H) : NotP (.bl b) H Q := ⟨b, rfl, h⟩
end
end Z

namespace Z
open PySem PySem.Spec PyProof.Rows L2
/-! ### the head's facts: defs, tables, one Bool -/
abbrev AlZ : Type := He.AlT × Bool
def obsZ (fa : List He.Fa) (fn : List He.DefD) (ts : List He.Tab) (B : PySem.W.Frag → Bool) (K : PySem.W.Frag) : AlZ := (He.obsT fa fn ts K, B K)
def valZ (fn : List He.DefD) (ts : List He.Tab) (w : World) : AlZ := (He.valT fn ts w, true)
def obsZG (n : Nat) (fa : List He.Fa) (fn : List He.DefD) (ts : List He.Tab) (B : PySem.W.Frag → Bool) (g : Addr → Option Obj) : AlZ := obsZ fa fn ts B (He.frG g (He.asD g n))
def SaysZ (fa : List He.Fa) (fn : List He.DefD) (ts : List He.Tab) (B : PySem.W.Frag → Bool) (w : World) (K : PySem.W.Frag) : Prop := obsZ fa fn ts B K = valZ fn ts w
def hookZ (n : Nat) (fa : List He.Fa) (fn : List He.DefD) (ts : List He.Tab) (B : PySem.W.Frag → Bool) : PySem.W.Hook where
  α := AlZ
  obs := fun s => obsZG n fa fn ts B s.heap.get?
  val := fun w => valZ fn ts w
  says := fun w h => ∃ K : PySem.W.Frag, K.In h ∧ SaysZ fa fn ts B w K
  of := fun _ _ e => ⟨_, He.frG_in, e⟩
  keeps := fun _ _ _ ⟨K, hK, c⟩ k => ⟨K, PySem.W.Frag.In.keeps hK k, c⟩
theorem obsZG_eq {n : Nat} {fa : List He.Fa} {fn : List He.DefD} {ts : List He.Tab} {B : PySem.W.Frag → Bool} {g : Addr → Option Obj} {s : Shared} (h : ∀ a, g a = s.heap.get? a) : obsZG n fa fn ts B g = (hookZ n fa fn ts B).obs s := by
  have e : g = s.heap.get? := funext h
  rw [e] <;> rfl
section
variable {fa : List He.Fa} {fn : List He.DefD} {ts : List He.Tab} {B : PySem.W.Frag → Bool} {w : World} {K : PySem.W.Frag}
theorem SaysZ.t (c : SaysZ fa fn ts B w K) : He.SaysT fa fn ts w K := congrArg (fun z : AlZ => z.1) c
theorem SaysZ.b (c : SaysZ fa fn ts B w K) : B K = true := congrArg (fun z : AlZ => z.2) c
theorem fact (c : SaysZ fa fn ts B w K) (i : Nat) {f : He.Fa} (h : fa[i]? = some f := by rfl) : f.ok K = true := c.t.d.fact i h
theorem bfact {L : PySem.W.Frag → List Bool} (c : SaysZ fa fn ts (fun K => (L K).all id) w K) (i : Nat) {b : Bool} (h : (L K)[i]? = some b := by rfl) : b = true :=
  List.all_eq_true.mp (show (L K).all id = true from c.b) b (List.mem_of_getElem? h)
theorem wdict_of {a : Addr} {kvs : List (Str × He.Dv)} (t : ∃ es n, KDict K w a es n) (h : He.valsB K a kvs = true) : WDict K w a (kvs.map fun p => (p.1, p.2.v K)) :=
  ⟨t, fun q hq => by
    obtain ⟨p, hp, e⟩ := List.mem_map.mp hq
    subst e
    exact He.valsB_ok h hp⟩
/-- a def of the text, found -/
theorem defAt {mg : Str → Option Value} {h : Heap} (c : SaysZ fa fn ts B w K) (X : K.In h) (G : h.Ns mainGlobals mg) (i j : Nat) {x : Str} {st : Stmt} {ps : List Str} (hd : fn[i]? = some ⟨(x, none), x, x, defArgs st, defBody st, defScope st, [], []⟩) (hf : fa[j]? = some (.glo x))
    (hb : ∀ (kV doc pm : Value) (an : Option Addr) (cdv ct : Value) (us : List Value), us.length = ps.length → bindArgs (PySem.W.fnOf x x (defArgs st) (defBody st) (defScope st) .none kV doc pm an cdv ct) ⟨us, []⟩ = pure (ps.zip us)) : DefAt K mg x st ps := by
  obtain ⟨fd, F⟩ := c.t.d.def_ i hd
  exact ⟨_, fd, F, He.glo_ok X G (fact c j hf), FunD.bindsN F hb⟩
theorem initAt {mg : Str → Option Value} {h : Heap} (c : SaysZ fa fn ts B w K) (X : K.In h) (G : h.Ns mainGlobals mg) (i j l : Nat) {x q : Str} {st : Stmt} {ps : List Str} (hd : fn[i]? = some ⟨(x, some "__init__"), "__init__", q, defArgs st, defBody st, defScope st, [], []⟩) (hf : fa[j]? = some (.glo x)) (hm : fa[l]? = some (.mkr x))
    (hb : ∀ (kV doc pm : Value) (an : Option Addr) (cdv ct : Value) (us : List Value), us.length = ps.length → bindArgs (PySem.W.fnOf "__init__" q (defArgs st) (defBody st) (defScope st) .none kV doc pm an cdv ct) ⟨us, []⟩ = pure (ps.zip us)) : InitAt K mg x q (He.ga K x) st ps := by
  obtain ⟨fd, F⟩ := c.t.d.def_ i hd
  obtain ⟨h1, h2⟩ := He.ba (fact c l hm)
  obtain ⟨h3, h4⟩ := He.ba h2
  obtain ⟨h5, h6⟩ := He.ba h4
  exact ⟨_, fd, F, ⟨h1, He.eqO_ok h3, h5, h6⟩, He.glo_ok X G (fact c j hf), FunD.bindsN F hb⟩
theorem xinitAt {mg : Str → Option Value} {h : Heap} (c : SaysZ fa fn ts B w K) (X : K.In h) (G : h.Ns mainGlobals mg) (i j l : Nat) {x q : Str} {st : Stmt} {ps : List Str} (hd : fn[i]? = some ⟨(x, some "__init__"), "__init__", q, defArgs st, defBody st, defScope st, [], []⟩) (hf : fa[j]? = some (.glo x)) (hm : fa[l]? = some (.meth x "__init__")) (o : OexC K (He.ga K x))
    (hb : ∀ (kV doc pm : Value) (an : Option Addr) (cdv ct : Value) (us : List Value), us.length = ps.length → bindArgs (PySem.W.fnOf "__init__" q (defArgs st) (defBody st) (defScope st) .none kV doc pm an cdv ct) ⟨us, []⟩ = pure (ps.zip us)) : XInitAt K mg x q (He.ga K x) st ps := by
  obtain ⟨fd, F⟩ := c.t.d.def_ i hd
  obtain ⟨h1, h2⟩ := He.ba (fact c l hm)
  obtain ⟨h3, _⟩ := He.ba h2
  have h3' : PySem.W.typeIn K (.ref (He.ma K (He.ga K x) "__init__")) = some (.type "function") := by simpa [PySem.W.isFn] using h3
  exact ⟨⟨_, fd, F, He.eqO_ok h1, h3', He.glo_ok X G (fact c j hf), FunD.bindsN F hb⟩, o⟩
end
theorem walk_ofZ {l : PySem.W.OpenLaw} {n k : Nat} {q : Program} {loose : List Str} {XP : (Str → Option Value) → Heap → Prop} {YP : World → Heap → Prop} {d : DefRec} {CX : World → CXT} {x : Str}
    (hn : l.most = some n) (hn2 : n ≤ sizeLine) (hdf : d.params.defaults = []) (hr : Room k callerA)
    (F : ∀ (w : World) (mg : Str → Option Value) (fa : Addr) (h : Heap), YP w h → h.Ns mainGlobals mg → mg d.name = some (.ref fa) →
      ∃ (K : PySem.W.Frag) (fd : FuncData) (sp : Sp), K.In h ∧ (∀ (s : Shared) (u : Value), BindsTo s fd ⟨[u], []⟩ [(x, u)]) ∧
        (∀ (H : Hp) (a : Addr) (ns : List Int), ns.length ≤ n → (∀ z ∈ ns, Builtin.Int.intBits z ≤ 1048576) → Only H → SqL K H a (ns.map V.int) → sp [.ref a] H (fun v _ => v = .bl true) fun _ _ _ => False) ∧
        ∀ base : Heap, K.In base → base.Ns mainGlobals mg → FnOk l.prog w K mg base (CX w) k fa fd [x] sp)
    (hCX : ∀ (w : World) (H : Hp) (s : Shared) (e : Value) (s' : Shared), CX w [] H s (fun _ _ _ => False) e s' → False) :
    PySem.W.WalkO q loose XP YP l.row.toRowW d [] (fun f vs => PySem.call f vs) := by
  refine Att.attach_callB hn hdf fun w s₀ s₁ mg mb fa o pm cd doc a vs ns G Y ho hd hcd hmg hobj hints hlen hbits hg => ?_
  obtain ⟨K, fd, sp, KX, hb, hsp, hF⟩ := F w mg fa _ Y G.T.g hmg
  exact law_call KX G.T.g G.T.b G.T.builtins G.T.nolimit hg hobj hints (Nat.le_trans hlen hn2) hr hF hb (fun H hO hS => hsp H a ns hlen hbits hO hS) fun H e s' => hCX w H s₁ e s'
end Z

local macro_rules | `(tactic| wtm_at "ne") => `(tactic| first
  | assumption
  | ((with_reducible apply Ne.symm); assumption)
  | ((with_reducible apply Z.ne_nn); (· assumption); wtm_at "hp")
  | ((with_reducible apply Ne.symm); (with_reducible apply Z.ne_nn); (· assumption); wtm_at "hp")
  | ((with_reducible apply Z.ne_cc); (· assumption); (· assumption); (intro q; cases q)))
local macro_rules | `(tactic| wtm_at "ns") => `(tactic| first
  | exact Z.ns0
  | ((with_reducible apply Z.ns1); wtm_at "ne")
  | ((with_reducible apply Z.ns2) <;> wtm_at "ne"))
local macro_rules | `(tactic| wtm_at "hp") => `(tactic| first
  | assumption
  | exact L2.upd_same
  | ((with_reducible apply Z.upd_keep); (· assumption); wtm_at "hp")
  | ((with_reducible apply Z.upd_other); (· wtm_at "ne"); wtm_at "hp")
  | ((with_reducible apply Z.Kp.k); (· assumption); (· wtm_at "ns"); wtm_at "hp"))
local macro_rules | `(tactic| wtm_at "kp") => `(tactic| first
  | assumption
  | exact Z.Kp.refl
  | exact Z.Kp.new (by assumption)
  | ((with_reducible apply Z.Kp.trans _ (Z.Kp.new (by assumption))); wtm_at "kp")
  | ((with_reducible apply Z.Kp.trans _ (by assumption)); wtm_at "kp"))
local macro_rules | `(tactic| wtm_at "sq") => `(tactic| first
  | assumption
  | exact L2.SqL.of L2.upd_same
  | exact L2.SqT.of L2.upd_same
  | ((with_reducible apply Z.Tu.sq); assumption)
  | ((with_reducible apply L2.SqL.of); wtm_at "hp")
  | ((with_reducible apply L2.SqT.of); wtm_at "hp")
  | ((with_reducible apply Z.Tu.sq); (with_reducible apply Z.Tu.up); (· assumption); assumption)
  | ((with_reducible apply Z.sq_new); (· assumption); wtm_at "sq")
  | ((with_reducible apply Z.Kp.l); (· assumption); (· wtm_at "ns"); wtm_at "sq"))
local macro_rules | `(tactic| wtm_at "go") => `(tactic| first
  | (with_reducible refine Z.g_seq ?_)
  | ((with_reducible apply Z.g_var); (· exact rfl))
  | (with_reducible refine Z.g_c ?_)
  | (with_reducible refine Z.g_op ?_)
  | (with_reducible refine Z.g_asg ?_)
  | (with_reducible refine Z.g_name ?_)
  | (with_reducible refine Z.g_test ?_)
  | (with_reducible refine Z.g_B ?_)
  | (with_reducible refine Z.g_cons ?_)
  | (with_reducible refine Z.g_nil ?_)
  | (with_reducible refine Z.g_call ?_)
  | (with_reducible refine Z.g_cb ?_)
  | (with_reducible refine Z.g_gt ?_)
  | (with_reducible refine Z.g_lt ?_)
  | (with_reducible refine Z.g_le ?_)
  | (with_reducible refine Z.g_ge ?_)
  | (with_reducible refine Z.g_add ?_)
  | (with_reducible refine Z.g_sub ?_)
  | (with_reducible refine Z.g_ret ?_)
  | (with_reducible refine Z.g_next ?_)
  | (with_reducible refine Z.g_drop ?_)
  | (with_reducible refine Z.g_bl ?_)
  | (with_reducible refine Z.g_int ?_)
  | (with_reducible refine Z.g_intB ?_)
  | (with_reducible refine Z.g_eqI ?_)
  | (with_reducible refine Z.g_neI ?_)
  | (with_reducible refine Z.g_eqS ?_)
  | (with_reducible refine Z.g_neS ?_)
  | (with_reducible refine Z.g_band ?_)
  | (with_reducible refine Z.g_bor ?_)
  | (with_reducible refine Z.g_bxor ?_)
  | (with_reducible refine Z.g_sub1 ?_)
  | (with_reducible refine Z.g_bm ?_)
  | (with_reducible refine Z.g_bm0 ?_)
  | (with_reducible refine Z.g_tyS ?_)
  | (with_reducible refine Z.g_par ?_)
  | (with_reducible refine Z.g_par2 ?_)
  | (with_reducible refine Z.g_and ?_)
  | (with_reducible refine Z.g_or ?_)
  | (with_reducible refine Z.g_not ?_)
  | (with_reducible refine Z.g_fld ?_)
  | (with_reducible refine Z.g_tup ?_)
  | (with_reducible refine Z.g_lst ?_)
  | (with_reducible refine Z.g_max2 ?_)
  | (with_reducible refine Z.g_min2 ?_)
  | ((with_reducible apply Z.g_mul); (· first | exact Z.mul_small (by omega) (by omega) | exact Z.mul_small (by decide) (by decide)))
  | ((with_reducible apply Z.g_div); (· exact (by omega)))
  | ((with_reducible apply Z.g_mod); (· exact (by omega)))
  | ((with_reducible apply Z.g_ixL); (· wtm_at "sq"); (· first | exact rfl | exact Z.at_bi | exact Z.at_bb))
  | ((with_reducible apply Z.g_ixT); (· wtm_at "sq"); (· first | exact rfl | exact Z.at_bi | exact Z.at_bb))
  | ((with_reducible apply Z.g_setL); (· wtm_at "hp"); (· exact rfl))
  | ((with_reducible apply Z.g_lenL); (· wtm_at "sq"))
  | ((with_reducible apply Z.g_lenT); (· wtm_at "sq"))
  | ((with_reducible apply Z.g_tyL); (· wtm_at "sq"))
  | ((with_reducible apply Z.g_fresh); (· exact rfl); intro _ _)
  | (with_reducible refine Z.g_un ?_)
  | (with_reducible refine Z.g_neg ?_)
  | (with_reducible refine Z.g_callS ?_)
  | (with_reducible refine Z.g_orV ?_)
  | (with_reducible refine Z.g_andV ?_)
  | (with_reducible refine Z.g_orF ?_)
  | (with_reducible refine Z.g_orT ?_)
  | (with_reducible refine Z.g_notV ?_)
  | (with_reducible refine Z.g_notB ?_)
  | (with_reducible refine Z.g_xf ?_)
  | (with_reducible refine Z.g_raise ?_)
  | (with_reducible refine Z.g_make ?_)
  | (with_reducible refine Z.g_sfld ?_)
  | (with_reducible refine Z.g_slc ?_)
  | (with_reducible refine Z.g_np ?_)
  | (with_reducible refine Z.g_pt ?_)
  | (with_reducible refine Z.g_pt1 ?_)
  | (with_reducible refine Z.g_for ?_)
  | (with_reducible refine Z.g_lc ?_)
  | (with_reducible refine Z.g_it ?_)
  | ((with_reducible apply Z.g_itL); (· wtm_at "sq"))
  | ((with_reducible apply Z.g_itT); (· wtm_at "sq"))
  | (with_reducible refine Z.g_itS ?_)
  | (with_reducible refine Z.g_en ?_)
  | ((with_reducible apply Z.g_enL); (· wtm_at "sq"))
  | ((with_reducible apply Z.g_enT); (· wtm_at "sq"))
  | (with_reducible refine Z.g_enS ?_)
  | (with_reducible refine Z.g_r1 ?_)
  | ((with_reducible apply Z.g_r1'); (· exact (by omega)))
  | (with_reducible refine Z.g_r2 ?_)
  | ((with_reducible apply Z.g_r2'); (· exact (by omega)))
  | (with_reducible refine Z.g_pts0 ?_)
  | (with_reducible refine Z.g_gc ?_)
  | (with_reducible refine Z.g_gn ?_)
  | ((with_reducible apply Z.g_tg); (· wtm_at "sq"); (· exact rfl))
  | ((with_reducible apply Z.g_pow); (· first | decide | exact (by omega)))
  | ((with_reducible apply Z.g_append); (· wtm_at "hp"); (· first | assumption | omega)))
local macro_rules | `(tactic| wtm_at "gos") => `(tactic| repeat wtm_at "go")
local macro_rules | `(tactic| wtm_at "if") => `(tactic| (with_reducible refine Z.g_if ?_))
local macro_rules | `(tactic| wtm_at "fr") => `(tactic| first
  | assumption
  | ((with_reducible apply Z.fr_upd); (· assumption))
  | ((with_reducible apply Z.fr_upd); (with_reducible apply Z.fr_upd); (· assumption))
  | ((with_reducible apply Z.Kp.n); (· assumption); wtm_at "fr")
  | ((with_reducible apply Z.fr_upd); wtm_at "fr"))
local macro_rules | `(tactic| wtm_at "tq") => `(tactic| first
  | assumption
  | ((with_reducible apply Z.t_orX); (· assumption); intro _; wtm_at "gos"; wtm_at "tq")
  | ((with_reducible apply Z.t_andX); (· assumption); intro _; wtm_at "gos"; wtm_at "tq"))
local macro_rules | `(tactic| wtm_at "cond") => `(tactic| ((with_reducible apply Z.g_ifP); (· (intro _ _; wtm_at "gos"; wtm_at "tq"))))

namespace T
open PySem PyProof.Rows L2 Z

def top (i : Nat) : Stmt := PySem.Challenge.pw_runsums_k71_not_made_one.main.body.getD i (.Pass ⟨0, 0, 0, 0⟩)
abbrev s_l_take : Stmt := top 29
theorem sc_l_take : FnScope ["box", "wide", "one", "digit"] ["box", "wide"] (defScope s_l_take) := ⟨rfl, rfl, rfl, by decide +kernel, rfl, by decide +kernel, by decide +kernel⟩
abbrev s_l_box : Stmt := top 28
theorem sc_l_box : FnScope ["script", "k", "cell", "seed"] ["script", "k"] (defScope s_l_box) := ⟨rfl, rfl, rfl, by decide +kernel, rfl, by decide +kernel, by decide +kernel⟩
abbrev s_l_pool : Stmt := top 30
theorem sc_l_pool : FnScope ["box", "many", "signs", "head", "stem", "found", "k", "first", "at", "name"] ["box", "many"] (defScope s_l_pool) := ⟨rfl, rfl, rfl, by decide +kernel, rfl, by decide +kernel, by decide +kernel⟩
abbrev s_l_term : Stmt := top 31
theorem sc_l_term : FnScope ["box", "pool", "down", "form", "one"] ["box", "pool", "down"] (defScope s_l_term) := ⟨rfl, rfl, rfl, by decide +kernel, rfl, by decide +kernel, by decide +kernel⟩
abbrev s_sum_of : Stmt := top 15
theorem sc_sum_of : FnScope ["terms", "found", "k", "term"] ["terms"] (defScope s_sum_of) := ⟨rfl, rfl, rfl, by decide +kernel, rfl, by decide +kernel, by decide +kernel⟩
abbrev s_Saying_init : Stmt := inClass (top 21) 0
theorem sc_Saying_init : FnScope ["self", "word", "left", "right"] ["self", "word", "left", "right"] (defScope s_Saying_init) := ⟨rfl, rfl, rfl, by decide +kernel, rfl, by decide +kernel, by decide +kernel⟩
abbrev s_NoOne_init : Stmt := inClass (top 5) 0
theorem sc_NoOne_init : FnScope ["self", "at"] ["self", "at"] (defScope s_NoOne_init) := ⟨rfl, rfl, rfl, by decide +kernel, rfl, by decide +kernel, by decide +kernel⟩
abbrev s_need_same : Stmt := top 24
theorem sc_need_same : FnScope ["sayings", "at", "saying"] ["sayings"] (defScope s_need_same) := ⟨rfl, rfl, rfl, by decide +kernel, rfl, by decide +kernel, by decide +kernel⟩
abbrev s_made_one : Stmt := top 25
theorem sc_made_one : FnScope ["sayings", "squares", "products", "saying", "left", "right"] ["sayings"] (defScope s_made_one) := ⟨rfl, rfl, rfl, by decide +kernel, rfl, by decide +kernel, by decide +kernel⟩
abbrev s_either : Stmt := top 26
theorem sc_either : FnScope ["one", "other", "along", "across"] ["one", "other"] (defScope s_either) := ⟨rfl, rfl, rfl, by decide +kernel, rfl, by decide +kernel, by decide +kernel⟩
abbrev s_l_both : Stmt := top 33
theorem sc_l_both : FnScope ["things"] ["things"] (defScope s_l_both) := ⟨rfl, rfl, rfl, by decide +kernel, rfl, by decide +kernel, by decide +kernel⟩
abbrev s_l_due : Stmt := top 34
theorem sc_l_due : FnScope ["some", "at", "saying"] ["some"] (defScope s_l_due) := ⟨rfl, rfl, rfl, by decide +kernel, rfl, by decide +kernel, by decide +kernel⟩
abbrev s_l_said : Stmt := top 32
theorem sc_l_said : FnScope ["call", "things", "said", "e", "other"] ["call", "things"] (defScope s_l_said) := ⟨rfl, rfl, rfl, by decide +kernel, rfl, by decide +kernel, by decide +kernel⟩
abbrev s_law : Stmt := top 35
theorem sc_law : FnScope ["script", "box", "k", "good", "at", "one", "pool", "some", "word", "other", "saying"] ["script"] (defScope s_law) := ⟨rfl, rfl, rfl, by decide +kernel, rfl, by decide +kernel, by decide +kernel⟩
structure Txt (w : World) (K : PySem.W.Frag) (mg : Str → Option Value) (a : Ad) : Prop where
  d_l_take : DefAt K mg "_law_take" s_l_take ["box", "wide"]
  d_l_box : DefAt K mg "_law_box" s_l_box ["script", "k"]
  d_l_pool : DefAt K mg "_law_pool" s_l_pool ["box", "many"]
  d_l_term : DefAt K mg "_law_term" s_l_term ["box", "pool", "down"]
  d_sum_of : DefAt K mg "sum_of" s_sum_of ["terms"]
  m_Saying : InitAt K mg "Saying" "Saying.__init__" a.say s_Saying_init ["self", "word", "left", "right"]
  m_NoOne : XInitAt K mg "NoOne" "NoOne.__init__" (a.x "NoOne") s_NoOne_init ["self", "at"]
  no_NoOne_at : PySem.W.findIn K (.ref (a.x "NoOne")) "at" = some none
  e_NoOne : L2.ExcC K (a.x "NoOne")
  d_need_same : DefAt K mg "need_same" s_need_same ["sayings"]
  d_made_one : DefAt K mg "made_one" s_made_one ["sayings"]
  d_either : DefAt K mg "either" s_either ["one", "other"]
  d_l_both : DefAt K mg "_law_both" s_l_both ["things"]
  d_l_due : DefAt K mg "_law_due" s_l_due ["some"]
  d_l_said : DefAt K mg "_law_said" s_l_said ["call", "things"]
  d_law : DefAt K mg "law" s_law ["script"]
  g_Saying : mg "Saying" = some (.ref a.say)
  cl_Saying : Cls K a.say
  no_Saying_word : NoAttr K a.say "word"
  no_Saying_left : NoAttr K a.say "left"
  no_Saying_right : NoAttr K a.say "right"
  g_NoAnswer : mg "NoAnswer" = some (.ref (a.x "NoAnswer"))
  g_NoBegin : mg "NoBegin" = some (.ref (a.x "NoBegin"))
  g_NoHeld : mg "NoHeld" = some (.ref (a.x "NoHeld"))
  g_NoNumber : mg "NoNumber" = some (.ref (a.x "NoNumber"))
  g_NoOne : mg "NoOne" = some (.ref (a.x "NoOne"))
  g_NoProgram : mg "NoProgram" = some (.ref (a.x "NoProgram"))
  g_NoRow : mg "NoRow" = some (.ref (a.x "NoRow"))
  g_NoText : mg "NoText" = some (.ref (a.x "NoText"))
  g_NoWord : mg "NoWord" = some (.ref (a.x "NoWord"))
  g_TooGreat : mg "TooGreat" = some (.ref (a.x "TooGreat"))
  g_Unknown : mg "Unknown" = some (.ref (a.x "Unknown"))
  g_Wrong : mg "Wrong" = some (.ref (a.x "Wrong"))
  g_l_both : mg "_law_both" = some (.ref (a.x "_law_both"))
  g_made_one : mg "made_one" = some (.ref (a.x "made_one"))
  x_exm : PySem.W.exmOne K (.ref (a.x "NoOne")) (.ref (a.x "NoOne")) = some true
  x_not9 : PySem.W.kitAny K (.ref (a.x "NoOne")) [.ref (a.x "NoAnswer"), .ref (a.x "NoBegin"), .ref (a.x "NoHeld"), .ref (a.x "NoNumber"), .ref (a.x "NoProgram"), .ref (a.x "NoRow"), .ref (a.x "NoText"), .ref (a.x "NoWord"), .ref (a.x "TooGreat")] = some false
  x_not2 : PySem.W.kitAny K (.ref (a.x "NoOne")) [.ref (a.x "Unknown"), .ref (a.x "Wrong")] = some false
  x_ve : PySem.W.kitOne K (.ref (a.x "NoOne")) (.type "ValueError") = some true
  n_ValueError : mg "ValueError" = none
  n_bool : mg "bool" = none
  n_enumerate : mg "enumerate" = none
  n_int : mg "int" = none
  n_isinstance : mg "isinstance" = none
  n_len : mg "len" = none
  n_max : mg "max" = none
  n_min : mg "min" = none
  n_range : mg "range" = none
  n_tuple : mg "tuple" = none
  g_SIGNS : mg "SIGNS" = some (.ref a.signs)
  r_SIGNS : RelV (.ref a.signs) (.ref a.signs)
  w_SIGNS : WDict K w a.signs [("plus", .str " + "), ("times", .str " * "), ("power", .str " ^ ")]
  g_WORDS : mg "WORDS" = some (.ref a.words)
  r_WORDS : RelV (.ref a.words) (.ref a.words)
  w_WORDS : WDict K w a.words [("same", .str "="), ("under", .str "under")]
  g_TWO : mg "TWO" = some (.ref a.two)
  r_TWO : RelV (.ref a.two) (.ref a.two)
  t_TWO : ∀ H, Tu K H a.two [.str "num", .int 2]

section
variable {P : Program} {w : World} {K : PySem.W.Frag} {mg : Str → Option Value} {base : Heap} {a : Ad}
/-- a box: its cell, its seed -/
def BoxOk (b : Addr) (H : Hp) : Prop := ∃ c s : Int, H b = some (.lst [.int c, .int s]) ∧ 0 ≤ s ∧ s < 2 ^ 40
theorem BoxOk.kp {b : Addr} {S : List Addr} {H H' : Hp} (k : Kp S H H') (n : b ∉ S) (h : BoxOk b H) : BoxOk b H' := let ⟨c, s, e, r⟩ := h; ⟨c, s, k.k _ _ n e, r⟩
theorem BoxOk.ne {b p : Addr} {H : Hp} (h : BoxOk b H) (n : H p = none) : b ≠ p := let ⟨_, _, e, _⟩ := h; ne_nn n e
theorem BoxOk.new {b p : Addr} {o : HO} {H : Hp} (h : BoxOk b H) (n : H p = none) : BoxOk b (upd H p o) := h.kp (.new n : Kp [] _ _) ns0
theorem BoxOk.set {b p : Addr} {o : HO} {H : Hp} (h : BoxOk b H) (n : b ≠ p) : BoxOk b (upd H p o) := let ⟨c, s, e, r⟩ := h; ⟨c, s, upd_other n e, r⟩
def sp_l_take (_ : PySem.W.Frag) (_ : Ad) : Sp := fun vs H Q _ => ∃ (b : Addr) (w : Int), vs = [.ref b, .int w] ∧ BoxOk b H ∧ (0 < w ∧ w < 2 ^ 64) ∧
  ∀ (d : Int) H', 0 ≤ d → d < w → BoxOk b H' → Kp [b] H H' → Q (.int d) H'
theorem ok_l_take (T : Txt w K mg a) : Cl P w K mg base L2.CX0 1 "_law_take" (sp_l_take K a) [] := by
  refine cl_n T.d_l_take sc_l_take (fun vs H Q E h => by obtain ⟨_, _, rfl, _⟩ := h; rfl) (fun f cdv A outer s H vs Q E hr h => ?_)
  have hu := hr.units
  have hu1 := hu_of hr
  have nd := sc_l_take.nd
  refine ⟨_, (pss_cons (ps_if (pt_cmpR op_gt (pe_ix (o_ix (K := K) (w := w) rfl rfl hu1) (pv 0) pe_int (fun _ _ => rfl)) pe_int (nomark _)) (pss_cons (ps_set (i := 3) nd rfl (by first | exact Or.inl rfl | exact Or.inr rfl) (pe_op o_mod (pe_ix (o_ix (K := K) (w := w) rfl rfl hu1) (pv 0) pe_int (fun _ _ => rfl)) (pv 1)))
    (pss_cons (ps_asg (pe_op o_div (pe_ix (o_ix (K := K) (w := w) rfl rfl hu1) (pv 0) pe_int (fun _ _ => rfl)) (pv 1)) (pg_sub (pv 0) pe_int (o_set hu1)))
    (pss_one (ps_ret (pv 3))))) pss_nil)
    (pss_cons (ps_set (i := 2) nd rfl (by first | exact Or.inl rfl | exact Or.inr rfl) (pe_op o_mod (pe_op (o_mul (K := K) rfl) (pe_ix (o_ix (K := K) (w := w) rfl rfl hu1) (pv 0) pe_int (fun _ _ => rfl)) pe_int) pe_int))
    (pss_cons (ps_asg (pe_op (o_add (K := K) rfl) (pe_op o_mod (pe_op (o_add (K := K) rfl) (pe_op (o_mul (K := K) rfl) (pv 2) pe_int) pe_int) pe_int) pe_int) (pg_sub (pv 0) pe_int (o_set hu1)))
    (pss_one (ps_ret (pe_op o_mod (pe_op o_div (pe_op (o_add (K := K) rfl) (pe_op (o_mul (K := K) rfl) (pv 2) pe_int) (pe_ix (o_ix (K := K) (w := w) rfl rfl hu1) (pv 0) pe_int (fun _ _ => rfl))) pe_int) (pv 1))))))), ?_⟩
  try dsimp only [cxOf, Cx.nox, Cx.wish, Cx.blk]
  obtain ⟨b, w, rfl, ⟨c, s, hb, h0, h1⟩, ⟨w0, w1⟩, q⟩ := h
  refine at_start (σ' := [some _, some _, none, none]) rfl ?_
  wtm_at "gos"
  wtm_at "if"
  wtm_at "gos"
  refine g_ite (fun hc => ?_) (fun hc => ?_)
  · wtm_at "gos"
    exact q _ _ (Int.emod_nonneg _ (by omega)) (Int.emod_lt_of_pos _ w0) ⟨_, _, upd_same, h0, h1⟩ (Kp.wr (by simp) hb (by intro z; cases z))
  · wtm_at "gos"
    exact q _ _ (Int.emod_nonneg _ (by omega)) (Int.emod_lt_of_pos _ w0) ⟨_, _, upd_same, by omega, by omega⟩ (Kp.wr (by simp) hb (by intro z; cases z))

end

section
variable {P : Program} {w : World} {K : PySem.W.Frag} {mg : Str → Option Value} {base : Heap} {a : Ad}
def sp_l_box (K : PySem.W.Frag) (_ : Ad) : Sp := fun vs H Q _ => ∃ (p : Addr) (ns : List Int) (k : Int), vs = [.ref p, .int k] ∧ SqL K H p (ns.map V.int) ∧ (0 ≤ k ∧ k < 2 ^ 20) ∧
  ∀ (b : Addr) H', H b = none → BoxOk b H' → Kp [] H H' → Q (.ref b) H'
theorem ok_l_box (T : Txt w K mg a) : Cl P w K mg base L2.CX0 1 "_law_box" (sp_l_box K a) [] := by
  refine cl_n T.d_l_box sc_l_box (fun vs H Q E h => by obtain ⟨_, _, _, rfl, _⟩ := h; rfl) (fun f cdv A outer s H vs Q E hr h => ?_)
  have hu := hr.units
  have hu1 := hu_of hr
  have nd := sc_l_box.nd
  refine ⟨_, (pss_cons (ps_set (i := 2) nd rfl (by first | exact Or.inl rfl | exact Or.inr rfl) (pe_op (o_add (K := K) rfl) (pe_op (o_mul (K := K) rfl) pe_int (pv 1)) pe_int))
    (pss_cons (ps_if (pt_cmpR op_lt (pv 1) (pe_callB (c_len (K := K) rfl) (by rfl) T.n_len (by decide +kernel) (pa_cons (pv 0) pa_nil)) (nomark _)) (pss_one (ps_set (i := 2) nd rfl (by first | exact Or.inl rfl | exact Or.inr rfl) (pe_ix (o_ix (K := K) (w := w) rfl rfl hu1) (pv 0) (pv 1) (fun _ _ => rfl)))) (pss_one (ps_if (pt_cmpR op_gt (pe_callB (c_len (K := K) rfl) (by rfl) T.n_len (by decide +kernel) (pa_cons (pv 0) pa_nil)) pe_int (nomark _)) (pss_one (ps_set (i := 2) nd rfl (by first | exact Or.inl rfl | exact Or.inr rfl) (pe_op (o_add (K := K) rfl) (pv 2) (pe_op (o_mul (K := K) rfl) (pe_op o_mod (pe_ix (o_ix (K := K) (w := w) rfl rfl hu1) (pv 0) (pe_op o_mod (pv 1) (pe_callB (c_len (K := K) rfl) (by rfl) T.n_len (by decide +kernel) (pa_cons (pv 0) pa_nil))) (fun _ _ => rfl)) pe_int) pe_int)))) pss_nil)))
    (pss_cons (ps_set (i := 3) nd rfl (by first | exact Or.inl rfl | exact Or.inr rfl) (pe_op (o_add (K := K) rfl) (pe_op o_mod (pe_op (o_add (K := K) rfl) (pe_op (o_mul (K := K) rfl) (pe_op o_mod (pv 2) pe_int) pe_int) (pe_op (o_mul (K := K) rfl) pe_int (pv 1))) pe_int) pe_int))
    (pss_one (ps_ret (pe_lst (pa_cons (pe_ix (o_ix (K := K) (w := w) rfl rfl hu1) (pe_lst (pa_cons pe_int (pa_cons (pv 2) pa_nil))) (pe_callTy c_int (by rfl) T.n_int (by decide +kernel) (pa_cons (pe_cmpR op_ge (pv 2) (pe_op o_pow pe_int pe_int) (nomark _)) pa_nil)) (fun _ _ => rfl)) (pa_cons (pv 3) pa_nil)))))))), ?_⟩
  try dsimp only [cxOf, Cx.nox, Cx.wish, Cx.blk]
  obtain ⟨p, ns, k, rfl, hp, ⟨k0, k1⟩, q⟩ := h
  refine at_start (σ' := [some _, some _, none, none]) rfl ?_
  wtm_at "gos"
  refine g_J (fun σ' H' => H' = H ∧ ∃ c : Int, σ' = [some (.ref p), some (.int k), some (.int c), none]) (fun X hX => ?_) ?_
  · wtm_at "if"
    wtm_at "gos"
    have hl : (ns.map V.int).length = ns.length := List.length_map ..
    refine g_ite (fun hc => ?_) (fun hc => ?_)
    · wtm_at "gos"
      obtain ⟨n, _, e⟩ := at_int (ns := ns) k0 (by omega)
      refine g_ixL hp e ?_
      wtm_at "gos"
      exact hX _ _ ⟨rfl, _, rfl⟩
    · wtm_at "if"
      wtm_at "gos"
      refine g_ite (fun hc => ?_) (fun hc => ?_)
      · wtm_at "gos"
        obtain ⟨n, _, e⟩ := at_int (ns := ns) (k := k % ↑(ns.map V.int).length) (Int.emod_nonneg _ (by omega)) (by rw [← hl]; exact Int.emod_lt_of_pos _ (by omega))
        refine g_ixL hp e ?_
        wtm_at "gos"
        exact hX _ _ ⟨rfl, _, rfl⟩
      · wtm_at "gos"
        exact hX _ _ ⟨rfl, _, rfl⟩
  · rintro σ' H' ⟨rfl, c, rfl⟩
    wtm_at "gos"
    refine q _ _ ?_ ⟨_, _, upd_same, ?_⟩ ?_
    · wtm_at "fr"
    · omega
    · wtm_at "kp"

end

section
variable {P : Program} {w : World} {K : PySem.W.Frag} {mg : Str → Option Value} {base : Heap} {a : Ad}
def sp_l_pool (_ : PySem.W.Frag) (_ : Ad) : Sp := fun vs H Q _ => ∃ (b : Addr) (n : Int), vs = [.ref b, .int n] ∧ BoxOk b H ∧ (0 ≤ n ∧ n ≤ 36) ∧
  ∀ (p : Addr) (names : List Str) H', H p = none → BoxOk b H' → H' p = some (.lst (names.map V.str)) → names.length = n.toNat → (∀ x ∈ names, x.length ≤ 20) → Kp [b] H H' → Q (.ref p) H'
theorem ok_l_pool (T : Txt w K mg a) (c_l_take : Cl P w K mg base L2.CX0 1 "_law_take" (sp_l_take K a) []) : Cl P w K mg base L2.CX0 2 "_law_pool" (sp_l_pool K a) [] := by
  refine cl_n T.d_l_pool sc_l_pool (fun vs H Q E h => by obtain ⟨_, _, rfl, _⟩ := h; rfl) (fun f cdv A outer s H vs Q E hr h => ?_)
  have hu := hr.units
  have hu1 := hu_of hr
  have nd := sc_l_pool.nd
  refine ⟨_, (pss_cons (ps_set (i := 2) nd rfl (by first | exact Or.inl rfl | exact Or.inr rfl) pe_str)
    (pss_cons (ps_set (i := 3) nd rfl (by first | exact Or.inl rfl | exact Or.inr rfl) (pe_ix (o_ix (K := K) (w := w) rfl rfl hu1) (pv 2) (z_call c_l_take hr (by decide) (by rfl) (pa_cons (pv 0) (pa_cons pe_int pa_nil))) (fun _ _ => rfl)))
    (pss_cons (ps_set (i := 4) nd rfl (by first | exact Or.inl rfl | exact Or.inr rfl) (z_bm (K := K) rfl PySem.F.plainAttrs_str PySem.F.slot_str_join PySem.F.type_str_join (m_join (K := K) rfl) pe_str (pa_cons (pe_lc (own := [("k", 6)]) (by rfl) nd (pi_range1 (by rfl) T.n_range (pa_cons (z_call c_l_take hr (by decide) (by rfl) (pa_cons (pv 0) (pa_cons pe_int pa_nil))) pa_nil)) (blkOk_by (N := ["box", "many", "signs", "head", "stem", "found", "k", "first", "at", "name"]) (sc := defScope s_l_pool) (by decide +kernel)) (fun _ _ _ _ _ => (pg_name (i := 6) nd rfl (by first | exact Or.inl rfl | exact Or.inr rfl))) (fun _ _ _ _ _ => pts_nil) (fun _ _ _ _ _ => (pe_ix (o_ix (K := K) (w := w) rfl rfl hu1) (pv 2) (z_call c_l_take hr (by decide) (by rfl) (pa_cons (pv 0) (pa_cons pe_int pa_nil))) (fun _ _ => rfl)))) pa_nil)))
    (pss_cons (z_par (i := 7) (j := 8) nd rfl rfl (by decide) (pa_cons (z_call c_l_take hr (by decide) (by rfl) (pa_cons (pv 0) (pa_cons pe_int pa_nil))) (pa_cons (z_call c_l_take hr (by decide) (by rfl) (pa_cons (pv 0) (pa_cons (pe_op (o_add (K := K) rfl) (pe_callB (c_len (K := K) rfl) (by rfl) T.n_len (by decide +kernel) (pa_cons (pv 4) pa_nil)) pe_int) pa_nil))) pa_nil)))
    (pss_cons (ps_set (i := 5) nd rfl (by first | exact Or.inl rfl | exact Or.inr rfl) (pe_lst pa_nil))
    (pss_cons (ps_for PassesOwn.never rfl (pi_range1 (by rfl) T.n_range (pa_cons (pv 1) pa_nil)) (pg_name (i := 6) nd rfl (by first | exact Or.inl rfl | exact Or.inr rfl)) (pss_cons (ps_set (i := 9) nd rfl (by first | exact Or.inl rfl | exact Or.inr rfl) (pe_op (o_add (K := K) rfl) (pe_op (o_add (K := K) rfl) (pv 3) (pe_slice (s_any (K := K) rfl) (pv 4) po_none (po_some (pv 8)))) (pe_ix (o_ix (K := K) (w := w) rfl rfl hu1) (pv 2) (pe_op o_mod (pe_op (o_add (K := K) rfl) (pv 7) (pe_op (o_mul (K := K) rfl) pe_int (pv 6))) pe_int) (fun _ _ => rfl))))
    (pss_one (ps_expr (z_bm (K := K) rfl PySem.F.plainAttrs_list PySem.F.slot_list_append PySem.F.type_list_append mt_append (pv 5) (pa_cons (pe_op (o_add (K := K) rfl) (pe_op (o_add (K := K) rfl) (pv 9) (pe_slice (s_any (K := K) rfl) (pv 4) (po_some (pv 8)) po_none)) (pe_op (o_mul (K := K) rfl) pe_str (pe_op o_mod (pv 6) pe_int))) pa_nil))))))
    (pss_one (ps_ret (pv 5))))))))), ?_⟩
  try dsimp only [cxOf, Cx.nox, Cx.wish, Cx.blk]
  obtain ⟨b, n, rfl, hb, hn, q⟩ := h
  refine at_start (σ' := [some _, some _, none, none, none, none, none, none, none, none]) rfl ?_
  wtm_at "gos"
  refine ⟨b, 26, rfl, hb, by omega, fun d H1 d0 d1 hb1 k1 => ?_⟩
  refine g_ixS (by decide) (sign_at _ d0 (by show d < 36; omega)) ?_
  wtm_at "gos"
  refine ⟨b, 8, rfl, hb1, by omega, fun d2 H2 d20 d21 hb2 k2 => ?_⟩
  wtm_at "gos"
  intro D hD
  refine g_lcW wk_rng (fun i acc H' => (∃ cs : List Nat, acc = cs.map (fun c => V.str ⟨#[c]⟩)) ∧ BoxOk b H' ∧ Kp [b] H2 H') ⟨⟨[], rfl⟩, hb2.new hD, Kp.new hD⟩ (fun _ _ _ _ => trivial) ?_ ?_
  · rintro i acc H3 x H4 hi hl hDa ⟨⟨cs, rfl⟩, hb3, k3⟩ ⟨rfl, rfl⟩
    wtm_at "gos"
    refine ⟨rfl, ?_⟩
    wtm_at "gos"
    refine iteT ?_
    wtm_at "gos"
    refine ⟨b, 36, rfl, hb3, by omega, fun d H5 d0' d1' hb5 k5 => ?_⟩
    refine g_ixS (by decide) (sign_at _ d0' (by show d < 36; omega)) ?_
    refine g_lcy (k5.k _ _ (ns1 (hb2.ne hD).symm) hDa) hl (lt_line (by omega)) ⟨⟨cs ++ [_], by rw [List.map_append]; rfl⟩, hb5.set (hb2.ne hD), (k3.trans k5).ch hD⟩
  · rintro acc H3 hl hDa ⟨⟨cs, rfl⟩, hb3, k3⟩
    have hcs : cs.length ≤ 7 := by simp at hl; omega
    have hsl : (SX.S cs).length = cs.length := SX.S_len cs
    wtm_at "gos"
    refine g_join (ys := cs.map fun c => (⟨#[c]⟩ : Str)) (SqL.of (by rw [List.map_map]; exact hDa)) (by rw [sum_ones]; show _ + _ * 0 ≤ _; omega) ?_
    rw [join_signs]
    wtm_at "gos"
    refine ⟨b, 36, rfl, hb3, by omega, fun fi H4 f0 f1 hb4 k4 => ?_⟩
    wtm_at "gos"
    refine g_lenS (le_line (by omega)) ?_
    wtm_at "gos"
    refine ⟨b, _, rfl, hb4, by omega, fun at_ H5 a0 a1 hb5 k5 => ?_⟩
    wtm_at "gos"
    rename_i l hl5
    have hlb : l ≠ b := (hb5.ne hl5).symm
    have kk : Kp [b] H H5 := (k1.trans k2).trans (k3.trans (k4.trans k5))
    refine g_forW wk_rng (fun i σ' H' => BoxOk b H' ∧ Kp [b] H5 H' ∧ (∃ ns : List Str, H' l = some (.lst (ns.map V.str)) ∧ ns.length = i ∧ ∀ x ∈ ns, x.length ≤ 20) ∧
      ∃ u v, σ' = [some (.ref b), some (.int n), some (.str "abcdefghijklmnopqrstuvwxyz0123456789"), some (.str (SX.S [_])), some (.str (SX.S cs)), some (.ref l), u, some (.int fi), some (.int at_), v])
      ⟨hb5.new hl5, Kp.new hl5, ⟨[], upd_same, rfl, fun x hx => by cases hx⟩, _, _, rfl⟩ (fun _ _ _ _ => trivial) ?_ ?_
    · rintro i σ' H6 x H7 hi ⟨hb6, k6, ⟨ns, hns, hnl, hnx⟩, u, v, rfl⟩ ⟨rfl, rfl⟩
      wtm_at "gos"
      refine g_slS ?_ ?_
      · exact le_line (by omega)
      rw [SX.slice_to a0]
      have t1 : (SX.S (cs.take at_.toNat)).length ≤ 7 := by rw [SX.S_len, List.length_take]; omega
      have t2 : (SX.S (cs.drop at_.toNat)).length ≤ 7 := by rw [SX.S_len, List.length_drop]; omega
      refine g_addS (le_line (by show 1 + _ ≤ 1000; omega)) ?_
      wtm_at "gos"
      refine g_ixS (by decide) (sign_at _ (Int.emod_nonneg _ (by omega)) (Int.emod_lt_of_pos _ (by decide))) ?_
      refine g_addS (le_line (by rw [Str.length_append]; show 1 + _ + 1 ≤ 1000; omega)) ?_
      wtm_at "gos"
      refine g_slS ?_ ?_
      · exact le_line (by omega)
      rw [SX.slice_from a0]
      refine g_addS (le_line (by rw [Str.length_append, Str.length_append]; show 1 + _ + 1 + _ ≤ 1000; omega)) ?_
      wtm_at "gos"
      refine g_mulS ⟨by omega, by show 1 * _ ≤ _; omega⟩ ?_
      have t3 : (repS ("0" : Str) ((0 + (i : Int)) % 2).toNat).length ≤ 1 := by rw [repS_len]; show 1 * _ ≤ 1; omega
      refine g_addS (le_line (by rw [Str.length_append, Str.length_append, Str.length_append]; show 1 + _ + 1 + _ + _ ≤ 1000; omega)) ?_
      wtm_at "gos"
      refine g_append hns ?_ ?_
      · rw [List.length_map]; exact lt_line (by omega)
      refine ⟨hb6.set hlb.symm, k6.ch hl5, ⟨ns ++ [_], by rw [List.map_append]; exact upd_same, by simp [hnl], fun x hx => ?_⟩, _, _, rfl⟩
      rcases List.mem_append.mp hx with hx | hx
      · exact hnx x hx
      · rw [List.mem_singleton.mp hx, Str.length_append, Str.length_append, Str.length_append, Str.length_append]
        show 1 + _ + 1 + _ + _ ≤ 20
        omega
    · rintro σ' H6 ⟨hb6, k6, ⟨ns, hns, hnl, hnx⟩, u, v, rfl⟩
      wtm_at "gos"
      exact q _ _ _ (by wtm_at "fr") hb6 hns (by omega) hnx (kk.trans k6)

end

section
variable {P : Program} {w : World} {K : PySem.W.Frag} {mg : Str → Option Value} {base : Heap} {a : Ad}
/-- what _law_term draws: names of ns, at most d deep -/
def GoodT (ns : List Str) : Nat → Tm → Prop
  | _, .num n => 0 ≤ n ∧ n < 1000
  | _, .name x => x ∈ ns
  | 0, .op _ _ _ => False
  | d + 1, .op .power a b => GoodT ns d a ∧ ∃ k, b = .num k ∧ 0 ≤ k ∧ k < 5
  | d + 1, .op _ a b => GoodT ns d a ∧ GoodT ns d b
def sp_l_term (K : PySem.W.Frag) (_ : Ad) (n : Nat) : Sp := fun vs H Q _ => ∃ (b : Addr) (p : Addr) (d : Int) (ns : List Str), vs = [.ref b, .ref p, .int d] ∧ BoxOk b H ∧ H p = some (.lst (ns.map V.str)) ∧ p ≠ b ∧ (1 ≤ ns.length ∧ ns.length ≤ 1000) ∧ d ≤ n ∧
  ∀ (v : V) (t : Tm) H', TmAt K H' v t → GoodT ns n t → BoxOk b H' → Kp [b] H H' → Q v H'
theorem step_l_term (T : Txt w K mg a) (c_l_take : Cl P w K mg base L2.CX0 1 "_law_take" (sp_l_take K a) []) (n : Nat) (c_l_term : Cl P w K mg base L2.CX0 (1 + n) "_law_term" (spPred (sp_l_term K a) n) []) : Cl P w K mg base L2.CX0 (1 + n + 1) "_law_term" (sp_l_term K a n) [] := by
  refine cl_n T.d_l_term sc_l_term (fun vs H Q E h => by obtain ⟨_, _, _, _, rfl, _⟩ := h; rfl) (fun f cdv A outer s H vs Q E hr h => ?_)
  have hu := hr.units
  have hu1 := hu_of hr
  have nd := sc_l_term.nd
  refine ⟨_, (pss_cons (ps_set (i := 3) nd rfl (by first | exact Or.inl rfl | exact Or.inr rfl) (z_call c_l_take hr (by omega) (by rfl) (pa_cons (pv 0) (pa_cons pe_int pa_nil))))
    (pss_cons (ps_if (PW.pt (pw_or (pt_cmpR op_lt (pv 2) pe_int (nomark _)) (pw_or1 (pt_cmpR op_lt (pv 3) pe_int (nomark _))))) (pss_one (ps_ret (pe_tup (pa_cons pe_str (pa_cons (z_call c_l_take hr (by omega) (by rfl) (pa_cons (pv 0) (pa_cons (pe_ix (o_ix (K := K) (w := w) rfl rfl hu1) (pe_lst (pa_cons pe_int (pa_cons pe_int (pa_cons pe_int pa_nil)))) (z_call c_l_take hr (by omega) (by rfl) (pa_cons (pv 0) (pa_cons pe_int pa_nil))) (fun _ _ => rfl)) pa_nil))) pa_nil))))) pss_nil)
    (pss_cons (ps_if (pt_cmpR op_lt (pv 3) pe_int (nomark _)) (pss_one (ps_ret (pe_tup (pa_cons pe_str (pa_cons (pe_ix (o_ix (K := K) (w := w) rfl rfl hu1) (pv 1) (z_call c_l_take hr (by omega) (by rfl) (pa_cons (pv 0) (pa_cons (pe_callB (c_len (K := K) rfl) (by rfl) T.n_len (by decide +kernel) (pa_cons (pv 1) pa_nil)) pa_nil))) (fun _ _ => rfl)) pa_nil))))) pss_nil)
    (pss_cons (ps_set (i := 4) nd rfl (by first | exact Or.inl rfl | exact Or.inr rfl) (z_call c_l_term hr (by omega) (by rfl) (pa_cons (pv 0) (pa_cons (pv 1) (pa_cons (pe_op o_sub (pv 2) pe_int) pa_nil)))))
    (pss_cons (ps_if (pt_cmpR (o_eq (K := K) rfl hu) (pv 3) pe_int (nomark _)) (pss_one (ps_ret (pe_tup (pa_cons pe_str (pa_cons (pv 4) (pa_cons (pe_tup (pa_cons pe_str (pa_cons (z_call c_l_take hr (by omega) (by rfl) (pa_cons (pv 0) (pa_cons pe_int pa_nil))) pa_nil))) pa_nil)))))) pss_nil)
    (pss_one (ps_ret (pe_tup (pa_cons (pe_ix (o_ix (K := K) (w := w) rfl rfl hu1) (pe_lst (pa_cons pe_str (pa_cons pe_str (pa_cons pe_str pa_nil)))) (pe_op o_sub (pv 3) pe_int) (fun _ _ => rfl)) (pa_cons (pv 4) (pa_cons (z_call c_l_term hr (by omega) (by rfl) (pa_cons (pv 0) (pa_cons (pv 1) (pa_cons (pe_op o_sub (pv 2) pe_int) pa_nil)))) pa_nil))))))))))), ?_⟩
  try dsimp only [cxOf, Cx.nox, Cx.wish, Cx.blk]
  obtain ⟨b, p, d, ns, rfl, hb, hp, hpb, hl, hd, q⟩ := h
  refine at_start (σ' := [some _, some _, some _, none, none]) rfl ?_
  wtm_at "gos"
  refine ⟨b, 7, rfl, hb, by omega, fun fm H1 f0 f1 hb1 k1 => ?_⟩
  have hp1 := k1.k _ _ (ns1 hpb) hp
  wtm_at "gos"
  wtm_at "cond"
  · intro hc
    wtm_at "gos"
    rename_i l hl1
    refine ⟨b, 3, rfl, hb1.new hl1, by omega, fun e H2 e0 e1 hb2 k2 => ?_⟩
    have hl2 : H2 l = some (.lst [V.int 3, V.int 10, V.int 1000]) := k2.k _ _ (ns1 (hb1.ne hl1).symm) upd_same
    refine g_ixL (SqL.of hl2) (at3i e0 e1) ?_
    wtm_at "gos"
    refine ⟨b, _, rfl, hb2, by split <;> (try split) <;> omega, fun g H3 g0 g1 hb3 k3 => ?_⟩
    have g2 : g < 1000 := by split at g1 <;> (try split at g1) <;> omega
    wtm_at "gos"
    rename_i p' hp'
    refine q _ (.num g) _ ⟨_, rfl, Tu.of upd_same⟩ (by cases n <;> exact ⟨g0, g2⟩) (hb3.new hp') ?_
    exact k1.trans ((Kp.new hl1).trans (k2.trans (k3.trans (Kp.new hp'))))
  · intro hc
    simp at hc
    wtm_at "gos"
    wtm_at "cond"
    · intro hc2
      wtm_at "gos"
      refine ⟨b, _, rfl, hb1, by rw [List.length_map]; omega, fun e H2 e0 e1 hb2 k2 => ?_⟩
      rw [List.length_map] at e1
      obtain ⟨x, _, hx, hax⟩ := at_str e0 e1
      refine g_ixL (SqL.of (k2.k _ _ (ns1 hpb) hp1)) hax ?_
      wtm_at "gos"
      rename_i p' hp'
      exact q _ (.name x) _ ⟨_, rfl, Tu.of upd_same⟩ (by cases n <;> exact hx) (hb2.new hp') (k1.trans (k2.trans (Kp.new hp')))
    · intro hc2
      simp at hc2
      wtm_at "gos"
      obtain ⟨m, rfl⟩ : ∃ m, n = m + 1 := ⟨n - 1, by omega⟩
      refine ⟨b, p, d - 1, ns, rfl, hb1, hp1, hpb, hl, by omega, fun v t H2 ht gt hb2 k2 => ?_⟩
      wtm_at "gos"
      have hp2 := k2.k _ _ (ns1 hpb) hp1
      wtm_at "cond"
      · intro hc3
        wtm_at "gos"
        refine ⟨b, _, rfl, hb2, by omega, fun e H3 e0 e1 hb3 k3 => ?_⟩
        wtm_at "gos"
        rename_i p1 h1 p2 h2
        refine q _ (.op .power t (.num e)) _ ⟨_, _, _, rfl, Tu.of upd_same, ?_, ⟨_, rfl, Tu.up (Kp.new h2 : Kp [] _ _) (Tu.of upd_same)⟩⟩ ⟨gt, e, rfl, e0, e1⟩ ((hb3.new h1).new h2) (k1.trans (k2.trans (k3.trans ((Kp.new h1).trans (Kp.new h2)))))
        exact ((ht.up k3).up (Kp.new h1 : Kp [] _ _)).up (Kp.new h2 : Kp [] _ _)
      · intro hc3
        simp at hc3
        wtm_at "gos"
        rename_i l hl2
        refine g_ixL (SqL.of upd_same) (at3s (by omega) (by omega)) ?_
        wtm_at "gos"
        refine ⟨b, p, d - 1, ns, rfl, hb2.new hl2, (Kp.new hl2 : Kp [] _ _).k _ _ ns0 hp2, hpb, hl, by omega, fun v' t' H3 ht' gt' hb3 k3 => ?_⟩
        wtm_at "gos"
        rename_i p1 h1
        refine q _ (.op (if fm - 3 = 0 then .plus else if fm - 3 = 1 then .times else .plus) t t') _ ⟨_, v, v', rfl, Tu.of ?_, ?_, ?_⟩ ?_ (hb3.new h1) ?_
        · rw [upd_same]
          split
          · rfl
          · split <;> rfl
        · exact ((ht.up (Kp.new hl2 : Kp [] _ _)).up k3).up (Kp.new h1 : Kp [] _ _)
        · exact ht'.up (Kp.new h1 : Kp [] _ _)
        · split
          · exact ⟨gt, gt'⟩
          · split <;> exact ⟨gt, gt'⟩
        · exact k1.trans (k2.trans ((Kp.new hl2).trans (k3.trans (Kp.new h1))))

theorem ok_l_term (T : Txt w K mg a) (c_l_take : Cl P w K mg base L2.CX0 1 "_law_take" (sp_l_take K a) []) : ∀ n : Nat, Cl P w K mg base L2.CX0 (1 + n + 1) "_law_term" (sp_l_term K a n) []
  | 0 => step_l_term T c_l_take 0 (cl_bot T.d_l_term _)
  | n + 1 => step_l_term T c_l_take (n + 1) (ok_l_term T c_l_take n)

end

section
variable {P : Program} {w : World} {K : PySem.W.Frag} {mg : Str → Option Value} {base : Heap} {a : Ad}
def sp_sum_of (K : PySem.W.Frag) (_ : Ad) : Sp := fun vs H Q _ => ∃ (p : Addr) (xs : List V) (ts : List Tm), vs = [.ref p] ∧ SqL K H p xs ∧ AllAt (TmAt K) H xs ts ∧
  ∀ (v : V) H', TmAt K H' v (sumT ts) → Kp [] H H' → Q v H'
theorem ok_sum_of (T : Txt w K mg a) : Cl P w K mg base L2.CX0 1 "sum_of" (sp_sum_of K a) [] := by
  refine cl_n T.d_sum_of sc_sum_of (fun vs H Q E h => by obtain ⟨_, _, _, rfl, _⟩ := h; rfl) (fun f cdv A outer s H vs Q E hr h => ?_)
  have hu := hr.units
  have hu1 := hu_of hr
  have nd := sc_sum_of.nd
  refine ⟨_, (pss_cons (ps_set (i := 1) nd rfl (by first | exact Or.inl rfl | exact Or.inr rfl) (pe_tup (pa_cons pe_str (pa_cons pe_int pa_nil))))
    (pss_cons (ps_for PassesOwn.never rfl (z_enum (K := K) rfl (by rfl) T.n_enumerate (pa_cons (pv 0) pa_nil)) (z_gtup (K := K) rfl rfl (pgs_cons (pg_name (i := 2) nd rfl (by first | exact Or.inl rfl | exact Or.inr rfl)) (pgs_cons (pg_name (i := 3) nd rfl (by first | exact Or.inl rfl | exact Or.inr rfl)) pgs_nil))) (pss_one (ps_set (i := 1) nd rfl (by first | exact Or.inl rfl | exact Or.inr rfl) (pe_ix (o_ix (K := K) (w := w) rfl rfl hu1) (pe_lst (pa_cons (pe_tup (pa_cons pe_str (pa_cons (pv 1) (pa_cons (pv 3) pa_nil)))) (pa_cons (pv 3) pa_nil))) (pe_callTy c_int (by rfl) T.n_int (by decide +kernel) (pa_cons (pe_cmpR (o_eq (K := K) rfl hu) (pv 2) pe_int (nomark _)) pa_nil)) (fun _ _ => rfl)))))
    (pss_one (ps_ret (pv 1))))), ?_⟩
  try dsimp only [cxOf, Cx.nox, Cx.wish, Cx.blk]
  obtain ⟨p, xs, ts, rfl, hp, hx, q⟩ := h
  have hl := hx.length
  refine at_start (σ' := [some _, none, none, none]) rfl ?_
  wtm_at "gos"
  rename_i p0 h0
  have k0 : Kp [] H (upd H p0 (.tup [.str "num", .int 0])) := Kp.new h0
  refine g_forW wk_enum (fun i σ' H' => Kp [] H H' ∧ ∃ u v w, σ' = [some (.ref p), some v, u, w] ∧ TmAt K H' v (sumT (ts.take i))) ⟨k0, _, _, _, rfl, ⟨_, rfl, Tu.of upd_same⟩⟩ (fun i σ' H' h => h.1.l ns0 hp) ?_ ?_
  · rintro i σ' H1 x H2 hi ⟨k1, u, v, w', rfl, hv⟩ ⟨T', y, rfl, hT, rfl, hy⟩
    obtain ⟨t, ht, hyt⟩ := hx.get hy
    wtm_at "gos"
    rename_i pl hpl pt hpt
    have kT : Kp [] H1 (upd H1 T' (.tup [.int (i : Nat), y])) := Kp.new hT
    have k2 := kT.trans ((Kp.new hpl).trans (Kp.new hpt (o := .lst [V.ref pl, y])))
    refine ⟨k1.trans k2, _, _, _, rfl, ?_⟩
    have e : ts.take (i + 1) = ts.take i ++ [t] := by rw [List.take_succ, ht]; rfl
    rw [e]
    by_cases c : i = 0
    · subst c
      rw [if_pos (by simp)]
      exact (hyt.up k1).up k2
    · have ne : ts.take i ≠ [] := fun z => by
        have := congrArg List.length z
        rw [List.length_take, List.length_nil] at this
        omega
      rw [if_neg (by simp; omega), sumT_snoc _ _ ne]
      exact ⟨pl, v, y, rfl, Tu.up (Kp.new hpt : Kp [] _ _) (Tu.of upd_same), hv.up k2, (hyt.up k1).up k2⟩
  · rintro σ' H1 ⟨k1, u, v, w', rfl, hv⟩
    wtm_at "gos"
    refine q _ _ ?_ k1
    rw [hl, List.take_length] at hv
    exact hv

end

section
variable {P : Program} {w : World} {K : PySem.W.Frag} {mg : Str → Option Value} {base : Heap} {a : Ad}
def sp_Saying_init (K : PySem.W.Frag) (a : Ad) : Sp := fun vs H Q _ => ∃ (x dx : Addr) (b : Bool) (l r : V), vs = [.ref x, .str (wordOf b), l, r] ∧ H x = some (.ins a.say dx []) ∧ Q .non (upd H x (.ins a.say dx (sayF b l r)))
theorem mk_say {K : PySem.W.Frag} {a : Ad} {b : Bool} {l r : V} {H1 : Hp} {Q : VK} {E : XK} (h : ∀ x dx H2, H1 x = none → H2 x = some (.ins a.say dx (sayF b l r)) → Kp [] H1 H2 → Q (.ref x) H2) :
    MakeP a.say (sp_Saying_init K a) [] E [.str (wordOf b), l, r] H1 Q :=
  fun x dx h1 h2 h3 => ⟨x, dx, b, l, r, rfl, upd_same, rfl, h x dx _ h1 upd_same (by rw [L2.upd_upd]; exact (Kp.new h2).trans (Kp.new (by rw [upd_ne (Ne.symm h3)]; exact h1)))⟩
theorem ok_Saying_init (T : Txt w K mg a) : Mc P w K mg base L2.CX0 1 "Saying" a.say (sp_Saying_init K a) := by
  refine mc_n T.m_Saying sc_Saying_init (fun vs H Q E h => by obtain ⟨_, _, _, _, _, rfl, _⟩ := h; rfl) (fun f cdv A outer s H vs Q E hr h => ?_)
  have hu := hr.units
  have hu1 := hu_of hr
  have nd := sc_Saying_init.nd
  refine ⟨_, (pss_cons (ps_if (pt_cmpR (o_nin (K := K) (w := w) rfl rfl hu1) (pv 1) (pe_glob rfl T.g_WORDS T.r_WORDS) (by rfl)) (pss_one ps_never) pss_nil)
    (pss_cons (z_sfld (K := K) rfl (pv 0) (pv 1))
    (pss_cons (z_sfld (K := K) rfl (pv 0) (pv 2))
    (pss_one (z_sfld (K := K) rfl (pv 0) (pv 3)))))), ?_⟩
  try dsimp only [cxOf, Cx.nox, Cx.wish, Cx.blk]
  obtain ⟨x, dx, b, l, r, rfl, hx, q⟩ := h
  refine at_start (σ' := [some _, some _, some _, some _]) rfl ?_
  wtm_at "gos"
  refine g_ifP (b := false) (fun X hX => ?_) (fun z => by cases z) (fun _ => ?_)
  · wtm_at "gos"
    refine g_ninW (v := .str (if b then "under" else "=")) T.w_WORDS (by cases b <;> simp [wordOf]) ?_
    wtm_at "gos"
    exact hX
  · wtm_at "gos"
    refine ⟨x, a.say, dx, _, rfl, hx, T.cl_Saying, T.no_Saying_word, by decide, ?_⟩
    wtm_at "gos"
    refine ⟨x, a.say, dx, _, rfl, upd_same, T.cl_Saying, T.no_Saying_left, lt1000 rfl, ?_⟩
    wtm_at "gos"
    refine ⟨x, a.say, dx, _, rfl, upd_same, T.cl_Saying, T.no_Saying_right, lt1000 rfl, ?_⟩
    rw [L2.upd_upd, L2.upd_upd]
    exact q

end

section
variable {P : Program} {w : World} {K : PySem.W.Frag} {mg : Str → Option Value} {base : Heap} {a : Ad}
def sp_NoOne_init (_ : PySem.W.Frag) (a : Ad) : Sp := sp_exc1 (a.x "NoOne") "at"
theorem ok_NoOne_init (T : Txt w K mg a) : Xc P w K mg base L2.CX0 1 "NoOne" (a.x "NoOne") (sp_NoOne_init K a) := by
  refine xc_n T.m_NoOne sc_NoOne_init (fun vs H Q E h => by obtain ⟨_, _, rfl, _⟩ := h; rfl) (fun f cdv A outer s H vs Q E hr h => ?_)
  have hu := hr.units
  have hu1 := hu_of hr
  have nd := sc_NoOne_init.nd
  refine ⟨_, (pss_one (ps_ost (pv 0) (pv 1))), ?_⟩
  try dsimp only [cxOf, Cx.nox, Cx.wish, Cx.blk]
  obtain ⟨e, y, rfl, he, q⟩ := h
  refine at_start (σ' := [some _, some _]) rfl ?_
  exact ⟨y, rfl, _, rfl, e, _, rfl, T.m_NoOne.cls, T.no_NoOne_at, .inl ⟨he, fun dx n ne => q dx n ne⟩⟩

end

section
variable {P : Program} {w : World} {K : PySem.W.Frag} {mg : Str → Option Value} {base : Heap} {a : Ad}
def sp_need_same (K : PySem.W.Frag) (a : Ad) : Sp := fun vs H Q E => ∃ (p : Addr) (xs : List V) (ss : List Sy), vs = [.ref p] ∧ SqA K H p xs ∧ AllAt (SayAt K a.say) H xs ss ∧
  (fstU 0 ss = none → ∀ H', Kp [] H H' → Q .non H') ∧ ∀ (i : Nat) d H', fstU 0 ss = some i → Kp [] H H' → H' d = some (.xd [("at", .int (i : Nat))]) → E (.ref (a.x "NoOne")) (some d) H'
theorem ok_need_same (T : Txt w K mg a) (c_NoOne_init : Xc P w K mg base L2.CX0 1 "NoOne" (a.x "NoOne") (sp_NoOne_init K a)) : Cl P w K mg base (L2.CX P w) 3 "need_same" (sp_need_same K a) [] := by
  refine cl_x T.d_need_same sc_need_same (fun vs H Q E h => by obtain ⟨_, _, _, rfl, _⟩ := h; rfl) (fun f cdv A outer s H vs Q E hr h => ?_)
  have hu := hr.units
  have hu1 := hu_of hr
  have nd := sc_need_same.nd
  refine ⟨_, (pss_one (ps_for (passes_of rfl) rfl (z_enum (K := K) rfl (by rfl) T.n_enumerate (pa_cons (pv 0) pa_nil)) (z_gtup (K := K) rfl rfl (pgs_cons (pg_name (i := 1) nd rfl (by first | exact Or.inl rfl | exact Or.inr rfl)) (pgs_cons (pg_name (i := 2) nd rfl (by first | exact Or.inl rfl | exact Or.inr rfl)) pgs_nil))) (pss_one (ps_if (pt_cmpR (o_ne (K := K) rfl hu) (z_fld (K := K) rfl (pv 2)) pe_str (nomark _)) (pss_one (z_raise c_NoOne_init hr (by decide) (by rfl) rfl (takes_of rfl rfl rfl rfl) (pa_cons (pv 1) pa_nil))) pss_nil)))), ?_⟩
  try dsimp only [cxOf, Cx.nox, Cx.wish, Cx.blk]
  obtain ⟨p, xs, ss, rfl, hp, hx, q, qe⟩ := h
  have hl := hx.length
  refine at_start (σ' := [some _, none, none]) rfl ?_
  wtm_at "gos"
  refine g_enA (Kp.refl : Kp [] H H) hp ns0 fun J ok wk hok => ?_
  refine g_forW wk (fun i σ' H' => Kp [] H H' ∧ fstU 0 ss = fstU i (ss.drop i) ∧ ∃ u v, σ' = [some (.ref p), u, v]) ⟨Kp.refl, rfl, _, _, rfl⟩ (fun i σ' H' h => hok _ h.1) ?_ ?_
  · rintro i σ' H1 x H2 hi ⟨k1, hf, u, v, rfl⟩ ⟨T', y, rfl, hT, rfl, hy⟩
    obtain ⟨s1, hs, hys⟩ := hx.get hy
    rw [drop_at hs] at hf
    have k2 : Kp [] H (upd H1 T' (.tup [.int (i : Nat), y])) := k1.trans (Kp.new hT)
    obtain ⟨p1, dx, l, r, rfl, hp1, _, _⟩ := hys.up k2
    wtm_at "gos"
    wtm_at "if"
    wtm_at "gos"
    refine g_fld1 hp1 T.cl_Saying T.no_Saying_word rfl ?_
    wtm_at "gos"
    rw [word_same]
    refine g_iteB (fun z => ?_) (fun z => ?_)
    · have z' : s1.under = true := by simpa using z
      wtm_at "gos"
      refine mk_exc1 (R := fun cls d H => E cls d H) fun d hd => ?_
      exact qe i d _ (by rw [hf]; exact if_pos z') (k2.trans (Kp.new hd)) upd_same
    · have z' : s1.under = false := by simpa using z
      wtm_at "gos"
      exact ⟨k2, by rw [hf]; exact if_neg (by rw [z']; decide), _, _, rfl⟩
  · rintro σ' H1 ⟨k1, hf, u, v, rfl⟩
    rw [hl, List.drop_length] at hf
    exact q hf _ k1

end

section
variable {P : Program} {w : World} {K : PySem.W.Frag} {mg : Str → Option Value} {base : Heap} {a : Ad}
def sp_made_one (K : PySem.W.Frag) (a : Ad) : Sp := fun vs H Q E => ∃ (p : Addr) (xs : List V) (ss : List Sy), vs = [.ref p] ∧ SqA K H p xs ∧ AllAt (SayAt K a.say) H xs ss ∧ ss.length ≤ 10000 ∧
  (fstU 0 ss = none → ∀ v H', SayAt K a.say H' v (oneOf ss) → Kp [] H H' → Q v H') ∧ ∀ (i : Nat) d H', fstU 0 ss = some i → Kp [] H H' → H' d = some (.xd [("at", .int (i : Nat))]) → E (.ref (a.x "NoOne")) (some d) H'
theorem ok_made_one (T : Txt w K mg a) (c_need_same : Cl P w K mg base (L2.CX P w) 3 "need_same" (sp_need_same K a) []) (c_Saying_init : Mc P w K mg base L2.CX0 1 "Saying" a.say (sp_Saying_init K a)) (c_sum_of : Cl P w K mg base L2.CX0 1 "sum_of" (sp_sum_of K a) []) : Cl P w K mg base (L2.CX P w) 4 "made_one" (sp_made_one K a) [] := by
  refine cl_x T.d_made_one sc_made_one (fun vs H Q E h => by obtain ⟨_, _, _, rfl, _⟩ := h; rfl) (fun f cdv A outer s H vs Q E hr h => ?_)
  have hu := hr.units
  have hu1 := hu_of hr
  have nd := sc_made_one.nd
  refine ⟨_, (pss_cons (ps_expr (z_callX c_need_same hr (by decide) (by rfl) (takes_of rfl rfl rfl rfl) (pa_cons (pv 0) pa_nil)))
    (pss_cons (ps_set (i := 1) nd rfl (by first | exact Or.inl rfl | exact Or.inr rfl) (pe_lst pa_nil))
    (pss_cons (ps_set (i := 2) nd rfl (by first | exact Or.inl rfl | exact Or.inr rfl) (pe_lst pa_nil))
    (pss_cons (ps_for (passes_of rfl) rfl (z_iter (K := K) rfl (pv 0)) (pg_name (i := 3) nd rfl (by first | exact Or.inl rfl | exact Or.inr rfl)) (pss_cons (z_par (i := 4) (j := 5) nd rfl rfl (by decide) (pa_cons (z_fld (K := K) rfl (pv 3)) (pa_cons (z_fld (K := K) rfl (pv 3)) pa_nil)))
    (pss_cons (ps_expr (z_bm (K := K) rfl PySem.F.plainAttrs_list PySem.F.slot_list_append PySem.F.type_list_append mt_append (pv 1) (pa_cons (pe_tup (pa_cons pe_str (pa_cons (pe_tup (pa_cons pe_str (pa_cons (pv 4) (pa_cons (pv 4) pa_nil)))) (pa_cons (pe_tup (pa_cons pe_str (pa_cons (pv 5) (pa_cons (pv 5) pa_nil)))) pa_nil)))) pa_nil)))
    (pss_one (ps_expr (z_bm (K := K) rfl PySem.F.plainAttrs_list PySem.F.slot_list_append PySem.F.type_list_append mt_append (pv 2) (pa_cons (pe_tup (pa_cons pe_str (pa_cons (pe_glob rfl T.g_TWO T.r_TWO) (pa_cons (pe_tup (pa_cons pe_str (pa_cons (pv 4) (pa_cons (pv 5) pa_nil)))) pa_nil)))) pa_nil)))))))
    (pss_one (ps_ret (z_make c_Saying_init hr (by decide) (by rfl) (pa_cons pe_str (pa_cons (z_call c_sum_of hr (by decide) (by rfl) (pa_cons (pv 1) pa_nil)) (pa_cons (z_call c_sum_of hr (by decide) (by rfl) (pa_cons (pv 2) pa_nil)) pa_nil)))))))))), ?_⟩
  try dsimp only [cxOf, Cx.nox, Cx.wish, Cx.blk]
  obtain ⟨p, xs, ss, rfl, hp, hx, hn, q, qe⟩ := h
  have hl := hx.length
  refine at_start (σ' := [some _, none, none, none, none, none]) rfl ?_
  wtm_at "gos"
  refine ⟨p, xs, ss, rfl, hp, hx, fun hU H1 k1 => ?_, fun i d H1 hU k1 hd => qe i d H1 hU k1 hd⟩
  wtm_at "gos"
  rename_i q1 h1 q2 h2
  have h2' := fr_upd h2
  have ne : q1 ≠ q2 := fun z => by rw [z, upd_same] at h2; cases h2
  have k2 : Kp [] H (upd (upd H1 q1 (.lst [])) q2 (.lst [])) := k1.trans ((Kp.new h1).trans (Kp.new h2))
  refine g_itA k2 hp ns0 fun J ok wk hok => ?_
  refine g_forW wk (fun i σ' H' => Kp [] H1 H' ∧ (∃ v1 v2, H' q1 = some (.lst v1) ∧ H' q2 = some (.lst v2) ∧ v1.length = i ∧ v2.length = i ∧ AllAt (TmAt K) H' v1 ((ss.take i).map sqT) ∧ AllAt (TmAt K) H' v2 ((ss.take i).map prT)) ∧ ∃ u v w', σ' = [some (.ref p), some (.ref q1), some (.ref q2), u, v, w'])
    ⟨(Kp.new h1).trans (Kp.new h2), ⟨[], [], by rw [upd_ne ne]; exact upd_same, upd_same, rfl, rfl, .nil, .nil⟩, _, _, _, rfl⟩ (fun i σ' H' h => hok _ (k1.trans h.1)) ?_ ?_
  · rintro i σ' H2 x H3 hi ⟨k3, ⟨v1, v2, e1, e2, l1, l2, a1, a2⟩, u, v, w', rfl⟩ ⟨rfl, hy⟩
    obtain ⟨s1, hs, hys⟩ := hx.get hy
    obtain ⟨p1, dx, l, r, rfl, hp1, tl, tr⟩ := (hys.up k1).up k3
    wtm_at "gos"
    refine g_fld1 hp1 T.cl_Saying T.no_Saying_left rfl ?_
    wtm_at "gos"
    refine g_fld1 hp1 T.cl_Saying T.no_Saying_right rfl ?_
    have z1 : v1.length < sizeLine := lt_big (by omega)
    have z2 : v2.length < sizeLine := lt_big (by omega)
    wtm_at "gos"
    rename_i p1 n1 p2 n2 p3 n3 p4 n4 p5 n5
    have t1 : TmAt K _ (.ref p3) (sqT s1) := TmAt.mk .plus n3 ((TmAt.mk .times n1 tl tl).new n2) (TmAt.mk .times n2 (tr.new n1) (tr.new n1))
    have k4 : Kp [] H3 _ := (Kp.new n1).trans ((Kp.new n2).trans (Kp.new n3 (o := .tup [.str "plus", .ref p1, .ref p2])))
    have k5 : Kp [q1, q2] _ _ := Kp.wr (o := .lst (v1 ++ [V.ref p3])) (by simp) (k4.k _ _ ns0 e1) (by intro z; cases z)
    have k45 := k4.up.trans k5
    have t2 : TmAt K _ (.ref p5) (prT s1) := TmAt.mk .times n5 (va := .ref a.two) (ta := .num 2) ⟨_, rfl, T.t_TWO _⟩ (TmAt.mk .times n4 (tl.up k45) (tr.up k45))
    have k6 : Kp [] _ _ := (Kp.new n4 (o := .tup [.str "times", l, r])).trans (Kp.new n5 (o := .tup [.str "times", .ref a.two, .ref p4]))
    have e2' := k6.k _ _ ns0 (upd_other (o := .lst (v1 ++ [V.ref p3])) (Ne.symm ne) (k4.k _ _ ns0 e2))
    have k7 : Kp [q1, q2] _ _ := Kp.wr (o := .lst (v2 ++ [V.ref p5])) (by simp) e2' (by intro z; cases z)
    have k67 := k6.up.trans k7
    refine ⟨?_, ⟨v1 ++ [.ref p3], v2 ++ [.ref p5], upd_other ne (k6.k _ _ ns0 upd_same), upd_same, by simp [l1], by simp [l2], ?_, ?_⟩, _, _, _, rfl⟩
    · exact (((k3.trans k4).ch h1).trans k6).ch h2'
    · rw [take_snoc hs, List.map_append]
      exact (a1.up fun _ _ h => (h.up k45).up k67).snoc ((t1.up k5).up k67)
    · rw [take_snoc hs, List.map_append]
      exact (a2.up fun _ _ h => (h.up k45).up k67).snoc (t2.up k7)
  · rintro σ' H2 ⟨k3, ⟨v1, v2, e1, e2, l1, l2, a1, a2⟩, u, v, w', rfl⟩
    rw [hl, List.take_length] at a1 a2
    wtm_at "gos"
    refine ⟨q1, _, _, rfl, SqL.of e1, a1, fun s1 H3 t1 k4 => ?_⟩
    wtm_at "gos"
    refine ⟨q2, _, _, rfl, SqL.of (k4.k _ _ ns0 e2), a2.up (fun _ _ h => h.up k4), fun s2 H4 t2 k5 => ?_⟩
    wtm_at "gos"
    refine mk_say (b := false) fun x dx H5 n5 e5 k6 => ?_
    exact q hU _ _ ⟨x, dx, s1, s2, rfl, e5, (t1.up k5).up k6, t2.up k6⟩ (k1.trans (k3.trans (k4.trans (k5.trans k6))))

end

section
variable {P : Program} {w : World} {K : PySem.W.Frag} {mg : Str → Option Value} {base : Heap} {a : Ad}
def sp_either (K : PySem.W.Frag) (a : Ad) : Sp := fun vs H Q E => ∃ (v1 v2 : V) (s1 s2 : Sy), vs = [v1, v2] ∧ SayAt K a.say H v1 s1 ∧ SayAt K a.say H v2 s2 ∧
  (fstU 0 [s1, s2] = none → ∀ v H', SayAt K a.say H' v (eitherOf s1 s2) → Kp [] H H' → Q v H') ∧ ∀ (i : Nat) d H', fstU 0 [s1, s2] = some i → Kp [] H H' → H' d = some (.xd [("at", .int (i : Nat))]) → E (.ref (a.x "NoOne")) (some d) H'
theorem ok_either (T : Txt w K mg a) (c_need_same : Cl P w K mg base (L2.CX P w) 3 "need_same" (sp_need_same K a) []) (c_Saying_init : Mc P w K mg base L2.CX0 1 "Saying" a.say (sp_Saying_init K a)) : Cl P w K mg base (L2.CX P w) 4 "either" (sp_either K a) [] := by
  refine cl_x T.d_either sc_either (fun vs H Q E h => by obtain ⟨_, _, _, _, rfl, _⟩ := h; rfl) (fun f cdv A outer s H vs Q E hr h => ?_)
  have hu := hr.units
  have hu1 := hu_of hr
  have nd := sc_either.nd
  refine ⟨_, (pss_cons (ps_expr (z_callX c_need_same hr (by decide) (by rfl) (takes_of rfl rfl rfl rfl) (pa_cons (pe_lst (pa_cons (pv 0) (pa_cons (pv 1) pa_nil))) pa_nil)))
    (pss_cons (ps_set (i := 2) nd rfl (by first | exact Or.inl rfl | exact Or.inr rfl) (pe_tup (pa_cons pe_str (pa_cons (pe_tup (pa_cons pe_str (pa_cons (z_fld (K := K) rfl (pv 0)) (pa_cons (z_fld (K := K) rfl (pv 1)) pa_nil)))) (pa_cons (pe_tup (pa_cons pe_str (pa_cons (z_fld (K := K) rfl (pv 0)) (pa_cons (z_fld (K := K) rfl (pv 1)) pa_nil)))) pa_nil)))))
    (pss_cons (ps_set (i := 3) nd rfl (by first | exact Or.inl rfl | exact Or.inr rfl) (pe_tup (pa_cons pe_str (pa_cons (pe_tup (pa_cons pe_str (pa_cons (z_fld (K := K) rfl (pv 0)) (pa_cons (z_fld (K := K) rfl (pv 1)) pa_nil)))) (pa_cons (pe_tup (pa_cons pe_str (pa_cons (z_fld (K := K) rfl (pv 0)) (pa_cons (z_fld (K := K) rfl (pv 1)) pa_nil)))) pa_nil)))))
    (pss_one (ps_ret (z_make c_Saying_init hr (by decide) (by rfl) (pa_cons pe_str (pa_cons (pv 2) (pa_cons (pv 3) pa_nil))))))))), ?_⟩
  try dsimp only [cxOf, Cx.nox, Cx.wish, Cx.blk]
  obtain ⟨v1, v2, s1, s2, rfl, h1, h2, q, qe⟩ := h
  refine at_start (σ' := [some _, some _, none, none]) rfl ?_
  wtm_at "gos"
  rename_i p0 n0
  have k0 : Kp [] H (upd H p0 (.lst [v1, v2])) := Kp.new n0
  refine ⟨p0, [v1, v2], [s1, s2], rfl, .inl (SqL.of upd_same), .cons (h1.up k0) (.cons (h2.up k0) .nil), fun hU H1 k1 => ?_, fun i d H1 hU k1 hd => qe i d H1 hU (k0.trans k1) hd⟩
  obtain ⟨p1, dx1, l1, r1, rfl, e1, tl1, tr1⟩ := (h1.up k0).up k1
  obtain ⟨p2, dx2, l2, r2, rfl, e2, tl2, tr2⟩ := (h2.up k0).up k1
  wtm_at "gos"
  refine g_fld1 e1 T.cl_Saying T.no_Saying_left rfl ?_
  wtm_at "gos"
  refine g_fld1 e2 T.cl_Saying T.no_Saying_left rfl ?_
  wtm_at "gos"
  rename_i q1 m1
  have k2 : Kp [] H1 (upd H1 q1 (.tup [.str "times", l1, l2])) := Kp.new m1
  have t1 : TmAt K _ (.ref q1) (.op .times s1.l s2.l) := TmAt.mk .times m1 tl1 tl2
  refine g_fld1 (k2.k _ _ ns0 e1) T.cl_Saying T.no_Saying_right rfl ?_
  wtm_at "gos"
  refine g_fld1 (k2.k _ _ ns0 e2) T.cl_Saying T.no_Saying_right rfl ?_
  wtm_at "gos"
  rename_i q2 m2 q3 m3
  have t2 : TmAt K _ (.ref q2) (.op .times s1.r s2.r) := TmAt.mk .times m2 (tr1.up k2) (tr2.up k2)
  have t3 : TmAt K _ (.ref q3) (eitherOf s1 s2).l := TmAt.mk .plus m3 (t1.new m2) t2
  have k3 : Kp [] H1 _ := k2.trans ((Kp.new m2 (o := .tup [.str "times", r1, r2])).trans (Kp.new m3 (o := .tup [.str "plus", .ref q1, .ref q2])))
  refine g_fld1 (k3.k _ _ ns0 e1) T.cl_Saying T.no_Saying_left rfl ?_
  wtm_at "gos"
  refine g_fld1 (k3.k _ _ ns0 e2) T.cl_Saying T.no_Saying_right rfl ?_
  wtm_at "gos"
  rename_i q4 m4
  have t4 : TmAt K _ (.ref q4) (.op .times s1.l s2.r) := TmAt.mk .times m4 (tl1.up k3) (tr2.up k3)
  have k4 : Kp [] H1 _ := k3.trans (Kp.new m4 (o := .tup [.str "times", l1, r2]))
  refine g_fld1 (k4.k _ _ ns0 e1) T.cl_Saying T.no_Saying_right rfl ?_
  wtm_at "gos"
  refine g_fld1 (k4.k _ _ ns0 e2) T.cl_Saying T.no_Saying_left rfl ?_
  wtm_at "gos"
  rename_i q5 m5 q6 m6
  have t5 : TmAt K _ (.ref q5) (.op .times s1.r s2.l) := TmAt.mk .times m5 (tr1.up k4) (tl2.up k4)
  have t6 : TmAt K _ (.ref q6) (eitherOf s1 s2).r := TmAt.mk .plus m6 (t4.new m5) t5
  refine mk_say (b := false) fun x dx H5 n5 e5 k6 => ?_
  refine q hU _ _ ⟨x, dx, _, _, rfl, e5, (((t3.new m4).new m5).new m6).up k6, t6.up k6⟩ (k0.trans (k1.trans (k4.trans ((Kp.new m5).trans ((Kp.new m6).trans k6)))))

end

section
variable {P : Program} {w : World} {K : PySem.W.Frag} {mg : Str → Option Value} {base : Heap} {a : Ad}
def sp_l_both (K : PySem.W.Frag) (a : Ad) : Sp := fun vs H Q E => ∃ (p : Addr) (v1 v2 : V) (s1 s2 : Sy), vs = [.ref p] ∧ SqA K H p [v1, v2] ∧ SayAt K a.say H v1 s1 ∧ SayAt K a.say H v2 s2 ∧
  (fstU 0 [s1, s2] = none → ∀ v H', SayAt K a.say H' v (eitherOf s1 s2) → Kp [] H H' → Q v H') ∧ ∀ (i : Nat) d H', fstU 0 [s1, s2] = some i → Kp [] H H' → H' d = some (.xd [("at", .int (i : Nat))]) → E (.ref (a.x "NoOne")) (some d) H'
theorem ok_l_both (T : Txt w K mg a) (c_either : Cl P w K mg base (L2.CX P w) 4 "either" (sp_either K a) []) : Cl P w K mg base (L2.CX P w) 5 "_law_both" (sp_l_both K a) [] := by
  refine cl_x T.d_l_both sc_l_both (fun vs H Q E h => by obtain ⟨_, _, _, _, _, rfl, _⟩ := h; rfl) (fun f cdv A outer s H vs Q E hr h => ?_)
  have hu := hr.units
  have hu1 := hu_of hr
  have nd := sc_l_both.nd
  refine ⟨_, (pss_one (ps_ret (z_callX c_either hr (by decide) (by rfl) (takes_of rfl rfl rfl rfl) (pa_cons (pe_ix (o_ix (K := K) (w := w) rfl rfl hu1) (pv 0) pe_int (fun _ _ => rfl)) (pa_cons (pe_ix (o_ix (K := K) (w := w) rfl rfl hu1) (pv 0) pe_int (fun _ _ => rfl)) pa_nil))))), ?_⟩
  try dsimp only [cxOf, Cx.nox, Cx.wish, Cx.blk]
  obtain ⟨p, v1, v2, s1, s2, rfl, hp, h1, h2, q⟩ := h
  refine at_start (σ' := [some _]) rfl ?_
  wtm_at "gos"
  refine g_ixA hp rfl ?_
  wtm_at "gos"
  refine g_ixA hp rfl ?_
  wtm_at "gos"
  exact ⟨v1, v2, s1, s2, rfl, h1, h2, q⟩

end

section
variable {P : Program} {w : World} {K : PySem.W.Frag} {mg : Str → Option Value} {base : Heap} {a : Ad}
/-- what a saying's making one is told as -/
def saidV : Option Nat → List V
  | none => [.str "told", .str "same"]
  | some i => [.str "none", .int (i : Nat)]
def sp_l_due (K : PySem.W.Frag) (a : Ad) : Sp := fun vs H Q _ => ∃ (p : Addr) (xs : List V) (ss : List Sy), vs = [.ref p] ∧ SqA K H p xs ∧ AllAt (SayAt K a.say) H xs ss ∧
  ∀ r H', H' r = some (.tup (saidV (fstU 0 ss))) → Kp [] H H' → Q (.ref r) H'
theorem ok_l_due (T : Txt w K mg a) : Cl P w K mg base L2.CX0 1 "_law_due" (sp_l_due K a) [] := by
  refine cl_n T.d_l_due sc_l_due (fun vs H Q E h => by obtain ⟨_, _, _, rfl, _⟩ := h; rfl) (fun f cdv A outer s H vs Q E hr h => ?_)
  have hu := hr.units
  have hu1 := hu_of hr
  have nd := sc_l_due.nd
  refine ⟨_, (pss_cons (ps_for PassesOwn.never rfl (z_enum (K := K) rfl (by rfl) T.n_enumerate (pa_cons (pv 0) pa_nil)) (z_gtup (K := K) rfl rfl (pgs_cons (pg_name (i := 1) nd rfl (by first | exact Or.inl rfl | exact Or.inr rfl)) (pgs_cons (pg_name (i := 2) nd rfl (by first | exact Or.inl rfl | exact Or.inr rfl)) pgs_nil))) (pss_one (ps_if (pt_cmpR (o_eq (K := K) rfl hu) (z_fld (K := K) rfl (pv 2)) pe_str (nomark _)) (pss_one (ps_ret (pe_tup (pa_cons pe_str (pa_cons (pv 1) pa_nil))))) pss_nil)))
    (pss_one (ps_ret (pe_tup (pa_cons pe_str (pa_cons pe_str pa_nil)))))), ?_⟩
  try dsimp only [cxOf, Cx.nox, Cx.wish, Cx.blk]
  obtain ⟨p, xs, ss, rfl, hp, hx, q⟩ := h
  have hl := hx.length
  refine at_start (σ' := [some _, none, none]) rfl ?_
  wtm_at "gos"
  refine g_enA (Kp.refl : Kp [] H H) hp ns0 fun J ok wk hok => ?_
  refine g_forW wk (fun i σ' H' => Kp [] H H' ∧ fstU 0 ss = fstU i (ss.drop i) ∧ ∃ u v, σ' = [some (.ref p), u, v]) ⟨Kp.refl, rfl, _, _, rfl⟩ (fun i σ' H' h => hok _ h.1) ?_ ?_
  · rintro i σ' H1 x H2 hi ⟨k1, hf, u, v, rfl⟩ ⟨T', y, rfl, hT, rfl, hy⟩
    obtain ⟨s1, hs, hys⟩ := hx.get hy
    rw [drop_at hs] at hf
    have k2 : Kp [] H (upd H1 T' (.tup [.int (i : Nat), y])) := k1.trans (Kp.new hT)
    obtain ⟨p1, dx, l, r, rfl, hp1, _, _⟩ := hys.up k2
    wtm_at "gos"
    wtm_at "if"
    wtm_at "gos"
    refine g_fld1 hp1 T.cl_Saying T.no_Saying_word rfl ?_
    wtm_at "gos"
    rw [word_under]
    refine g_iteB (fun z => ?_) (fun z => ?_)
    · wtm_at "gos"
      rename_i r nr
      exact q _ _ (by rw [hf, fstU, if_pos z]; exact upd_same) (k2.trans (Kp.new nr))
    · wtm_at "gos"
      exact ⟨k2, by rw [hf]; exact if_neg (by rw [z]; decide), _, _, rfl⟩
  · rintro σ' H1 ⟨k1, hf, u, v, rfl⟩
    rw [hl, List.drop_length] at hf
    wtm_at "gos"
    rename_i r nr
    exact q _ _ (by rw [hf]; exact upd_same) (k1.trans (Kp.new nr))

end

section
variable {P : Program} {w : World} {K : PySem.W.Frag} {mg : Str → Option Value} {base : Heap} {a : Ad}
def sp_l_said (K : PySem.W.Frag) (a : Ad) : Sp := fun vs H Q _ => ∃ (f p : Addr) (xs : List V) (ss : List Sy), vs = [.ref f, .ref p] ∧ SqA K H p xs ∧ AllAt (SayAt K a.say) H xs ss ∧ ss.length ≤ 10000 ∧
  (f = a.x "made_one" ∨ f = a.x "_law_both" ∧ ss.length = 2) ∧
  ∀ r H', H' r = some (.tup (saidV (fstU 0 ss))) → Kp [] H H' → Q (.ref r) H'
theorem ok_l_said (T : Txt w K mg a) (c_made_one : Cl P w K mg base (L2.CX P w) 4 "made_one" (sp_made_one K a) []) (c_l_both : Cl P w K mg base (L2.CX P w) 5 "_law_both" (sp_l_both K a) []) : Cl P w K mg base L2.CX0 6 "_law_said" (sp_l_said K a) [] := by
  refine cl_n T.d_l_said sc_l_said (fun vs H Q E h => by obtain ⟨_, _, _, _, rfl, _⟩ := h; rfl) (fun f cdv A outer s H vs Q E hr h => ?_)
  have hu := hr.units
  have hu1 := hu_of hr
  have nd := sc_l_said.nd
  refine ⟨_, (pss_cons (ps_set (i := 2) nd rfl (by first | exact Or.inl rfl | exact Or.inr rfl) (pe_tup (pa_cons pe_str pa_nil)))
    (pss_cons (ps_try_as (i := 3) rfl rfl nd rfl rfl ⟨rfl, by decide, Or.inl T.g_NoOne⟩ takes0 (fun W pn xe tk tp => (pss_one (ps_set (i := 2) nd rfl (by first | exact Or.inl rfl | exact Or.inr rfl) (pe_tup (pa_cons pe_str (pa_cons (z_fld (K := K) rfl (z_callV2 (c_made_one.at T.g_made_one) (c_l_both.at T.g_l_both) hr (by decide) (by decide) (i := 0) rfl (by first | exact Or.inl rfl | exact Or.inr (Or.inl rfl) | exact Or.inr (Or.inr rfl)) tk (pa_cons (pv 1) pa_nil))) pa_nil)))))) (fun ea oe cls ed pn hz hf => (pss_cons (ps_set (i := 4) nd rfl (by first | exact Or.inl rfl | exact Or.inr rfl) (pe_callB (call_isX hz hf) (by rfl) T.n_isinstance (by decide +kernel) (pa_cons (pv 3) (pa_cons (pe_tup (pa_cons (pe_glob rfl T.g_NoAnswer (r_ref _)) (pa_cons (pe_glob rfl T.g_NoBegin (r_ref _)) (pa_cons (pe_glob rfl T.g_NoHeld (r_ref _)) (pa_cons (pe_glob rfl T.g_NoNumber (r_ref _)) (pa_cons (pe_glob rfl T.g_NoProgram (r_ref _)) (pa_cons (pe_glob rfl T.g_NoRow (r_ref _)) (pa_cons (pe_glob rfl T.g_NoText (r_ref _)) (pa_cons (pe_glob rfl T.g_NoWord (r_ref _)) (pa_cons (pe_glob rfl T.g_TooGreat (r_ref _)) pa_nil)))))))))) pa_nil))))
    (pss_cons (ps_set (i := 4) nd rfl (by first | exact Or.inl rfl | exact Or.inr rfl) (pe_or (pv 4) (pe_or (pe_callB (call_isX hz hf) (by rfl) T.n_isinstance (by decide +kernel) (pa_cons (pv 3) (pa_cons (pe_tup (pa_cons (pe_glob rfl T.g_Unknown (r_ref _)) (pa_cons (pe_glob rfl T.g_Wrong (r_ref _)) pa_nil))) pa_nil))) (pe_one (pe_callB (call_isX hz hf) (by rfl) T.n_isinstance (by decide +kernel) (pa_cons (pe_xf (xf_of T.e_NoOne) T.no_NoOne_at hz hf (pv 3)) (pa_cons (pe_bltn (by rfl) T.n_bool (by decide +kernel) (r_ty "bool")) pa_nil)))))))
    (pss_one (ps_if (PW.pt (pw_and (pt_val (pe_callB (call_isX hz hf) (by rfl) T.n_isinstance (by decide +kernel) (pa_cons (pv 3) (pa_cons (pe_bltn (by rfl) T.n_ValueError (by decide +kernel) (r_ty "ValueError")) pa_nil)))) (pw_and1 (pt_not (pt_val (pv 4)))))) (pss_one (ps_set (i := 2) nd rfl (by first | exact Or.inl rfl | exact Or.inr rfl) (pe_tup (pa_cons pe_str (pa_cons (pe_xf (xf_of T.e_NoOne) T.no_NoOne_at hz hf (pv 3)) pa_nil))))) pss_nil))))))
    (pss_one (ps_ret (pv 2))))), ?_⟩
  try dsimp only [cxOf, Cx.nox, Cx.wish, Cx.blk]
  obtain ⟨f0, p, xs, ss, rfl, hp, hx, hn, hf, q⟩ := h
  refine at_start (σ' := [some _, some _, none, none, none]) rfl ?_
  wtm_at "gos"
  rename_i p0 n0
  have k0 : Kp [] H (upd H p0 (.tup [.str "other"])) := Kp.new n0
  have hp0 := k0.a ns0 hp
  have hx0 : AllAt (SayAt K a.say) (upd H p0 (.tup [.str "other"])) xs ss := hx.up fun _ _ h => h.up k0
  rcases hf with rfl | ⟨rfl, hf2⟩
  · refine .inl ⟨rfl, ?_⟩
    wtm_at "gos"
    refine ⟨p, xs, ss, rfl, hp0, hx0, hn, fun hU v H1 sv k1 => ?_, fun i d H1 hU k1 hd => ?_⟩
    · obtain ⟨p1, dx, l, r, rfl, e1, _, _⟩ := sv
      refine g_fld1 e1 T.cl_Saying T.no_Saying_word rfl ?_
      wtm_at "gos"
      rename_i rr nr
      exact q _ _ (by rw [hU]; exact upd_same) (k0.trans (k1.trans (Kp.new nr)))
    · refine ⟨true, T.x_exm, fun _ ea na => ?_, fun z => by cases z⟩
      wtm_at "gos"
      rename_i t1 n1
      refine g_isXT ((Kp.new n1 : Kp [] _ _).k _ _ ns0 hd) T.e_NoOne upd_same (by repeat (first | exact .nil | refine .cons (.own _) ?_)) T.x_not9 ?_
      wtm_at "gos"
      rename_i t2 n2
      have hd2 := (Kp.new n2 (o := .tup [.ref (a.x "Unknown"), .ref (a.x "Wrong")]) : Kp [] _ _).k _ _ ns0 ((Kp.new n1 (o := .tup [.ref (a.x "NoAnswer"), .ref (a.x "NoBegin"), .ref (a.x "NoHeld"), .ref (a.x "NoNumber"), .ref (a.x "NoProgram"), .ref (a.x "NoRow"), .ref (a.x "NoText"), .ref (a.x "NoWord"), .ref (a.x "TooGreat")]) : Kp [] _ _).k _ _ ns0 hd)
      refine g_isXT hd2 T.e_NoOne upd_same (by repeat (first | exact .nil | refine .cons (.own _) ?_)) T.x_not2 ?_
      wtm_at "gos"
      refine ⟨rfl, rfl, d, _, _, rfl, hd2, rfl, ?_⟩
      wtm_at "gos"
      refine g_isXi (b := false) (by decide +kernel) ?_
      wtm_at "gos"
      wtm_at "if"
      wtm_at "gos"
      refine g_isX1 hd2 T.e_NoOne (.ty _) T.x_ve ?_
      wtm_at "gos"
      refine iteT ?_
      wtm_at "gos"
      refine iteT ?_
      wtm_at "gos"
      refine ⟨rfl, rfl, d, _, _, rfl, hd2, rfl, ?_⟩
      wtm_at "gos"
      rename_i t3 n3
      exact q _ _ (by rw [hU]; exact upd_same) (k0.trans (k1.trans ((Kp.new n1).trans ((Kp.new n2).trans (Kp.new n3)))))
  · refine .inr ⟨rfl, ?_⟩
    wtm_at "gos"
    obtain ⟨s1, s2, rfl⟩ : ∃ s1 s2, ss = [s1, s2] := by
      match ss, hf2 with
      | [s1, s2], _ => exact ⟨s1, s2, rfl⟩
    cases hx0 with
    | @cons v1 _ _ _ r1 hx0 =>
    cases hx0 with
    | @cons v2 _ _ _ r2 hx0 =>
    cases hx0
    refine ⟨p, v1, v2, s1, s2, rfl, hp0, r1, r2, fun hU v H1 sv k1 => ?_, fun i d H1 hU k1 hd => ?_⟩
    · obtain ⟨p1, dx, l, r, rfl, e1, _, _⟩ := sv
      refine g_fld1 e1 T.cl_Saying T.no_Saying_word rfl ?_
      wtm_at "gos"
      rename_i rr nr
      exact q _ _ (by rw [hU]; exact upd_same) (k0.trans (k1.trans (Kp.new nr)))
    · refine ⟨true, T.x_exm, fun _ ea na => ?_, fun z => by cases z⟩
      wtm_at "gos"
      rename_i t1 n1
      refine g_isXT ((Kp.new n1 : Kp [] _ _).k _ _ ns0 hd) T.e_NoOne upd_same (by repeat (first | exact .nil | refine .cons (.own _) ?_)) T.x_not9 ?_
      wtm_at "gos"
      rename_i t2 n2
      have hd2 := (Kp.new n2 (o := .tup [.ref (a.x "Unknown"), .ref (a.x "Wrong")]) : Kp [] _ _).k _ _ ns0 ((Kp.new n1 (o := .tup [.ref (a.x "NoAnswer"), .ref (a.x "NoBegin"), .ref (a.x "NoHeld"), .ref (a.x "NoNumber"), .ref (a.x "NoProgram"), .ref (a.x "NoRow"), .ref (a.x "NoText"), .ref (a.x "NoWord"), .ref (a.x "TooGreat")]) : Kp [] _ _).k _ _ ns0 hd)
      refine g_isXT hd2 T.e_NoOne upd_same (by repeat (first | exact .nil | refine .cons (.own _) ?_)) T.x_not2 ?_
      wtm_at "gos"
      refine ⟨rfl, rfl, d, _, _, rfl, hd2, rfl, ?_⟩
      wtm_at "gos"
      refine g_isXi (b := false) (by decide +kernel) ?_
      wtm_at "gos"
      wtm_at "if"
      wtm_at "gos"
      refine g_isX1 hd2 T.e_NoOne (.ty _) T.x_ve ?_
      wtm_at "gos"
      refine iteT ?_
      wtm_at "gos"
      refine iteT ?_
      wtm_at "gos"
      refine ⟨rfl, rfl, d, _, _, rfl, hd2, rfl, ?_⟩
      wtm_at "gos"
      rename_i t3 n3
      exact q _ _ (by rw [hU]; exact upd_same) (k0.trans (k1.trans ((Kp.new n1).trans ((Kp.new n2).trans (Kp.new n3)))))

end

section
variable {P : Program} {w : World} {K : PySem.W.Frag} {mg : Str → Option Value} {base : Heap} {a : Ad}
def saidD : Option Nat → PyData
  | none => .tuple [.str "told", .str "same"]
  | some i => .tuple [.str "none", .int (i : Nat)]
theorem dp_said {K : PySem.W.Frag} {H : Hp} {r : Addr} {o : Option Nat} (h : H r = some (.tup (saidV o))) : Dp K H (.ref r) (saidD o) := by
  cases o with
  | none => exact .tup (SqT.of h) (.cons (.str _) (.cons (.str _) .nil))
  | some i => exact .tup (SqT.of h) (.cons (.str _) (.cons (.int _) .nil))
theorem sh_said (o : Option Nat) : SeqAt.shaped (saidD o) = true := by
  have s1 : PyData.strOk ("told" : Str) = true := by decide +kernel
  have s2 : PyData.strOk ("same" : Str) = true := by decide +kernel
  have s3 : PyData.strOk ("none" : Str) = true := by decide +kernel
  cases o <;> simp [saidD, SeqAt.shaped, PyData.canLay0, PyData.canLayAll0, PyData.depth, PyData.depthAll, s1, s2, s3]
theorem eqv_said (o : Option Nat) : PyData.eqv (saidD o) (saidD o) = true := by
  cases o with
  | none => decide +kernel
  | some i => simp [saidD, PyData.eqv, PyData.eqvAll]
theorem ne_said {K : PySem.W.Frag} {H : Hp} {Q : VK} {r1 r2 : Addr} {o : Option Nat} (h1 : H r1 = some (.tup (saidV o))) (h2 : H r2 = some (.tup (saidV o))) (q : Q (.bl false) H) : rNeA K (.ref r1) (.ref r2) H Q :=
  g_neD (dp_said h1) (dp_said h2) (sh_said o) (sh_said o) (by rw [eqv_said]; exact q)
theorem eq_said {K : PySem.W.Frag} {H : Hp} {Q : VK} {r1 r2 : Addr} {o : Option Nat} (h1 : H r1 = some (.tup (saidV o))) (h2 : H r2 = some (.tup (saidV o))) (q : Q (.bl true) H) : rEqA K (.ref r1) (.ref r2) H Q :=
  g_eqD (dp_said h1) (dp_said h2) (sh_said o) (sh_said o) (by rw [eqv_said]; exact q)
theorem fst_good : ∀ (ss : List Sy) (i : Nat), (∀ s ∈ ss, s.under = false) → fstU i ss = none
  | [], _, _ => rfl
  | s :: r, i, h => by
    rw [fstU, if_neg (by rw [h s (List.mem_cons_self ..)]; decide)]
    exact fst_good r (i + 1) fun s hs => h s (List.mem_cons_of_mem _ hs)
theorem at4w {d : Int} (h0 : 0 ≤ d) (h1 : d < 4) : atI [V.str "same", V.str "same", V.str "same", V.str "under"] d = some (.str (wordOf (decide (d = 3)))) := by
  have : d = 0 ∨ d = 1 ∨ d = 2 ∨ d = 3 := by omega
  rcases this with e | e | e | e <;> (subst e; rfl)
def sp_law (K : PySem.W.Frag) (_ : Ad) : Sp := fun vs H Q _ => ∃ (p : Addr) (ns : List Int), vs = [.ref p] ∧ SqL K H p (ns.map V.int) ∧ ns.length ≤ 63 ∧ ∀ H', Q (.bl true) H'
theorem ok_law (T : Txt w K mg a) (c_l_box : Cl P w K mg base L2.CX0 1 "_law_box" (sp_l_box K a) []) (c_l_pool : Cl P w K mg base L2.CX0 2 "_law_pool" (sp_l_pool K a) []) (c_l_take : Cl P w K mg base L2.CX0 1 "_law_take" (sp_l_take K a) []) (c_Saying_init : Mc P w K mg base L2.CX0 1 "Saying" a.say (sp_Saying_init K a)) (c_l_term : Cl P w K mg base L2.CX0 4 "_law_term" (sp_l_term K a 2) []) (c_l_said : Cl P w K mg base L2.CX0 6 "_law_said" (sp_l_said K a) []) (c_l_due : Cl P w K mg base L2.CX0 1 "_law_due" (sp_l_due K a) []) {f0 : Addr} {fd0 : FuncData} (F0 : FunD K "law" "law" (defArgs s_law) (defBody s_law) (defScope s_law) [] [] f0 fd0) : FnOk P w K mg base L2.CX0 7 f0 fd0 ["script"] (sp_law K a) := by
  refine fn_n F0 sc_law (fun vs H Q E h => by obtain ⟨_, _, rfl, _⟩ := h; rfl) (fun f cdv A outer s H vs Q E hr h => ?_)
  have hu := hr.units
  have hu1 := hu_of hr
  have nd := sc_law.nd
  refine ⟨_, (pss_cons (ps_set (i := 1) nd rfl (by first | exact Or.inl rfl | exact Or.inr rfl) (z_call c_l_box hr (by decide) (by rfl) (pa_cons (pv 0) (pa_cons pe_int pa_nil))))
    (pss_cons (z_par (i := 6) (j := 7) nd rfl rfl (by decide) (pa_cons (z_call c_l_pool hr (by decide) (by rfl) (pa_cons (pv 1) (pa_cons pe_int pa_nil))) (pa_cons (pe_lst pa_nil) pa_nil)))
    (pss_cons (ps_for PassesOwn.never rfl (pi_range2 (by rfl) T.n_range (pa_cons pe_int (pa_cons (pe_callB (c_max (K := K) rfl rfl) (by rfl) T.n_max (by decide +kernel) (pa_cons pe_int (pa_cons (pe_callB (c_min (K := K) rfl rfl) (by rfl) T.n_min (by decide +kernel) (pa_cons pe_int (pa_cons (pe_callB (c_len (K := K) rfl) (by rfl) T.n_len (by decide +kernel) (pa_cons (pv 0) pa_nil)) pa_nil))) pa_nil))) pa_nil))) (pg_name (i := 2) nd rfl (by first | exact Or.inl rfl | exact Or.inr rfl)) (pss_cons (ps_set (i := 5) nd rfl (by first | exact Or.inl rfl | exact Or.inr rfl) (z_call c_l_box hr (by decide) (by rfl) (pa_cons (pv 0) (pa_cons (pv 2) pa_nil))))
    (pss_cons (ps_set (i := 8) nd rfl (by first | exact Or.inl rfl | exact Or.inr rfl) (pe_ix (o_ix (K := K) (w := w) rfl rfl hu1) (pe_lst (pa_cons pe_str (pa_cons pe_str (pa_cons pe_str (pa_cons pe_str pa_nil))))) (z_call c_l_take hr (by decide) (by rfl) (pa_cons (pv 5) (pa_cons pe_int pa_nil))) (fun _ _ => rfl)))
    (pss_one (ps_expr (z_bm (K := K) rfl PySem.F.plainAttrs_list PySem.F.slot_list_append PySem.F.type_list_append mt_append (pv 7) (pa_cons (z_make c_Saying_init hr (by decide) (by rfl) (pa_cons (pv 8) (pa_cons (z_call c_l_term hr (by decide) (by rfl) (pa_cons (pv 5) (pa_cons (pv 6) (pa_cons pe_int pa_nil)))) (pa_cons (z_call c_l_term hr (by decide) (by rfl) (pa_cons (pv 5) (pa_cons (pv 6) (pa_cons pe_int pa_nil)))) pa_nil)))) pa_nil)))))))
    (pss_cons (z_setLc (i := 3) (own := [("saying", 10)]) nd (z_iter (K := K) rfl (pv 7)) (blkOk_by (N := ["script", "box", "k", "good", "at", "one", "pool", "some", "word", "other", "saying"]) (sc := defScope s_law) (by decide +kernel)) (fun _ _ _ _ _ => (pg_name (i := 10) nd rfl (by first | exact Or.inl rfl | exact Or.inr rfl))) (fun _ _ _ _ _ => (pts_one (pt_cmpR (o_eq (K := K) rfl hu) (z_fld (K := K) rfl (pv 10)) pe_str (nomark _)))) (fun _ _ _ _ _ => (pv 10)))
    (pss_cons (ps_for PassesOwn.never rfl (pi_range1 (by rfl) T.n_range (pa_cons (pe_op (o_add (K := K) rfl) (pe_callB (c_len (K := K) rfl) (by rfl) T.n_len (by decide +kernel) (pa_cons (pv 7) pa_nil)) pe_int) pa_nil)) (pg_name (i := 4) nd rfl (by first | exact Or.inl rfl | exact Or.inr rfl)) (pss_one (ps_if (PW.pt (pw_or (pt_cmpR (o_ne (K := K) rfl hu) (z_call c_l_said hr (by decide) (by rfl) (pa_cons (pe_glob rfl T.g_made_one (r_ref _)) (pa_cons (pe_slice (s_any (K := K) rfl) (pv 7) (po_some (pv 4)) po_none) pa_nil))) (z_call c_l_due hr (by decide) (by rfl) (pa_cons (pe_slice (s_any (K := K) rfl) (pv 7) (po_some (pv 4)) po_none) pa_nil)) (nomark _)) (pw_or1 (pt_cmpR (o_ne (K := K) rfl hu) (z_call c_l_said hr (by decide) (by rfl) (pa_cons (pe_glob rfl T.g_made_one (r_ref _)) (pa_cons (pv 3) pa_nil))) (pe_tup (pa_cons pe_str (pa_cons pe_str pa_nil))) (nomark _))))) (pss_one (ps_ret pe_bl)) pss_nil)))
    (pss_cons (ps_for PassesOwn.never rfl (z_iter (K := K) rfl (pe_slice (s_any (K := K) rfl) (pv 7) po_none (po_some pe_int))) (pg_name (i := 5) nd rfl (by first | exact Or.inl rfl | exact Or.inr rfl)) (pss_one (ps_for PassesOwn.never rfl (z_iter (K := K) rfl (pe_slice (s_any (K := K) rfl) (pv 7) (po_some (pe_un un_neg pe_int)) po_none)) (pg_name (i := 9) nd rfl (by first | exact Or.inl rfl | exact Or.inr rfl)) (pss_one (ps_if (pt_cmpR (o_ne (K := K) rfl hu) (z_call c_l_said hr (by decide) (by rfl) (pa_cons (pe_glob rfl T.g_l_both (r_ref _)) (pa_cons (pe_lst (pa_cons (pv 5) (pa_cons (pv 9) pa_nil))) pa_nil))) (z_call c_l_due hr (by decide) (by rfl) (pa_cons (pe_lst (pa_cons (pv 5) (pa_cons (pv 9) pa_nil))) pa_nil)) (nomark _)) (pss_one (ps_ret pe_bl)) pss_nil)))))
    (pss_one (ps_ret (pe_cmpR (o_eq (K := K) rfl hu) (z_call c_l_said hr (by decide) (by rfl) (pa_cons (pe_glob rfl T.g_made_one (r_ref _)) (pa_cons (pe_callTy (c_tuple (K := K) rfl) (by rfl) T.n_tuple (by decide +kernel) (pa_cons (pv 7) pa_nil)) pa_nil))) (z_call c_l_due hr (by decide) (by rfl) (pa_cons (pv 7) pa_nil)) (nomark _)))))))))), ?_⟩
  try dsimp only [cxOf, Cx.nox, Cx.wish, Cx.blk]
  obtain ⟨p, ns, rfl, hp, hn, q⟩ := h
  refine at_start (σ' := [some _, none, none, none, none, none, none, none, none, none, none]) rfl ?_
  wtm_at "gos"
  refine ⟨p, ns, 0, rfl, hp, by omega, fun b H1 nb hb k1 => ?_⟩
  wtm_at "gos"
  refine ⟨b, 4, rfl, hb, by omega, fun pp names H2 npp hb2 hpp hlen hnm k2 => ?_⟩
  have kk := k1.drop nb k2
  wtm_at "gos"
  rename_i s hns
  generalize hN : Int.toNat _ = N
  have hN10 : N ≤ 10 := by
    have : (ns.map V.int).length = ns.length := List.length_map ..
    subst hN
    split <;> split <;> omega
  clear hN
  have nps : pp ≠ s := ne_nn hns hpp
  have ks : Kp [] H (upd H2 s (.lst [])) := kk.trans (Kp.new hns)
  refine g_forW wk_rng (fun i σ' H' => Kp [] H H' ∧ (∃ vs ss, H' s = some (.lst vs) ∧ AllAt (SayAt K a.say) H' vs ss ∧ vs.length = i) ∧ H' pp = some (.lst (names.map V.str)) ∧
      ∃ u2 u3 u4 u5 u8 u9 u10, σ' = [some (.ref p), some (.ref b), u2, u3, u4, u5, some (.ref pp), some (.ref s), u8, u9, u10])
    ⟨ks, ⟨[], [], upd_same, .nil, rfl⟩, upd_other nps hpp, _, _, _, _, _, _, _, rfl⟩ (fun _ _ _ _ => trivial) ?_ ?_
  · rintro i σ' H3 x H4 hi ⟨k3, ⟨vs, ss, hs, has, hvl⟩, hpp3, u2, u3, u4, u5, u8, u9, u10, rfl⟩ ⟨rfl, rfl⟩
    wtm_at "gos"
    refine ⟨p, ns, _, rfl, k3.l ns0 hp, by omega, fun o H5 no ho k5 => ?_⟩
    wtm_at "gos"
    rename_i wl nwl
    refine ⟨o, 4, rfl, ho.new nwl, by omega, fun d H6 d0 d1 ho6 k6 => ?_⟩
    refine g_ixL (SqL.of (k6.k _ _ (ns1 (ho.ne nwl).symm) upd_same)) (at4w d0 d1) ?_
    wtm_at "gos"
    have k46 := (k5.trans (Kp.new nwl)).drop no k6
    refine ⟨o, pp, 2, names, rfl, ho6, k46.k _ _ ns0 hpp3, ne_nn no hpp3, by omega, by omega, fun v1 t1 H7 tv1 g1 ho7 k7 => ?_⟩
    have k47 := k46.drop no k7
    wtm_at "gos"
    refine ⟨o, pp, 2, names, rfl, ho7, k47.k _ _ ns0 hpp3, ne_nn no hpp3, by omega, by omega, fun v2 t2 H8 tv2 g2 ho8 k8 => ?_⟩
    have k48 := k47.drop no k8
    wtm_at "gos"
    refine mk_say (b := decide (d = 3)) fun x dx H9 nx ex k9 => ?_
    have k49 := k48.trans k9
    have hs9 := k49.k _ _ ns0 hs
    have z : vs.length < sizeLine := lt_big (by omega)
    wtm_at "gos"
    have k10 : Kp [s] H9 (upd H9 s (.lst (vs ++ [.ref x]))) := Kp.wr (by simp) hs9 (by intro z; cases z)
    refine ⟨(k3.trans k49).ch (kk.n _ hns), ⟨vs ++ [.ref x], ss ++ [⟨decide (d = 3), t1, t2⟩], upd_same, (has.up fun _ _ h => (h.up k49).up k10).snoc ⟨x, dx, v1, v2, rfl, k10.t _ _ (.inl rfl) ex, ((tv1.up k8).up k9).up k10, (tv2.up k9).up k10⟩, by simp [hvl]⟩, upd_other nps (k49.k _ _ ns0 hpp3), _, _, _, _, _, _, _, rfl⟩
  · rintro σ' H3 ⟨k3, ⟨vs, ss, hs, has, hvl⟩, hpp3, u2, u3, u4, u5, u8, u9, u10, rfl⟩
    have hsl := has.length
    wtm_at "gos"
    intro D hD
    refine g_lcW (wk_list (xs := vs)) (fun i acc H' => Kp [] H3 H' ∧ ∃ gs, AllAt (SayAt K a.say) H' acc gs ∧ ∀ g ∈ gs, g.under = false) ⟨Kp.new hD, [], .nil, by simp⟩ (fun i acc H' h => h.1.l ns0 (SqL.of hs)) ?_ ?_
    · rintro i acc H4 x H5 hi hl hDa ⟨k4, gs, hg, hgu⟩ ⟨rfl, hy⟩
      obtain ⟨s1, hs1, hys⟩ := has.get hy
      obtain ⟨p1, dx, l, r, rfl, e1, tl, tr⟩ := hys.up k4
      wtm_at "gos"
      refine ⟨rfl, ?_⟩
      wtm_at "gos"
      refine g_fld1 e1 T.cl_Saying T.no_Saying_word rfl ?_
      wtm_at "gos"
      rw [word_same]
      have k5 : Kp [D] H5 (upd H5 D (.lst (acc ++ [.ref p1]))) := Kp.wr (by simp) hDa (by intro z; cases z)
      refine g_iteB (fun z => ?_) (fun z => ?_)
      · wtm_at "gos"
        refine g_lcy hDa hl (lt_big (by omega)) ⟨k4.ch hD, gs ++ [s1], (hg.up fun _ _ h => h.up k5).snoc ((hys.up k4).up k5), fun g hg => ?_⟩
        rcases List.mem_append.mp hg with h | h
        · exact hgu g h
        · rw [List.mem_singleton.mp h]; simpa using z
      · exact g_lcn hDa hl ⟨k4, gs, hg, hgu⟩
    · rintro acc H4 hl hDa ⟨k4, gs, hg, hgu⟩
      have hs4 := k4.k _ _ ns0 hs
      have has4 : AllAt (SayAt K a.say) H4 vs ss := has.up fun _ _ h => h.up k4
      have hgl := hg.length
      wtm_at "gos"
      refine g_forW wk_rng (fun i σ' H' => Kp [] H4 H' ∧ ∃ u2 u4 u5 u8 u9 u10, σ' = [some (.ref p), some (.ref b), u2, some (.ref D), u4, u5, some (.ref pp), some (.ref s), u8, u9, u10])
        ⟨Kp.refl, _, _, _, _, _, _, rfl⟩ (fun _ _ _ _ => trivial) ?_ ?_
      · rintro i σ' H5 x H6 hi ⟨k5, u2, u4, u5, u8, u9, u10, rfl⟩ ⟨rfl, rfl⟩
        wtm_at "gos"
        wtm_at "if"
        wtm_at "gos"
        have hs6 := k5.k _ _ ns0 hs4
        have has6 : AllAt (SayAt K a.say) H6 vs ss := has4.up fun _ _ h => h.up k5
        refine g_slL (SqL.of hs6) fun c1 n1 => ?_
        wtm_at "gos"
        have j1 : Kp [] H6 (upd H6 c1 (.lst (cutV vs (some (0 + (i : Int))) none))) := Kp.new n1
        have hc1 : (cutA ss (some (0 + (i : Int))) none).length ≤ 10000 := Nat.le_trans (cutA_length ..) (by omega)
        refine ⟨a.x "made_one", c1, _, _, rfl, .inl (SqL.of upd_same), (has6.cut _ _).up fun _ _ h => h.up j1, hc1, .inl rfl, fun r1 H7 hr1 k7 => ?_⟩
        wtm_at "gos"
        have j2 := j1.trans k7
        refine g_slL (SqL.of (j2.k _ _ ns0 hs6)) fun c2 n2 => ?_
        wtm_at "gos"
        have j3 := j2.trans (Kp.new n2 (o := .lst (cutV vs (some (0 + (i : Int))) none)))
        refine ⟨c2, _, _, rfl, .inl (SqL.of upd_same), (has6.cut _ _).up fun _ _ h => h.up j3, fun r2 H8 hr2 k8 => ?_⟩
        refine ne_said (k8.t _ _ trivial ((Kp.new n2 : Kp [] _ _).t _ _ trivial hr1)) hr2 ?_
        wtm_at "gos"
        refine iteF ?_
        wtm_at "gos"
        have j4 := k5.trans (j3.trans k8)
        refine ⟨a.x "made_one", D, _, _, rfl, .inl (SqL.of (j4.k _ _ ns0 hDa)), hg.up fun _ _ h => h.up j4, by omega, .inl rfl, fun r3 H9 hr3 k9 => ?_⟩
        rw [fst_good gs 0 hgu] at hr3
        wtm_at "gos"
        rename_i c3 n3
        refine ne_said (o := none) ((Kp.new n3 : Kp [] _ _).t _ _ trivial hr3) upd_same ?_
        wtm_at "gos"
        refine iteF ?_
        wtm_at "gos"
        exact ⟨j4.trans (k9.trans (Kp.new n3)), _, _, _, _, _, _, rfl⟩
      · rintro σ' H5 ⟨k5, u2, u4, u5, u8, u9, u10, rfl⟩
        wtm_at "gos"
        have hs5 := k5.k _ _ ns0 hs4
        have has5 : AllAt (SayAt K a.say) H5 vs ss := has4.up fun _ _ h => h.up k5
        refine g_slL (SqL.of hs5) fun c1 n1 => ?_
        wtm_at "gos"
        have j1 : Kp [] H5 (upd H5 c1 (.lst (cutV vs none (some 4)))) := Kp.new n1
        refine g_forW wk_list (fun i σ' H' => Kp [] (upd H5 c1 (.lst (cutV vs none (some 4)))) H' ∧ ∃ u2 u4 u5 u8 u9 u10, σ' = [some (.ref p), some (.ref b), u2, some (.ref D), u4, u5, some (.ref pp), some (.ref s), u8, u9, u10])
          ⟨Kp.refl, _, _, _, _, _, _, rfl⟩ (fun _ _ _ h => h.1.l ns0 (SqL.of upd_same)) ?_ ?_
        · rintro i σ' H6 x H7 hi ⟨k6, u2, u4, u5, u8, u9, u10, rfl⟩ ⟨rfl, hy⟩
          obtain ⟨s1, hs1, hys⟩ := (has5.cut none (some 4)).get hy
          wtm_at "gos"
          have j2 := j1.trans k6
          refine g_slL (SqL.of (j2.k _ _ ns0 hs5)) fun c2 n2 => ?_
          wtm_at "gos"
          have j3 := j2.trans (Kp.new n2 (o := .lst (cutV vs (some (-4)) none)))
          refine g_forW wk_list (fun i σ' H' => Kp [] (upd H7 c2 (.lst (cutV vs (some (-4)) none))) H' ∧ ∃ u2 u4 u8 u9 u10, σ' = [some (.ref p), some (.ref b), u2, some (.ref D), u4, some x, some (.ref pp), some (.ref s), u8, u9, u10])
            ⟨Kp.refl, _, _, _, _, _, rfl⟩ (fun _ _ _ h => h.1.l ns0 (SqL.of upd_same)) ?_ ?_
          · rintro i2 σ' H8 y H9 hi2 ⟨k8, u2, u4, u8, u9, u10, rfl⟩ ⟨rfl, hy2⟩
            obtain ⟨s2, hs2, hys2⟩ := (has5.cut (some (-4)) none).get hy2
            have j4 := j3.trans k8
            wtm_at "gos"
            wtm_at "if"
            wtm_at "gos"
            rename_i l1 m1
            have i1 := j4.trans (Kp.new m1 (o := .lst [x, y]))
            refine ⟨a.x "_law_both", l1, _, [s1, s2], rfl, .inl (SqL.of upd_same), .cons (hys.up i1) (.cons (hys2.up i1) .nil), by simp, .inr ⟨rfl, rfl⟩, fun r1 H10 hr1 k10 => ?_⟩
            wtm_at "gos"
            rename_i l2 m2
            have i2 := i1.trans (k10.trans (Kp.new m2 (o := .lst [x, y])))
            refine ⟨l2, _, [s1, s2], rfl, .inl (SqL.of upd_same), .cons (hys.up i2) (.cons (hys2.up i2) .nil), fun r2 H11 hr2 k11 => ?_⟩
            refine ne_said (k11.t _ _ trivial ((Kp.new m2 : Kp [] _ _).t _ _ trivial hr1)) hr2 ?_
            wtm_at "gos"
            refine iteF ?_
            wtm_at "gos"
            exact ⟨k8.trans ((Kp.new m1).trans (k10.trans ((Kp.new m2).trans k11))), _, _, _, _, _, rfl⟩
          · rintro σ' H8 ⟨k8, u2, u4, u8, u9, u10, rfl⟩
            wtm_at "gos"
            exact ⟨k6.trans ((Kp.new n2).trans k8), _, _, _, _, _, _, rfl⟩
        · rintro σ' H6 ⟨k6, u2, u4, u5, u8, u9, u10, rfl⟩
          wtm_at "gos"
          have j2 := j1.trans k6
          refine g_tupleL (SqL.of (j2.k _ _ ns0 hs5)) fun c2 n2 => ?_
          wtm_at "gos"
          have j3 := j2.trans (Kp.new n2 (o := .tup vs))
          refine ⟨a.x "made_one", c2, _, _, rfl, .inr (SqT.of upd_same), has5.up fun _ _ h => h.up j3, by omega, .inl rfl, fun r1 H7 hr1 k7 => ?_⟩
          wtm_at "gos"
          have j4 := j3.trans k7
          refine ⟨s, _, _, rfl, .inl (SqL.of (j4.k _ _ ns0 hs5)), has5.up fun _ _ h => h.up j4, fun r2 H8 hr2 k8 => ?_⟩
          exact eq_said (k8.t _ _ trivial hr1) hr2 (q _)

theorem law_sp (H : Hp) (p : Addr) (ns : List Int) (hl : ns.length ≤ 63) (_ : ∀ z ∈ ns, Builtin.Int.intBits z ≤ 1048576) (_ : Only H) (hS : SqL K H p (ns.map V.int)) : sp_law K a [.ref p] H (fun v _ => v = .bl true) fun _ _ _ => False :=
  ⟨p, ns, rfl, hS, hl, fun _ => rfl⟩

end

/-! ### the head -/
open PySem.Spec
def fa : List He.Fa := [.glo "_law_take",
  .glo "_law_box",
  .glo "_law_pool",
  .glo "_law_term",
  .glo "sum_of",
  .glo "Saying",
  .mkr "Saying",
  .glo "NoOne",
  .meth "NoOne" "__init__",
  .noat "NoOne" "at",
  .glo "need_same",
  .glo "made_one",
  .glo "either",
  .glo "_law_both",
  .glo "_law_due",
  .glo "_law_said",
  .glo "law",
  .cls "Saying",
  .noat "Saying" "word",
  .noat "Saying" "left",
  .noat "Saying" "right",
  .glo "NoAnswer",
  .glo "NoBegin",
  .glo "NoHeld",
  .glo "NoNumber",
  .glo "NoProgram",
  .glo "NoRow",
  .glo "NoText",
  .glo "NoWord",
  .glo "TooGreat",
  .glo "Unknown",
  .glo "Wrong",
  .free "ValueError",
  .free "bool",
  .free "enumerate",
  .free "int",
  .free "isinstance",
  .free "len",
  .free "max",
  .free "min",
  .free "range",
  .free "tuple",
  .glo "SIGNS",
  .glo "WORDS",
  .glo "TWO"]
def fn : List He.DefD := [⟨("_law_take", none), "_law_take", "_law_take", defArgs s_l_take, defBody s_l_take, defScope s_l_take, [], []⟩,
  ⟨("_law_box", none), "_law_box", "_law_box", defArgs s_l_box, defBody s_l_box, defScope s_l_box, [], []⟩,
  ⟨("_law_pool", none), "_law_pool", "_law_pool", defArgs s_l_pool, defBody s_l_pool, defScope s_l_pool, [], []⟩,
  ⟨("_law_term", none), "_law_term", "_law_term", defArgs s_l_term, defBody s_l_term, defScope s_l_term, [], []⟩,
  ⟨("sum_of", none), "sum_of", "sum_of", defArgs s_sum_of, defBody s_sum_of, defScope s_sum_of, [], []⟩,
  ⟨("Saying", some "__init__"), "__init__", "Saying.__init__", defArgs s_Saying_init, defBody s_Saying_init, defScope s_Saying_init, [], []⟩,
  ⟨("NoOne", some "__init__"), "__init__", "NoOne.__init__", defArgs s_NoOne_init, defBody s_NoOne_init, defScope s_NoOne_init, [], []⟩,
  ⟨("need_same", none), "need_same", "need_same", defArgs s_need_same, defBody s_need_same, defScope s_need_same, [], []⟩,
  ⟨("made_one", none), "made_one", "made_one", defArgs s_made_one, defBody s_made_one, defScope s_made_one, [], []⟩,
  ⟨("either", none), "either", "either", defArgs s_either, defBody s_either, defScope s_either, [], []⟩,
  ⟨("_law_both", none), "_law_both", "_law_both", defArgs s_l_both, defBody s_l_both, defScope s_l_both, [], []⟩,
  ⟨("_law_due", none), "_law_due", "_law_due", defArgs s_l_due, defBody s_l_due, defScope s_l_due, [], []⟩,
  ⟨("_law_said", none), "_law_said", "_law_said", defArgs s_l_said, defBody s_l_said, defScope s_l_said, [], []⟩,
  ⟨("law", none), "law", "law", defArgs s_law, defBody s_law, defScope s_law, [], []⟩]
def ts : List He.Tab := [(fun K => He.ga K "SIGNS", ["plus", "times", "power"]),
  (fun K => He.ga K "WORDS", ["same", "under"])]
def Bl (K : PySem.W.Frag) : List Bool := [oexB K (He.ga K "NoOne"),
  excB K (He.ga K "NoOne"),
  decide (PySem.W.exmOne K (.ref (He.ga K "NoOne")) (.ref (He.ga K "NoOne")) = some true),
  decide (PySem.W.kitAny K (.ref (He.ga K "NoOne")) [.ref (He.ga K "NoAnswer"), .ref (He.ga K "NoBegin"), .ref (He.ga K "NoHeld"), .ref (He.ga K "NoNumber"), .ref (He.ga K "NoProgram"), .ref (He.ga K "NoRow"), .ref (He.ga K "NoText"), .ref (He.ga K "NoWord"), .ref (He.ga K "TooGreat")] = some false),
  decide (PySem.W.kitAny K (.ref (He.ga K "NoOne")) [.ref (He.ga K "Unknown"), .ref (He.ga K "Wrong")] = some false),
  decide (PySem.W.kitOne K (.ref (He.ga K "NoOne")) (.type "ValueError") = some true),
  He.valsB K (He.ga K "SIGNS") [("plus", .str " + "), ("times", .str " * "), ("power", .str " ^ ")],
  He.valsB K (He.ga K "WORDS") [("same", .str "="), ("under", .str "under")],
  He.tupB K "TWO" [.str "num", .int 2]]
abbrev R : PySem.W.OpenRow := PySem.W.OpenLaw.row PySem.Challenge.rw_runsums_k71_not_made_one
abbrev hk : PySem.W.Hook := hookZ 6 fa fn ts (fun K => (Bl K).all id)
def ob (s : PySem.W.SharedT) : AlZ := obsZG 6 fa fn ts (fun K => (Bl K).all id) (HandSHeadRun.getT s)
theorem ob_eq (s : PySem.W.SharedT) : ob s = hk.obs s.abs := obsZG_eq (HandSHeadRun.getT_eq s)
def names : List Str := ["NoText", "NoProgram", "NoWord", "Wrong", "NoOne", "NoRow", "NoNumber", "Unknown", "NoBegin", "NoAnswer", "NoHeld", "TooGreat", "is_leaf", "sum_of", "SIGNS", "written", "WORDS", "Saying", "TWO", "need_same", "made_one", "either", "_law_box", "_law_take", "_law_pool", "_law_term", "_law_said", "_law_both", "_law_due"]
theorem run (w : World) : HandSHeadRun.RunEq R (PySem.W.view R.prog [35]) hk ob 4000 names w := by
  refine PySem.W.byRow2 "special-get-raises" (P := fun w => HandSHeadRun.RunEq R (PySem.W.view R.prog [35]) hk ob 4000 names w) (fun w => ?_) (fun w => ?_) w
  · intro os
    kernel_rfl
  · intro os
    kernel_rfl
def adOf (K : PySem.W.Frag) : Ad := { say := He.ga K "Saying", two := He.ga K "TWO", words := He.ga K "WORDS", signs := He.ga K "SIGNS", x := He.ga K }
section
variable {P : Program} {w : World} {K : PySem.W.Frag} {h : Heap} {mg : Str → Option Value}
theorem txt (X : K.In h) (G : h.Ns mainGlobals mg) (c : SaysZ fa fn ts (fun K => (Bl K).all id) w K) : Txt w K mg (adOf K) where
  d_l_take := defAt c X G 0 0 rfl rfl (fun _ _ _ _ _ _ us hl => match us, hl with | [_, _], _ => rfl)
  d_l_box := defAt c X G 1 1 rfl rfl (fun _ _ _ _ _ _ us hl => match us, hl with | [_, _], _ => rfl)
  d_l_pool := defAt c X G 2 2 rfl rfl (fun _ _ _ _ _ _ us hl => match us, hl with | [_, _], _ => rfl)
  d_l_term := defAt c X G 3 3 rfl rfl (fun _ _ _ _ _ _ us hl => match us, hl with | [_, _, _], _ => rfl)
  d_sum_of := defAt c X G 4 4 rfl rfl (fun _ _ _ _ _ _ us hl => match us, hl with | [_], _ => rfl)
  m_Saying := initAt c X G 5 5 6 rfl rfl rfl (fun _ _ _ _ _ _ us hl => match us, hl with | [_, _, _, _], _ => rfl)
  m_NoOne := xinitAt c X G 6 7 8 rfl rfl rfl (oexB_ok (bfact c 0 rfl)) (fun _ _ _ _ _ _ us hl => match us, hl with | [_, _], _ => rfl)
  no_NoOne_at := He.noat_ok (fact c 9 rfl)
  e_NoOne := excB_ok (bfact c 1 rfl)
  d_need_same := defAt c X G 7 10 rfl rfl (fun _ _ _ _ _ _ us hl => match us, hl with | [_], _ => rfl)
  d_made_one := defAt c X G 8 11 rfl rfl (fun _ _ _ _ _ _ us hl => match us, hl with | [_], _ => rfl)
  d_either := defAt c X G 9 12 rfl rfl (fun _ _ _ _ _ _ us hl => match us, hl with | [_, _], _ => rfl)
  d_l_both := defAt c X G 10 13 rfl rfl (fun _ _ _ _ _ _ us hl => match us, hl with | [_], _ => rfl)
  d_l_due := defAt c X G 11 14 rfl rfl (fun _ _ _ _ _ _ us hl => match us, hl with | [_], _ => rfl)
  d_l_said := defAt c X G 12 15 rfl rfl (fun _ _ _ _ _ _ us hl => match us, hl with | [_, _], _ => rfl)
  d_law := defAt c X G 13 16 rfl rfl (fun _ _ _ _ _ _ us hl => match us, hl with | [_], _ => rfl)
  g_Saying := He.glo_ok X G (fact c 5 rfl)
  cl_Saying := He.cls_ok (fact c 17 rfl)
  no_Saying_word := He.noat_ok (fact c 18 rfl)
  no_Saying_left := He.noat_ok (fact c 19 rfl)
  no_Saying_right := He.noat_ok (fact c 20 rfl)
  g_NoAnswer := He.glo_ok X G (fact c 21 rfl)
  g_NoBegin := He.glo_ok X G (fact c 22 rfl)
  g_NoHeld := He.glo_ok X G (fact c 23 rfl)
  g_NoNumber := He.glo_ok X G (fact c 24 rfl)
  g_NoOne := He.glo_ok X G (fact c 7 rfl)
  g_NoProgram := He.glo_ok X G (fact c 25 rfl)
  g_NoRow := He.glo_ok X G (fact c 26 rfl)
  g_NoText := He.glo_ok X G (fact c 27 rfl)
  g_NoWord := He.glo_ok X G (fact c 28 rfl)
  g_TooGreat := He.glo_ok X G (fact c 29 rfl)
  g_Unknown := He.glo_ok X G (fact c 30 rfl)
  g_Wrong := He.glo_ok X G (fact c 31 rfl)
  g_l_both := He.glo_ok X G (fact c 13 rfl)
  g_made_one := He.glo_ok X G (fact c 11 rfl)
  x_exm := of_decide_eq_true (bfact c 2 rfl)
  x_not9 := of_decide_eq_true (bfact c 3 rfl)
  x_not2 := of_decide_eq_true (bfact c 4 rfl)
  x_ve := of_decide_eq_true (bfact c 5 rfl)
  n_ValueError := He.free_ok X G (fact c 32 rfl)
  n_bool := He.free_ok X G (fact c 33 rfl)
  n_enumerate := He.free_ok X G (fact c 34 rfl)
  n_int := He.free_ok X G (fact c 35 rfl)
  n_isinstance := He.free_ok X G (fact c 36 rfl)
  n_len := He.free_ok X G (fact c 37 rfl)
  n_max := He.free_ok X G (fact c 38 rfl)
  n_min := He.free_ok X G (fact c 39 rfl)
  n_range := He.free_ok X G (fact c 40 rfl)
  n_tuple := He.free_ok X G (fact c 41 rfl)
  g_SIGNS := He.glo_ok X G (fact c 42 rfl)
  r_SIGNS := rfl
  w_SIGNS := wdict_of (He.SaysT.tab c.t 0 rfl) (bfact c 6 rfl)
  g_WORDS := He.glo_ok X G (fact c 43 rfl)
  r_WORDS := rfl
  w_WORDS := wdict_of (He.SaysT.tab c.t 1 rfl) (bfact c 7 rfl)
  g_TWO := He.glo_ok X G (fact c 44 rfl)
  r_TWO := rfl
  t_TWO := tu_of (He.tupB_ok (bfact c 8 rfl))

theorem facts {f : Addr} (X : K.In h) (G : h.Ns mainGlobals mg) (hfa : mg ("law" : Str) = some (.ref f)) (c : SaysZ fa fn ts (fun K => (Bl K).all id) w K) :
    ∃ fd : FuncData, (∀ (s : Shared) (v : Value), BindsTo s fd ⟨[v], []⟩ [("script", v)]) ∧ ∀ base : Heap, FnOk P w K mg base L2.CX0 7 f fd ["script"] (sp_law K (adOf K)) := by
  have T := txt X G c
  obtain ⟨fd, F⟩ := c.t.d.def_ 13 rfl
  have e := hfa.symm.trans (He.glo_ok X G (fact c 16 (f := .glo "law") rfl))
  cases e
  have b := FunD.bindsA (ps := ["script"]) F fun _ _ _ _ _ _ us hl => match us, hl with | [_], _ => rfl
  refine ⟨fd, fun s v => b s [v] rfl, fun base => ?_⟩
  have c_l_take := ok_l_take (P := P) (w := w) (K := K) (mg := mg) (base := base) (a := adOf K) T
  have c_l_box := ok_l_box (P := P) (w := w) (K := K) (mg := mg) (base := base) (a := adOf K) T
  have c_l_pool := ok_l_pool (P := P) (w := w) (K := K) (mg := mg) (base := base) (a := adOf K) T c_l_take
  have c_l_term := ok_l_term (P := P) (w := w) (K := K) (mg := mg) (base := base) (a := adOf K) T c_l_take 2
  have c_sum_of := ok_sum_of (P := P) (w := w) (K := K) (mg := mg) (base := base) (a := adOf K) T
  have c_Saying_init := ok_Saying_init (P := P) (w := w) (K := K) (mg := mg) (base := base) (a := adOf K) T
  have c_NoOne_init := ok_NoOne_init (P := P) (w := w) (K := K) (mg := mg) (base := base) (a := adOf K) T
  have c_need_same := ok_need_same (P := P) (w := w) (K := K) (mg := mg) (base := base) (a := adOf K) T c_NoOne_init
  have c_made_one := ok_made_one (P := P) (w := w) (K := K) (mg := mg) (base := base) (a := adOf K) T c_need_same c_Saying_init c_sum_of
  have c_either := ok_either (P := P) (w := w) (K := K) (mg := mg) (base := base) (a := adOf K) T c_need_same c_Saying_init
  have c_l_both := ok_l_both (P := P) (w := w) (K := K) (mg := mg) (base := base) (a := adOf K) T c_either
  have c_l_due := ok_l_due (P := P) (w := w) (K := K) (mg := mg) (base := base) (a := adOf K) T
  have c_l_said := ok_l_said (P := P) (w := w) (K := K) (mg := mg) (base := base) (a := adOf K) T c_made_one c_l_both
  exact ok_law T c_l_box c_l_pool c_l_take c_Saying_init c_l_term c_l_said c_l_due F
end
end T
open PySem PySem.W PySem.Calls PyProof.Rows
theorem PySem.Challenge.cw_runsums_k71_not_made_one_holds : PySem.Challenge.rw_runsums_k71_not_made_one.Holds := by
  w_on; o_law
  refine HandSHeadRun.head_any (r := OpenLaw.row PySem.Challenge.rw_runsums_k71_not_made_one) (q := view (OpenLaw.row PySem.Challenge.rw_runsums_k71_not_made_one).prog [35]) (H := T.hk) (ob := T.ob) (M := 4000) (loose := T.names) (d := HandSHeadRun.topDef (OpenLaw.row PySem.Challenge.rw_runsums_k71_not_made_one).prog 35) (kwd := []) T.ob_eq
    (by kernel_rfl) (fun s => by kernel_rfl) T.run (by kernel_rfl) (by kernel_rfl) (by kernel_rfl) (by rfl) (by first | assumption | decide +kernel) (by decide +kernel) ⟨rfl, rfl, rfl, rfl, rfl, by decide +kernel⟩ ?hw ?hc
  case hw => w_witness2
  case hc =>
    refine Z.walk_ofZ (l := PySem.Challenge.rw_runsums_k71_not_made_one) (n := 63) (k := 7) (x := "script") (CX := fun _ => L2.CX0) rfl (by decide) (by kernel_rfl) ⟨rfl, by decide, by decide⟩ ?F (fun _ _ _ _ _ z => z)
    intro w mg fa h Y G hmg0
    obtain ⟨K, KX, c⟩ := Y
    have hmg : mg ("law" : PySem.Str) = some (.ref fa) := by
      have e : (HandSHeadRun.topDef (OpenLaw.row PySem.Challenge.rw_runsums_k71_not_made_one).prog 35).name = ("law" : PySem.Str) := by kernel_rfl
      rw [← e]
      exact hmg0
    obtain ⟨fd, hb, hF⟩ := T.facts (P := (PySem.Challenge.rw_runsums_k71_not_made_one).prog) (w := w) KX G hmg c
    exact ⟨K, fd, T.sp_law K (T.adOf K), KX, hb, fun H a ns hl hbits hO hS => T.law_sp H a ns hl hbits hO hS, fun base _ _ => hF base⟩
