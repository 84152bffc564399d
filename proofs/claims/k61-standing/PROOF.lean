import PyProof.Rows.All
import Wide.All
import OpenK.AllK
import Wide.FinOn
import HandS.ForMost
import HandS.Walk
import HandS.Star
import HandS.IsInst
import HandS.Property
import HandS.Conv
import HandS.More
import HandS.TupAny
import HandS.SortInts
import HandS.SortKw
import HandS.Sort
import HandS.Codes
import KE.GoesMore
import KE.GoesEnum
import KE.SortKeyHeap
import KE.SortData
import PySem.Challenge.RW_wovenframes_k61_whole_standing_together
set_option Elab.async false
set_option linter.all false
set_option maxRecDepth 100000
set_option maxHeartbeats 4000000
namespace Wf
open PySem PySem.Spec PyProof.Rows L2

/-! ### enumerate over a tuple, over a text -/
theorem meets_enum1 {v : Value} {ob : Obj} {G : Heap → Prop} (B : Begins v ob G) :
    Meets (Builtin.«enumerate.__new__» ⟨[.type "enumerate", v], []⟩) (fun _ R s => G s.heap ∧ R (.ok (.ret (.ref (s.heap.push ob).objs.size)))
      { s with heap := (s.heap.push ob).push { cls := .type "enumerate", data := .fields #[.none, .bool false, .ref s.heap.objs.size, rawInt 0, .none, .none] } }) :=
  .of_wp fun pr wo Ar R s ⟨hG, hR⟩ => by
    obtain ⟨hp, ge, dr, tk, os⟩ := s
    have hsub := sub_enumerate
    have step : ∀ {A' : Around} {E : Value → Shared → Prop} {Q : Value → Shared → Prop}, Q (.ref hp.objs.size) ⟨hp.push ob, ge, dr, tk, os⟩ → wpAny (model pr wo) A' (pyIter v) Q E ⟨hp, ge, dr, tk, os⟩ := fun q => B.iter pr wo _ _ ⟨hp, ge, dr, tk, os⟩ _ hG q
    wp_walk using step
    refine wpAny_stack_any fun st => wpAny_pure ?_
    split
    · rename_i cc _ _ _ _ _
      cases (cc == Value.type "enumerate") <;> (wp_walk using step; exact ⟨_, rfl, hR⟩)
    · wp_walk using step
      exact ⟨_, rfl, hR⟩

section
variable {P : Program} {w : World} {A : Around} {E : Value → Shared → Prop} {s : Shared}
theorem call_enum1 {v : Value} {ob : Obj} {G : Heap → Prop} {Q : Value → Shared → Prop} (B : Begins v ob G) (hG : G s.heap)
    (h : ∀ h', IsEnum h' (s.heap.objs.size + 1) s.heap.objs.size 0 .none → h'.get? s.heap.objs.size = some ob → h'.objs.size = s.heap.objs.size + 2 → (∀ b o, s.heap.get? b = some o → h'.get? b = some o) → Q (.ref (s.heap.objs.size + 1)) { s with heap := h' }) :
    wpAny (model P w) A (call (.type "enumerate") [v]) Q E s := by
  have z : (s.heap.push ob).objs.size = s.heap.objs.size + 1 := Heap.size_push ..
  have he : IsEnum ((s.heap.push ob).push { cls := .type "enumerate", data := .fields #[.none, .bool false, .ref s.heap.objs.size, rawInt 0, .none, .none] }) (s.heap.objs.size + 1) s.heap.objs.size 0 .none := by
    rw [← z]
    exact Heap.get?_push_size (s.heap.push ob) rfl
  refine callType_new F.called_enumerate (by decide) (F.typeCall_enumerate_1 _) (F.newCall_enumerate_1 _) (fun x => F.args_object_init_2 x _) F.entry_enumerate_new (meets_enum1 B) ⟨hG, ?_⟩
  show _ ∧ _
  rw [z]
  exact ⟨⟨_, he, rfl⟩, h _ he (Heap.get?_push_of_some _ (Heap.get?_push_size _ B.free)) (by rw [Heap.size_push, z]) fun b o x => Heap.get?_push_of_some _ (Heap.get?_push_of_some _ x)⟩
end

/-- the items of the tuple at a, each in a new pair with its number -/
def Itet (K : PySem.W.Frag) (a : Addr) : It :=
  ⟨fun i H => ∃ xs x, SqT K H a xs ∧ xs[i]? = some x, fun i H v H' => ∃ T x, v = .ref T ∧ H T = none ∧ H' = upd H T (.tup [.int (i : Nat), x]) ∧ ∀ xs, SqT K H a xs → xs[i]? = some x, fun i H => ∃ xs, SqT K H a xs ∧ xs.length ≤ i⟩
/-- the signs of a text, each in a new pair with its number -/
def Ites (z : Str) : It :=
  ⟨fun i _ => i < z.cps.size, fun i H v H' => ∃ T c, v = .ref T ∧ H T = none ∧ H' = upd H T (.tup [.int (i : Nat), .str ⟨#[c]⟩]) ∧ z.cps[i]? = some c, fun i _ => z.cps.size ≤ i⟩

theorem enum_turn {P : Program} {w : World} {X : Cx} {pins : List (Addr × Obj)} {s : Shared} {σ : L2.St} {H : Hp} {E : Value → Shared → Prop} {elts : List Expr} {kk : Nat} {tpos : Pos} {e it : Addr} {n i : Nat} {fpd : List Addr} {Pv : Nat → Value → Prop} {S : Nat → Heap → Prop} {J : It} {tn : Nat → Heap → Prop}
    (hP : X.prog = P) (hw : X.w = w) (I : Inv X pins σ H s) (hf : ∀ b ∈ [e, it], FpOk X pins H b) (D : Draws P w X.A.in1 it fpd n Pv S) (hef : e ∉ fpd) (hne : e ≠ it) (old : Value) (he : IsEnum s.heap e it ((i : Nat) : Int) old) (hs : S i s.heap) (hi : i < n) (hil : it < s.heap.objs.size)
    (rel : ∀ u, Pv i u → ∃ x, RelV x u ∧ ∀ T, H T = none → J.yld i H (.ref T) (upd H T (.tup [.int (i : Nat), x])))
    (nxt : ∀ h', (∃ o, IsEnum h' e it (((i + 1 : Nat)) : Int) o) → S (i + 1) h' → tn (i + 1) h') :
    wpAny (model P w) X.A (pyNext (.ref e)) (fun r s1 => ∃ u, r = some u ∧
      wpAny (model P w) X.A (letOwnedTupleGo (.Tuple elts kk tpos) (.ref e) u) (fun _ s2 => ∃ x H', Inv X pins σ H' s2 ∧ RelV x u ∧ J.yld i H x H' ∧ tn (i + 1) s2.heap ∧ ∀ b ∈ [e, it], H' b = none) E s1) E s := by
  subst hP hw
  have hel : e < s.heap.objs.size := Heap.lt_size he
  refine wpAny_pyNext_enum_itemC D he hs hi hne hef fun u h1 tk hu ho hs1 hT hsz hk => ⟨_, rfl, wpAny_letOwnedTupleGo_enum (s := { s with heap := h1, toks := tk + 1 }) ho fun h2 he2 sb => ?_⟩
  obtain ⟨x, rx, hy⟩ := rel u hu
  have hT2 : h2.get? s.heap.objs.size = some { cls := .type "tuple", data := .seq #[.int i tk, u] } := (sb.2 _ (Nat.ne_of_gt hel)).trans hT
  have nw : ObjOk X.prog X.w (upd H s.heap.objs.size (.tup [.int (i : Nat), x])) h2 s.heap.objs.size (.tup [.int (i : Nat), x]) := ⟨by show 2 ≤ sizeLine; decide, [.int i tk, u], .cons ⟨_, rfl⟩ (.cons rx .nil), ⟨_, hT2, rfl, _, rfl⟩⟩
  have I1 : Inv X pins σ (upd H s.heap.objs.size (.tup [.int (i : Nat), x])) { s with heap := h2, toks := tk + 1 } := by
    refine I.turnedNew (ch := [e, it]) (fun b ob hb q => ?_) hf (Nat.le_refl _) nw
    have b1 : b ≠ e := fun z => hb (by simp [z])
    have b2 : b ≠ it := fun z => hb (by simp [z])
    exact (sb.2 b b1).trans (hk b ob b1 b2 q)
  refine ⟨.ref s.heap.objs.size, _, I1, rfl, hy _ (I.hok.fresh (Nat.le_refl _)), nxt h2 ⟨u, ?_⟩ (D.frame _ _ _ hs1 fun b hb o y => (sb.2 b fun q => hef (q ▸ hb)).trans y), fun b hb => ?_⟩
  · have e1 : ((i + 1 : Nat) : Int) = (i : Int) + 1 := by omega
    rw [e1]
    exact he2
  · have hb' : b < s.heap.objs.size := by
      rcases List.mem_cons.mp hb with z | z
      · rw [z]; exact hel
      · rw [List.mem_singleton.mp z]; exact hil
    rw [upd_ne (Nat.ne_of_lt hb')]
    exact (hf b hb).1

theorem turn_enumT {P : Program} {w : World} {K : PySem.W.Frag} {elts : List Expr} {kk : Nat} {tpos : Pos} (a e it : Addr) :
    Turn P w K (.Tuple elts kk tpos) (Itet K a) [e, it] e (fun i h => (∃ old, IsEnum h e it ((i : Nat) : Int) old) ∧ h.IsTupleIter it a i ∧ e ≠ it) where
  mem := List.mem_cons_self
  obj := fun i h st b hb => by
    obtain ⟨⟨old, he⟩, ⟨o, ho, hc, hd⟩, _⟩ := st
    rcases List.mem_cons.mp hb with z | z
    · rw [z]
      exact ⟨_, he, fun v q => nomatch q⟩
    · exact ⟨o, (List.mem_singleton.mp z) ▸ ho, fun v q => by rw [hd] at q; cases q⟩
  keep := fun i h h' ⟨⟨old, he⟩, hi, hne⟩ k => ⟨⟨old, k e List.mem_cons_self _ he⟩, hi.at fun o q => k it (by simp) o q, hne⟩
  item := by
    intro X hP hw hK hc i pins s σ H E I hf st hg
    subst hK
    obtain ⟨⟨old, he⟩, hit, hne⟩ := st
    obtain ⟨xs, x, hq, hx⟩ := hg
    obtain ⟨its, rv, p, hz⟩ := I.tuple hq
    have pt : s.heap.IsTuple a its.toArray := p
    have hil : it < s.heap.objs.size := by obtain ⟨_, q, _⟩ := hit; exact Heap.lt_size q
    have hai : a ≠ it := by
      rintro rfl
      obtain ⟨o1, q1, c1, _⟩ := hit
      obtain ⟨o2, q2, c2, _⟩ := pt
      rw [q1] at q2
      cases q2
      exact absurd (Value.type.inj (c1.symm.trans c2)) (by decide)
    have hea : e ∉ [it, a] := by
      intro hm
      rcases List.mem_cons.mp hm with z | z
      · exact hne z
      · obtain ⟨o2, q2, c2, _⟩ := pt
        rw [← List.mem_singleton.mp z] at q2
        have q1 : s.heap.get? e = some _ := he
        rw [q1] at q2
        cases q2
        exact absurd (Value.type.inj c2) (by decide)
    have hl := rv.length
    have hlt : i < its.toArray.size := by
      have := (List.getElem?_eq_some_iff.mp hx).1
      rw [List.size_toArray]
      omega
    refine enum_turn (J := Itet X.K a) (tn := fun i h => (∃ old, IsEnum h e it ((i : Nat) : Int) old) ∧ h.IsTupleIter it a i ∧ e ≠ it) hP hw I hf (Draws.tuple (by show X.A.in1.handled = none; exact I.ok.hd hc) it a hai its.toArray) hea hne old he ⟨hit, pt⟩ hlt hil (fun u hu => ?_) fun h' q1 q2 => ⟨q1, q2.1, hne⟩
    obtain ⟨u', hu', ru⟩ := rv.get hx
    have eu : u = u' := by
      have h1 : its[i]? = some u := by simpa using hu
      rw [h1] at hu'
      exact Option.some.inj hu'
    exact ⟨x, eu ▸ ru, fun T hT => ⟨T, x, rfl, hT, rfl, fun ys hy => by rw [I.tuple_inj hy hq]; exact hx⟩⟩
  done := by
    intro X hP hw hK hc i pins s σ H E I hf st hg
    subst hP hw hK
    obtain ⟨⟨old, he⟩, hit, hne⟩ := st
    obtain ⟨xs, hq, hx⟩ := hg
    obtain ⟨its, rv, p, hz⟩ := I.tuple hq
    have pt : s.heap.IsTuple a its.toArray := p
    obtain ⟨f0, f1, f2, f3, f4, f5⟩ := hf it (by simp)
    have hl := rv.length
    unfold pyNext
    have hT : s.TypeIs (.ref e) "enumerate" := ⟨_, he, rfl⟩
    refine wpAny_bind (wpAny_attempt (wpAny_callSpecial?_slot (name := Str.ofString "__next__") hT F.slot_enumerate_next (wpAny_call_entry F.slot_enumerate_next hT F.entry_enumerate_next ?_ (F.args_enumerate_next_1 _))))
    show wpAny _ _ (field (.ref e) 2 >>= _) _ _ s
    refine wpAny_bind (wpAny_field he rfl (x := .ref it) rfl ?_)
    refine wpAny_bind (wpAny_nextOf_tuple_end (A := X.A.in1) (by show X.A.in1.handled = none; exact I.ok.hd hc) hit pt (by simp; omega) fun h' x eb ⟨o, ho, hcl⟩ => ?_)
    refine wpAny_bind (wpAny_isInstance (T := "StopIteration") (b := true) ⟨o, ho, hcl⟩ isSubtype_stop ?_)
    exact wpAny_pure ⟨rfl, I.turned (t' := s.toks) (fun b o hb q => eb b o hb q) f0 f1 f3 f4 f5⟩
  self := fun A i s Q E ⟨⟨_, he⟩, _⟩ h => wpAny_pyIter_enum he h

theorem turn_enumS {P : Program} {w : World} {K : PySem.W.Frag} {elts : List Expr} {kk : Nat} {tpos : Pos} (z : Str) (t : Tok) (e it : Addr) :
    Turn P w K (.Tuple elts kk tpos) (Ites z) [e, it] e (fun i h => (∃ old, IsEnum h e it ((i : Nat) : Int) old) ∧ h.IsStrIter it (strIterType z) z t i ∧ e ≠ it) where
  mem := List.mem_cons_self
  obj := fun i h st b hb => by
    obtain ⟨⟨old, he⟩, ⟨o, ho, hc, hd⟩, _⟩ := st
    rcases List.mem_cons.mp hb with z | z
    · rw [z]
      exact ⟨_, he, fun v q => nomatch q⟩
    · exact ⟨o, (List.mem_singleton.mp z) ▸ ho, fun v q => by rw [hd] at q; cases q⟩
  keep := fun i h h' ⟨⟨old, he⟩, ⟨o, ho, r⟩, hne⟩ k => ⟨⟨old, k e List.mem_cons_self _ he⟩, ⟨o, k it (by simp) o ho, r⟩, hne⟩
  item := by
    intro X hP hw hK hc i pins s σ H E I hf st hg
    subst hK
    obtain ⟨⟨old, he⟩, hit, hne⟩ := st
    have hil : it < s.heap.objs.size := by obtain ⟨_, q, _⟩ := hit; exact Heap.lt_size q
    refine enum_turn (J := Ites z) (tn := fun i h => (∃ old, IsEnum h e it ((i : Nat) : Int) old) ∧ h.IsStrIter it (strIterType z) z t i ∧ e ≠ it) hP hw I hf (Draws.text (by show X.A.in1.handled = none; exact I.ok.hd hc) it z t) (fun hm => hne (List.mem_singleton.mp hm)) hne old he hit hg hil (fun u hu => ?_) fun h' q1 q2 => ⟨q1, q2, hne⟩
    obtain ⟨c, t', hc', rfl⟩ := hu
    exact ⟨.str ⟨#[c]⟩, ⟨_, rfl⟩, fun T hT => ⟨T, c, rfl, hT, rfl, hc'⟩⟩
  done := by
    intro X hP hw hK hc i pins s σ H E I hf st hg
    subst hP hw hK
    obtain ⟨⟨old, he⟩, hit, hne⟩ := st
    obtain ⟨f0, f1, f2, f3, f4, f5⟩ := hf it (by simp)
    have hx : z.cps[i]? = none := Array.getElem?_eq_none hg
    unfold pyNext
    have hT : s.TypeIs (.ref e) "enumerate" := ⟨_, he, rfl⟩
    refine wpAny_bind (wpAny_attempt (wpAny_callSpecial?_slot (name := Str.ofString "__next__") hT F.slot_enumerate_next (wpAny_call_entry F.slot_enumerate_next hT F.entry_enumerate_next ?_ (F.args_enumerate_next_1 _))))
    show wpAny _ _ (field (.ref e) 2 >>= _) _ _ s
    refine wpAny_bind (wpAny_field he rfl (x := .ref it) rfl ?_)
    cases ha : z.cps.all (· < 128)
    · simp only [strIterType, ha, Bool.false_eq_true, if_false] at hit
      refine wpAny_bind (wpAny_nextOf_wide_end (A := X.A.in1) (by show X.A.in1.handled = none; exact I.ok.hd hc) hit hx fun h' x eb ⟨o, ho, hcl⟩ => ?_)
      refine wpAny_bind (wpAny_isInstance (T := "StopIteration") (b := true) ⟨o, ho, hcl⟩ isSubtype_stop ?_)
      exact wpAny_pure ⟨rfl, I.turned (t' := s.toks) (fun b o hb q => eb b o hb q) f0 f1 f3 f4 f5⟩
    · simp only [strIterType, ha, if_true] at hit
      refine wpAny_bind (wpAny_nextOf_ascii_end (A := X.A.in1) (by show X.A.in1.handled = none; exact I.ok.hd hc) hit hx fun h' x eb ⟨o, ho, hcl⟩ => ?_)
      refine wpAny_bind (wpAny_isInstance (T := "StopIteration") (b := true) ⟨o, ho, hcl⟩ isSubtype_stop ?_)
      exact wpAny_pure ⟨rfl, I.turned (t' := s.toks) (fun b o hb q => eb b o hb q) f0 f1 f3 f4 f5⟩
  self := fun A i s Q E ⟨⟨_, he⟩, _⟩ h => wpAny_pyIter_enum he h

def iEnumT (K : PySem.W.Frag) (ta : TA) : TI := fun σ H R => ta σ H fun vs H1 => ∃ a xs, vs = [.ref a] ∧ SqT K H1 a xs ∧ R (Itet K a) H1
def iEnumS (ta : TA) : TI := fun σ H R => ta σ H fun vs H1 => ∃ z, vs = [.str z] ∧ R (Ites z) H1
section
variable {X : Cx} {e : Expr} {ta : TA} {p pos tpos : Pos} {elts : List Expr} {kk : Nat}
theorem fp2 {pins : List (Addr × Obj)} {σ : L2.St} {H : Hp} {s : Shared} (I : Inv X pins σ H s) : ∀ b ∈ [s.heap.objs.size + 1, s.heap.objs.size], FpOk X pins H b := fun b hb => by
  have hle : s.heap.objs.size ≤ b := by
    rcases List.mem_cons.mp hb with z | z
    · rw [z]; exact Nat.le_add_right _ _
    · rw [List.mem_singleton.mp z]; exact Nat.le_refl _
  exact I.fpOk hle (I.hok.fresh hle)
theorem pi_enumT (hg : Gl X "enumerate") (hm : X.mg "enumerate" = none) (ha : PA X [e] ta) (hs : starEach [e] X.env = [(false, eval e X.env)] := by rfl) :
    PI X (.Tuple elts kk tpos) (.Call (.Name "enumerate" p) [e] [] pos) (iEnumT X.K ta) := by
  refine ⟨fun pins s σ H R I h => Call_ (ld_blt I hg hm boot_enumerate (PyProof.Rows.callWith_type1 (thn (ha.run pos pins s σ H _ I h) fun us s1 ⟨vs, H1, I1, r1, q1⟩ => ?_) hs rfl))⟩
  obtain ⟨a, xs, rfl, hq, q⟩ := q1
  obtain ⟨u, rfl, ru⟩ := vals1 r1
  cases ru
  obtain ⟨its, rv, p', hz⟩ := I1.tuple hq
  refine call_enum1 (begins_tuple a its.toArray) (show s1.heap.IsTuple a its.toArray from p') fun h' he hit hsz hk => wpAny_pyIter_enum he ?_
  exact ⟨s1.heap.objs.size + 1, [s1.heap.objs.size + 1, s1.heap.objs.size], _, _, H1, rfl, I1.kept (t' := s1.toks) hk, turn_enumT a (s1.heap.objs.size + 1) s1.heap.objs.size, ⟨⟨.none, he⟩, ⟨_, hit, rfl, rfl⟩, Nat.succ_ne_self _⟩, fp2 I1, q⟩
theorem pi_enumS (hg : Gl X "enumerate") (hm : X.mg "enumerate" = none) (ha : PA X [e] ta) (hs : starEach [e] X.env = [(false, eval e X.env)] := by rfl) :
    PI X (.Tuple elts kk tpos) (.Call (.Name "enumerate" p) [e] [] pos) (iEnumS ta) := by
  refine ⟨fun pins s σ H R I h => Call_ (ld_blt I hg hm boot_enumerate (PyProof.Rows.callWith_type1 (thn (ha.run pos pins s σ H _ I h) fun us s1 ⟨vs, H1, I1, r1, q1⟩ => ?_) hs rfl))⟩
  obtain ⟨z, rfl, q⟩ := q1
  obtain ⟨u, rfl, ru⟩ := vals1 r1
  obtain ⟨t, rfl⟩ := ru
  refine call_enum1 (begins_text z t) trivial fun h' he hit hsz hk => wpAny_pyIter_enum he ?_
  exact ⟨s1.heap.objs.size + 1, [s1.heap.objs.size + 1, s1.heap.objs.size], _, _, H1, rfl, I1.kept (t' := s1.toks) hk, turn_enumS z t (s1.heap.objs.size + 1) s1.heap.objs.size, ⟨⟨.none, he⟩, ⟨_, hit, rfl, rfl⟩, Nat.succ_ne_self _⟩, fp2 I1, q⟩
end
theorem walk_enumT {K : PySem.W.Frag} {a : Addr} {xs : List V} : Walk (Itet K a) xs.length (fun H => SqT K H a xs) (YPair (fun i => some (.int (i : Nat))) (fun i => xs[i]?)) :=
  ⟨fun i _ hi q => ⟨xs, xs[i], q, by simp [hi]⟩, fun _ q => ⟨xs, q, Nat.le_refl _⟩, fun i H v H' _ q ⟨T, x, h1, h2, h3, h4⟩ => ⟨T, .int (i : Nat), x, h1, h2, h3, rfl, h4 xs q⟩⟩
theorem walk_enumS {z : Str} : Walk (Ites z) z.cps.size (fun _ => True) (YPair (fun i => some (.int (i : Nat))) (fun i => (z.cps[i]?).map fun c => .str ⟨#[c]⟩)) :=
  ⟨fun _ _ hi _ => hi, fun _ _ => Nat.le_refl _, fun i H v H' _ _ ⟨T, c, h1, h2, h3, h4⟩ => ⟨T, .int (i : Nat), .str ⟨#[c]⟩, h1, h2, h3, rfl, by show (z.cps[i]?).map _ = _; rw [h4]; rfl⟩⟩

/-! ### a starred text in a display -/
theorem vals_signs {z : Str} : ∀ (n : Nat) {acc : List Value}, acc.length = n → n ≤ z.cps.size → (∀ j v, acc[j]? = some v → SignAt z j v) → Vals ((z.cps.toList.take n).map fun c => V.str ⟨#[c]⟩) acc
  | 0, acc, h, _, _ => by
    rw [List.length_eq_zero_iff.mp h, List.take_zero]
    exact .nil
  | n + 1, acc, h, hn, f => by
    obtain ⟨l, v, rfl⟩ : ∃ l v, acc = l ++ [v] := ⟨acc.dropLast, acc.getLast (by intro e; rw [e] at h; cases h), (List.dropLast_concat_getLast _).symm⟩
    have hl : l.length = n := by
      rw [List.length_append] at h
      exact Nat.succ.inj h
    have h1 := vals_signs n hl (by omega) fun j v hj => f j v (by
      have := (List.getElem?_eq_some_iff.mp hj).1
      rw [List.getElem?_append_left this]
      exact hj)
    obtain ⟨c, u, hc, rfl⟩ := f n v (by rw [List.getElem?_append_right (by omega), hl, Nat.sub_self]; rfl)
    have hc' : z.cps.toList[n]? = some c := by simpa using hc
    rw [List.take_add_one, hc', List.map_append]
    exact h1.append (.cons ⟨u, rfl⟩ .nil)
def signs (z : Str) : List V := z.cps.toList.map fun c => V.str ⟨#[c]⟩
section
variable {X : Cx} {pins : List (Addr × Obj)} {σ : L2.St} {H : Hp} {s : Shared}
theorem star_txt {z : Str} {t : Tok} {E : Value → Shared → Prop} {Q : List Value → Shared → Prop} (hcalm : X.calm = true) (I : Inv X pins σ H s) (hz : z.cps.size ≤ sizeLine) (hQ : ∀ us s', Inv X pins σ H s' → Vals (signs z) us → Q us s') :
    PySem.W.StarOf (model X.prog X.w) X.A E (.str z t) Q s := by
  unfold PySem.W.StarOf notIterableAtAll
  refine wpAny_bind (wpAny_specialOf (T := "str") (v := .str z t) rfl PySem.F.slot_str_iter.lookup (wpAny_pure ⟨rfl, ?_⟩))
  refine wpAny_collect_str (I.ok.hd hcalm) z t (fun s' acc kp g d o it => ?_) hz
  have I' : Inv X pins σ H { s with heap := s'.heap, toks := s'.toks } := I.kept kp
  have es : s' = { s with heap := s'.heap, toks := s'.toks } := by
    obtain ⟨a1, a2, a3, a4, a5⟩ := s'
    obtain ⟨b1, b2, b3, b4, b5⟩ := s
    simp only at g d o
    subst g d o
    rfl
  rw [es]
  refine hQ acc.toList _ I' ?_
  have e : signs z = (z.cps.toList.take z.cps.size).map fun c => V.str ⟨#[c]⟩ := by
    unfold signs
    rw [List.take_of_length_le (by simp)]
  rw [e]
  exact vals_signs _ (by rw [Array.length_toList]; exact it.1) (Nat.le_refl _) fun j v hj => it.2 j v (by simpa using hj)
def tStarS (te : TE) (t : TA) : TA := fun σ H Q => te σ H fun x H1 => ∃ z, x = V.str z ∧ z.cps.size ≤ sizeLine ∧ t σ H1 fun ys H2 => Q (signs z ++ ys) H2
theorem pa_starS {e : Expr} {es : List Expr} {te : TE} {t : TA} {p : Pos} (hcalm : X.calm = true) (he : PE X e te) (hr : PA X es t) (hs : starEach (.Starred e p :: es) X.env = (true, eval e X.env) :: starEach es X.env := by rfl) : PA X (.Starred e p :: es) (tStarS te t) := by
  refine ⟨fun pos pins s σ H Q I h => PySem.W.items_star (thn (he.run pins s σ H _ I h) fun v s1 ⟨y, H1, I1, ry, z, ey, hz, q⟩ => ?_) hs⟩
  subst ey
  obtain ⟨t, rfl⟩ := ry
  exact star_txt hcalm I1 hz fun us s2 I2 rv => thn (hr.run pos pins s2 σ H1 _ I2 q) fun ws s3 ⟨vs, H3, I3, r3, q3⟩ => ⟨signs z ++ vs, H3, I3, rv.append r3, q3⟩
/-! ### len of an instance with an own __len__ -/
theorem call_lenOwn {CX : CXT} {k : Nat} {C g : Addr} {fd : FuncData} {ps : List Str} {sp : Sp} {dvs : List V} {ds : List Value} {E : XK} (c : Cls X.K C) (hs : PySem.W.findIn X.K (.ref C) "__len__" = some (some (.ref g))) (hf : PySem.W.isFn X.K (.ref g) = true)
    (F : FnOk X.prog X.w X.K X.mg X.base CX k g fd ps sp) (hr : Room (k + 1) X.A) (hb : Binds X.K fd ps ds) (hd : Vals dvs ds) (hx : Passes CX X E) :
    CallR X (.builtin "len") (fun xs H Q => ∃ a dx fs, xs = [.ref a] ∧ H a = some (.ins C dx fs) ∧ sp (.ref a :: dvs) H (fun v H' => ∃ n : Int, v = .int n ∧ 0 ≤ n ∧ n < 2 ^ 63 ∧ Q (.int n) H') E) := by
  intro pins s σ H xs us Q I r h
  obtain ⟨a, dx, fs, rfl, ea, q⟩ := h
  obtain ⟨u, rfl, ru⟩ := vals1 r
  cases (show u = Value.ref a from ru)
  obtain ⟨mA, O, _, _, _, _⟩ := ins_get I.hok ea
  obtain ⟨od, J, _⟩ := O.look
  obtain ⟨m, Ff⟩ := I.fr
  have hl : ([Value.ref a] ++ ds).length = ps.length := by
    rw [← F.len _ _ _ _ q]
    show ds.length + 1 = dvs.length + 1
    rw [hd.length]
  refine PySem.W.len_K Ff I.mod.kin J hs hf (wpAny_call ?_)
  refine codeAny_mono (F.run X.A.in1 X.stack s H ⟨[.ref a], []⟩ (.ref a :: ds) (.ref a :: dvs) _ E hr.in1 I.env0.in1 (hb _ [.ref a] I.kIn hl) (.cons rfl hd) q) fun r s' hq => ?_
  cases r with
  | error er => exact hx pins σ H s er s' I hq
  | ok fl =>
    cases fl with
    | ret u =>
      obtain ⟨v, H', I3, rv, n, rfl, h0, h1, q3⟩ := I.after hq
      obtain ⟨t, rfl⟩ := rv
      exact ⟨⟨h0, h1⟩, .int n, H', I3.tok _, ⟨_, rfl⟩, q3⟩
    | next => exact False.elim hq
    | brk => exact False.elim hq
    | cont => exact False.elim hq
end
end Wf
set_option Elab.async false
set_option linter.all false
namespace Wf
open PySem
open PySem.W (dataLe)
/-! ### steps, and what they lead to -/
abbrev Stp := Int × Int
inductive Reach (S : List Stp) : Int → Int → Prop where
  | refl (a : Int) : Reach S a a
  | tail {a b c : Int} : Reach S a b → (b, c) ∈ S → Reach S a c

/-- in the midst of a search from t: known, waiting; the steps of R from here are still to be looked at -/
structure Dfs (S : List Stp) (n : Nat) (t : Int) (kn wt : List Int) (here : Int) (R : List Stp) : Prop where
  nd : kn.Nodup
  ndw : wt.Nodup
  rng : ∀ k ∈ kn, 0 ≤ k ∧ k < n
  st : t ∈ kn
  sub : ∀ k ∈ wt, k ∈ kn
  rch : ∀ k ∈ kn, Reach S t k
  cl : ∀ k ∈ kn, k ∈ wt ∨ ∀ b, (k, b) ∈ S → b ∈ kn ∨ (k = here ∧ (k, b) ∈ R)

theorem nodup_le : ∀ (n : Nat) (l : List Int), l.Nodup → (∀ k ∈ l, 0 ≤ k ∧ k < n) → l.length ≤ n
  | 0, l, _, h => by
    cases l with
    | nil => exact Nat.le_refl _
    | cons a r =>
      have := h a List.mem_cons_self
      omega
  | n + 1, l, hn, h => by
    by_cases hm : (n : Int) ∈ l
    · have hp := List.perm_cons_erase hm
      have ih := nodup_le n (l.erase (n : Int)) (hn.erase _) fun k hk => by
        have h1 := h k (List.mem_of_mem_erase hk)
        have h2 : k ≠ (n : Int) := ((List.Nodup.mem_erase_iff hn).mp hk).1
        omega
      rw [hp.length_eq, List.length_cons]
      omega
    · have ih := nodup_le n l hn fun k hk => by
        have h1 := h k hk
        have h2 : k ≠ (n : Int) := fun e => hm (e ▸ hk)
        omega
      omega

theorem Dfs.len {S : List Stp} {n : Nat} {t : Int} {kn wt : List Int} {here : Int} {R : List Stp} (d : Dfs S n t kn wt here R) : kn.length ≤ n ∧ wt.length ≤ n :=
  ⟨nodup_le n kn d.nd d.rng, nodup_le n wt d.ndw fun k hk => d.rng k (d.sub k hk)⟩
theorem Dfs.start {S : List Stp} {n : Nat} {t : Int} (h0 : 0 ≤ t) (h1 : t < n) (here : Int) : Dfs S n t [t] [t] here [] where
  nd := List.nodup_cons.mpr ⟨List.not_mem_nil, List.nodup_nil⟩
  ndw := List.nodup_cons.mpr ⟨List.not_mem_nil, List.nodup_nil⟩
  rng := fun k hk => by
    rw [List.mem_singleton.mp hk]
    exact ⟨h0, h1⟩
  st := List.mem_singleton.mpr rfl
  sub := fun k hk => hk
  rch := fun k hk => by
    rw [List.mem_singleton.mp hk]
    exact .refl t
  cl := fun k hk => .inl hk
/-- the last that waits is taken -/
theorem Dfs.pop {S T : List Stp} {n : Nat} {t : Int} {kn w1 : List Int} {y here : Int} (d : Dfs S n t kn (w1 ++ [y]) here []) (hT : ∀ p, p ∈ T ↔ p ∈ S) : Dfs S n t kn w1 y T where
  nd := d.nd
  ndw := (List.nodup_append.mp d.ndw).1
  rng := d.rng
  st := d.st
  sub := fun k hk => d.sub k (List.mem_append_left _ hk)
  rch := d.rch
  cl := fun k hk => by
    rcases d.cl k hk with h | h
    · rcases List.mem_append.mp h with h | h
      · exact .inl h
      · rw [List.mem_singleton.mp h]
        exact .inr fun b hb => .inr ⟨rfl, (hT _).mpr hb⟩
    · refine .inr fun b hb => ?_
      rcases h b hb with h | h
      · exact .inl h
      · exact absurd h.2 List.not_mem_nil
/-- a step that is passed over -/
theorem Dfs.skip {S : List Stp} {n : Nat} {t : Int} {kn wt : List Int} {here a b : Int} {R : List Stp} (d : Dfs S n t kn wt here ((a, b) :: R)) (h : a ≠ here ∨ b ∈ kn) : Dfs S n t kn wt here R where
  nd := d.nd
  ndw := d.ndw
  rng := d.rng
  st := d.st
  sub := d.sub
  rch := d.rch
  cl := fun k hk => by
    rcases d.cl k hk with q | q
    · exact .inl q
    · refine .inr fun c hc => ?_
      rcases q c hc with q | ⟨q1, q2⟩
      · exact .inl q
      · rcases List.mem_cons.mp q2 with e | e
        · have e1 : k = a := congrArg Prod.fst e
          have e2 : c = b := congrArg Prod.snd e
          rcases h with h | h
          · exact absurd (e1.symm.trans q1) h
          · exact .inl (e2 ▸ h)
        · exact .inr ⟨q1, e⟩
/-- a step that brings a new thread -/
theorem Dfs.push {S : List Stp} {n : Nat} {t : Int} {kn wt : List Int} {here b : Int} {R : List Stp} (d : Dfs S n t kn wt here ((here, b) :: R)) (hh : here ∈ kn) (hS : (here, b) ∈ S) (hb : 0 ≤ b ∧ b < n) (h : b ∉ kn) : Dfs S n t (kn ++ [b]) (wt ++ [b]) here R where
  nd := List.nodup_append.mpr ⟨d.nd, List.nodup_cons.mpr ⟨List.not_mem_nil, List.nodup_nil⟩, fun x hx y hy e => by
    rw [List.mem_singleton.mp hy] at e
    exact h (e ▸ hx)⟩
  ndw := List.nodup_append.mpr ⟨d.ndw, List.nodup_cons.mpr ⟨List.not_mem_nil, List.nodup_nil⟩, fun x hx y hy e => by
    rw [List.mem_singleton.mp hy] at e
    exact h (d.sub b (e ▸ hx))⟩
  rng := fun k hk => by
    rcases List.mem_append.mp hk with q | q
    · exact d.rng k q
    · rw [List.mem_singleton.mp q]
      exact hb
  st := List.mem_append_left _ d.st
  sub := fun k hk => by
    rcases List.mem_append.mp hk with q | q
    · exact List.mem_append_left _ (d.sub k q)
    · exact List.mem_append_right _ q
  rch := fun k hk => by
    rcases List.mem_append.mp hk with q | q
    · exact d.rch k q
    · rw [List.mem_singleton.mp q]
      exact .tail (d.rch here hh) hS
  cl := fun k hk => by
    rcases List.mem_append.mp hk with q | q
    · rcases d.cl k q with q | q
      · exact .inl (List.mem_append_left _ q)
      · refine .inr fun c hc => ?_
        rcases q c hc with q | ⟨q1, q2⟩
        · exact .inl (List.mem_append_left _ q)
        · rcases List.mem_cons.mp q2 with e | e
          · have e2 : c = b := congrArg Prod.snd e
            exact .inl (List.mem_append_right _ (List.mem_singleton.mpr e2))
          · exact .inr ⟨q1, e⟩
    · exact .inl (List.mem_append_right _ q)
theorem Dfs.closed {S : List Stp} {n : Nat} {t : Int} {kn : List Int} {here : Int} (d : Dfs S n t kn [] here []) (u : Int) : u ∈ kn ↔ Reach S t u := by
  refine ⟨d.rch u, fun r => ?_⟩
  induction r with
  | refl => exact d.st
  | tail r hs ih =>
    rcases d.cl _ ih with q | q
    · exact absurd q List.not_mem_nil
    · rcases q _ hs with q | q
      · exact q
      · exact absurd q.2 List.not_mem_nil

/-! ### lots -/
def allLots : Nat → List (List Int)
  | 0 => [[]]
  | n + 1 => allLots n ++ (allLots n).map (· ++ [(n : Int)])
def Asc (n : Nat) (l : List Int) : Prop := l.Pairwise (· < ·) ∧ ∀ k ∈ l, 0 ≤ k ∧ k < n
theorem allLots_len : ∀ n, (allLots n).length = 2 ^ n
  | 0 => rfl
  | n + 1 => by
    show (allLots n ++ (allLots n).map _).length = _
    rw [List.length_append, List.length_map, allLots_len n, Nat.pow_succ]
    omega
theorem allLots_asc : ∀ (n : Nat) (l : List Int), l ∈ allLots n → Asc n l
  | 0, l, h => by
    rw [List.mem_singleton.mp h]
    exact ⟨List.Pairwise.nil, fun k hk => absurd hk List.not_mem_nil⟩
  | n + 1, l, h => by
    rcases List.mem_append.mp h with h | h
    · obtain ⟨h1, h2⟩ := allLots_asc n l h
      refine ⟨h1, fun k hk => ?_⟩
      have := h2 k hk
      omega
    · obtain ⟨m, hm, rfl⟩ := List.mem_map.mp h
      obtain ⟨h1, h2⟩ := allLots_asc n m hm
      refine ⟨List.pairwise_append.mpr ⟨h1, List.pairwise_singleton _ _, fun x hx y hy => ?_⟩, fun k hk => ?_⟩
      · rw [List.mem_singleton.mp hy]
        exact (h2 x hx).2
      · rcases List.mem_append.mp hk with hk | hk
        · have := h2 k hk
          omega
        · rw [List.mem_singleton.mp hk]
          omega
theorem mem_allLots : ∀ (n : Nat) (l : List Int), Asc n l → l ∈ allLots n
  | 0, l, h => by
    cases l with
    | nil => exact List.mem_singleton.mpr rfl
    | cons a r =>
      have := h.2 a List.mem_cons_self
      omega
  | n + 1, l, h => by
    by_cases hm : (n : Int) ∈ l
    · have hne : l ≠ [] := List.ne_nil_of_mem hm
      have e := List.dropLast_concat_getLast hne
      have pw := h.1
      rw [← e] at pw
      obtain ⟨p1, _, p3⟩ := List.pairwise_append.mp pw
      have hl : l.getLast hne = (n : Int) := by
        have hb := (h.2 _ (List.getLast_mem hne)).2
        rw [← e] at hm
        rcases List.mem_append.mp hm with q | q
        · have := p3 _ q _ (List.mem_singleton.mpr rfl)
          omega
        · exact (List.mem_singleton.mp q).symm
      refine List.mem_append_right _ (List.mem_map.mpr ⟨l.dropLast, mem_allLots n _ ⟨p1, fun k hk => ?_⟩, by rw [← hl]; exact e⟩)
      have h1 := p3 k hk _ (List.mem_singleton.mpr rfl)
      have h2 := h.2 k (List.dropLast_subset l hk)
      omega
    · refine List.mem_append_left _ (mem_allLots n l ⟨h.1, fun k hk => ?_⟩)
      have h1 := h.2 k hk
      have h2 : k ≠ (n : Int) := fun e => hm (e ▸ hk)
      omega

/-- no step leads into the lot from beside it -/
def closB (S : List Stp) (l : List Int) : Bool := S.all fun p => decide (p.1 ∈ l) || !decide (p.2 ∈ l)
theorem closB_iff {S : List Stp} {l : List Int} : closB S l = true ↔ ∀ a b, (a, b) ∈ S → b ∈ l → a ∈ l := by
  unfold closB
  rw [List.all_eq_true]
  refine ⟨fun h a b hab hb => ?_, fun h p hp => ?_⟩
  · have q := h (a, b) hab
    simp only [Bool.or_eq_true, decide_eq_true_eq, Bool.not_eq_true', decide_eq_false_iff_not] at q
    rcases q with q | q
    · exact q
    · exact absurd hb q
  · simp only [Bool.or_eq_true, decide_eq_true_eq, Bool.not_eq_true', decide_eq_false_iff_not]
    by_cases hb : p.2 ∈ l
    · exact .inl (h p.1 p.2 hp hb)
    · exact .inr hb
theorem closB_perm {S T : List Stp} (h : T.Perm S) (l : List Int) : closB T l = closB S l := by
  rw [Bool.eq_iff_iff, closB_iff, closB_iff]
  exact ⟨fun q a b hab => q a b (h.mem_iff.mpr hab), fun q a b hab => q a b (h.mem_iff.mp hab)⟩
/-- what leads to a member of a closed lot is in it -/
theorem clos_back {S : List Stp} {l : List Int} (hc : closB S l = true) {a b : Int} (r : Reach S a b) (hb : b ∈ l) : a ∈ l := by
  have hc := closB_iff.mp hc
  induction r with
  | refl => exact hb
  | tail r hs ih => exact ih (hc _ _ hs hb)

/-! ### the order of lots -/
def keyD (ns : List Int) : PyData := .tuple [.int ns.length, .tuple (ns.map .int)]
abbrev leL : List Int → List Int → Bool := dataLe false keyD
theorem leL_total : PySem.W.TotalLe leL := PySem.W.sortLe_total _ _ _
def closed (S : List Stp) (n : Nat) : List (List Int) := ((allLots n).filter (closB S)).mergeSort leL
theorem closed_filter (S : List Stp) (n : Nat) : ((allLots n).mergeSort leL).filter (closB S) = closed S n := by
  refine PySem.W.sort_unique leL_total ?_ fun c => ?_
  · exact (PySem.W.sort_pairwise leL_total _).sublist List.filter_sublist
  · rw [List.filter_filter, List.filter_filter]
    have e : ∀ l : List (List Int), l.filter (fun a => PySem.W.sameRank leL c a && closB S a) = (l.filter (PySem.W.sameRank leL c)).filter (closB S) := fun l => by
      rw [List.filter_filter]
      congr 1
      funext a
      exact Bool.and_comm _ _
    rw [e, e, PySem.W.sort_stable leL_total]
theorem mem_closed {S : List Stp} {n : Nat} {l : List Int} : l ∈ closed S n ↔ l ∈ allLots n ∧ closB S l = true := by
  unfold closed
  rw [(List.mergeSort_perm _ _).mem_iff, List.mem_filter]

/-! ### the law -/
def inside (sm l : List Int) : List Int := sm.filter fun k => decide (k ∈ l)
def divB (sm l : List Int) : Bool := (!decide (inside sm l = [])) && decide ((inside sm l).length < sm.length)
def Together (S : List Stp) (sm : List Int) : Prop := ∀ a ∈ sm, ∀ b ∈ sm, Reach S a b
theorem divB_iff {sm l : List Int} : divB sm l = true ↔ (∃ k ∈ sm, k ∈ l) ∧ ∃ k ∈ sm, k ∉ l := by
  unfold divB
  rw [Bool.and_eq_true, Bool.not_eq_true', decide_eq_false_iff_not, decide_eq_true_eq]
  refine and_congr ?_ ?_
  · constructor
    · intro h
      obtain ⟨k, hk⟩ := List.exists_mem_of_ne_nil _ h
      have q := List.mem_filter.mp hk
      exact ⟨k, q.1, of_decide_eq_true q.2⟩
    · rintro ⟨k, h1, h2⟩ e
      have : k ∈ inside sm l := List.mem_filter.mpr ⟨h1, decide_eq_true h2⟩
      rw [e] at this
      exact absurd this List.not_mem_nil
  · constructor
    · intro h
      refine Classical.byContradiction fun hn => ?_
      have e : inside sm l = sm := List.filter_eq_self.mpr fun k hk => decide_eq_true (Classical.byContradiction fun q => hn ⟨k, hk, q⟩)
      rw [e] at h
      exact Nat.lt_irrefl _ h
    · rintro ⟨k, h1, h2⟩
      refine Nat.lt_of_le_of_ne (List.length_filter_le _ _) fun e => ?_
      have q := List.length_filter_eq_length_iff.mp e k h1
      exact h2 (of_decide_eq_true q)
open Classical in
theorem the_law {S : List Stp} {n : Nat} {sm : List Int} (hs : ∀ k ∈ sm, 0 ≤ k ∧ k < n) (hS : ∀ p ∈ S, (0 ≤ p.1 ∧ p.1 < n) ∧ 0 ≤ p.2 ∧ p.2 < n) : (closed S n).filter (divB sm) = [] ↔ Together S sm := by
  constructor
  · intro h a ha b hb
    refine byContradiction fun hr => ?_
    have e : ∀ k, k ∈ ((List.range n).map fun i : Nat => (i : Int)).filter (fun k => decide (Reach S k b)) ↔ (0 ≤ k ∧ k < n) ∧ Reach S k b := fun k => by
      rw [List.mem_filter, List.mem_map, decide_eq_true_eq]
      refine and_congr ⟨?_, ?_⟩ Iff.rfl
      · rintro ⟨i, hi, rfl⟩
        have := List.mem_range.mp hi
        omega
      · rintro ⟨h1, h2⟩
        exact ⟨k.toNat, List.mem_range.mpr (by omega), by omega⟩
    generalize hl : ((List.range n).map fun i : Nat => (i : Int)).filter (fun k => decide (Reach S k b)) = l at e
    have hasc : Asc n l := by
      refine ⟨?_, fun k hk => ((e k).mp hk).1⟩
      rw [← hl]
      refine List.Pairwise.sublist List.filter_sublist (List.pairwise_map.mpr ?_)
      exact List.pairwise_lt_range.imp fun {a b} q => by omega
    have hc : closB S l = true := closB_iff.mpr fun x y hxy hy => (e x).mpr ⟨(hS _ hxy).1, by
      have ry := ((e y).mp hy).2
      clear h hr ha hb
      have one : Reach S x y := .tail (.refl x) hxy
      have tr : ∀ {u v w : Int}, Reach S u v → Reach S v w → Reach S u w := fun {u v w} r1 r2 => by
        induction r2 with
        | refl => exact r1
        | tail _ hs ih => exact .tail ih hs
      exact tr one ry⟩
    have hm : l ∈ (closed S n).filter (divB sm) := List.mem_filter.mpr ⟨mem_closed.mpr ⟨mem_allLots n l hasc, hc⟩, divB_iff.mpr ⟨⟨b, hb, (e b).mpr ⟨hs b hb, .refl b⟩⟩, a, ha, fun q => hr ((e a).mp q).2⟩⟩
    rw [h] at hm
    exact absurd hm List.not_mem_nil
  · intro h
    refine List.filter_eq_nil_iff.mpr fun l hl hd => ?_
    obtain ⟨⟨k, k1, k2⟩, m, m1, m2⟩ := divB_iff.mp hd
    exact m2 (clos_back (mem_closed.mp hl).2 (h m m1 k k1) k2)

/-- those of the chosen to which one of them does not lead -/
def apart (L : List (List Int)) (sm : List Int) : List Int := sm.flatMap fun a => sm.filter fun b => !decide (b ∈ L.getD a.toNat [])
/-- for each thread the threads to which it leads -/
def LeadsOk (S : List Stp) (n : Nat) (L : List (List Int)) : Prop := L.length = n ∧ ∀ i, i < n → ∀ u, u ∈ L.getD i [] ↔ Reach S (i : Int) u
theorem LeadsOk.at {S : List Stp} {n : Nat} {L : List (List Int)} (h : LeadsOk S n L) {a u : Int} (h0 : 0 ≤ a) (h1 : a < n) : u ∈ L.getD a.toNat [] ↔ Reach S a u := by
  have q := h.2 a.toNat (by omega) u
  rw [Int.toNat_of_nonneg h0] at q
  exact q
theorem apart_nil {S : List Stp} {n : Nat} {L : List (List Int)} {sm : List Int} (h : LeadsOk S n L) (hs : ∀ k ∈ sm, 0 ≤ k ∧ k < n) : apart L sm = [] ↔ Together S sm := by
  unfold apart Together
  rw [List.flatMap_eq_nil_iff]
  refine forall_congr' fun a => forall_congr' fun ha => ?_
  rw [List.filter_eq_nil_iff]
  refine forall_congr' fun b => forall_congr' fun hb => ?_
  rw [Bool.not_eq_true', decide_eq_false_iff_not, Classical.not_not, h.at (hs a ha).1 (hs a ha).2]
/-- all of them lead to each other, as the program asks it -/
def allTo (L : List (List Int)) (sm : List Int) : List Bool := sm.flatMap fun a => sm.map fun b => decide (b ∈ L.getD a.toNat [])
theorem allTo_all {S : List Stp} {n : Nat} {L : List (List Int)} {sm : List Int} (h : LeadsOk S n L) (hs : ∀ k ∈ sm, 0 ≤ k ∧ k < n) : (allTo L sm).all id = true ↔ Together S sm := by
  unfold allTo Together
  rw [List.all_eq_true]
  constructor
  · intro q a ha b hb
    have := q _ (List.mem_flatMap.mpr ⟨a, ha, List.mem_map.mpr ⟨b, hb, rfl⟩⟩)
    exact (h.at (hs a ha).1 (hs a ha).2).mp (of_decide_eq_true this)
  · intro q x hx
    obtain ⟨a, ha, hx⟩ := List.mem_flatMap.mp hx
    obtain ⟨b, hb, rfl⟩ := List.mem_map.mp hx
    exact decide_eq_true ((h.at (hs a ha).1 (hs a ha).2).mpr (q a ha b hb))
theorem together_short {S : List Stp} {sm : List Int} (h : sm.length < 2) : Together S sm := by
  intro a ha b hb
  match sm, h with
  | [], _ => exact absurd ha List.not_mem_nil
  | [x], _ =>
    rw [List.mem_singleton.mp ha, List.mem_singleton.mp hb]
    exact .refl x
  | _ :: _ :: l, h => exact absurd h (by rw [List.length_cons, List.length_cons]; omega)

/-! ### the steps of a table -/
def cellSt (m i j d : Nat) : List Stp := (if d = 62 ∨ d = 120 then [((i : Int), (m : Int) + j)] else []) ++ (if d = 60 ∨ d = 120 then [((m : Int) + j, (i : Int))] else [])
def rowSt (m i : Nat) (ds : List Nat) (j : Nat) : List Stp := (List.range j).flatMap fun p => cellSt m i p (ds.getD p 0)
def tabSt (cs : List (List Nat)) (m c i : Nat) : List Stp := (List.range i).flatMap fun k => rowSt m k (cs.getD k []) c
theorem rowSt_succ (m i : Nat) (ds : List Nat) (j : Nat) : rowSt m i ds (j + 1) = rowSt m i ds j ++ cellSt m i j (ds.getD j 0) := by
  unfold rowSt
  rw [List.range_succ, List.flatMap_append]
  simp
theorem tabSt_succ (cs : List (List Nat)) (m c i : Nat) : tabSt cs m c (i + 1) = tabSt cs m c i ++ rowSt m i (cs.getD i []) c := by
  unfold tabSt
  rw [List.range_succ, List.flatMap_append]
  simp
theorem cellSt_rng {m i j d c : Nat} (hi : i < m) (hj : j < c) : ∀ p ∈ cellSt m i j d, (0 ≤ p.1 ∧ p.1 < ((m + c : Nat) : Int)) ∧ 0 ≤ p.2 ∧ p.2 < ((m + c : Nat) : Int) := by
  intro p hp
  unfold cellSt at hp
  rcases List.mem_append.mp hp with hp | hp <;> split at hp
  · rw [List.mem_singleton.mp hp]
    simp only
    omega
  · exact absurd hp List.not_mem_nil
  · rw [List.mem_singleton.mp hp]
    simp only
    omega
  · exact absurd hp List.not_mem_nil
theorem tabSt_rng {cs : List (List Nat)} {m c i : Nat} (hi : i ≤ m) : ∀ p ∈ tabSt cs m c i, (0 ≤ p.1 ∧ p.1 < ((m + c : Nat) : Int)) ∧ 0 ≤ p.2 ∧ p.2 < ((m + c : Nat) : Int) := by
  intro p hp
  obtain ⟨k, hk, hp⟩ := List.mem_flatMap.mp hp
  obtain ⟨j, hj, hp⟩ := List.mem_flatMap.mp hp
  have := List.mem_range.mp hk
  exact cellSt_rng (by omega) (List.mem_range.mp hj) p hp
theorem cellSt_len (m i j d : Nat) : (cellSt m i j d).length ≤ 2 := by
  unfold cellSt
  rw [List.length_append]
  split <;> split <;> simp
theorem rowSt_len (m i : Nat) (ds : List Nat) : ∀ j, (rowSt m i ds j).length ≤ 2 * j
  | 0 => Nat.zero_le _
  | j + 1 => by
    have := rowSt_len m i ds j
    have h2 := cellSt_len m i j (ds.getD j 0)
    rw [rowSt_succ, List.length_append]
    omega
theorem tabSt_len (cs : List (List Nat)) (m c : Nat) : ∀ i, (tabSt cs m c i).length ≤ 2 * c * i
  | 0 => Nat.zero_le _
  | i + 1 => by
    have := tabSt_len cs m c i
    have h2 := rowSt_len m i (cs.getD i []) c
    rw [tabSt_succ, List.length_append, Nat.mul_add]
    omega
end Wf
set_option Elab.async false
set_option linter.all false
set_option maxRecDepth 100000
set_option maxHeartbeats 4000000
namespace Wf
open PySem PySem.Spec PyProof.Rows L2
open PySem.W (AllAlike Sortable dataLe alike alikeAll EachIs KeyPure)

def top (i : Nat) : Stmt := PySem.Challenge.pw_wovenframes_k61_whole_standing_together.main.body.getD i (.Pass ⟨0, 0, 0, 0⟩)
abbrev sSized : Stmt := top 20

/-! ### sorted of data -/
theorem each_vals {β : Type} : ∀ {ps : List (V × β)} {us : List Value}, Vals (ps.map Prod.fst) us → EachIs (fun v (p : V × β) => RelV p.1 v) us ps
  | [], _, r => by
    cases r
    exact .nil
  | p :: ps, _, r => by
    cases r with
    | cons a b => exact .cons a (each_vals b)
theorem vals_each {β : Type} : ∀ {us : List Value} {ps : List (V × β)}, EachIs (fun v (p : V × β) => RelV p.1 v) us ps → Vals (ps.map Prod.fst) us
  | _, _, .nil => .nil
  | _, _, .cons a b => .cons a (vals_each b)
theorem each_reads {β : Type} {X : Cx} {pins : List (Addr × Obj)} {σ : L2.St} {H : Hp} {s : Shared} (I : Inv X pins σ H s) (en : β → PyData) : ∀ {us : List Value} {ps : List (V × β)}, EachIs (fun v (p : V × β) => RelV p.1 v) us ps → (∀ p ∈ ps, Dp X.K H p.1 (en p.2)) →
    EachIs (fun v (p : V × β) => ∃ as, Reads s.heap v (en p.2) as) us ps
  | _, _, .nil, _ => .nil
  | _, _, .cons a b, h => .cons (Dp.reads I _ _ _ (h _ List.mem_cons_self) a) (each_reads I en b fun p hp => h p (List.mem_cons_of_mem _ hp))
/-- what is asked of the items' data -/
structure SrtOk (K : PySem.W.Frag) (H : Hp) {β : Type} (en : β → PyData) (ps : List (V × β)) : Prop where
  al : AllAlike (ps.map fun p => en p.2)
  so : Sortable (ps.map fun p => en p.2)
  dp : ∀ p ∈ ps, (en p.2).depth ≤ 20
def rSrtD (K : PySem.W.Frag) {β : Type} (en : β → PyData) : List V → Hp → VK → Prop := fun vs H Q => ∃ (a : Addr) (ps : List (V × β)), vs = [.ref a] ∧ SqL K H a (ps.map Prod.fst) ∧ (∀ p ∈ ps, Dp K H p.1 (en p.2)) ∧ SrtOk K H en ps ∧
  ∀ q, H q = none → Q (.ref q) (upd H q (.lst ((ps.mergeSort (dataLe false fun p => en p.2)).map Prod.fst)))
section
variable {X : Cx}
theorem cr_srtD {β : Type} (en : β → PyData) (hu : X.A.units + 64 < cLine) : CallR X (.builtin "sorted") (rSrtD X.K en) := by
  intro pins s σ H xs us Q I r h
  obtain ⟨a, ps, rfl, hs, hp, so, q⟩ := h
  obtain ⟨u, rfl, ru⟩ := vals1 r
  cases (show u = Value.ref a from ru)
  obtain ⟨its, rv, hl, hz⟩ := I.list hs
  have e := each_vals rv
  rw [List.length_map] at hz
  refine PySem.W.sorted_data (enc := fun p : V × β => en p.2) hl.isList e (each_reads I en e hp) so.al so.so hz (fun p hm => ?_) fun out hlen eo => ?_
  · have := so.dp p hm
    omega
  · obtain ⟨c, hc⟩ := PyProof.Rows.sortedAll_at s.heap its (List.toArray out)
    refine ⟨.ref (s.heap.objs.size + 1), upd H (s.heap.objs.size + 1) (.lst ((ps.mergeSort (dataLe false fun p => en p.2)).map Prod.fst)), I.laid (t' := s.toks) (fun b o q => PyProof.Rows.sortedAll_old q) (Nat.le_succ _) ⟨?_, out, c, vals_each eo, hc⟩, rfl, q _ (I.hok.fresh (Nat.le_succ _))⟩
    rw [List.length_map, List.length_mergeSort]
    exact hz
end

/-! ### the key of a lot: its size, and itself -/
theorem alike_keyD (a b : List Int) : alike (keyD a) (keyD b) = true := by
  unfold keyD
  simp [alike, alikeAll, PySem.W.alike_ints]
theorem depth_keyD (a : List Int) : (keyD a).depth = 2 := by
  unfold keyD
  simp [PyData.depth, PyData.depthAll, PySem.W.depth_ints]
theorem reads_ints {h : Heap} : ∀ {its : List Value} {ns : List Int}, Vals (ns.map V.int) its → ReadsAll h its (ns.map .int) []
  | _, [], r => by
    cases r
    exact .nil
  | _, n :: ns, r => by
    cases r with
    | cons a b =>
      obtain ⟨t, rfl⟩ := a
      exact ReadsAll.cons (as := []) (bs := []) (Reads.int _ _) (reads_ints b)
theorem sized_run {P : Program} {w : World} {K : PySem.W.Frag} {mg : Str → Option Value} {f a : Addr} {fd : FuncData} {A : Around} {s : Shared} {its : List Value} {ns : List Int} (F : Fun K "sized" "sized" sSized f fd) (KX : K.In s.heap) (lim : s.heap.NoLimit)
    (gl : s.heap.Ns mainGlobals mg) (bl : ∃ mb, s.heap.Ns builtinsNs mb ∧ ∀ x : Str, x ≠ "__name__" → mb x = bootBuiltins x) (ml : mg "len" = none) (hd : A.depth < recursionLimit) (rv : Vals (ns.map V.int) its) (p : IsTup s.heap a its.toArray) (hz : its.length ≤ sizeLine) :
    wpAny (model P w) A (call (.ref f) [.ref a]) (KeyPure (keyD ns) s) (fun _ _ => False) s := by
  obtain ⟨oc, od, kV, doc, pm, an, cdv, ct, osl, rfl, lk, hcd⟩ := F.ex
  obtain ⟨mb, hb1, hb2⟩ := bl
  have hl63 := line63
  refine wpAny_call (codeAny_call_function hd (KX _ _ lk) rfl rfl rfl rfl (PySem.W.codeRec_of KX hcd) ?_)
  refine (BindsTo.of_eq (binds := [("lot", Value.ref a)]) rfl) _ _ _ _ ?_
  refine wpAny_newFunctionEnv_cells rfl (fun y hy => ?_) fun env he s2 x => ?_
  · rw [List.mem_singleton.mp hy]
    exact .inl rfl
  subst he
  obtain ⟨h2, tk, rfl, hk⟩ := x.done
  refine ⟨lim.keeps hk, codeAny_func ?_⟩
  have hn := x.toInCall.ns
  have p2 : IsTup h2 a its.toArray := by
    obtain ⟨o, ho, r⟩ := p
    exact ⟨o, hk _ _ ho, r⟩
  have vlot : ∀ {A' : Around} {E : Value → Shared → Prop} {Q : Value → Shared → Prop} {pos : Pos} (t : Nat), Q (.ref a) { s with heap := h2, toks := t } →
      wpAny (model P w) A' (eval (.Name "lot" pos) (newEnv (defScope sSized) s.heap.objs.size mainGlobals (cellsFrom (s.heap.objs.size + 1) (defScope sSized).names []) ("sized" ++ ".<locals>.") (some f) cdv none builtinsNs)) Q E { s with heap := h2, toks := t } :=
    fun t q => wpAny_Name (wpAny_loadName_local rfl rfl hn rfl q) (by decide)
  refine wpAny_execs_cons (wpAny_Return_some (wpAny_Tuple_spliced ?_))
  refine Calls.spliced_cons ?_
  refine wpAny_Call_Name_kw (Calls.Name_function_global rfl rfl (Calls.loadGlobal_builtin (gl.keeps hk) ml (hb1.keeps hk) ((hb2 "len" (by decide)).trans PySem.boot_len) ?_) (by decide))
  refine PyProof.Rows.callWith_builtin1 (Calls.spliced_cons (vlot _ ?_)) rfl rfl
  refine Calls.spliced_nil ?_
  refine len_tuple p2 (by rw [List.size_toArray]; omega) ?_
  refine Calls.spliced_cons (vlot _ ?_)
  refine Calls.spliced_nil ⟨by show 2 ≤ sizeLine; decide, ?_⟩
  refine ⟨_, _, rfl, fun b o e => Heap.get?_push_of_some _ (hk b o e), ?_⟩
  obtain ⟨o, ho, hc, n, hdt⟩ := p2
  have r2 : ∀ o', Reads (h2.push o') (.ref a) (.tuple (ns.map .int)) [] := fun o' => .tuple (Heap.get?_push_of_some _ ho) hc hdt (by rw [List.toList_toArray]; exact reads_ints rv)
  have e1 : (its.toArray.size : Int) = (ns.length : Int) := by
    have := rv.length
    rw [List.length_map] at this
    rw [List.size_toArray, this]
  unfold keyD
  rw [← e1]
  exact .tuple (Heap.get?_push_size _ rfl) rfl rfl (ReadsAll.cons (as := []) (bs := []) (Reads.int _ _) (ReadsAll.cons (as := []) (bs := []) (r2 _) .nil))

/-! ### sorted(xs, key=sized) -/
def rSrtK (K : PySem.W.Frag) (f : Addr) : List V → List V → Hp → VK → Prop := fun vs zs H Q => ∃ (a : Addr) (ps : List (Addr × List Int)), vs = [.ref a] ∧ zs = [.ref f] ∧ SqL K H a (ps.map fun p => V.ref p.1) ∧ (∀ p ∈ ps, SqT K H p.1 (p.2.map V.int)) ∧
  ∀ q, H q = none → Q (.ref q) (upd H q (.lst ((ps.mergeSort (dataLe false fun p => keyD p.2)).map fun p => V.ref p.1)))
theorem each_refs {R : Value → (Addr × List Int) → Prop} : ∀ {ps : List (Addr × List Int)} {us : List Value}, Vals (ps.map fun p => V.ref p.1) us → (∀ p ∈ ps, R (.ref p.1) p) → EachIs (fun v p => v = Value.ref p.1 ∧ R v p) us ps
  | [], _, r, _ => by
    cases r
    exact .nil
  | p :: ps, _, r, h => by
    cases r with
    | cons a b =>
      cases a
      exact .cons ⟨rfl, h p List.mem_cons_self⟩ (each_refs b fun p hp => h p (List.mem_cons_of_mem _ hp))
theorem refs_each {R : Value → (Addr × List Int) → Prop} : ∀ {us : List Value} {ps : List (Addr × List Int)}, EachIs (fun v p => v = Value.ref p.1 ∧ R v p) us ps → Vals (ps.map fun p => V.ref p.1) us
  | _, _, .nil => .nil
  | _, _, .cons a b => .cons a.1 (refs_each b)
section
variable {X : Cx}
theorem cr_srtK {f : Addr} {fd : FuncData} {k : Nat} (F : Fun X.K "sized" "sized" sSized f fd) (ml : X.mg "len" = none) (hr : Room k X.A) : CallRK X (.builtin "sorted") [Str.ofString "key"] (rSrtK X.K f) := by
  intro pins s σ H xs zs us ws Q I r rz h
  obtain ⟨a, ps, rfl, rfl, hs, hp, q⟩ := h
  obtain ⟨u, rfl, ru⟩ := vals1 r
  cases (show u = Value.ref a from ru)
  obtain ⟨u, rfl, ru⟩ := vals1 rz
  cases (show u = Value.ref f from ru)
  obtain ⟨its, rv, hl, hz⟩ := I.list hs
  rw [List.length_map] at hz
  have tup : ∀ p ∈ ps, ∃ it2 : List Value, Vals (p.2.map V.int) it2 ∧ IsTup s.heap p.1 it2.toArray ∧ it2.length ≤ sizeLine := fun p hm => by
    obtain ⟨it2, r2, p2, z2⟩ := I.tuple (hp p hm)
    exact ⟨it2, r2, p2, by rw [← r2.length]; exact z2⟩
  have e := each_refs (R := fun _ p => ∃ it2 : List Value, Vals (p.2.map V.int) it2 ∧ IsTup s.heap p.1 it2.toArray ∧ it2.length ≤ sizeLine) rv tup
  have hun := hr.un
  have hdp := hr.dp
  obtain ⟨mb, hb1, hb2⟩ := I.mod.blt
  refine PySem.W.sorted_key_data (b := false) (fun p : Addr × List Int => keyD p.2) hl.isList e (AllAlike.of fun _ _ => alike_keyD _ _) (Sortable.tuples fun _ => ⟨_, _, rfl⟩) hz (fun p _ => by rw [depth_keyD]; omega) (PyProof.Rows.ksk_s1 _ _) (fun _ => PyProof.Rows.ksk_l1 _ _) (fun _ => PyProof.Rows.ksk_t1 _ _)
    (fun v p hR hm h tk kp => ?_) fun out c h' tk kp _ hD hlen eo => ?_
  · obtain ⟨rfl, it2, r2, p2, z2⟩ := hR
    obtain ⟨o, ho, rest⟩ := p2
    have kb : ∀ b o, X.base.get? b = some o → h.get? b = some o := fun b o e => kp b o (I.bk b o e)
    exact sized_run (s := { s with heap := h, toks := tk }) F (I.mod.kin.keeps kb) (I.mod.nolimit.keeps kb) (I.mod.glob.keeps kb) ⟨mb, hb1.keeps kb, hb2⟩ ml (by show X.A.depth < _; omega) r2 ⟨o, kp _ _ ho, rest⟩ z2
  · have hl2 : ((ps.mergeSort (dataLe false fun p => keyD p.2)).map fun p => V.ref p.1).length ≤ sizeLine := by
      rw [List.length_map, List.length_mergeSort]
      exact hz
    exact ⟨.ref (s.heap.objs.size + 1), upd H (s.heap.objs.size + 1) (.lst ((ps.mergeSort (dataLe false fun p => keyD p.2)).map fun p => V.ref p.1)), I.laid (t' := tk) kp (Nat.le_succ _) ⟨hl2, out, c, refs_each eo, hD⟩, rfl, q _ (I.hok.fresh (Nat.le_succ _))⟩
end
end Wf
set_option Elab.async false
set_option linter.all false
set_option maxRecDepth 100000
set_option maxHeartbeats 4000000
namespace Wf
open PySem PySem.Spec PyProof.Rows L2

/-! ### the text by places -/
abbrev sIsFrom : Stmt := top 8
abbrev sIsLine : Stmt := top 9
abbrev sInit : Stmt := inClass (top 10) 0
abbrev sCells : Stmt := inClass (top 10) 1
abbrev sLen : Stmt := inClass (top 10) 4
abbrev sNeedBoard : Stmt := top 11
abbrev sIsThread : Stmt := top 12
abbrev sAllSteps : Stmt := top 13
/-- the built-in names, the module's constants -/
structure Txt (K : PySem.W.Frag) (mg : Str → Option Value) : Prop where
  isi : mg "isinstance" = none
  int : mg "int" = none
  bool : mg "bool" = none
  str : mg "str" = none
  tuple : mg "tuple" = none
  list : mg "list" = none
  len : mg "len" = none
  all : mg "all" = none
  range : mg "range" = none
  enum : mg "enumerate" = none
  sorted : mg "sorted" = none
  signs : ∃ t, mg "SIGNS" = some (.str ".<>x" t)
  most : ∃ t, mg "MOST_LINES" = some (.int 5 t)
theorem small2000 {n : Nat} (h : n ≤ 2000) : n < sizeLine := Nat.lt_of_le_of_lt h (by decide)
theorem iteY {c : Prop} [Decidable c] {A B : Prop} (hc : c) (h : A) : if decide c = true then A else B := by
  rw [decide_eq_true hc]
  exact iteT h
theorem iteN {c : Prop} [Decidable c] {A B : Prop} (hc : ¬ c) (h : B) : if decide c = true then A else B := by
  rw [decide_eq_false hc]
  exact iteF h
theorem iteK {k : Bool} {A B : Prop} (hc : k = true) (h : A) : if k = true then A else B := by
  rw [hc]
  exact iteT h
theorem iteKF {k : Bool} {A B : Prop} (hc : k = false) (h : B) : if k = true then A else B := by
  rw [hc]
  exact iteF h
theorem same_upd {H : Hp} {p : Addr} {o : HO} (h : H p = none) : Same H (upd H p o) := fun b x e => by
  rw [upd_ne (ne_of_none e h)]
  exact e
/-- the tuples stand -/
def SameT (H H' : Hp) : Prop := ∀ b xs, H b = some (.tup xs) → H' b = some (.tup xs)
theorem Same.t {H H' : Hp} (s : Same H H') : SameT H H' := fun b xs e => s b _ e
theorem SameT.trans {H H1 H2 : Hp} (a : SameT H H1) (b : SameT H1 H2) : SameT H H2 := fun c o h => b c o (a c o h)
theorem sameT_lst {H : Hp} {D : Addr} {xs ys : List V} (h : H D = some (.lst xs)) : SameT H (upd H D (.lst ys)) := fun b zs e => by
  rw [upd_ne (ne_of e h (by intro z; cases z))]
  exact e
/-- a comprehension over a walk: what the list holds so far is told by A, which leans on tuples alone -/
theorem lc_all {J : It} {n : Nat} {G : Hp → Prop} {Y : Nat → Hp → V → Hp → Prop} (w : Walk J n G Y) {g : TG} {tt : TT} {te : TE} {vs : List Nat} {σ : L2.St} {H1 : Hp} {D : Addr} {Qd : Hp → Prop} (A : Nat → List V → Hp → Prop) (hD : H1 D = none)
    (hA : ∀ i acc H H', SameT H H' → A i acc H → A i acc H') (hG : ∀ H, Same H1 H → G H) (h0 : A 0 [] H1) (hn : n ≤ 2000)
    (hs : ∀ i x H H' acc (Kt : V → Hp → Prop) (Kf : Hp → Prop), i < n → Same H1 H → A i acc H → Y i H x H' → (∀ y H4, Same H H4 → A (i + 1) (acc ++ [y]) H4 → Kt y H4) → (∀ H4, Same H H4 → A (i + 1) acc H4 → Kf H4) →
      g x (wipe σ vs) H' fun σ2 H2 => wipe σ2 vs = wipe σ vs ∧ tt σ2 H2 fun b H3 => if b = true then te σ2 H3 Kt else Kf H3)
    (hd : ∀ H acc, Same H1 H → H D = some (.lst acc) → A n acc H → acc.length ≤ n → Qd H) :
    ∃ W : Nat → Nat → Hp → Prop, (∃ m, W 0 m (upd H1 D (.lst []))) ∧ ∀ i m H, W i m H →
      (J.stop i H ∧ Qd H) ∨ (J.go i H ∧ ∃ Nx : Hp → Prop, (∀ H', Nx H' → ∃ m', m' < m ∧ W (i + 1) m' H') ∧ ∀ x H', J.yld i H x H' → g x (wipe σ vs) H' fun σ2 H2 => wipe σ2 vs = wipe σ vs ∧ tt σ2 H2 fun b H3 =>
        if b = true then te σ2 H3 fun y H4 => ∃ acc, H4 D = some (.lst acc) ∧ acc.length < sizeLine ∧ Nx (upd H4 D (.lst (acc ++ [y]))) else Nx H3) := by
  have up : ∀ {H H4 : Hp} {xs : List V}, Same H1 H → Same H H4 → Same H1 (upd H4 D (.lst xs)) := fun {H H4 xs} s1 s2 b o e => by
    rw [upd_ne (ne_of_none e hD)]
    exact s2 b o (s1 b o e)
  refine lc_it w (fun i H => ∃ acc, H D = some (.lst acc) ∧ Same H1 H ∧ A i acc H ∧ acc.length ≤ i) ⟨[], upd_same, same_upd hD, hA 0 [] H1 _ (Same.t (same_upd hD)) h0, Nat.le_refl _⟩ (fun i H _ ⟨acc, _, s1, _⟩ => hG H s1) (fun i x H H' hi ⟨acc, e, s1, a, hl⟩ hy => ?_) (fun H ⟨acc, e, s1, a, hl⟩ => hd H acc s1 e a hl)
  refine hs i x H H' acc _ _ hi s1 a hy (fun y H4 s2 a2 => ⟨acc, s2 _ _ e, small2000 (by omega), acc ++ [y], upd_same, up s1 s2, hA _ _ _ _ (sameT_lst (s2 _ _ e)) a2, by rw [List.length_append]; exact Nat.succ_le_succ hl⟩) (fun H4 s2 a2 => ⟨acc, s2 _ _ e, s1.trans s2, a2, Nat.le_succ_of_le hl⟩)
/-- .. without tests -/
theorem lc_map {J : It} {n : Nat} {G : Hp → Prop} {Y : Nat → Hp → V → Hp → Prop} (w : Walk J n G Y) {g : TG} {te : TE} {vs : List Nat} {σ : L2.St} {H1 : Hp} {D : Addr} {Qd : Hp → Prop} (A : Nat → List V → Hp → Prop) (hD : H1 D = none)
    (hA : ∀ i acc H H', SameT H H' → A i acc H → A i acc H') (hG : ∀ H, Same H1 H → G H) (h0 : A 0 [] H1) (hn : n ≤ 2000)
    (hs : ∀ i x H H' acc (Kt : V → Hp → Prop), i < n → Same H1 H → A i acc H → Y i H x H' → (∀ y H4, Same H H4 → A (i + 1) (acc ++ [y]) H4 → Kt y H4) → g x (wipe σ vs) H' fun σ2 H2 => wipe σ2 vs = wipe σ vs ∧ te σ2 H2 Kt)
    (hd : ∀ H acc, Same H1 H → H D = some (.lst acc) → A n acc H → acc.length ≤ n → Qd H) (hg : ∀ x σ H (Q Q' : L2.St → Hp → Prop), (∀ s h, Q s h → Q' s h) → g x σ H Q → g x σ H Q') :
    ∃ W : Nat → Nat → Hp → Prop, (∃ m, W 0 m (upd H1 D (.lst []))) ∧ ∀ i m H, W i m H →
      (J.stop i H ∧ Qd H) ∨ (J.go i H ∧ ∃ Nx : Hp → Prop, (∀ H', Nx H' → ∃ m', m' < m ∧ W (i + 1) m' H') ∧ ∀ x H', J.yld i H x H' → g x (wipe σ vs) H' fun σ2 H2 => wipe σ2 vs = wipe σ vs ∧ tYes σ2 H2 fun b H3 =>
        if b = true then te σ2 H3 fun y H4 => ∃ acc, H4 D = some (.lst acc) ∧ acc.length < sizeLine ∧ Nx (upd H4 D (.lst (acc ++ [y]))) else Nx H3) := by
  refine lc_all (tt := tYes) w A hD hA hG h0 hn (fun i x H H' acc Kt Kf hi s1 a hy kt _ => ?_) hd
  refine hg _ _ _ _ _ (fun s h q => ⟨q.1, ?_⟩) (hs i x H H' acc Kt hi s1 a hy kt)
  show if true = true then te s h Kt else Kf h
  exact iteT q.2
theorem yes_if {σ : L2.St} {H : Hp} {X Y : Hp → Prop} (h : X H) : tYes σ H (fun b H3 => if b = true then X H3 else Y H3) := by
  show if true = true then X H else Y H
  exact iteT h
theorem gName_mono {i : Nat} : ∀ x σ H (Q Q' : L2.St → Hp → Prop), (∀ s h, Q s h → Q' s h) → gName i x σ H Q → gName i x σ H Q' := fun _ _ _ _ _ h q => h _ _ q
/-- a name of a built-in type -/
theorem bt {X : Cx} {x : Str} (n : String) {pos : Pos} (hg : Gl X x) (hm : X.mg x = none) (hv : bootBuiltins x = some (.type n)) (hn : x ≠ "__name__" := by decide) (hd : (x == ("__debug__" : Str)) = false := by decide) : PE X (.Name x pos) (tC (.ty n)) :=
  pe_bltn hg hm hv rfl hn hd
section
variable {P : Program} {w : World} {K : PySem.W.Frag} {mg : Str → Option Value} {base : Heap}
/-! ### is_from -/
def spIsFrom : Sp := fun vs H Q _ => ∃ v lo hi : Int, vs = [.int v, .int lo, .int hi] ∧ Q (.bl (decide (lo ≤ v ∧ v ≤ hi))) H
theorem scIsFrom : FnScope ["value", "low", "high"] ["value", "low", "high"] (defScope sIsFrom) := ⟨rfl, rfl, rfl, by decide +kernel, rfl, by decide +kernel, by decide +kernel⟩
theorem ok_isFrom {f : Addr} {fd : FuncData} (F : Fun K "is_from" "is_from" sIsFrom f fd) (T : Txt K mg) : FnOk P w K mg base CX0 1 f fd ["value", "low", "high"] spIsFrom := by
  refine F.ok scIsFrom (fun vs H Q E h => ?_) (fun cdv A outer s H vs Q E hr h => ?_)
  · obtain ⟨v, lo, hi, rfl, _⟩ := h
    rfl
  · obtain ⟨v, lo, hi, rfl, q⟩ := h
    refine ⟨_, pss_one (ps_ret (pe_and (pe_callB call_isi (by rfl) T.isi (by decide +kernel) (pa_cons (pv 0) (pa_cons (bt "int" (by rfl) T.int (by decide +kernel)) pa_nil)))
      (pe_and (pe_not (pe_callB call_isi (by rfl) T.isi (by decide +kernel) (pa_cons (pv 0) (pa_cons (bt "bool" (by rfl) T.bool (by decide +kernel)) pa_nil))))
      (pe_one (pe_chain op_le op_le (pv 1) (pv 0) (pv 2)))))), ?_⟩
    refine ⟨_, rfl, _, _, _, _, _, rfl, .ty _, .base (.int v), kit_ty (by decide +kernel), true, rfl, iteT ?_⟩
    refine ⟨_, rfl, _, _, _, _, _, rfl, .ty _, .base (.int v), kit_ty (by decide +kernel), false, rfl, true, rfl, iteT ?_⟩
    refine ⟨_, rfl, _, rfl, _, _, rfl, rfl, _, rfl, ite2 (fun h1 => ?_) (fun h1 => ?_)⟩
    · refine ⟨_, rfl, _, _, rfl, rfl, ?_⟩
      have e : decide (lo ≤ v ∧ v ≤ hi) = decide (v ≤ hi) := by
        have := of_decide_eq_true h1
        simp [this]
      show Q (.bl (decide (v ≤ hi))) H
      rw [← e]
      exact q
    · have e : decide (lo ≤ v ∧ v ≤ hi) = false := by
        have h2 : ¬ lo ≤ v := fun z => h1 (decide_eq_true z)
        simp [h2]
      rw [← e]
      exact q
/-! ### is_line -/
def SignsOk (z : Str) : Prop := ∀ c ∈ z.cps.toList, c = 46 ∨ c = 60 ∨ c = 62 ∨ c = 120
def spIsLine : Sp := fun vs H Q _ => ∃ z : Str, vs = [.str z] ∧ 1 ≤ z.cps.size ∧ z.cps.size ≤ 5 ∧ SignsOk z ∧ ∀ H', Same H H' → Q (.bl true) H'
theorem scIsLine : FnScope ["value", "sign"] ["value"] (defScope sIsLine) := ⟨rfl, rfl, rfl, by decide +kernel, rfl, by decide +kernel, by decide +kernel⟩
theorem ok_isLine {f : Addr} {fd : FuncData} (F : Fun K "is_line" "is_line" sIsLine f fd) (T : Txt K mg) : FnOk P w K mg base CX0 1 f fd ["value"] spIsLine := by
  refine F.ok scIsLine (fun vs H Q E h => ?_) (fun cdv A outer s H vs Q E hr h => ?_)
  · obtain ⟨z, rfl, _⟩ := h
    rfl
  · obtain ⟨z, rfl, h1, h5, hS, q⟩ := h
    obtain ⟨tS, mS⟩ := T.signs
    obtain ⟨tM, mM⟩ := T.most
    refine ⟨_, pss_one (ps_ret (pe_and (pe_callB call_isi (by rfl) T.isi (by decide +kernel) (pa_cons (pv 0) (pa_cons (bt "str" (by rfl) T.str (by decide +kernel)) pa_nil)))
      (pe_and (pe_chain op_le op_le pe_int (pe_callB call_len_str (by rfl) T.len PySem.boot_len (pa_cons (pv 0) pa_nil)) (pe_glob (v := .int 5) (by rfl) mM ⟨_, rfl⟩))
      (pe_one (pe_callB (cr_all rfl) (by rfl) T.all (by decide +kernel) (pa_cons (pe_lc (own := [("sign", 1)]) (g := gName 1) (tt := tYes) rfl scIsLine.nd (pi_str (pv 0)) (blkOk_by (N := ["value", "sign"]) (sc := defScope sIsLine) (by decide +kernel))
        (fun _ _ _ _ _ => pg_name (i := 1) scIsLine.nd rfl (Or.inl rfl)) (fun _ _ _ _ _ => pts_nil) (fun _ _ _ _ _ => pe_cmpR op_in_sign (pv 1) (pe_glob (v := .str ".<>x") (by rfl) mS ⟨_, rfl⟩) rfl)) pa_nil)))))), ?_⟩
    have hln : z.length = z.cps.size := rfl
    refine ⟨_, rfl, _, _, _, _, _, rfl, .ty _, .base (.str z), kit_ty (by decide +kernel), true, rfl, iteT ?_⟩
    refine ⟨_, rfl, z, rfl, Nat.le_of_lt (small1000 (by omega)), _, _, rfl, rfl, _, rfl, iteY (by show (1 : Int) ≤ z.length; omega) ⟨_, _, rfl, rfl, _, rfl, iteY (by show (z.length : Int) ≤ 5; omega) ?_⟩⟩
    refine ⟨_, rfl, z, rfl, fun D hD => lc_map walk_str (fun i acc _ => acc = (z.cps.toList.take i).map fun c => V.bl (decide (c ∈ (".<>x" : Str).cps.toList))) hD (fun _ _ _ _ _ a => a) (fun _ _ => trivial) rfl (by omega) (fun i x H2 H3 acc Kt hi s1 a hy kt => ?_) (fun H2 acc s1 e a _ => ?_) gName_mono⟩
    · obtain ⟨rfl, c, hc, rfl⟩ := hy
      have hc' : z.cps.toList[i]? = some c := by simpa using hc
      refine ⟨rfl, _, rfl, c, _, rfl, rfl, kt _ _ (Same.refl _) ?_⟩
      rw [a, List.take_add_one, hc', List.map_append]
      rfl
    · rw [List.take_of_length_le (by simp)] at a
      have e2 : acc = (z.cps.toList.map fun c => decide (c ∈ (".<>x" : Str).cps.toList)).map V.bl := by
        rw [a, List.map_map]
        rfl
      refine ⟨D, _, rfl, SqL.of (e2 ▸ e), ?_⟩
      have e3 : (z.cps.toList.map fun c => decide (c ∈ (".<>x" : Str).cps.toList)).all id = true := by
        rw [List.all_eq_true]
        intro x hx
        obtain ⟨c, hc, rfl⟩ := List.mem_map.mp hx
        rcases hS c hc with rfl | rfl | rfl | rfl <;> decide +kernel
      rw [e3]
      exact q H2 s1
end
end Wf
set_option Elab.async false
set_option linter.all false
set_option maxRecDepth 100000
set_option maxHeartbeats 4000000
namespace Wf
open PySem PySem.Spec PyProof.Rows L2

/-! ### boards -/
/-- a table of cells -/
structure TabOk (cs : List Str) (c : Nat) : Prop where
  r1 : 1 ≤ cs.length
  r5 : cs.length ≤ 5
  c1 : 1 ≤ c
  c5 : c ≤ 5
  sz : ∀ z ∈ cs, z.cps.size = c
  sg : ∀ z ∈ cs, SignsOk z
/-- a table as a tuple at t -/
structure TabAt (H : Hp) (t : Addr) (cs : List Str) (c : Nat) : Prop where
  at_ : H t = some (.tup (cs.map V.str))
  ok : TabOk cs c
def BoardAt (C : Addr) (H : Hp) (x t : Addr) : Prop := ∃ dx, H x = some (.ins C dx [("table", .ref t)])
theorem TabAt.same {H H' : Hp} {t : Addr} {cs : List Str} {c : Nat} (h : TabAt H t cs c) (s : Same H H') : TabAt H' t cs c := ⟨s _ _ h.at_, h.ok⟩
theorem BoardAt.same {C x t : Addr} {H H' : Hp} (h : BoardAt C H x t) (s : Same H H') : BoardAt C H' x t := h.imp fun _ e => s _ _ e
/-- what the walk asks of the class -/
structure TxtB (K : PySem.W.Frag) (mg : Str → Option Value) (C : Addr) : Prop where
  cl : Cls K C
  nT : NoAttr K C "table"
  mgC : mg "Board" = some (.ref C)
  ha : PySem.W.findIn K (.ref C) "__class__" = some (some (.builtin "object.__class__"))
  hn : PySem.W.specialIn K (.builtin "object.__class__") "__get__" = some (some (.builtin "getset_descriptor.__get__"))
  htk : PySem.W.takesIn K (.builtin "object.__class__") = some true
  hm : PySem.W.mroIn K C (.type "object") = some true
  me : PySem.W.kitOne K (.ref C) (.ref C) = some true
theorem lk_table {t : Addr} : ([("table", .ref t)] : List (Str × V)).lookup ("table" : Str) = some (.ref t) := by
  rw [List.lookup_cons, show (("table" : Str) == "table") = true from by decide +kernel]
section
variable {P : Program} {w : World} {K : PySem.W.Frag} {mg : Str → Option Value} {base : Heap} {C : Addr}
/-! ### Board.__init__ -/
def spInit (C : Addr) : Sp := fun vs H Q _ => ∃ (x dx t : Addr) (cs : List Str) (c : Nat), vs = [.ref x, .ref t] ∧ H x = some (.ins C dx []) ∧ TabAt H t cs c ∧
  ∀ H', (∀ b o, b ≠ x → H b = some o → H' b = some o) → BoardAt C H' x t → Q .non H'
theorem scInit : FnScope ["self", "cells", "line"] ["self", "cells"] (defScope sInit) := ⟨rfl, rfl, rfl, by decide +kernel, rfl, by decide +kernel, by decide +kernel⟩
theorem ok_init {f fl : Addr} {fd fdl : FuncData} (F : Fun K "__init__" "Board.__init__" sInit f fd) (T : Txt K mg) (B : TxtB K mg C) (FL : Fun K "is_line" "is_line" sIsLine fl fdl) (bL : Binds K fdl ["value"] []) (gL : mg "is_line" = some (.ref fl)) :
    FnOk P w K mg base CX0 2 f fd ["self", "cells"] (spInit C) := by
  have GL : FnOk P w K mg base CX0 1 fl fdl ["value"] spIsLine := ok_isLine FL T
  refine F.ok scInit (fun vs H Q E h => ?_) (fun cdv A outer s H vs Q E hr h => ?_)
  · obtain ⟨x, dx, t, cs, c, rfl, _⟩ := h
    rfl
  · obtain ⟨x, dx, t, cs, c, rfl, hx, hT, q⟩ := h
    obtain ⟨tM, mM⟩ := T.most
    have ok := hT.ok
    have r1 := ok.r1
    have r5 := ok.r5
    refine ⟨_, pss_cons (ps_if (PW.pt (pw_or (pt_not (pt_val (pe_callB call_isi (by rfl) T.isi (by decide +kernel) (pa_cons (pv 1) (pa_cons (bt "tuple" (by rfl) T.tuple (by decide +kernel)) pa_nil)))))
        (pw_or1 (pt_not (pt_chain op_le op_le pe_int (pe_callB call_len_seq (by rfl) T.len PySem.boot_len (pa_cons (pv 1) pa_nil)) (pe_glob (v := .int 5) (by rfl) mM ⟨_, rfl⟩)))))) (pss_one ps_never) pss_nil)
      (pss_cons (ps_if (pt_not (pt_val (pe_callB (cr_all rfl) (by rfl) T.all (by decide +kernel) (pa_cons (pe_lc (own := [("line", 2)]) (g := gName 2) (tt := tYes) rfl scInit.nd (pi_tup (pv 1)) (blkOk_by (N := ["self", "cells", "line"]) (sc := defScope sInit) (by decide +kernel))
        (fun _ _ _ _ _ => pg_name (i := 2) scInit.nd rfl (Or.inl rfl)) (fun _ _ _ _ _ => pts_nil) (fun _ _ _ _ _ => pe_call GL hr (by rfl) gL FL.kp bL .nil pass0 (pa_cons (pv 2) pa_nil))) pa_nil)))) (pss_one ps_never) pss_nil)
      (pss_cons (ps_if (pt_not (pt_val (pe_callB (cr_all rfl) (by rfl) T.all (by decide +kernel) (pa_cons (pe_lc (own := [("line", 2)]) (g := gName 2) (tt := tYes) rfl scInit.nd (pi_tup (pv 1)) (blkOk_by (N := ["self", "cells", "line"]) (sc := defScope sInit) (by decide +kernel))
        (fun _ _ _ _ _ => pg_name (i := 2) scInit.nd rfl (Or.inl rfl)) (fun _ _ _ _ _ => pts_nil) (fun _ _ _ _ _ => pe_cmpR op_eq (pe_callB call_len_str (by rfl) T.len PySem.boot_len (pa_cons (pv 2) pa_nil)) (pe_callB call_len_str (by rfl) T.len PySem.boot_len (pa_cons (pe_ix (r := rIxT K) ix_tup (pv 1) pe_int (fun _ _ => rfl)) pa_nil)) (nomark _))) pa_nil)))) (pss_one ps_never) pss_nil)
      (pss_one (ps_fld (pv 0) (pv 1) rfl)))), ?_⟩
    refine ⟨_, rfl, _, _, _, _, _, rfl, .ty _, .base (.tup hT.at_), kit_ty (by decide +kernel), true, rfl, iteF ?_⟩
    have hl : (cs.map V.str).length = cs.length := List.length_map ..
    refine ⟨_, rfl, t, _, rfl, .inr (SqT.of hT.at_), _, _, rfl, rfl, _, rfl, iteY (by rw [hl]; omega) ⟨_, _, rfl, rfl, _, rfl, iteKF (by rw [hl, decide_eq_true (show (cs.length : Int) ≤ 5 by omega)]; rfl) ?_⟩⟩
    -- all lines are lines
    refine ⟨_, rfl, t, rfl, ⟨_, SqT.of hT.at_⟩, fun D hD => lc_map walk_tup (fun i acc _ => acc = List.replicate i (V.bl true)) hD (fun _ _ _ _ _ a => a) (fun H' s => SqT.of (s _ _ hT.at_)) rfl (by omega) (fun i y H2 H3 acc Kt hi s1 a hy kt => ?_) (fun H2 acc s1 e a _ => ?_) gName_mono⟩
    · obtain ⟨rfl, hy⟩ := hy
      obtain ⟨z, hz, rfl⟩ : ∃ z, z ∈ cs ∧ y = V.str z := by
        have := List.mem_of_getElem? hy
        obtain ⟨z, hz, e⟩ := List.mem_map.mp this
        exact ⟨z, hz, e.symm⟩
      have h1 := ok.sz z hz
      have h2 := ok.c1
      have h3 := ok.c5
      refine ⟨rfl, _, rfl, z, rfl, by omega, by omega, ok.sg z hz, fun H4 s4 => kt _ _ s4 ?_⟩
      rw [a, List.replicate_succ']
    · refine ⟨D, List.replicate cs.length true, rfl, SqL.of (by rw [e, a, hl, List.map_replicate]), true, ?_, iteF ?_⟩
      · rw [List.all_replicate]
        split <;> rfl
      have hT2 := hT.same s1
      -- all are of one length
      refine ⟨_, rfl, t, rfl, ⟨_, SqT.of hT2.at_⟩, fun D2 hD2 => lc_map walk_tup (fun i acc _ => acc = List.replicate i (V.bl true)) hD2 (fun _ _ _ _ _ a => a) (fun H' s => SqT.of (s _ _ hT2.at_)) rfl (by omega) (fun i y H3 H4 acc2 Kt hi s2 a2 hy kt => ?_) (fun H3 acc2 s2 e2 a2 _ => ?_) gName_mono⟩
      · obtain ⟨rfl, hy⟩ := hy
        obtain ⟨z, hz, rfl⟩ : ∃ z, z ∈ cs ∧ y = V.str z := by
          have := List.mem_of_getElem? hy
          obtain ⟨z, hz, e⟩ := List.mem_map.mp this
          exact ⟨z, hz, e.symm⟩
        obtain ⟨z0, zs, rfl⟩ : ∃ z0 zs, cs = z0 :: zs := by
          cases cs with
          | nil => exact absurd r1 (by decide)
          | cons u v => exact ⟨u, v, rfl⟩
        have h1 := ok.sz z hz
        have h0 := ok.sz z0 List.mem_cons_self
        have h3 := ok.c5
        have l1 : z.length = z.cps.size := rfl
        have l0 : z0.length = z0.cps.size := rfl
        refine ⟨rfl, _, rfl, z, rfl, Nat.le_of_lt (small1000 (by omega)), _, rfl, t, _, 0, .str z0, rfl, rfl, SqT.of (s2 _ _ hT2.at_), atI_nat (j := 0) rfl, z0, rfl, Nat.le_of_lt (small1000 (by omega)), rfl, kt _ _ (Same.refl _) ?_⟩
        rw [a2, List.replicate_succ', decide_eq_true (show V.int (z.length : Int) = V.int (z0.length : Int) by rw [l1, l0, h1, h0])]
      · refine ⟨D2, List.replicate cs.length true, rfl, SqL.of (by rw [e2, a2, hl, List.map_replicate]), true, ?_, iteF ?_⟩
        · rw [List.all_replicate]
          split <;> rfl
        -- self.table = cells
        have s12 := s1.trans s2
        refine ⟨_, rfl, _, rfl, x, C, dx, [], rfl, s12 _ _ hx, B.cl, B.nT, by decide, q _ (fun b o hb e => ?_) ⟨dx, upd_same⟩⟩
        rw [upd_ne hb]
        exact s12 _ _ e
end
end Wf
set_option Elab.async false
set_option linter.all false
set_option maxRecDepth 100000
set_option maxHeartbeats 4000000
namespace Wf
open PySem PySem.Spec PyProof.Rows L2

/-- a list at p of pairs of ints -/
structure PairsAt (H : Hp) (p : Addr) (ps : List (Addr × Stp)) : Prop where
  ls : H p = some (.lst (ps.map fun q => V.ref q.1))
  it : ∀ q ∈ ps, H q.1 = some (.tup [.int q.2.1, .int q.2.2])
theorem PairsAt.same {H H' : Hp} {p : Addr} {ps : List (Addr × Stp)} (h : PairsAt H p ps) (s : Same H H') : PairsAt H' p ps := ⟨s _ _ h.ls, fun q hq => s _ _ (h.it q hq)⟩
theorem PairsAt.push {H : Hp} {p q : Addr} {a b : Int} {ps : List (Addr × Stp)} (h : PairsAt H p ps) (hq : H q = none) :
    PairsAt (upd (upd H q (.tup [.int a, .int b])) p (.lst (ps.map (fun q => V.ref q.1) ++ [.ref q]))) p (ps ++ [(q, (a, b))]) where
  ls := by
    rw [upd_same, List.map_append]
    rfl
  it := fun r hr => by
    have nt : ∀ c xs, H c = some (.tup xs) → c ≠ p := fun c xs e => ne_of e h.ls (by intro z; cases z)
    rcases List.mem_append.mp hr with hr | hr
    · rw [upd_ne (nt _ _ (h.it r hr)), upd_ne (ne_of_none (h.it r hr) hq)]
      exact h.it r hr
    · rw [List.mem_singleton.mp hr]
      show (upd (upd H q _) p _) q = _
      rw [upd_ne (ne_of_none h.ls hq).symm, upd_same]
/-- all but what stands at p is as it was -/
def SameBut (p : Addr) (H H' : Hp) : Prop := ∀ b o, b ≠ p → H b = some o → H' b = some o
def codes (cs : List Str) : List (List Nat) := cs.map fun z => z.cps.toList
/-- the steps of a table -/
def stps (cs : List Str) (c : Nat) : List Stp := tabSt (codes cs) cs.length c cs.length
theorem codes_at {cs : List Str} {i : Nat} {z : Str} (h : cs[i]? = some z) : (codes cs).getD i [] = z.cps.toList := by
  rw [List.getD_eq_getElem?_getD]
  unfold codes
  rw [List.getElem?_map, h]
  rfl
theorem stps_rng {cs : List Str} {c : Nat} : ∀ p ∈ stps cs c, (0 ≤ p.1 ∧ p.1 < ((cs.length + c : Nat) : Int)) ∧ 0 ≤ p.2 ∧ p.2 < ((cs.length + c : Nat) : Int) := tabSt_rng (Nat.le_refl _)
theorem stps_len {cs : List Str} {c : Nat} (ok : TabOk cs c) : (stps cs c).length ≤ 50 := by
  have h := tabSt_len (codes cs) cs.length c cs.length
  have h1 := ok.r5
  have h2 := ok.c5
  have h3 : 2 * c * cs.length ≤ 2 * 5 * 5 := Nat.mul_le_mul (Nat.mul_le_mul_left 2 h2) h1
  exact Nat.le_trans h h3
theorem mem_gt {c : Nat} : decide (c ∈ (">x" : Str).cps.toList) = decide (c = 62 ∨ c = 120) := by
  rw [show (">x" : Str).cps.toList = [62, 120] from by decide +kernel]
  simp
theorem mem_lt {c : Nat} : decide (c ∈ ("<x" : Str).cps.toList) = decide (c = 60 ∨ c = 120) := by
  rw [show ("<x" : Str).cps.toList = [60, 120] from by decide +kernel]
  simp
/-- a rearrangement of an image is the image of a rearrangement -/
theorem perm_pull {α β : Type} {f : α → β} : ∀ {ys : List β} {xs : List α}, ys.Perm (xs.map f) → ∃ zs : List α, ys = zs.map f ∧ zs.Perm xs := fun {ys xs} h => by
  generalize hm : xs.map f = ms at h
  induction h generalizing xs with
  | nil =>
    cases xs with
    | nil => exact ⟨[], rfl, List.Perm.refl _⟩
    | cons a b => cases hm
  | cons y _ ih =>
    cases xs with
    | nil => cases hm
    | cons a b =>
      injection hm with h1 h2
      obtain ⟨zs, rfl, hz⟩ := ih h2
      exact ⟨a :: zs, by rw [← h1]; rfl, hz.cons a⟩
  | swap u v l =>
    match xs, hm with
    | a :: b :: r, hm =>
      injection hm with h1 h2
      injection h2 with h2 h3
      exact ⟨b :: a :: r, by rw [← h1, ← h2, ← h3]; rfl, List.Perm.swap _ _ _⟩
  | trans _ _ ih1 ih2 =>
    obtain ⟨z2, e2, p2⟩ := ih2 hm
    obtain ⟨z1, e1, p1⟩ := ih1 e2.symm
    exact ⟨z1, e1, p1.trans p2⟩
section
variable {P : Program} {w : World} {K : PySem.W.Frag} {mg : Str → Option Value} {base : Heap} {C : Addr}
/-! ### board.cells -/
def spCells (C : Addr) : Sp := fun vs H Q _ => ∃ x t, vs = [.ref x] ∧ BoardAt C H x t ∧ Q (.ref t) H
theorem scCells : FnScope ["self"] ["self"] (defScope sCells) := ⟨rfl, rfl, rfl, by decide +kernel, rfl, by decide +kernel, by decide +kernel⟩
theorem ok_cells {f : Addr} {fd : FuncData} (F : Fun K "cells" "Board.cells" sCells f fd) (B : TxtB K mg C) : FnOk P w K mg base CX0 1 f fd ["self"] (spCells C) := by
  refine F.ok scCells (fun vs H Q E h => ?_) (fun cdv A outer s H vs Q E hr h => ?_)
  · obtain ⟨x, t, rfl, _⟩ := h
    rfl
  · obtain ⟨x, t, rfl, ⟨dx, hx⟩, q⟩ := h
    exact ⟨_, pss_one (ps_ret (pe_fld (pv 0) rfl)), _, rfl, x, C, dx, _, _, rfl, hx, B.cl, B.nT, lk_table, q⟩
/-! ### len(board) -/
def spLen (C : Addr) : Sp := fun vs H Q _ => ∃ x t cs c, vs = [.ref x] ∧ BoardAt C H x t ∧ TabAt H t cs c ∧ ∀ H', Same H H' → Q (.int ((cs.length + c : Nat) : Int)) H'
theorem scLen : FnScope ["self"] ["self"] (defScope sLen) := ⟨rfl, rfl, rfl, by decide +kernel, rfl, by decide +kernel, by decide +kernel⟩
theorem ok_len {f : Addr} {fd : FuncData} (F : Fun K "__len__" "Board.__len__" sLen f fd) (T : Txt K mg) (B : TxtB K mg C) : FnOk P w K mg base CX0 1 f fd ["self"] (spLen C) := by
  refine F.ok scLen (fun vs H Q E h => ?_) (fun cdv A outer s H vs Q E hr h => ?_)
  · obtain ⟨x, t, cs, c, rfl, _⟩ := h
    rfl
  · obtain ⟨x, t, cs, c, rfl, ⟨dx, hx⟩, hT, q⟩ := h
    have ok := hT.ok
    have r5 := ok.r5
    have c5 := ok.c5
    obtain ⟨z0, hz0, e0⟩ : ∃ z0, z0 ∈ cs ∧ (cs.map V.str)[0]? = some (.str z0) := by
      cases cs with
      | nil => exact absurd ok.r1 (by decide)
      | cons u v => exact ⟨u, List.mem_cons_self, rfl⟩
    have hs := ok.sz z0 hz0
    refine ⟨_, pss_one (ps_ret (pe_callB call_len_seq (by rfl) T.len PySem.boot_len (pa_cons (pe_lst (StX.pa_star (pe_fld (pv 0) rfl) (pa_starS rfl (pe_ix ix_tup (pe_fld (pv 0) rfl) pe_int (fun _ _ => rfl)) pa_nil))) pa_nil))), ?_⟩
    refine ⟨_, rfl, x, C, dx, _, _, rfl, hx, B.cl, B.nT, lk_table, t, _, rfl, .inl (SqT.of hT.at_), ?_⟩
    refine ⟨_, rfl, x, C, dx, _, _, rfl, hx, B.cl, B.nT, lk_table, t, _, 0, _, rfl, rfl, SqT.of hT.at_, atI_nat (j := 0) e0, z0, rfl, Nat.le_of_lt (small1000 (by omega)), ?_⟩
    have hl : (cs.map V.str ++ (signs z0 ++ [])).length = cs.length + c := by
      unfold signs
      have h2 : z0.cps.toList.length = c := by
        rw [Array.length_toList]
        exact hs
      rw [List.append_nil, List.length_append, List.length_map, List.length_map, h2]
    refine ⟨by rw [hl]; exact Nat.le_of_lt (small1000 (by omega)), fun l hl2 => ⟨l, _, rfl, .inl (SqL.of upd_same), ?_⟩⟩
    rw [hl]
    exact q _ (same_upd hl2)
/-! ### need_board, is_thread -/
def spNB (C : Addr) : Sp := fun vs H Q _ => ∃ x t, vs = [.ref x] ∧ BoardAt C H x t ∧ Q .non H
theorem scNB : FnScope ["board"] ["board"] (defScope sNeedBoard) := ⟨rfl, rfl, rfl, by decide +kernel, rfl, by decide +kernel, by decide +kernel⟩
theorem ok_needBoard {f : Addr} {fd : FuncData} (F : Fun K "need_board" "need_board" sNeedBoard f fd) (T : Txt K mg) (B : TxtB K mg C) : FnOk P w K mg base CX0 1 f fd ["board"] (spNB C) := by
  refine F.ok scNB (fun vs H Q E h => ?_) (fun cdv A outer s H vs Q E hr h => ?_)
  · obtain ⟨x, t, rfl, _⟩ := h
    rfl
  · obtain ⟨x, t, rfl, ⟨dx, hx⟩, q⟩ := h
    refine ⟨_, pss_one (ps_if (pt_not (pt_val (pe_callB call_isi (by rfl) T.isi (by decide +kernel) (pa_cons (pv 0) (pa_cons (pe_glob (v := .ref C) (by rfl) B.mgC rfl) pa_nil))))) (pss_one ps_never) pss_nil), ?_⟩
    exact ⟨_, rfl, _, _, _, _, _, rfl, .own _, .base (.ins hx B.cl B.ha B.hn B.htk B.hm), B.me, true, rfl, iteF q⟩
def spIsThr (C : Addr) : Sp := fun vs H Q _ => ∃ x t cs c, ∃ v : Int, vs = [.ref x, .int v] ∧ BoardAt C H x t ∧ TabAt H t cs c ∧ ∀ H', Same H H' → Q (.bl (decide (0 ≤ v ∧ v < ((cs.length + c : Nat) : Int)))) H'
theorem scIsThr : FnScope ["board", "value"] ["board", "value"] (defScope sIsThread) := ⟨rfl, rfl, rfl, by decide +kernel, rfl, by decide +kernel, by decide +kernel⟩
/-- what a def needs that asks len(board) -/
structure LenB (K : PySem.W.Frag) (mg : Str → Option Value) (C fl : Addr) (fdl : FuncData) : Prop where
  fn : Fun K "__len__" "Board.__len__" sLen fl fdl
  bi : Binds K fdl ["self"] []
  at_ : PySem.W.findIn K (.ref C) "__len__" = some (some (.ref fl))
  is : PySem.W.isFn K (.ref fl) = true
theorem ok_isThread {f fl fi : Addr} {fd fdl fdi : FuncData} (F : Fun K "is_thread" "is_thread" sIsThread f fd) (T : Txt K mg) (B : TxtB K mg C) (L : LenB K mg C fl fdl) (FI : Fun K "is_from" "is_from" sIsFrom fi fdi) (bI : Binds K fdi ["value", "low", "high"] []) (gI : mg "is_from" = some (.ref fi)) :
    FnOk P w K mg base CX0 3 f fd ["board", "value"] (spIsThr C) := by
  have GI : FnOk P w K mg base CX0 1 fi fdi ["value", "low", "high"] spIsFrom := ok_isFrom FI T
  have GL : FnOk P w K mg base CX0 1 fl fdl ["self"] (spLen C) := ok_len L.fn T B
  refine F.ok scIsThr (fun vs H Q E h => ?_) (fun cdv A outer s H vs Q E hr h => ?_)
  · obtain ⟨x, t, cs, c, v, rfl, _⟩ := h
    rfl
  · obtain ⟨x, t, cs, c, v, rfl, hB, hT, q⟩ := h
    have ok := hT.ok
    have r5 := ok.r5
    have c5 := ok.c5
    refine ⟨_, pss_one (ps_ret (pe_call GI (hr.mono (by decide)) (by rfl) gI FI.kp bI .nil pass0 (pa_cons (pv 1) (pa_cons pe_int (pa_cons (pe_op op_sub (pe_callB (call_lenOwn B.cl L.at_ L.is GL hr L.bi .nil pass0) (by rfl) T.len PySem.boot_len (pa_cons (pv 0) pa_nil)) pe_int) pa_nil))))), ?_⟩
    obtain ⟨dx, hx⟩ := id hB
    refine ⟨_, rfl, _, rfl, x, dx, _, rfl, hx, x, t, cs, c, rfl, hB, hT, fun H' s' => ⟨_, rfl, by omega, by omega, _, _, rfl, rfl, _, _, _, rfl, ?_⟩⟩
    have e : decide (0 ≤ v ∧ v ≤ ((cs.length + c : Nat) : Int) - 1) = decide (0 ≤ v ∧ v < ((cs.length + c : Nat) : Int)) := by
      congr 1
      exact propext ⟨fun z => ⟨z.1, by omega⟩, fun z => ⟨z.1, by omega⟩⟩
    rw [e]
    exact q H' s'
/-! ### all_steps -/
def spSteps (C : Addr) : Sp := fun vs H Q _ => ∃ x t cs c, vs = [.ref x] ∧ BoardAt C H x t ∧ TabAt H t cs c ∧ ∀ H' p ps, Same H H' → H p = none → PairsAt H' p ps → (ps.map (·.2)).Perm (stps cs c) → Q (.ref p) H'
theorem scSteps : FnScope ["board", "found", "many", "at", "line", "place", "sign"] ["board"] (defScope sAllSteps) := ⟨rfl, rfl, rfl, by decide +kernel, rfl, by decide +kernel, by decide +kernel⟩
theorem ok_allSteps {f : Addr} {fd : FuncData} (F : Fun K "all_steps" "all_steps" sAllSteps f fd) (T : Txt K mg) (B : TxtB K mg C) : FnOk P w K mg base CX0 1 f fd ["board"] (spSteps C) := by
  refine F.ok scSteps (fun vs H Q E h => ?_) (fun cdv A outer s H vs Q E hr h => ?_)
  · obtain ⟨x, t, cs, c, rfl, _⟩ := h
    rfl
  · obtain ⟨x, t, cs, c, rfl, hB, hT, q⟩ := h
    obtain ⟨dx, hx⟩ := id hB
    have ok := hT.ok
    have r5 := ok.r5
    have c5 := ok.c5
    have nd := scSteps.nd
    refine ⟨_, pss_cons (ps_par rfl nd (i := 1) (j := 2) rfl rfl (by decide) rfl rfl (pa_cons (pe_lst pa_nil) (pa_cons (pe_callB call_len_seq (by rfl) T.len PySem.boot_len (pa_cons (pe_fld (pv 0) rfl) pa_nil)) pa_nil)) (by rfl))
      (pss_cons (ps_for PassesOwn.never rfl (pi_enumT (by rfl) T.enum (pa_cons (pe_fld (pv 0) rfl) pa_nil)) (pg_tup rfl (pgs_cons (pg_name (i := 3) nd rfl (.inl rfl)) (pgs_cons (pg_name (i := 4) nd rfl (.inl rfl)) pgs_nil)))
        (pss_one (ps_for PassesOwn.never rfl (pi_enumS (by rfl) T.enum (pa_cons (pv 4) pa_nil)) (pg_tup rfl (pgs_cons (pg_name (i := 5) nd rfl (.inl rfl)) (pgs_cons (pg_name (i := 6) nd rfl (.inl rfl)) pgs_nil)))
          (C8.pss_cut (ps_if (pt_cmpR op_in_sign (pv 6) pe_str rfl) (pss_one (ps_expr (pe_bm PySem.F.plainAttrs_list PySem.F.slot_list_append PySem.F.type_list_append mt_append (pv 1) (pa_cons (pe_tup (pa_cons (pv 3) (pa_cons (pe_op op_add (pv 2) (pv 5)) pa_nil))) pa_nil)))) pss_nil)
          (pss_one (ps_if (pt_cmpR op_in_sign (pv 6) pe_str rfl) (pss_one (ps_expr (pe_bm PySem.F.plainAttrs_list PySem.F.slot_list_append PySem.F.type_list_append mt_append (pv 1) (pa_cons (pe_tup (pa_cons (pe_op op_add (pv 2) (pv 5)) (pa_cons (pv 3) pa_nil))) pa_nil)))) pss_nil))))))
      (pss_one (ps_ret (pe_callB cr_sortedP (by rfl) T.sorted (by decide +kernel) (pa_cons (pv 1) pa_nil))))), ?_⟩
    -- found, many = [], len(board.table)
    refine ⟨Nat.zero_le _, fun fnd hf => ?_⟩
    have s0 : Same H (upd H fnd (.lst [])) := same_upd hf
    refine ⟨_, rfl, x, C, dx, _, _, rfl, s0 _ _ hx, B.cl, B.nT, lk_table, t, _, rfl, .inr (SqT.of (s0 _ _ hT.at_)), _, _, rfl, ?_⟩
    have hT1 := hT.same s0
    have hm : (cs.map V.str).length = cs.length := List.length_map ..
    -- for at, line in enumerate(board.table)
    refine ⟨_, rfl, x, C, dx, _, _, rfl, s0 _ _ hx, B.cl, B.nT, lk_table, t, _, rfl, SqT.of hT1.at_, ?_⟩
    refine for_it walk_enumT (fun i σ H2 => ∃ v3 v4 v5 v6 ps, σ = [some (.ref x), some (.ref fnd), some (.int (cs.map V.str).length), v3, v4, v5, v6] ∧ Same H H2 ∧ PairsAt H2 fnd ps ∧ ps.map (·.2) = tabSt (codes cs) cs.length c i)
      ⟨none, none, none, none, [], rfl, s0, ⟨upd_same, fun q hq => absurd hq List.not_mem_nil⟩, rfl⟩ (fun i σ H2 _ ⟨_, _, _, _, _, _, s2, _⟩ => SqT.of (s2 _ _ hT.at_)) (fun i y σ H2 H3 hi hP hy => ?_) (fun σ H2 hP => ?_)
    · obtain ⟨v3, v4, v5, v6, ps, rfl, s2, pa, ep⟩ := hP
      obtain ⟨T1, y1, y2, rfl, nT1, rfl, e1, e2⟩ := hy
      obtain rfl := Option.some.inj e1
      obtain ⟨z, hz, rfl⟩ : ∃ z, cs[i]? = some z ∧ y2 = V.str z := by
        have e2 : (cs.map V.str)[i]? = some y2 := e2
        rw [List.getElem?_map] at e2
        cases ez : cs[i]? with
        | none =>
          rw [ez] at e2
          cases e2
        | some z =>
          rw [ez] at e2
          exact ⟨z, rfl, (Option.some.inj e2).symm⟩
      have hzs := ok.sz z (List.mem_of_getElem? hz)
      have s3 : Same H (upd H2 T1 (.tup [.int (i : Nat), .str z])) := s2.trans (same_upd nT1)
      refine ⟨T1, _, rfl, SqT.of upd_same, rfl, _, _, rfl, _, _, rfl, rfl, ?_⟩
      -- for place, sign in enumerate(line)
      refine ⟨_, rfl, z, rfl, ?_⟩
      refine for_it walk_enumS (fun j σ H4 => ∃ v5 v6 ps, σ = [some (.ref x), some (.ref fnd), some (.int (cs.map V.str).length), some (.int (i : Nat)), some (.str z), v5, v6] ∧ Same H H4 ∧ PairsAt H4 fnd ps ∧ ps.map (·.2) = tabSt (codes cs) cs.length c i ++ rowSt cs.length i z.cps.toList j)
        ⟨v5, v6, ps, rfl, s3, pa.same (same_upd nT1), by rw [ep]; exact (List.append_nil _).symm⟩ (fun _ _ _ _ _ => trivial) (fun j y σ H4 H5 hj hP hy => ?_) (fun σ H4 hP => ?_)
      · obtain ⟨v5, v6, ps, rfl, s4, pa, ep⟩ := hP
        obtain ⟨T2, y1, y2, rfl, nT2, rfl, e1, e2⟩ := hy
        obtain rfl := Option.some.inj e1
        obtain ⟨d, hd, rfl⟩ : ∃ d, z.cps.toList[j]? = some d ∧ y2 = V.str ⟨#[d]⟩ := by
          have e2 : (z.cps[j]?).map (fun c => V.str ⟨#[c]⟩) = some y2 := e2
          cases ez : z.cps[j]? with
          | none =>
            rw [ez] at e2
            cases e2
          | some d =>
            rw [ez] at e2
            exact ⟨d, by simpa using ez, (Option.some.inj e2).symm⟩
        have hgd : z.cps.toList.getD j 0 = d := by
          rw [List.getD_eq_getElem?_getD, hd]
          rfl
        have s5 : Same H (upd H4 T2 (.tup [.int (j : Nat), .str ⟨#[d]⟩])) := s4.trans (same_upd nT2)
        have pa5 := pa.same (same_upd (o := .tup [.int (j : Nat), .str ⟨#[d]⟩]) nT2)
        have lenb : ∀ {ps : List (Addr × Stp)} {l : List Stp}, ps.map (·.2) = l → l.length ≤ 900 → (ps.map fun q => V.ref q.1).length < sizeLine := fun {ps l} e h => by
          rw [List.length_map, ← List.length_map (as := ps) (f := (·.2)), e]
          exact small1000 (by omega)
        have l1 := tabSt_len (codes cs) cs.length c i
        have l2 := rowSt_len cs.length i z.cps.toList j
        have hi5 : i ≤ 5 := by
          rw [hm] at hi
          omega
        have hj5 : j ≤ 5 := by omega
        have l3 : 2 * c * i ≤ 2 * 5 * 5 := Nat.mul_le_mul (Nat.mul_le_mul_left 2 c5) hi5
        have l4 : (tabSt (codes cs) cs.length c i ++ rowSt cs.length i z.cps.toList j).length ≤ 100 := by
          rw [List.length_append]
          omega
        refine ⟨T2, _, rfl, SqT.of upd_same, rfl, _, _, rfl, _, _, rfl, rfl, ?_⟩
        -- the two ifs
        refine ⟨fun σ H6 => ∃ ps, σ = [some (.ref x), some (.ref fnd), some (.int (cs.map V.str).length), some (.int (i : Nat)), some (.str z), some (.int (j : Nat)), some (.str ⟨#[d]⟩)] ∧ Same H H6 ∧ PairsAt H6 fnd ps ∧ ps.map (·.2) = (tabSt (codes cs) cs.length c i ++ rowSt cs.length i z.cps.toList j) ++ (if d = 62 ∨ d = 120 then [((i : Int), (cs.length : Int) + j)] else []), ?_, ?_⟩
        · refine ⟨_, rfl, d, _, rfl, rfl, _, rfl, ?_⟩
          rw [mem_gt]
          refine ite2 (fun h => ?_) (fun h => ?_)
          · have h := of_decide_eq_true h
            refine ⟨_, rfl, .inl ⟨rfl, _, SqL.of pa5.ls⟩, _, rfl, _, rfl, _, rfl, _, _, rfl, rfl, by show 2 ≤ sizeLine; decide, fun T3 n3 => ?_⟩
            refine ⟨fnd, _, _, rfl, rfl, same_upd n3 _ _ pa5.ls, lenb ep (by omega), ps ++ [(T3, ((i : Int), ((cs.map V.str).length : Int) + j))], rfl, fun b o e => ?_, pa5.push n3, ?_⟩
            · rw [upd_ne (ne_of_none e hf)]
              exact (same_upd n3) _ _ (s5 _ _ e)
            · rw [if_pos h, List.map_append, ep, hm]
              rfl
          · have h : ¬ (d = 62 ∨ d = 120) := fun z => h (decide_eq_true z)
            refine ⟨ps, rfl, s5, pa5, ?_⟩
            rw [if_neg h, List.append_nil]
            exact ep
        · rintro σ H6 ⟨ps, rfl, s6, pa6, ep6⟩
          have l5 : ((tabSt (codes cs) cs.length c i ++ rowSt cs.length i z.cps.toList j) ++ (if d = 62 ∨ d = 120 then [((i : Int), (cs.length : Int) + j)] else [])).length ≤ 200 := by
            rw [List.length_append]
            split
            · show _ + 1 ≤ 200
              omega
            · show _ + 0 ≤ 200
              omega
          have fin : (tabSt (codes cs) cs.length c i ++ rowSt cs.length i z.cps.toList j) ++ cellSt cs.length i j d = tabSt (codes cs) cs.length c i ++ rowSt cs.length i z.cps.toList (j + 1) := by
            rw [rowSt_succ, hgd, List.append_assoc]
          refine ⟨_, rfl, d, _, rfl, rfl, _, rfl, ?_⟩
          rw [mem_lt]
          refine ite2 (fun h => ?_) (fun h => ?_)
          · have h := of_decide_eq_true h
            refine ⟨_, rfl, .inl ⟨rfl, _, SqL.of pa6.ls⟩, _, rfl, _, rfl, _, _, rfl, rfl, _, rfl, by show 2 ≤ sizeLine; decide, fun T3 n3 => ?_⟩
            refine ⟨fnd, _, _, rfl, rfl, same_upd n3 _ _ pa6.ls, lenb ep6 (by omega), _, _, ps ++ [(T3, (((cs.map V.str).length : Int) + j, (i : Int)))], rfl, fun b o e => ?_, pa6.push n3, ?_⟩
            · rw [upd_ne (ne_of_none e hf)]
              exact (same_upd n3) _ _ (s6 _ _ e)
            · rw [← fin, List.map_append, ep6, hm]
              unfold cellSt
              rw [if_pos h]
              simp only [List.append_assoc]
              rfl
          · have h : ¬ (d = 60 ∨ d = 120) := fun z => h (decide_eq_true z)
            refine ⟨_, _, ps, rfl, s6, pa6, ?_⟩
            rw [← fin, ep6]
            unfold cellSt
            rw [if_neg h, List.append_nil]
      · obtain ⟨v5, v6, ps, rfl, s4, pa, ep⟩ := hP
        refine ⟨_, _, v5, v6, ps, rfl, s4, pa, ?_⟩
        rw [tabSt_succ, codes_at hz, ep, hzs]
    · -- return sorted(found)
      obtain ⟨v3, v4, v5, v6, ps, rfl, s2, pa, ep⟩ := hP
      rw [hm] at ep
      refine ⟨_, rfl, fnd, _, rfl, SqL.of pa.ls, fun y hy => ?_, fun ys p hp np => ?_⟩
      · obtain ⟨r, hr, rfl⟩ := List.mem_map.mp hy
        exact ⟨r.1, r.2.1, r.2.2, rfl, pa.it r hr⟩
      · obtain ⟨ps2, rfl, pp⟩ := perm_pull (f := fun q : Addr × Stp => V.ref q.1) hp
        refine q _ p ps2 (s2.trans (same_upd np)) (s2.free np) ⟨upd_same, fun r hr => ?_⟩ ?_
        · exact same_upd np _ _ (pa.it r (pp.mem_iff.mp hr))
        · unfold stps
          rw [← ep]
          exact pp.map _
end
end Wf
set_option Elab.async false
set_option linter.all false
set_option maxRecDepth 100000
set_option maxHeartbeats 4000000
namespace Wf
open PySem PySem.Spec PyProof.Rows L2

/-! ### == [] -/
section
variable {K : PySem.W.Frag} {H : Hp}
theorem dp_ints : ∀ ns : List Int, DpAll K H (ns.map V.int) (ns.map PyData.int)
  | [] => .nil
  | n :: ns => .cons (.int n) (dp_ints ns)
theorem lay_ints : ∀ ns : List Int, PyData.canLayAll0 (ns.map PyData.int) = true
  | [] => by simp [PyData.canLayAll0]
  | n :: ns => by
    show PyData.canLayAll0 (PyData.int n :: ns.map PyData.int) = true
    rw [PyData.canLayAll0, lay_ints ns]
    simp [PyData.canLay0]
theorem dp_lots {ps : List (Addr × List Int)} : (∀ p ∈ ps, SqT K H p.1 (p.2.map V.int)) → DpAll K H (ps.map fun p => V.ref p.1) (ps.map fun p => PyData.tuple (p.2.map .int)) := by
  induction ps with
  | nil => exact fun _ => .nil
  | cons p ps ih => exact fun h => .cons (.tup (h p List.mem_cons_self) (dp_ints _)) (ih fun q hq => h q (List.mem_cons_of_mem _ hq))
theorem lay_lots : ∀ ps : List (Addr × List Int), PyData.canLayAll0 (ps.map fun p => PyData.tuple (p.2.map .int)) = true ∧ PyData.depthAll (ps.map fun p => PyData.tuple (p.2.map .int)) ≤ 1
  | [] => by simp [PyData.canLayAll0, PyData.depthAll]
  | p :: ps => by
    obtain ⟨h1, h2⟩ := lay_lots ps
    refine ⟨?_, ?_⟩
    · show PyData.canLayAll0 (PyData.tuple (p.2.map .int) :: ps.map fun p => PyData.tuple (p.2.map .int)) = true
      rw [PyData.canLayAll0, h1, PyData.canLay0, lay_ints]
      rfl
    · show PyData.depthAll (PyData.tuple (p.2.map .int) :: ps.map fun p => PyData.tuple (p.2.map .int)) ≤ 1
      rw [PyData.depthAll, PyData.depth, PySem.W.depth_ints]
      omega
theorem shaped_nil : SeqAt.shaped (.list []) = true := by decide +kernel
theorem shaped_ints (ns : List Int) : SeqAt.shaped (.list (ns.map .int)) = true := by
  unfold SeqAt.shaped
  rw [PyData.canLay0, lay_ints, PyData.depth, PySem.W.depth_ints]
  rfl
theorem shaped_lots (ps : List (Addr × List Int)) : SeqAt.shaped (.list (ps.map fun p => .tuple (p.2.map .int))) = true := by
  obtain ⟨h1, h2⟩ := lay_lots ps
  unfold SeqAt.shaped
  rw [PyData.canLay0, h1, PyData.depth]
  simp only [Bool.true_and, decide_eq_true_eq]
  omega
theorem eqv_nil {α : Type} (f : α → PyData) (l : List α) : PyData.eqv (.list (l.map f)) (.list []) = decide (l.length = 0) := by
  cases l with
  | nil => simp [PyData.eqv, PyData.eqvAll]
  | cons a r => simp [PyData.eqv, PyData.eqvAll]
theorem eqI {a b : Addr} {ns : List Int} {Q : VK} (ha : SqL K H a (ns.map V.int)) (hb : SqL K H b []) (q : Q (.bl (decide (ns.length = 0))) H) : rEqD K (.ref a) (.ref b) H Q :=
  ⟨_, _, .lst ha (dp_ints ns), .lst hb .nil, shaped_ints ns, shaped_nil, by rw [eqv_nil]; exact q⟩
theorem neI {a b : Addr} {ns : List Int} {Q : VK} (ha : SqL K H a (ns.map V.int)) (hb : SqL K H b []) (q : Q (.bl (!decide (ns.length = 0))) H) : rNeD K (.ref a) (.ref b) H Q :=
  ⟨_, _, .lst ha (dp_ints ns), .lst hb .nil, shaped_ints ns, shaped_nil, by rw [eqv_nil]; exact q⟩
theorem eqT {a b : Addr} {ps : List (Addr × List Int)} {Q : VK} (ha : SqL K H a (ps.map fun p => V.ref p.1)) (hp : ∀ p ∈ ps, SqT K H p.1 (p.2.map V.int)) (hb : SqL K H b []) (q : Q (.bl (decide (ps.length = 0))) H) : rEqD K (.ref a) (.ref b) H Q :=
  ⟨_, _, .lst ha (dp_lots hp), .lst hb .nil, shaped_lots ps, shaped_nil, by rw [eqv_nil]; exact q⟩
theorem neT {a b : Addr} {ps : List (Addr × List Int)} {Q : VK} (ha : SqL K H a (ps.map fun p => V.ref p.1)) (hp : ∀ p ∈ ps, SqT K H p.1 (p.2.map V.int)) (hb : SqL K H b []) (q : Q (.bl (!decide (ps.length = 0))) H) : rNeD K (.ref a) (.ref b) H Q :=
  ⟨_, _, .lst ha (dp_lots hp), .lst hb .nil, shaped_lots ps, shaped_nil, by rw [eqv_nil]; exact q⟩
end

/-! ### a dict of ints, each with True -/
def kdict (kn : List Int) : List (Key × V) := kn.map fun k => (Sum.inl k, V.bl true)
theorem kdict_some (kn : List Int) (k : Int) : (valV (kdict kn) (Sum.inl k : Key)).isSome = decide (k ∈ kn) := by
  induction kn with
  | nil => rfl
  | cons a r ih =>
    by_cases e : a = k
    · have h : valV (kdict (a :: r)) (Sum.inl k : Key) = some (V.bl true) := valV_pos (p := (Sum.inl a, V.bl true)) (by rw [e])
      rw [h, decide_eq_true (by rw [e]; exact List.mem_cons_self)]
      rfl
    · have h : valV (kdict (a :: r)) (Sum.inl k : Key) = valV (kdict r) (Sum.inl k : Key) := valV_neg (p := (Sum.inl a, V.bl true)) (fun z => e (Sum.inl.inj z))
      rw [h, ih]
      congr 1
      simp [Ne.symm e]
theorem kdict_put {kn : List Int} {k : Int} (h : k ∉ kn) : putK (kdict kn) (Sum.inl k : Key) (V.bl true) = kdict (kn ++ [k]) := by
  have e : valV (kdict kn) (Sum.inl k : Key) = none := by
    have := kdict_some kn k
    rw [decide_eq_false h] at this
    cases q : valV (kdict kn) (Sum.inl k : Key) with
    | none => rfl
    | some v =>
      rw [q] at this
      cases this
  rw [putK_new _ e]
  unfold kdict
  rw [List.map_append]
  rfl

/-- a list at p of lists of ints -/
structure LlsAt (H : Hp) (p : Addr) (Ls : List (Addr × List Int)) : Prop where
  ls : H p = some (.lst (Ls.map fun q => V.ref q.1))
  it : ∀ q ∈ Ls, q.1 ≠ p ∧ H q.1 = some (.lst (q.2.map V.int))
theorem LlsAt.same {H H' : Hp} {p : Addr} {Ls : List (Addr × List Int)} (h : LlsAt H p Ls) (s : Same H H') : LlsAt H' p Ls := ⟨s _ _ h.ls, fun q hq => ⟨(h.it q hq).1, s _ _ (h.it q hq).2⟩⟩
theorem LlsAt.push {H : Hp} {p q : Addr} {ns : List Int} {Ls : List (Addr × List Int)} (h : LlsAt H p Ls) (hq : H q = none) :
    LlsAt (upd (upd H q (.lst (ns.map V.int))) p (.lst (Ls.map (fun q => V.ref q.1) ++ [.ref q]))) p (Ls ++ [(q, ns)]) where
  ls := by
    rw [upd_same, List.map_append]
    rfl
  it := fun r hr => by
    rcases List.mem_append.mp hr with hr | hr
    · obtain ⟨h1, h2⟩ := h.it r hr
      refine ⟨h1, ?_⟩
      rw [upd_ne h1, upd_ne (ne_of_none h2 hq)]
      exact h2
    · rw [List.mem_singleton.mp hr]
      refine ⟨(ne_of_none h.ls hq).symm, ?_⟩
      show (upd (upd H q _) p _) q = _
      rw [upd_ne (ne_of_none h.ls hq).symm, upd_same]
/-- what leads_of hands back -/
def LeadsAt (H : Hp) (p : Addr) (S : List Stp) (n : Nat) (Ls : List (Addr × List Int)) : Prop := LlsAt H p Ls ∧ LeadsOk S n (Ls.map (·.2))
theorem leads_push {S : List Stp} {i : Nat} {Ls : List (List Int)} {ns : List Int} (h : LeadsOk S i Ls) (hn : ∀ u, u ∈ ns ↔ Reach S (i : Int) u) : LeadsOk S (i + 1) (Ls ++ [ns]) := by
  refine ⟨by rw [List.length_append, h.1]; rfl, fun j hj u => ?_⟩
  by_cases e : j < i
  · have q := h.2 j e u
    rw [List.getD_eq_getElem?_getD] at q ⊢
    rw [List.getElem?_append_left (by rw [h.1]; exact e)]
    exact q
  · have e : j = i := by omega
    subst e
    rw [List.getD_eq_getElem?_getD, List.getElem?_append_right (by rw [h.1]; exact Nat.le_refl _), h.1, Nat.sub_self]
    exact hn u
abbrev sLeads : Stmt := top 15
section
variable {P : Program} {w : World} {K : PySem.W.Frag} {mg : Str → Option Value} {base : Heap} {C : Addr}
def spLeads (C : Addr) : Sp := fun vs H Q _ => ∃ x t cs c, vs = [.ref x] ∧ BoardAt C H x t ∧ TabAt H t cs c ∧ ∀ H' p Ls, Same H H' → H p = none → LeadsAt H' p (stps cs c) (cs.length + c) Ls → Q (.ref p) H'
theorem scLeads : FnScope ["board", "told", "found", "thread", "known", "waiting", "here", "one", "other"] ["board"] (defScope sLeads) := ⟨rfl, rfl, rfl, by decide +kernel, rfl, by decide +kernel, by decide +kernel⟩
theorem ok_leads {f fl fa : Addr} {fd fdl fda : FuncData} (F : Fun K "leads_of" "leads_of" sLeads f fd) (T : Txt K mg) (B : TxtB K mg C) (L : LenB K mg C fl fdl) (FA : Fun K "all_steps" "all_steps" sAllSteps fa fda) (bA : Binds K fda ["board"] []) (gA : mg "all_steps" = some (.ref fa)) :
    FnOk P w K mg base CX0 3 f fd ["board"] (spLeads C) := by
  have GA : FnOk P w K mg base CX0 1 fa fda ["board"] (spSteps C) := ok_allSteps FA T B
  have GL : FnOk P w K mg base CX0 1 fl fdl ["self"] (spLen C) := ok_len L.fn T B
  refine F.ok scLeads (fun vs H Q E h => ?_) (fun cdv A outer s H vs Q E hr h => ?_)
  · obtain ⟨x, t, cs, c, rfl, _⟩ := h
    rfl
  · obtain ⟨x, t, cs, c, rfl, hB, hT, q⟩ := h
    have ok := hT.ok
    have r5 := ok.r5
    have c5 := ok.c5
    have nd := scLeads.nd
    have hu := hu_of hr
    have hu64 := hr.units
    refine ⟨_, pss_cons (ps_par rfl nd (i := 1) (j := 2) rfl rfl (by decide) rfl rfl (pa_cons (pe_call GA (hr.mono (by decide)) (by rfl) gA FA.kp bA .nil pass0 (pa_cons (pv 0) pa_nil)) (pa_cons (pe_lst pa_nil) pa_nil)) (by rfl))
      (pss_cons (ps_for PassesOwn.never rfl (pi_range1 (by rfl) T.range (pa_cons (pe_callB (call_lenOwn B.cl L.at_ L.is GL hr L.bi .nil pass0) (by rfl) T.len PySem.boot_len (pa_cons (pv 0) pa_nil)) pa_nil)) (pg_name (i := 3) nd rfl (.inl rfl))
        (pss_cons (ps_par rfl nd (i := 4) (j := 5) rfl rfl (by decide) rfl rfl (pa_cons (pe_disp (pps_cons (pv 3) pe_bl pps_nil) (by rfl) (by rfl) (fun z => by cases z) (by decide)) (pa_cons (pe_lst (pa_cons (pv 3) pa_nil)) pa_nil)) (by rfl))
        (pss_cons (ps_while PassesOwn.never (pt_cmpR (op_neD hu64) (pv 5) (pe_lst pa_nil) (nomark _))
          (pss_cons (ps_set (i := 6) nd rfl (.inl rfl) (pe_bm0 PySem.F.plainAttrs_list PySem.F.slot_list_pop PySem.F.type_list_pop mt_pop (pv 5)))
          (pss_one (ps_for PassesOwn.never rfl (pi_list (pv 1)) (pg_tup rfl (pgs_cons (pg_name (i := 7) nd rfl (.inl rfl)) (pgs_cons (pg_name (i := 8) nd rfl (.inl rfl)) pgs_nil)))
            (pss_one (ps_if (PW.pt (pw_and (pt_cmpR op_eq (pv 7) (pv 6) (nomark _)) (pw_and1 (pt_cmp (pc_dnotin hu (pv 8) (pv 4))))))
              (pss_cons (ps_dput hu (pv 4) (pv 8) pe_bl rfl) (pss_one (ps_expr (pe_bm PySem.F.plainAttrs_list PySem.F.slot_list_append PySem.F.type_list_append mt_append (pv 5) (pa_cons (pv 8) pa_nil))))) pss_nil))))))
        (pss_one (ps_expr (pe_bm PySem.F.plainAttrs_list PySem.F.slot_list_append PySem.F.type_list_append mt_append (pv 2) (pa_cons (pe_callB (call_sortedDI rfl) (by rfl) T.sorted (by decide +kernel) (pa_cons (pv 4) pa_nil)) pa_nil)))))))
      (pss_one (ps_ret (pv 2)))), ?_⟩
    -- told, found
    refine ⟨_, rfl, x, t, cs, c, rfl, hB, hT, fun H1 tl ps s1 ntl pT hperm => ⟨Nat.zero_le _, fun fnd hf => ⟨_, _, rfl, ?_⟩⟩⟩
    have s2 : Same H (upd H1 fnd (.lst [])) := s1.trans (same_upd hf)
    have hfH : H fnd = none := s1.free hf
    have pT2 := pT.same (same_upd (o := .lst []) hf)
    have memT : ∀ p : Stp, p ∈ ps.map (·.2) ↔ p ∈ stps cs c := fun p => hperm.mem_iff
    -- for thread in range(len(board))
    obtain ⟨dx, hx⟩ := hB.same s2
    refine ⟨_, rfl, x, dx, _, rfl, hx, x, t, cs, c, rfl, hB.same s2, hT.same s2, fun H2 s3 => ⟨_, rfl, by omega, by omega, _, rfl, by omega, by omega, ?_⟩⟩
    rw [Int.toNat_natCast]
    have s23 := s2.trans s3
    refine for_range (fun i σ H3 => ∃ v3 v4 v5 v6 v7 v8 Ls, σ = [some (.ref x), some (.ref tl), some (.ref fnd), v3, v4, v5, v6, v7, v8] ∧ Same H H3 ∧ PairsAt H3 tl ps ∧ LeadsAt H3 fnd (stps cs c) i Ls ∧ Ls.length = i)
      ⟨none, none, none, none, none, none, [], rfl, s23, pT2.same s3, ⟨⟨s3 _ _ upd_same, fun q hq => absurd hq List.not_mem_nil⟩, rfl, fun j hj => absurd hj (Nat.not_lt_zero _)⟩, rfl⟩ (fun i σ H3 hi hP => ?_) (fun σ H3 hP => ?_)
    · obtain ⟨v3, v4, v5, v6, v7, v8, Ls, rfl, s4, pT3, hL, hLl⟩ := hP
      rw [Int.zero_add]
      -- known, waiting
      refine fun ka nka => ⟨_, rfl, upd_same, [(Sum.inl (i : Int), V.bl true)], rfl, by show 1 ≤ 15; decide, ?_⟩
      rw [upd_upd]
      refine ⟨_, rfl, by show 1 ≤ sizeLine; decide, fun wa nwa => ⟨_, _, rfl, ?_⟩⟩
      have nwa3 : H3 wa = none := (same_upd nka).free nwa
      have hka : (upd H3 ka (.dK (mergeK [] [(Sum.inl (i : Int), V.bl true)]))) ka = some (.dK (kdict [(i : Int)])) := upd_same
      have nkw : ka ≠ wa := ne_of_none hka nwa
      have s5 : Same H3 (upd (upd H3 ka (.dK (mergeK [] [(Sum.inl (i : Int), V.bl true)]))) wa (.lst [.int (i : Int)])) := (same_upd nka).trans (same_upd nwa)
      have hS : ∀ p ∈ stps cs c, (0 ≤ p.1 ∧ p.1 < ((cs.length + c : Nat) : Int)) ∧ 0 ≤ p.2 ∧ p.2 < ((cs.length + c : Nat) : Int) := stps_rng
      generalize hSe : stps cs c = S at hS memT hL q hperm
      generalize hne : cs.length + c = n at hS hL q hi
      have hn10 : n ≤ 10 := by omega
      -- while waiting != []
      refine ⟨fun m σ H4 => ∃ v6 v7 v8 kn wt here, σ = [some (.ref x), some (.ref tl), some (.ref fnd), some (.int (i : Int)), some (.ref ka), some (.ref wa), v6, v7, v8] ∧ Same H3 H4 ∧ H4 ka = some (.dK (kdict kn)) ∧ H4 wa = some (.lst (wt.map V.int)) ∧ Dfs S n (i : Int) kn wt here [] ∧ m = 2 * (n - kn.length) + wt.length,
        ⟨_, v6, v7, v8, [(i : Int)], [(i : Int)], 0, rfl, s5, by rw [upd_ne nkw]; exact hka, upd_same, Dfs.start (by omega) (by omega) 0, rfl⟩, ?_⟩
      rintro m σ H4 ⟨v6, v7, v8, kn, wt, here, rfl, s6, eka, ewa, D, hm⟩
      refine ⟨_, rfl, Nat.zero_le _, fun l nl => neI (SqL.of (same_upd nl _ _ ewa)) (SqL.of upd_same) ⟨_, rfl, ?_⟩⟩
      have s7 : Same H3 (upd H4 l (.lst [])) := s6.trans (same_upd nl)
      have eka7 := same_upd (o := .lst []) nl _ _ eka
      have ewa7 := same_upd (o := .lst []) nl _ _ ewa
      rcases List.eq_nil_or_concat wt with rfl | ⟨w1, y, rfl⟩
      · -- found.append(sorted(known))
        refine iteKF rfl ?_
        have hcl := D.closed
        have hkl := D.len.1
        refine ⟨_, rfl, .inl ⟨rfl, _, SqL.of (s7 _ _ hL.1.ls)⟩, _, rfl, ka, kdict kn, kn, rfl, .inl eka7, by unfold kdict; rw [List.map_map]; rfl, by omega, fun ys p pp _ np => ?_⟩
        have hL7 : LlsAt (upd H4 l (.lst [])) fnd Ls := hL.1.same s7
        refine ⟨fnd, _, _, rfl, rfl, same_upd np _ _ hL7.ls, by rw [List.length_map, hLl]; exact small1000 (by omega), _, _, _, _, _, _, Ls ++ [(p, ys)], rfl, fun b o e => ?_, ?_, ⟨hL7.push np, ?_⟩, by rw [List.length_append, hLl]; rfl⟩
        · rw [upd_ne (ne_of_none e hfH)]
          exact same_upd np _ _ (s7 _ _ (s4 _ _ e))
        · have pT7 := (pT3.same s7).same (same_upd (o := .lst (ys.map V.int)) np)
          have ntf : tl ≠ fnd := ne_of_none pT.ls hf
          exact ⟨by rw [upd_ne ntf]; exact pT7.ls, fun r hr => by
            rw [upd_ne (ne_of (pT7.it r hr) (same_upd np _ _ hL7.ls) (by intro z; cases z))]
            exact pT7.it r hr⟩
        · rw [List.map_append]
          exact leads_push hL.2 fun u => by rw [pp.mem_iff]; exact hcl u
      · -- a turn
        have hlw : (w1.concat y).length = w1.length + 1 := by simp
        refine iteK (by rw [hlw]; rfl) ?_
        rw [List.concat_eq_append] at *
        refine ⟨_, fun _ _ h => h, ?_⟩
        refine ⟨_, rfl, .inl ⟨rfl, _, SqL.of ewa7⟩, wa, _, .int y, rfl, rfl, ewa7, by simp, ?_⟩
        rw [show ((w1 ++ [y]).map V.int).dropLast = w1.map V.int by rw [List.map_append]; exact List.dropLast_concat]
        have yk : y ∈ kn := D.sub y (List.mem_append_right _ (List.mem_singleton.mpr rfl))
        have s8 : Same H3 (upd (upd H4 l (.lst [])) wa (.lst (w1.map V.int))) := fun b o e => by
          rw [upd_ne (ne_of_none e nwa3)]
          exact s7 _ _ e
        have D1 := D.pop (T := ps.map (·.2)) memT
        have pT8 := pT3.same s8
        -- for one, other in told
        refine ⟨_, rfl, tl, rfl, ⟨_, SqL.of pT8.ls⟩, for_list (K := K) (a := tl) (xs := ps.map fun q => V.ref q.1) (fun k σ H7 => ∃ v7 v8 kn wt, σ = [some (.ref x), some (.ref tl), some (.ref fnd), some (.int (i : Int)), some (.ref ka), some (.ref wa), some (.int y), v7, v8] ∧ Same H3 H7 ∧ H7 ka = some (.dK (kdict kn)) ∧ H7 wa = some (.lst (wt.map V.int)) ∧
            Dfs S n (i : Int) kn wt y ((ps.map Prod.snd).drop k) ∧ y ∈ kn ∧ 2 * (n - kn.length) + wt.length < m)
          ⟨v7, v8, kn, w1, rfl, s8, by rw [upd_ne nkw]; exact eka7, upd_same, D1, yk, by rw [hm, List.length_append]; show _ < _ + (_ + 1); omega⟩ (fun k σ H7 _ hP => ?_) (fun k v σ H7 hk hP => ?_) (fun σ H7 hP => ?_)⟩
        · obtain ⟨v7, v8, kn, wt, rfl, s9, _⟩ := hP
          exact SqL.of (s9 _ _ pT3.ls)
        · obtain ⟨v7, v8, kn2, wt2, rfl, s9, eka9, ewa9, D2, yk2, hm2⟩ := hP
          obtain ⟨r, hr, rfl⟩ : ∃ r, ps[k]? = some r ∧ v = V.ref r.1 := by
            rw [List.getElem?_map] at hk
            cases e : ps[k]? with
            | none =>
              rw [e] at hk
              cases hk
            | some r =>
              rw [e] at hk
              exact ⟨r, rfl, (Option.some.inj hk).symm⟩
          have hrm := List.mem_of_getElem? hr
          have hdr : (ps.map Prod.snd).drop k = (r.2.1, r.2.2) :: (ps.map Prod.snd).drop (k + 1) := by
            have hk2 : (ps.map Prod.snd)[k]? = some r.2 := by
              rw [List.getElem?_map, hr]
              rfl
            obtain ⟨hlt, e⟩ := List.getElem?_eq_some_iff.mp hk2
            rw [List.drop_eq_getElem_cons hlt, e]
          rw [hdr] at D2
          have l2 := D2.len
          refine ⟨r.1, _, rfl, SqT.of (s9 _ _ (pT3.it r hrm)), rfl, _, _, rfl, _, _, rfl, rfl, ?_⟩
          refine ⟨_, rfl, _, rfl, rfl, _, rfl, ite2 (fun h1 => ?_) (fun h1 => ?_)⟩
          · have e1 : r.2.1 = y := V.int.inj (of_decide_eq_true h1)
            refine ⟨_, rfl, _, rfl, ka, _, rfl, DGet.k (k := Sum.inl r.2.2) eka9, _, rfl, ?_⟩
            rw [kdict_some]
            by_cases h2 : r.2.2 ∈ kn2
            · rw [decide_eq_true h2]
              refine iteF ?_
              exact ⟨_, _, kn2, wt2, rfl, s9, eka9, ewa9, D2.skip (.inr h2), yk2, hm2⟩
            · rw [decide_eq_false h2]
              refine iteT ?_
              have hs := (memT r.2).mp (List.mem_map.mpr ⟨r, hrm, rfl⟩)
              have hs' : (y, r.2.2) ∈ S := by rw [← e1]; exact hs
              have D3 : Dfs S n (i : Int) kn2 wt2 y ((y, r.2.2) :: (ps.map Prod.snd).drop (k + 1)) := by rw [← e1] at D2 ⊢; exact D2
              have D4 := D3.push yk2 hs' (hS _ hs).2 h2
              have l4 := D4.len.1
              rw [List.length_append] at l4
              have l4 : kn2.length + 1 ≤ n := l4
              refine ⟨_, rfl, _, rfl, ka, _, rfl, DPut.k (k := Sum.inl r.2.2) eka9 (by unfold kdict; rw [List.length_map]; exact small1000 (by omega)), ?_⟩
              rw [kdict_put h2]
              have ewb : (upd H7 ka (.dK (kdict (kn2 ++ [r.2.2])))) wa = some (.lst (wt2.map V.int)) := by
                rw [upd_ne nkw.symm]
                exact ewa9
              refine ⟨_, rfl, .inl ⟨rfl, _, SqL.of ewb⟩, _, rfl, wa, _, _, rfl, rfl, ewb, by rw [List.length_map]; exact small1000 (by omega), ?_⟩
              refine ⟨_, _, kn2 ++ [r.2.2], wt2 ++ [r.2.2], rfl, fun b o e => ?_, by rw [upd_ne nkw]; exact upd_same, by rw [upd_same, List.map_append]; rfl, D4, List.mem_append_left _ yk2, ?_⟩
              · rw [upd_ne (ne_of_none e nwa3), upd_ne (ne_of_none e nka)]
                exact s9 _ _ e
              · rw [List.length_append, List.length_append]
                show 2 * (n - (kn2.length + 1)) + (wt2.length + 1) < m
                omega
          · refine iteF ?_
            exact ⟨_, _, kn2, wt2, rfl, s9, eka9, ewa9, D2.skip (.inl fun e => h1 (decide_eq_true (congrArg V.int e))), yk2, hm2⟩
        · obtain ⟨v7, v8, kn2, wt2, rfl, s9, eka9, ewa9, D2, yk2, hm2⟩ := hP
          have e0 : (ps.map Prod.snd).drop (ps.map fun q => V.ref q.1).length = [] := List.drop_of_length_le (by rw [List.length_map, List.length_map]; exact Nat.le_refl _)
          rw [e0] at D2
          exact ⟨_, hm2, _, _, _, kn2, wt2, y, rfl, s9, eka9, ewa9, D2, rfl⟩
    · obtain ⟨v3, v4, v5, v6, v7, v8, Ls, rfl, s4, pT3, hL, hLl⟩ := hP
      exact ⟨_, rfl, q H3 fnd Ls s4 hfH hL⟩
end
end Wf
set_option Elab.async false
set_option linter.all false
set_option maxRecDepth 100000
set_option maxHeartbeats 4000000
namespace Wf
open PySem PySem.Spec PyProof.Rows L2

/-- a list at p of tuples of ints -/
structure LotsAt (H : Hp) (p : Addr) (ps : List (Addr × List Int)) : Prop where
  ls : H p = some (.lst (ps.map fun q => V.ref q.1))
  it : ∀ q ∈ ps, H q.1 = some (.tup (q.2.map V.int))
theorem LotsAt.same {H H' : Hp} {p : Addr} {ps : List (Addr × List Int)} (h : LotsAt H p ps) (s : Same H H') : LotsAt H' p ps := ⟨s _ _ h.ls, fun q hq => s _ _ (h.it q hq)⟩
theorem inV_ints (b : Int) (ns : List Int) : inV (.int b) (ns.map V.int) = decide (b ∈ ns) := by
  unfold inV
  induction ns with
  | nil => rfl
  | cons a r ih =>
    rw [List.map_cons, List.any_cons, ih]
    by_cases e : b = a
    · subst e
      simp [eqV]
    · have e' : a ≠ b := fun z => e z.symm
      simp [eqV, e, e']
theorem flat_ints (ns : List Int) : (ns.map V.int).all flatV = true := by
  rw [List.all_eq_true]
  intro x hx
  obtain ⟨n, _, rfl⟩ := List.mem_map.mp hx
  rfl
theorem item_of {α : Type} {f : α → V} {xs : List α} {i : Nat} {v : V} (h : (xs.map f)[i]? = some v) : ∃ x, xs[i]? = some x ∧ v = f x := by
  rw [List.getElem?_map] at h
  cases e : xs[i]? with
  | none =>
    rw [e] at h
    cases h
  | some x =>
    rw [e] at h
    exact ⟨x, rfl, (Option.some.inj h).symm⟩
theorem take_succ_of {α : Type} {xs : List α} {i : Nat} {x : α} (h : xs[i]? = some x) : xs.take (i + 1) = xs.take i ++ [x] := by
  rw [List.take_add_one, h]
  rfl
abbrev gPair (K : PySem.W.Frag) (i j : Nat) : TG := gTup K 2 (gCons (gName i) (gCons (gName j) gNil))
theorem gPair_mono {K : PySem.W.Frag} {i j : Nat} : ∀ x σ H (Q Q' : L2.St → Hp → Prop), (∀ s h, Q s h → Q' s h) → gPair K i j x σ H Q → gPair K i j x σ H Q' :=
  fun _ _ _ _ _ h ⟨a, xs, e, hs, hl, v, r, e1, v2, r2, e2, e3, q⟩ => ⟨a, xs, e, hs, hl, v, r, e1, v2, r2, e2, e3, h _ _ q⟩

abbrev sStand : Stmt := top 17
abbrev sCloses : Stmt := top 19
abbrev sAllLots : Stmt := top 21
abbrev sAllClosed : Stmt := top 22
section
variable {P : Program} {w : World} {K : PySem.W.Frag} {mg : Str → Option Value} {base : Heap} {C : Addr}
/-! ### closes -/
def spCloses : Sp := fun vs H Q _ => ∃ tl l ps, ∃ ns : List Int, vs = [.ref tl, .ref l] ∧ PairsAt H tl ps ∧ H l = some (.tup (ns.map V.int)) ∧ ps.length ≤ 1000 ∧ ∀ H', Same H H' → Q (.bl (closB (ps.map Prod.snd) ns)) H'
theorem scCloses : FnScope ["told", "lot", "one", "other"] ["told", "lot"] (defScope sCloses) := ⟨rfl, rfl, rfl, by decide +kernel, rfl, by decide +kernel, by decide +kernel⟩
theorem ok_closes {f : Addr} {fd : FuncData} (F : Fun K "closes" "closes" sCloses f fd) (T : Txt K mg) : FnOk P w K mg base CX0 1 f fd ["told", "lot"] spCloses := by
  refine F.ok scCloses (fun vs H Q E h => ?_) (fun cdv A outer s H vs Q E hr h => ?_)
  · obtain ⟨tl, l, ps, ns, rfl, _⟩ := h
    rfl
  · obtain ⟨tl, l, ps, ns, rfl, pT, hl, hlen, q⟩ := h
    have nd := scCloses.nd
    refine ⟨_, pss_one (ps_ret (pe_callB (cr_all rfl) (by rfl) T.all (by decide +kernel) (pa_cons (pe_lc (own := [("one", 2), ("other", 3)]) (g := gPair K 2 3) (tt := tYes) rfl nd (pi_list (pv 0)) (blkOk_by (N := ["told", "lot", "one", "other"]) (sc := defScope sCloses) (by decide +kernel))
        (fun _ _ _ _ _ => pg_tup rfl (pgs_cons (pg_name (i := 2) nd rfl (Or.inl rfl)) (pgs_cons (pg_name (i := 3) nd rfl (Or.inl rfl)) pgs_nil))) (fun _ _ _ _ _ => pts_nil)
        (fun _ _ _ _ _ => pe_or (pe_cmpR (r := rIn K false) op_in_seq (pv 2) (pv 1) rfl) (pe_one (pe_cmpR (r := rIn K true) op_notIn_seq (pv 3) (pv 1) rfl)))) pa_nil))), ?_⟩
    refine ⟨_, rfl, tl, rfl, ⟨_, SqL.of pT.ls⟩, fun D hD => lc_map (walk_list (xs := ps.map fun q => V.ref q.1)) (fun i acc _ => acc = ((ps.take i).map fun q => decide (q.2.1 ∈ ns) || !decide (q.2.2 ∈ ns)).map V.bl) hD (fun _ _ _ _ _ a => a) (fun H' s => SqL.of (s _ _ pT.ls)) rfl (by rw [List.length_map]; omega)
      (fun i y H2 H3 acc Kt hi s1 a hy kt => ?_) (fun H2 acc s1 e a _ => ?_) gPair_mono⟩
    · obtain ⟨rfl, hy⟩ := hy
      obtain ⟨r, hr, rfl⟩ := item_of hy
      have hrm := List.mem_of_getElem? hr
      refine ⟨r.1, _, rfl, SqT.of (s1 _ _ (pT.it r hrm)), rfl, _, _, rfl, _, _, rfl, rfl, rfl, ?_⟩
      have hl2 := s1 _ _ hl
      have ea : ∀ b, b = (decide (r.2.1 ∈ ns) || !decide (r.2.2 ∈ ns)) → acc ++ [V.bl b] = ((ps.take (i + 1)).map fun q => decide (q.2.1 ∈ ns) || !decide (q.2.2 ∈ ns)).map V.bl := fun b e => by
        rw [a, take_succ_of hr, List.map_append, List.map_append, e]
        rfl
      refine ⟨_, rfl, _, rfl, l, _, rfl, .inr (SqT.of hl2), rfl, flat_ints ns, inV (.int r.2.1) (ns.map V.int), rfl, ?_⟩
      rw [inV_ints]
      refine ite2 (fun h => ?_) (fun h => ?_)
      · exact kt _ _ (Same.refl _) (ea _ (by rw [h]; rfl))
      · refine ⟨_, rfl, _, rfl, l, _, rfl, .inr (SqT.of hl2), rfl, flat_ints ns, kt _ _ (Same.refl _) (ea _ ?_)⟩
        rw [Bool.not_eq_true] at h
        rw [h]
        show (!inV (.int r.2.2) (ns.map V.int)) = _
        rw [inV_ints]
        rfl
    · rw [List.length_map, List.take_length] at a
      refine ⟨D, _, rfl, SqL.of (by rw [e, a]), ?_⟩
      have e2 : ((ps.map fun q => decide (q.2.1 ∈ ns) || !decide (q.2.2 ∈ ns)).all id) = closB (ps.map Prod.snd) ns := by
        unfold closB
        rw [List.all_map, List.all_map]
        rfl
      rw [e2]
      exact q H2 s1
/-! ### stand_together -/
def spStand (C : Addr) : Sp := fun vs H Q _ => ∃ t ta cs c, ∃ sm : List Int, vs = [.ref t, .ref ta] ∧ TabAt H t cs c ∧ H ta = some (.tup (sm.map V.int)) ∧ sm.length ≤ 20 ∧ (∀ k ∈ sm, 0 ≤ k ∧ k < ((cs.length + c : Nat) : Int)) ∧
  ∀ H' b, Same H H' → (b = true ↔ Together (stps cs c) sm) → Q (.bl b) H'
theorem scStand : FnScope ["cells", "threads", "some", "told", "thread", "one", "other"] ["cells", "threads"] (defScope sStand) := ⟨rfl, rfl, rfl, by decide +kernel, rfl, by decide +kernel, by decide +kernel⟩
/-- the rows of truth values so far -/
def rows (L : List (List Int)) (sm done : List Int) : List Bool := done.flatMap fun a => sm.map fun b => decide (b ∈ L.getD a.toNat [])
theorem rows_len (L : List (List Int)) (sm : List Int) : ∀ done, (rows L sm done).length = sm.length * done.length
  | [] => rfl
  | a :: r => by
    show (sm.map _ ++ rows L sm r).length = _
    rw [List.length_append, List.length_map, rows_len L sm r, List.length_cons, Nat.mul_succ]
    omega
theorem ok_stand {f fl fla fm : Addr} {fd fdl fdla fdm : FuncData} (F : Fun K "stand_together" "stand_together" sStand f fd) (T : Txt K mg) (B : TxtB K mg C)
    (GM : FnOk P w K mg base CX0 2 fm fdm ["self", "cells"] (spInit C)) (M : Mk K C fm) (bM : Binds K fdm ["self", "cells"] [])
    (GL : FnOk P w K mg base CX0 3 fla fdla ["board"] (spLeads C)) (kL : PySem.W.keepIn K (.ref fla) = true) (bL : Binds K fdla ["board"] []) (gL : mg "leads_of" = some (.ref fla)) :
    FnOk P w K mg base CX0 4 f fd ["cells", "threads"] (spStand C) := by
  refine F.ok scStand (fun vs H Q E h => ?_) (fun cdv A outer s H vs Q E hr h => ?_)
  · obtain ⟨t, ta, cs, c, sm, rfl, _⟩ := h
    rfl
  · obtain ⟨t, ta, cs, c, sm, rfl, hT, hta, hlen, hrng, q⟩ := h
    have nd := scStand.nd
    refine ⟨_, pss_cons (ps_set (i := 2) nd rfl (Or.inr rfl) (pe_lc (own := [("thread", 4)]) (g := gName 4) rfl nd (pi_tup (pv 1)) (blkOk_by (N := ["cells", "threads", "some", "told", "thread", "one", "other"]) (sc := defScope sStand) (by decide +kernel))
        (fun _ _ _ _ _ => pg_name (i := 4) nd rfl (Or.inl rfl)) (fun _ _ _ _ _ => pts_one (pt_cmp (pc_notN (pv 4)))) (fun _ _ _ _ _ => pv 4)))
      (pss_cons (ps_if (pt_cmpR op_lt (pe_callB call_len_seq (by rfl) T.len PySem.boot_len (pa_cons (pv 2) pa_nil)) pe_int (nomark _)) (pss_one (ps_ret pe_bl)) pss_nil)
      (pss_cons (ps_set (i := 3) nd rfl (Or.inr rfl) (pe_call GL hr (by rfl) gL kL bL .nil pass0 (pa_cons (pe_make M GM hr (by rfl) B.mgC bM .nil pass0 (pa_cons (pv 0) pa_nil)) pa_nil)))
      (pss_one (ps_ret (pe_callB (cr_all rfl) (by rfl) T.all (by decide +kernel) (pa_cons (pe_lc2 (own := [("one", 5), ("other", 6)]) (vs1 := [6]) (g := gName 5) (g1 := gName 6) (tt := tYes) (tt1 := tYes) rfl nd (pi_list (pv 2)) (blkOk_by (N := ["cells", "threads", "some", "told", "thread", "one", "other"]) (sc := defScope sStand) (by decide +kernel)) (by decide)
        (fun _ _ _ _ _ => pg_name (i := 5) nd rfl (Or.inl rfl)) (fun _ _ _ _ _ => pts_nil) (fun _ _ _ _ _ => (pi_list (pv 2) : PI _ _ _ (iList K (tVar 2)))) (fun _ _ _ _ _ => pg_name (i := 6) nd rfl (Or.inl rfl)) (fun _ _ _ _ _ => pts_nil)
        (fun _ _ _ _ _ => pe_cmpR (r := rIn K false) op_in_seq (pv 6) (pe_ix (r := rIxL K) ix_list (pv 3) (pv 5) (fun _ _ => rfl)) rfl)) pa_nil)))))), ?_⟩
    -- some = [thread for thread in threads if thread is not None]
    refine ⟨_, rfl, ta, rfl, ⟨_, SqT.of hta⟩, fun sa nsa => lc_all (walk_tup (xs := sm.map V.int)) (fun i acc _ => acc = (sm.take i).map V.int) nsa (fun _ _ _ _ _ a => a) (fun H' s => SqT.of (s _ _ hta)) rfl (by rw [List.length_map]; omega)
      (fun i y H2 H3 acc Kt Kf hi s1 a hy kt _ => ?_) (fun H2 acc s1 e a _ => ?_)⟩
    · obtain ⟨rfl, hy⟩ := hy
      obtain ⟨k, hk, rfl⟩ := item_of hy
      refine ⟨rfl, _, rfl, true, rfl, ?_⟩
      refine iteT ⟨_, rfl, kt _ _ (Same.refl _) ?_⟩
      rw [a, take_succ_of hk, List.map_append]
      rfl
    · rw [List.length_map, List.take_length] at a
      have hS2 : SqL K H2 sa (sm.map V.int) := SqL.of (by rw [e, a])
      refine ⟨_, rfl, sa, _, rfl, .inl hS2, _, _, rfl, rfl, _, rfl, ite2 (fun h => ?_) (fun h => ?_)⟩
      · refine q H2 true s1 ⟨fun _ => together_short ?_, fun _ => rfl⟩
        have := of_decide_eq_true h
        rw [List.length_map] at this
        omega
      · -- told = leads_of(Board(cells))
        refine ⟨_, rfl, fun x dx nx ndx nex => ⟨x, dx, t, cs, c, rfl, upd_same, ?_, fun H3 kp hB => ⟨rfl, ?_⟩⟩⟩
        · exact hT.same (s1.trans ((same_upd ndx).trans (same_upd (by rw [upd_ne nex.symm]; exact nx))))
        have s2 : Same H2 H3 := fun b o e => kp b o (ne_of_none e nx) ((same_upd ndx).trans (same_upd (by rw [upd_ne nex.symm]; exact nx)) b o e)
        refine ⟨x, t, cs, c, rfl, hB, (hT.same s1).same s2, fun H4 la Ls s3 nla hL => ?_⟩
        have s4 : Same H2 H4 := s2.trans s3
        have hS4 := s4.seq hS2
        -- all([other in told[one] for one in some for other in some])
        refine ⟨_, rfl, sa, rfl, ⟨_, hS4⟩, fun D nD => ?_⟩
        have keep : ∀ {H5 : Hp} {ys : List V}, Same H4 H5 → Same H4 (upd H5 D (.lst ys)) := fun {H5 ys} s5 b o e => by
          rw [upd_ne (ne_of_none e nD)]
          exact s5 b o e
        have hLk := hL.2
        refine ⟨fun i m H5 => Same H4 H5 ∧ i ≤ sm.length ∧ m = sm.length - i ∧ H5 D = some (.lst ((rows (Ls.map (·.2)) sm (sm.take i)).map V.bl)), ⟨_, same_upd nD, Nat.zero_le _, rfl, upd_same⟩, ?_⟩
        rintro i m H5 ⟨s5, hi, rfl, eD⟩
        by_cases hlt : i < sm.length
        · have hk : sm[i]? = some sm[i] := List.getElem?_eq_getElem hlt
          have hS5 := s5.seq hS4
          have hv : (sm.map V.int)[i]? = some (.int sm[i]) := by
            rw [List.getElem?_map, hk]
            rfl
          refine .inr ⟨⟨_, _, hS5, hv⟩, fun H' => Same H4 H' ∧ H' D = some (.lst ((rows (Ls.map (·.2)) sm (sm.take (i + 1))).map V.bl)), fun H' h => ⟨sm.length - (i + 1), by omega, h.1, hlt, rfl, h.2⟩, fun y H6 hy => ?_⟩
          obtain ⟨rfl, hy⟩ := hy
          have ey : y = .int sm[i] := Option.some.inj ((hy _ hS5).symm.trans hv)
          subst ey
          refine ⟨rfl, ?_⟩
          refine yes_if ?_
          refine ⟨_, rfl, sa, rfl, ⟨_, hS5⟩, fun j k H7 => Same H4 H7 ∧ j ≤ sm.length ∧ k = sm.length - j ∧ H7 D = some (.lst ((rows (Ls.map (·.2)) sm (sm.take i) ++ (sm.take j).map fun b => decide (b ∈ (Ls.map (·.2)).getD (sm[i]).toNat [])).map V.bl)), ⟨_, s5, Nat.zero_le _, rfl, ?_⟩, ?_⟩
          · rw [eD, List.take_zero, List.map_nil, List.append_nil]
          rintro j k H7 ⟨s7, hj, rfl, eD7⟩
          have hS7 := s7.seq hS4
          by_cases hlj : j < sm.length
          · have hkj : sm[j]? = some sm[j] := List.getElem?_eq_getElem hlj
            have hvj : (sm.map V.int)[j]? = some (.int sm[j]) := by
              rw [List.getElem?_map, hkj]
              rfl
            refine .inr ⟨⟨_, _, hS7, hvj⟩, fun H' => Same H4 H' ∧ H' D = some (.lst ((rows (Ls.map (·.2)) sm (sm.take i) ++ (sm.take (j + 1)).map fun b => decide (b ∈ (Ls.map (·.2)).getD (sm[i]).toNat [])).map V.bl)), fun H' h => ⟨sm.length - (j + 1), by omega, h.1, hlj, rfl, h.2⟩, fun y H8 hy => ?_⟩
            obtain ⟨rfl, hy⟩ := hy
            have ey : y = .int sm[j] := Option.some.inj ((hy _ hS7).symm.trans hvj)
            subst ey
            refine ⟨rfl, ?_⟩
            refine yes_if ?_
            have hr1 := hrng _ (List.getElem_mem hlt)
            obtain ⟨r, hr, er⟩ : ∃ r, Ls[(sm[i]).toNat]? = some r ∧ (Ls.map (·.2)).getD (sm[i]).toNat [] = r.2 := by
              have hll : (sm[i]).toNat < Ls.length := by
                have := hLk.1
                rw [List.length_map] at this
                omega
              refine ⟨_, List.getElem?_eq_getElem hll, ?_⟩
              rw [List.getD_eq_getElem?_getD, List.getElem?_map, List.getElem?_eq_getElem hll]
              rfl
            have hrm := List.mem_of_getElem? hr
            have hr7 := s7 _ _ (hL.1.it r hrm).2
            refine ⟨_, rfl, _, rfl, _, rfl, la, _, sm[i], .ref r.1, rfl, rfl, SqL.of (s7 _ _ hL.1.ls), at_of (j := (sm[i]).toNat) (by omega) (by rw [List.getElem?_map, hr]; rfl), r.1, _, rfl, .inl (SqL.of hr7), rfl, flat_ints r.2, _, eD7, ?_, ?_⟩
            · rw [List.length_map, List.length_append, rows_len, List.length_map, List.length_take, List.length_take]
              have h3 : sm.length * min i sm.length ≤ 20 * 20 := Nat.mul_le_mul hlen (by omega)
              exact small1000 (by omega)
            · refine ⟨keep s7, ?_⟩
              rw [upd_same, take_succ_of hkj]
              show some (HO.lst (_ ++ [V.bl (inV (.int sm[j]) (r.2.map V.int))])) = _
              rw [inV_ints, ← er]
              simp only [List.map_append, List.append_assoc, List.map_cons, List.map_nil]
          · have ej : j = sm.length := by omega
            subst ej
            refine .inl ⟨⟨_, hS7, by rw [List.length_map]; exact Nat.le_refl _⟩, s7, ?_⟩
            rw [eD7, take_succ_of hk, List.take_length]
            unfold rows
            rw [List.flatMap_append]
            simp
        · have ei : i = sm.length := by omega
          subst ei
          rw [List.take_length] at eD
          refine .inl ⟨⟨_, s5.seq hS4, by rw [List.length_map]; exact Nat.le_refl _⟩, D, _, rfl, SqL.of eD, ?_⟩
          exact q H5 _ (s1.trans (s4.trans s5)) (allTo_all hLk hrng)
end
end Wf
set_option Elab.async false
set_option linter.all false
set_option maxRecDepth 100000
set_option maxHeartbeats 4000000
namespace Wf
open PySem PySem.Spec PyProof.Rows L2
abbrev sNeedThr : Stmt := top 24
abbrev sCanStand : Stmt := top 25
abbrev sDivLot : Stmt := top 26
theorem allLots_small {n : Nat} (h : n ≤ 10) : (allLots n).length ≤ 1024 := by
  rw [allLots_len]
  exact Nat.pow_le_pow_right (by decide : 0 < 2) h
theorem filter_snd (p : List Int → Bool) (ps : List (Addr × List Int)) : (ps.filter fun q => p q.2).map Prod.snd = (ps.map Prod.snd).filter p := by
  rw [List.filter_map]
  rfl
theorem pa_starK {X : Cx} {K : PySem.W.Frag} {e : Expr} {es : List Expr} {te : TE} {t : TA} {p : Pos} (hK : X.K = K) (he : PE X e te) (hr : PA X es t) (hs : starEach (.Starred e p :: es) X.env = (true, eval e X.env) :: starEach es X.env := by rfl) : PA X (.Starred e p :: es) (StX.tStar K te t) := by
  subst hK
  exact StX.pa_star he hr hs
section
variable {P : Program} {w : World} {K : PySem.W.Frag} {mg : Str → Option Value} {base : Heap} {C : Addr}
/-! ### all_lots -/
def spAllLots : Sp := fun vs H Q _ => ∃ n : Nat, vs = [.int (n : Int)] ∧ n ≤ 10 ∧ ∀ H' p ps, Same H H' → H p = none → LotsAt H' p ps → ps.map Prod.snd = allLots n → Q (.ref p) H'
theorem scAllLots : FnScope ["many", "found", "thread", "lot"] ["many"] (defScope sAllLots) := ⟨rfl, rfl, rfl, by decide +kernel, rfl, by decide +kernel, by decide +kernel⟩
theorem ok_allLots {f : Addr} {fd : FuncData} (F : Fun K "all_lots" "all_lots" sAllLots f fd) (T : Txt K mg) : FnOk P w K mg base CX0 1 f fd ["many"] spAllLots := by
  refine F.ok scAllLots (fun vs H Q E h => ?_) (fun cdv A outer s H vs Q E hr h => ?_)
  · obtain ⟨n, rfl, _⟩ := h
    rfl
  · obtain ⟨n, rfl, hn, q⟩ := h
    have nd := scAllLots.nd
    refine ⟨_, pss_cons (ps_set (i := 1) nd rfl (Or.inl rfl) (pe_lst (pa_cons (pe_tup pa_nil) pa_nil)))
      (pss_cons (ps_for PassesOwn.never rfl (pi_range1 (by rfl) T.range (pa_cons (pv 0) pa_nil)) (pg_name (i := 2) nd rfl (Or.inr rfl))
        (pss_one (ps_set (i := 1) nd rfl (Or.inl rfl) (pe_op op_cat (pv 1) (pe_lc (own := [("lot", 3)]) (g := gName 3) (tt := tYes) rfl nd (pi_list (pv 1)) (blkOk_by (N := ["many", "found", "thread", "lot"]) (sc := defScope sAllLots) (by decide +kernel))
          (fun _ _ _ _ _ => pg_name (i := 3) nd rfl (Or.inl rfl)) (fun _ _ _ _ _ => pts_nil) (fun _ _ _ _ _ => pe_tup (pa_starK (K := K) rfl (pv 3) (pa_cons (pv 2) pa_nil))))))))
      (pss_one (ps_ret (pv 1)))), ?_⟩
    refine ⟨Nat.zero_le _, fun e ne => ⟨by show 1 ≤ sizeLine; decide, fun f0 nf0 => ?_⟩⟩
    have s1 : Same H (upd (upd H e (.tup [])) f0 (.lst [.ref e])) := (same_upd ne).trans (same_upd nf0)
    refine ⟨_, rfl, _, rfl, by omega, by omega, ?_⟩
    rw [Int.toNat_natCast]
    refine for_range (fun i σ H2 => ∃ p ps v2 v3, σ = [some (.int (n : Int)), some (.ref p), v2, v3] ∧ Same H H2 ∧ H p = none ∧ LotsAt H2 p ps ∧ ps.map Prod.snd = allLots i)
      ⟨f0, [(e, [])], none, none, rfl, s1, (same_upd ne).free nf0, ⟨upd_same, fun r hr => ?_⟩, rfl⟩ (fun i σ H2 hi hP => ?_) (fun σ H2 hP => ?_)
    · rw [List.mem_singleton.mp hr]
      exact same_upd nf0 _ _ upd_same
    · obtain ⟨p, ps, v2, v3, rfl, s2, np, LA, ep⟩ := hP
      rw [Int.zero_add]
      have hl : ps.length ≤ 1024 := by
        have := allLots_small (show i ≤ 10 by omega)
        rw [← ep, List.length_map] at this
        exact this
      refine ⟨_, rfl, _, rfl, p, rfl, ⟨_, SqL.of LA.ls⟩, fun D nD => lc_map (walk_list (xs := ps.map fun q => V.ref q.1)) (fun k acc H3 => ∃ qs : List (Addr × List Int), acc = qs.map (fun q => V.ref q.1) ∧ qs.map Prod.snd = (ps.take k).map (fun q => q.2 ++ [(i : Int)]) ∧ ∀ r ∈ qs, H3 r.1 = some (.tup (r.2.map V.int))) nD
        (fun k acc H3 H4 st ⟨qs, e1, e2, e3⟩ => ⟨qs, e1, e2, fun r hr => st _ _ (e3 r hr)⟩) (fun H' s => SqL.of (s _ _ LA.ls)) ⟨[], rfl, rfl, fun r hr => absurd hr List.not_mem_nil⟩ (by rw [List.length_map]; omega) (fun k y H3 H4 acc Kt hk s3 a hy kt => ?_) (fun H3 acc s3 e3 a _ => ?_) gName_mono⟩
      · obtain ⟨rfl, hy⟩ := hy
        obtain ⟨r, hr, rfl⟩ := item_of hy
        obtain ⟨qs, rfl, e2, e3⟩ := a
        have hrt := s3 _ _ (LA.it r (List.mem_of_getElem? hr))
        have hasc := allLots_asc i r.2 (by rw [← ep]; exact List.mem_map.mpr ⟨r, List.mem_of_getElem? hr, rfl⟩)
        have hrl : r.2.length ≤ i := nodup_le i r.2 (hasc.1.imp fun h => Int.ne_of_lt h) hasc.2
        refine ⟨rfl, _, rfl, r.1, _, rfl, .inl (SqT.of hrt), _, rfl, ?_, fun q nq => kt _ _ (same_upd nq) ⟨qs ++ [(q, r.2 ++ [(i : Int)])], by rw [List.map_append]; rfl, ?_, fun u hu => ?_⟩⟩
        · rw [List.length_append, List.length_map]
          show r.2.length + 1 ≤ sizeLine
          exact Nat.le_of_lt (small1000 (by omega))
        · rw [List.map_append, e2, take_succ_of hr, List.map_append]
          rfl
        · rcases List.mem_append.mp hu with hu | hu
          · exact same_upd nq _ _ (e3 u hu)
          · rw [List.mem_singleton.mp hu]
            show (upd H4 q _) q = _
            rw [upd_same, List.map_append]
            rfl
      · obtain ⟨qs, rfl, e2, e4⟩ := a
        rw [List.length_map, List.take_length] at e2
        have hql : qs.length = ps.length := by
          have := congrArg List.length e2
          rw [List.length_map, List.length_map] at this
          exact this
        have LA3 := LA.same s3
        refine ⟨p, D, _, _, rfl, rfl, LA3.ls, e3, ?_, fun p2 np2 => ?_⟩
        · rw [List.length_map, List.length_map, hql]
          exact Nat.le_of_lt (Nat.lt_of_le_of_lt (show ps.length + ps.length ≤ 2048 by omega) (by decide))
        · refine ⟨p2, ps ++ qs, _, _, rfl, s2.trans (s3.trans (same_upd np2)), (s2.trans s3).free np2, ⟨?_, fun r hr => ?_⟩, ?_⟩
          · rw [upd_same, List.map_append]
          · rcases List.mem_append.mp hr with hr | hr
            · exact same_upd np2 _ _ (LA3.it r hr)
            · exact same_upd np2 _ _ (e4 r hr)
          · rw [List.map_append, e2, ep]
            show allLots i ++ _ = allLots i ++ (allLots i).map (· ++ [(i : Int)])
            rw [← ep, List.map_map]
            rfl
    · obtain ⟨p, ps, v2, v3, rfl, s2, np, LA, ep⟩ := hP
      exact ⟨_, rfl, q H2 p ps s2 np LA ep⟩
end
end Wf
set_option Elab.async false
set_option linter.all false
set_option maxRecDepth 100000
set_option maxHeartbeats 4000000
namespace Wf
open PySem PySem.Spec PyProof.Rows L2
open PySem.W (dataLe)
theorem sort_snd (ps : List (Addr × List Int)) : (ps.mergeSort (dataLe false fun p => keyD p.2)).map Prod.snd = (ps.map Prod.snd).mergeSort leL := PySem.W.sort_maps Prod.snd fun _ _ _ _ => rfl
section
variable {P : Program} {w : World} {K : PySem.W.Frag} {mg : Str → Option Value} {base : Heap} {C : Addr}
/-! ### all_closed -/
def spClosed (C : Addr) : Sp := fun vs H Q _ => ∃ x t cs c, vs = [.ref x] ∧ BoardAt C H x t ∧ TabAt H t cs c ∧ ∀ H' p ps, Same H H' → H p = none → LotsAt H' p ps → ps.map Prod.snd = closed (stps cs c) (cs.length + c) → Q (.ref p) H'
theorem scClosed : FnScope ["board", "told", "lot"] ["board"] (defScope sAllClosed) := ⟨rfl, rfl, rfl, by decide +kernel, rfl, by decide +kernel, by decide +kernel⟩
theorem ok_allClosed {f fl fa fs fo fc : Addr} {fd fdl fda fds fdo fdc : FuncData} (F : Fun K "all_closed" "all_closed" sAllClosed f fd) (T : Txt K mg) (B : TxtB K mg C) (L : LenB K mg C fl fdl)
    (GA : FnOk P w K mg base CX0 1 fa fda ["board"] (spSteps C)) (kA : PySem.W.keepIn K (.ref fa) = true) (bA : Binds K fda ["board"] []) (gA : mg "all_steps" = some (.ref fa))
    (GO : FnOk P w K mg base CX0 1 fo fdo ["many"] spAllLots) (kO : PySem.W.keepIn K (.ref fo) = true) (bO : Binds K fdo ["many"] []) (gO : mg "all_lots" = some (.ref fo))
    (GC : FnOk P w K mg base CX0 1 fc fdc ["told", "lot"] spCloses) (kC : PySem.W.keepIn K (.ref fc) = true) (bC : Binds K fdc ["told", "lot"] []) (gC : mg "closes" = some (.ref fc))
    (FS : Fun K "sized" "sized" sSized fs fds) (gS : mg "sized" = some (.ref fs)) : FnOk P w K mg base CX0 3 f fd ["board"] (spClosed C) := by
  have GL : FnOk P w K mg base CX0 1 fl fdl ["self"] (spLen C) := ok_len L.fn T B
  refine F.ok scClosed (fun vs H Q E h => ?_) (fun cdv A outer s H vs Q E hr h => ?_)
  · obtain ⟨x, t, cs, c, rfl, _⟩ := h
    rfl
  · obtain ⟨x, t, cs, c, rfl, hB, hT, q⟩ := h
    have nd := scClosed.nd
    have ok := hT.ok
    have r5 := ok.r5
    have c5 := ok.c5
    have hr1 := hr.mono (show 1 ≤ 2 by decide)
    refine ⟨_, pss_cons (ps_set (i := 1) nd rfl (Or.inr rfl) (pe_call GA hr1 (by rfl) gA kA bA .nil pass0 (pa_cons (pv 0) pa_nil)))
      (pss_one (ps_ret (pe_callBK (cr_srtK FS T.len hr) (by rfl) T.sorted (by decide +kernel) (pa_cons (pe_lc (own := [("lot", 2)]) (g := gName 2) rfl nd
          (pi_list (pe_call GO hr1 (by rfl) gO kO bO .nil pass0 (pa_cons (pe_callB (call_lenOwn B.cl L.at_ L.is GL hr L.bi .nil pass0) (by rfl) T.len PySem.boot_len (pa_cons (pv 0) pa_nil)) pa_nil)))
          (blkOk_by (N := ["board", "told", "lot"]) (sc := defScope sAllClosed) (by decide +kernel)) (fun _ _ _ _ _ => pg_name (i := 2) nd rfl (Or.inl rfl))
          (fun _ _ _ _ _ => pts_one (pt_val (pe_call GC hr1 (by rfl) gC kC bC .nil pass0 (pa_cons (pv 1) (pa_cons (pv 2) pa_nil))))) (fun _ _ _ _ _ => pv 2)) pa_nil)
        (pk_cons (pe_glob (v := .ref fs) (by rfl) gS rfl) pk_nil)))), ?_⟩
    refine ⟨_, rfl, x, t, cs, c, rfl, hB, hT, fun H1 tl ps s1 ntl pT hperm => ?_⟩
    obtain ⟨dx, hx⟩ := hB.same s1
    have hpl : ps.length ≤ 50 := by
      have := hperm.length_eq
      rw [List.length_map] at this
      rw [this]
      exact stps_len ok
    refine ⟨_, rfl, x, dx, _, rfl, hx, x, t, cs, c, rfl, hB.same s1, hT.same s1, fun H2 s2 => ⟨_, rfl, by omega, by omega, _, rfl, by omega, fun H3 p qs s3 np LA eq => ?_⟩⟩
    have hql : qs.length ≤ 1024 := by
      have := allLots_small (show cs.length + c ≤ 10 by omega)
      rw [← eq, List.length_map] at this
      exact this
    have pT3 := pT.same (s2.trans s3)
    refine ⟨p, rfl, ⟨_, SqL.of LA.ls⟩, fun D nD => lc_all (walk_list (xs := qs.map fun q => V.ref q.1)) (fun k acc _ => acc = ((qs.take k).filter fun q => closB (ps.map Prod.snd) q.2).map fun q => V.ref q.1) nD (fun _ _ _ _ _ a => a) (fun H' s => SqL.of (s _ _ LA.ls)) rfl (by rw [List.length_map]; omega)
      (fun k y H4 H5 acc Kt Kf hk s4 a hy kt kf => ?_) (fun H4 acc s4 e4 a _ => ?_)⟩
    · obtain ⟨rfl, hy⟩ := hy
      obtain ⟨r, hr, rfl⟩ := item_of hy
      refine ⟨rfl, _, rfl, _, rfl, tl, r.1, ps, r.2, rfl, pT3.same s4, s4 _ _ (LA.it r (List.mem_of_getElem? hr)), by omega, fun H6 s6 => ⟨_, rfl, ?_⟩⟩
      have ea : ((qs.take (k + 1)).filter fun q => closB (ps.map Prod.snd) q.2).map (fun q => V.ref q.1) = acc ++ (if closB (ps.map Prod.snd) r.2 = true then [V.ref r.1] else []) := by
        rw [a, take_succ_of hr, List.filter_append, List.map_append, List.filter_cons, List.filter_nil]
        split <;> rfl
      refine ite2 (fun h => ?_) (fun h => ?_)
      · refine ⟨_, rfl, kt _ _ s6 ?_⟩
        rw [ea, if_pos h]
      · refine kf _ s6 ?_
        rw [ea, if_neg h, List.append_nil]
    · rw [List.length_map, List.take_length] at a
      have LA4 := LA.same s4
      refine ⟨D, qs.filter fun q => closB (ps.map Prod.snd) q.2, rfl, rfl, SqL.of (by rw [e4, a]), fun r hr => SqT.of (LA4.it r (List.mem_filter.mp hr).1), fun z nz => ?_⟩
      have sz := s1.trans (s2.trans (s3.trans (s4.trans (same_upd nz (o := .lst (((qs.filter fun q => closB (ps.map Prod.snd) q.2).mergeSort (dataLe false fun p => keyD p.2)).map fun p => V.ref p.1))))))
      refine q _ z _ sz (s1.free (s2.free (s3.free (s4.free nz)))) ⟨upd_same, fun r hr => ?_⟩ ?_
      · have hm := (List.mergeSort_perm _ _).mem_iff.mp hr
        exact same_upd nz _ _ (LA4.it r (List.mem_filter.mp hm).1)
      · rw [sort_snd, filter_snd (closB (ps.map Prod.snd)), eq]
        unfold closed
        congr 1
        congr 1
        funext l
        exact closB_perm hperm l
/-! ### need_threads -/
def spNT (C : Addr) : Sp := fun vs H Q _ => ∃ x t ta cs c, ∃ sm : List Int, vs = [.ref x, .ref ta] ∧ BoardAt C H x t ∧ TabAt H t cs c ∧ H ta = some (.tup (sm.map V.int)) ∧ Asc (cs.length + c) sm ∧ ∀ H', Same H H' → Q .non H'
theorem asc_len {n : Nat} {sm : List Int} (h : Asc n sm) : sm.length ≤ n := nodup_le n sm (h.1.imp fun q => Int.ne_of_lt q) h.2
theorem scNT : FnScope ["board", "threads", "one", "at"] ["board", "threads"] (defScope sNeedThr) := ⟨rfl, rfl, rfl, by decide +kernel, rfl, by decide +kernel, by decide +kernel⟩
theorem ok_needThr {f fb fi : Addr} {fd fdb fdi : FuncData} (F : Fun K "need_threads" "need_threads" sNeedThr f fd) (T : Txt K mg)
    (GB : FnOk P w K mg base CX0 1 fb fdb ["board"] (spNB C)) (kB : PySem.W.keepIn K (.ref fb) = true) (bB : Binds K fdb ["board"] []) (gB : mg "need_board" = some (.ref fb))
    (GI : FnOk P w K mg base CX0 3 fi fdi ["board", "value"] (spIsThr C)) (kI : PySem.W.keepIn K (.ref fi) = true) (bI : Binds K fdi ["board", "value"] []) (gI : mg "is_thread" = some (.ref fi)) :
    FnOk P w K mg base CX0 4 f fd ["board", "threads"] (spNT C) := by
  refine F.ok scNT (fun vs H Q E h => ?_) (fun cdv A outer s H vs Q E hr h => ?_)
  · obtain ⟨x, t, ta, cs, c, sm, rfl, _⟩ := h
    rfl
  · obtain ⟨x, t, ta, cs, c, sm, rfl, hB, hT, hta, hA, q⟩ := h
    have nd := scNT.nd
    have ok := hT.ok
    have r5 := ok.r5
    have c5 := ok.c5
    have hl := asc_len hA
    have hml : (sm.map V.int).length = sm.length := List.length_map ..
    refine ⟨_, pss_cons (ps_expr (pe_call GB (hr.mono (by decide)) (by rfl) gB kB bB .nil pass0 (pa_cons (pv 0) pa_nil)))
      (pss_cons (ps_if (PW.pt (pw_or (pt_not (pt_val (pe_callB call_isi (by rfl) T.isi (by decide +kernel) (pa_cons (pv 1) (pa_cons (bt "tuple" (by rfl) T.tuple (by decide +kernel)) pa_nil)))))
        (pw_or1 (pt_not (pt_val (pe_callB (cr_all rfl) (by rfl) T.all (by decide +kernel) (pa_cons (pe_lc (own := [("one", 2)]) (g := gName 2) (tt := tYes) rfl nd (pi_tup (pv 1)) (blkOk_by (N := ["board", "threads", "one", "at"]) (sc := defScope sNeedThr) (by decide +kernel))
          (fun _ _ _ _ _ => pg_name (i := 2) nd rfl (Or.inl rfl)) (fun _ _ _ _ _ => pts_nil) (fun _ _ _ _ _ => pe_call GI hr (by rfl) gI kI bI .nil pass0 (pa_cons (pv 0) (pa_cons (pv 2) pa_nil)))) pa_nil))))))) (pss_one ps_never) pss_nil)
      (pss_one (ps_if (pt_not (pt_val (pe_callB (cr_all rfl) (by rfl) T.all (by decide +kernel) (pa_cons (pe_lc (own := [("at", 3)]) (g := gName 3) (tt := tYes) rfl nd (pi_range2 (by rfl) T.range (pa_cons pe_int (pa_cons (pe_callB call_len_seq (by rfl) T.len PySem.boot_len (pa_cons (pv 1) pa_nil)) pa_nil)))
          (blkOk_by (N := ["board", "threads", "one", "at"]) (sc := defScope sNeedThr) (by decide +kernel)) (fun _ _ _ _ _ => pg_name (i := 3) nd rfl (Or.inl rfl)) (fun _ _ _ _ _ => pts_nil)
          (fun _ _ _ _ _ => pe_cmpR op_lt (pe_ix (r := rIxT K) ix_tup (pv 1) (pe_op op_sub (pv 3) pe_int) (fun _ _ => rfl)) (pe_ix (r := rIxT K) ix_tup (pv 1) (pv 3) (fun _ _ => rfl)) (nomark _))) pa_nil)))) (pss_one ps_never) pss_nil))), ?_⟩
    refine ⟨_, rfl, x, t, rfl, hB, ?_⟩
    refine ⟨_, rfl, _, _, _, _, _, rfl, .ty _, .base (.tup hta), kit_ty (by decide +kernel), true, rfl, iteF ?_⟩
    -- all are threads
    refine ⟨_, rfl, ta, rfl, ⟨_, SqT.of hta⟩, fun D hD => lc_map (walk_tup (xs := sm.map V.int)) (fun i acc _ => acc = List.replicate i (V.bl true)) hD (fun _ _ _ _ _ a => a) (fun H' s => SqT.of (s _ _ hta)) rfl (by omega) (fun i y H2 H3 acc Kt hi s1 a hy kt => ?_) (fun H2 acc s1 e a _ => ?_) gName_mono⟩
    · obtain ⟨rfl, hy⟩ := hy
      obtain ⟨k, hk, rfl⟩ := item_of hy
      refine ⟨rfl, _, rfl, _, rfl, x, t, cs, c, k, rfl, hB.same s1, hT.same s1, fun H4 s4 => kt _ _ s4 ?_⟩
      rw [a, List.replicate_succ', decide_eq_true (hA.2 k (List.mem_of_getElem? hk))]
    · refine ⟨D, List.replicate sm.length true, rfl, SqL.of (by rw [e, a, hml, List.map_replicate]), true, ?_, iteF ?_⟩
      · rw [List.all_replicate]
        split <;> rfl
      have hta2 := s1 _ _ hta
      -- they ascend
      refine ⟨_, rfl, ta, _, rfl, .inr (SqT.of hta2), _, _, rfl, by omega, fun D2 hD2 => lc_map walk_range (fun i acc _ => acc = List.replicate i (V.bl true)) hD2 (fun _ _ _ _ _ a => a) (fun _ _ => trivial) rfl (by omega) (fun i y H3 H4 acc2 Kt hi s2 a2 hy kt => ?_) (fun H3 acc2 s2 e2 a2 _ => ?_) gName_mono⟩
      · obtain ⟨rfl, rfl⟩ := hy
        have hi1 : i + 1 < sm.length := by omega
        have g0 : (sm.map V.int)[i]? = some (.int sm[i]) := by
          rw [List.getElem?_map, List.getElem?_eq_getElem (by omega)]
          rfl
        have g1 : (sm.map V.int)[i + 1]? = some (.int sm[i + 1]) := by
          rw [List.getElem?_map, List.getElem?_eq_getElem hi1]
          rfl
        have hta3 := s2 _ _ hta2
        have hlt : sm[i] < sm[i + 1] := List.pairwise_iff_getElem.mp hA.1 i (i + 1) (by omega) hi1 (by omega)
        refine ⟨rfl, _, rfl, _, rfl, _, _, rfl, rfl, ta, _, _, _, rfl, rfl, SqT.of hta3, at_of (j := i) (by omega) g0, _, rfl, _, rfl, ta, _, _, _, rfl, rfl, SqT.of hta3, at_of (j := i + 1) (by omega) g1, _, _, rfl, rfl, kt _ _ (Same.refl _) ?_⟩
        show acc2 ++ [V.bl (decide (sm[i] < sm[i + 1]))] = _
        rw [a2, List.replicate_succ', decide_eq_true hlt]
      · refine ⟨D2, List.replicate _ true, rfl, SqL.of (by rw [e2, a2, List.map_replicate]), true, ?_, iteF (q _ (s1.trans s2))⟩
        rw [List.all_replicate]
        split <;> rfl
end
end Wf
set_option Elab.async false
set_option linter.all false
set_option maxRecDepth 100000
set_option maxHeartbeats 4000000
namespace Wf
open PySem PySem.Spec PyProof.Rows L2
def DivRes (H : Hp) (v : V) : Option (List Int) → Prop
  | none => v = .non
  | some l => ∃ a, v = .ref a ∧ H a = some (.tup (l.map V.int))
section
variable {P : Program} {w : World} {K : PySem.W.Frag} {mg : Str → Option Value} {base : Heap} {C : Addr}
/-! ### can_stand -/
def spCan (C : Addr) : Sp := fun vs H Q _ => ∃ x t ta cs c, ∃ sm : List Int, vs = [.ref x, .ref ta] ∧ BoardAt C H x t ∧ TabAt H t cs c ∧ H ta = some (.tup (sm.map V.int)) ∧ Asc (cs.length + c) sm ∧ ∀ H' b, Same H H' → (b = true ↔ Together (stps cs c) sm) → Q (.bl b) H'
theorem scCan : FnScope ["board", "threads"] ["board", "threads"] (defScope sCanStand) := ⟨rfl, rfl, rfl, by decide +kernel, rfl, by decide +kernel, by decide +kernel⟩
theorem ok_can {f fn fs fc pc : Addr} {fd fdn fds fdc : FuncData} (F : Fun K "can_stand" "can_stand" sCanStand f fd) (B : TxtB K mg C)
    (GN : FnOk P w K mg base CX0 4 fn fdn ["board", "threads"] (spNT C)) (kN : PySem.W.keepIn K (.ref fn) = true) (bN : Binds K fdn ["board", "threads"] []) (gN : mg "need_threads" = some (.ref fn))
    (GS : FnOk P w K mg base CX0 4 fs fds ["cells", "threads"] (spStand C)) (kS : PySem.W.keepIn K (.ref fs) = true) (bS : Binds K fds ["cells", "threads"] []) (gS : mg "stand_together" = some (.ref fs))
    (GC : FnOk P w K mg base CX0 1 fc fdc ["self"] (spCells C)) (bC : Binds K fdc ["self"] []) (hp : PropOf K C "cells" pc fc) : FnOk P w K mg base CX0 5 f fd ["board", "threads"] (spCan C) := by
  refine F.ok scCan (fun vs H Q E h => ?_) (fun cdv A outer s H vs Q E hr h => ?_)
  · obtain ⟨x, t, ta, cs, c, sm, rfl, _⟩ := h
    rfl
  · obtain ⟨x, t, ta, cs, c, sm, rfl, hB, hT, hta, hA, q⟩ := h
    have ok := hT.ok
    have r5 := ok.r5
    have c5 := ok.c5
    have hl := asc_len hA
    refine ⟨_, pss_cons (ps_expr (pe_call GN hr (by rfl) gN kN bN .nil pass0 (pa_cons (pv 0) (pa_cons (pv 1) pa_nil))))
      (pss_one (ps_ret (pe_call GS hr (by rfl) gS kS bS .nil pass0 (pa_cons (pe_prop (pv 0) B.cl hp GC (hr.mono (by decide)) bC .nil pass0 (by rfl)) (pa_cons (pv 1) pa_nil))))), ?_⟩
    refine ⟨_, rfl, _, rfl, x, t, ta, cs, c, sm, rfl, hB, hT, hta, hA, fun H1 s1 => ?_⟩
    obtain ⟨dx, hx⟩ := hB.same s1
    exact ⟨_, rfl, x, dx, _, rfl, hx, x, t, rfl, hB.same s1, _, rfl, t, ta, cs, c, sm, rfl, hT.same s1, s1 _ _ hta, by omega, hA.2, fun H' b s' hb => q H' b (s1.trans s') hb⟩
/-! ### dividing_lot -/
def spDiv (C : Addr) : Sp := fun vs H Q _ => ∃ x t ta cs c, ∃ sm : List Int, vs = [.ref x, .ref ta] ∧ BoardAt C H x t ∧ TabAt H t cs c ∧ H ta = some (.tup (sm.map V.int)) ∧ Asc (cs.length + c) sm ∧
  ∀ H' v, Same H H' → DivRes H' v ((closed (stps cs c) (cs.length + c)).find? (divB sm)) → Q v H'
theorem scDiv : FnScope ["board", "threads", "lot", "some", "one"] ["board", "threads"] (defScope sDivLot) := ⟨rfl, rfl, rfl, by decide +kernel, rfl, by decide +kernel, by decide +kernel⟩
theorem ok_div {f fn fc : Addr} {fd fdn fdc : FuncData} (F : Fun K "dividing_lot" "dividing_lot" sDivLot f fd) (T : Txt K mg)
    (GN : FnOk P w K mg base CX0 4 fn fdn ["board", "threads"] (spNT C)) (kN : PySem.W.keepIn K (.ref fn) = true) (bN : Binds K fdn ["board", "threads"] []) (gN : mg "need_threads" = some (.ref fn))
    (GC : FnOk P w K mg base CX0 3 fc fdc ["board"] (spClosed C)) (kC : PySem.W.keepIn K (.ref fc) = true) (bC : Binds K fdc ["board"] []) (gC : mg "all_closed" = some (.ref fc)) : FnOk P w K mg base CX0 5 f fd ["board", "threads"] (spDiv C) := by
  refine F.ok scDiv (fun vs H Q E h => ?_) (fun cdv A outer s H vs Q E hr h => ?_)
  · obtain ⟨x, t, ta, cs, c, sm, rfl, _⟩ := h
    rfl
  · obtain ⟨x, t, ta, cs, c, sm, rfl, hB, hT, hta, hA, q⟩ := h
    have nd := scDiv.nd
    have ok := hT.ok
    have r5 := ok.r5
    have c5 := ok.c5
    have hl := asc_len hA
    have hu64 := hr.units
    refine ⟨_, pss_cons (ps_expr (pe_call GN hr (by rfl) gN kN bN .nil pass0 (pa_cons (pv 0) (pa_cons (pv 1) pa_nil))))
      (pss_cons (ps_for PassesOwn.never rfl (pi_list (pe_call GC (hr.mono (by decide)) (by rfl) gC kC bC .nil pass0 (pa_cons (pv 0) pa_nil))) (pg_name (i := 2) nd rfl (.inr rfl))
        (pss_cons (ps_setLc (i := 3) (own := [("one", 4)]) (g := gName 4) rfl nd rfl rfl (sw_true rfl rfl rfl (by decide +kernel)) (pi_tup (pv 1)) (blkOk_by (N := ["board", "threads", "lot", "some", "one"]) (sc := defScope sDivLot) (by decide +kernel))
          (fun _ _ _ _ _ => pg_name (i := 4) nd rfl (Or.inl rfl)) (fun _ _ _ _ _ => pts_one (pt_cmpR (r := rIn K false) op_in_seq (pv 4) (pv 2) rfl)) (fun _ _ _ _ _ => pv 4))
        (pss_one (ps_if (PW.pt (pw_and (pt_cmpR (op_neD hu64) (pv 3) (pe_lst pa_nil) (nomark _)) (pw_and1 (pt_cmpR op_lt (pe_callB call_len_seq (by rfl) T.len PySem.boot_len (pa_cons (pv 3) pa_nil)) (pe_callB call_len_seq (by rfl) T.len PySem.boot_len (pa_cons (pv 1) pa_nil)) (nomark _)))))
          (pss_one (ps_ret (pv 2))) pss_nil))))
      (pss_one (ps_ret pe_non))), ?_⟩
    refine ⟨_, rfl, _, rfl, x, t, ta, cs, c, sm, rfl, hB, hT, hta, hA, fun H1 s1 => ?_⟩
    refine ⟨_, rfl, x, t, cs, c, rfl, hB.same s1, hT.same s1, fun H2 p ps s2 np LA ep => ⟨p, rfl, ⟨_, SqL.of LA.ls⟩, ?_⟩⟩
    have hta2 := s2 _ _ (s1 _ _ hta)
    rw [← ep] at q
    refine for_it (walk_list (xs := ps.map fun q => V.ref q.1)) (fun i σ H3 => ∃ v2 v3 v4, σ = [some (.ref x), some (.ref ta), v2, v3, v4] ∧ Same H2 H3 ∧ ∀ r ∈ ps.take i, divB sm r.2 = false)
      ⟨none, none, none, rfl, Same.refl _, fun r hr => absurd hr (by simp)⟩ (fun i σ H3 _ ⟨_, _, _, _, s3, _⟩ => SqL.of (s3 _ _ LA.ls)) (fun i y σ H3 H4 hi hP hy => ?_) (fun σ H3 hP => ?_)
    · obtain ⟨v2, v3, v4, rfl, s3, hno⟩ := hP
      obtain ⟨rfl, hy⟩ := hy
      obtain ⟨r, hr, rfl⟩ := item_of hy
      have hta3 := s3 _ _ hta2
      have hrt := s3 _ _ (LA.it r (List.mem_of_getElem? hr))
      -- some = [one for one in threads if one in lot]
      refine ⟨_, rfl, ta, rfl, ⟨_, SqT.of hta3⟩, fun D nD => lc_all (walk_tup (xs := sm.map V.int)) (fun k acc _ => acc = ((sm.take k).filter fun k => decide (k ∈ r.2)).map V.int) nD (fun _ _ _ _ _ a => a) (fun H' s => SqT.of (s _ _ hta3)) rfl (by rw [List.length_map]; omega)
        (fun k y H5 H6 acc Kt Kf hk s5 a hy kt kf => ?_) (fun H5 acc s5 e5 a _ => ?_)⟩
      · obtain ⟨rfl, hy⟩ := hy
        obtain ⟨z, hz, rfl⟩ := item_of hy
        refine ⟨rfl, _, rfl, _, rfl, r.1, _, rfl, .inr (SqT.of (s5 _ _ hrt)), rfl, flat_ints r.2, _, rfl, ?_⟩
        show if inV (.int z) (r.2.map V.int) = true then _ else _
        rw [inV_ints]
        have ea : ((sm.take (k + 1)).filter fun k => decide (k ∈ r.2)).map V.int = acc ++ (if decide (z ∈ r.2) = true then [V.int z] else []) := by
          rw [a, take_succ_of hz, List.filter_append, List.map_append, List.filter_cons, List.filter_nil]
          split <;> rfl
        refine ite2 (fun h => ?_) (fun h => ?_)
        · refine ⟨_, rfl, kt _ _ (Same.refl _) ?_⟩
          rw [ea, if_pos h]
        · refine kf _ (Same.refl _) ?_
          rw [ea, if_neg h, List.append_nil]
      · rw [List.length_map, List.take_length] at a
        have hD5 : SqL K H5 D ((inside sm r.2).map V.int) := SqL.of (by rw [e5, a]; rfl)
        have hps : ps.map Prod.snd = (ps.take i).map Prod.snd ++ r.2 :: (ps.drop (i + 1)).map Prod.snd := by
          obtain ⟨hlt, e⟩ := List.getElem?_eq_some_iff.mp hr
          have h1 : ps = ps.take i ++ r :: ps.drop (i + 1) := by
            rw [← e, ← List.drop_eq_getElem_cons hlt, List.take_append_drop]
          exact (congrArg (List.map Prod.snd) h1).trans (by rw [List.map_append]; rfl)
        refine ⟨_, rfl, Nat.zero_le _, fun l nl => neI ((same_upd nl).seq hD5) (SqL.of upd_same) ⟨_, rfl, ?_⟩⟩
        have s6 : Same H2 (upd H5 l (.lst [])) := s3.trans (s5.trans (same_upd nl))
        have next : divB sm r.2 = false → ∀ u ∈ ps.take (i + 1), divB sm u.2 = false := fun h u hu => by
          rw [take_succ_of hr] at hu
          rcases List.mem_append.mp hu with hu | hu
          · exact hno u hu
          · rw [List.mem_singleton.mp hu]
            exact h
        by_cases h0 : inside sm r.2 = []
        · refine iteKF (by rw [h0]; rfl) (iteF ⟨_, _, _, rfl, s6, next ?_⟩)
          unfold divB
          rw [decide_eq_true h0]
          rfl
        · have hl0 : (inside sm r.2).length ≠ 0 := fun e => h0 (List.length_eq_zero_iff.mp e)
          refine iteK (by rw [decide_eq_false hl0]; rfl) ?_
          refine ⟨_, rfl, D, _, rfl, .inl ((same_upd nl).seq hD5), _, rfl, ta, _, rfl, .inr (SqT.of (s6 _ _ hta2)), _, _, rfl, rfl, _, rfl, ite2 (fun h => ?_) (fun h => ?_)⟩
          · have h := of_decide_eq_true h
            rw [List.length_map, List.length_map] at h
            refine ⟨_, rfl, q _ _ (s1.trans (s2.trans s6)) ?_⟩
            have hd : divB sm r.2 = true := by
              unfold divB
              rw [decide_eq_false h0, decide_eq_true (by omega)]
              rfl
            have hf : (ps.map Prod.snd).find? (divB sm) = some r.2 := by
              rw [List.find?_eq_some_iff_append]
              refine ⟨hd, _, _, hps, fun u hu => ?_⟩
              obtain ⟨v, hv, rfl⟩ := List.mem_map.mp hu
              rw [hno v hv]
              rfl
            rw [hf]
            exact ⟨r.1, rfl, s6 _ _ (LA.it r (List.mem_of_getElem? hr))⟩
          · have h : ¬ (inside sm r.2).length < sm.length := fun z => h (decide_eq_true (by rw [List.length_map, List.length_map]; omega))
            refine ⟨_, _, _, rfl, s6, next ?_⟩
            unfold divB
            rw [decide_eq_false h, Bool.and_false]
    · obtain ⟨v2, v3, v4, rfl, s3, hno⟩ := hP
      refine q H3 .non (s1.trans (s2.trans s3)) ?_
      have hf : (ps.map Prod.snd).find? (divB sm) = none := by
        rw [List.find?_eq_none]
        intro u hu
        obtain ⟨v, hv, rfl⟩ := List.mem_map.mp hu
        rw [List.length_map, List.take_length] at hno
        rw [hno v hv]
        decide
      rw [hf]
      rfl
end
end Wf
set_option Elab.async false
set_option linter.all false
set_option maxRecDepth 100000
set_option maxHeartbeats 4000000
namespace Wf
open PySem PySem.Spec PyProof.Rows L2
abbrev sTaken : Stmt := top 28
abbrev sPick : Stmt := top 29
abbrev sLCells : Stmt := top 30
theorem SameBut.refl (r : Addr) (H : Hp) : SameBut r H H := fun _ _ _ h => h
theorem SameBut.trans {r : Addr} {H H1 H2 : Hp} (a : SameBut r H H1) (b : SameBut r H1 H2) : SameBut r H H2 := fun c o n h => b c o n (a c o n h)
theorem Same.but {r : Addr} {H H' : Hp} (s : Same H H') : SameBut r H H' := fun b o _ h => s b o h
theorem sameBut_upd {r : Addr} {H : Hp} {o : HO} : SameBut r H (upd H r o) := fun b u n h => by
  rw [upd_ne n]
  exact h
/-- the script at a is to be read, whatever is done at r -/
def Scr (K : PySem.W.Frag) (H : Hp) (r a : Addr) (ns : List Int) : Prop := ns.length ≤ 63 ∧ ∀ H', SameBut r H H' → SqL K H' a (ns.map V.int)
theorem Scr.but {K : PySem.W.Frag} {H H' : Hp} {r a : Addr} {ns : List Int} (h : Scr K H r a ns) (s : SameBut r H H') : Scr K H' r a ns := ⟨h.1, fun H2 s2 => h.2 H2 (s.trans s2)⟩
theorem Scr.sq {K : PySem.W.Frag} {H : Hp} {r a : Addr} {ns : List Int} (h : Scr K H r a ns) : SqL K H a (ns.map V.int) := h.2 H (.refl _ _)
/-- the row of a drawing -/
def RowAt (H : Hp) (r a : Addr) : Prop := ∃ i b d : Int, 0 ≤ i ∧ H r = some (.lst [.ref a, .int i, .int b, .int d])
section
variable {P : Program} {w : World} {K : PySem.W.Frag} {mg : Str → Option Value} {base : Heap} {C : Addr}
def spTaken (K : PySem.W.Frag) : Sp := fun vs H Q _ => ∃ r a ns, ∃ m : Int, vs = [.ref r, .int m] ∧ RowAt H r a ∧ Scr K H r a ns ∧ 0 < m ∧ m < 100000 ∧ ∀ H' k, SameBut r H H' → RowAt H' r a → 0 ≤ k → k < m → Q (.int k) H'
theorem scTaken : FnScope ["_law_row", "_law_many_here", "_law_found", "_law_cell"] ["_law_row", "_law_many_here"] (defScope sTaken) := ⟨rfl, rfl, rfl, by decide +kernel, rfl, by decide +kernel, by decide +kernel⟩
theorem ok_taken {f : Addr} {fd : FuncData} (F : Fun K "_law_taken" "_law_taken" sTaken f fd) (T : Txt K mg) : FnOk P w K mg base CX0 1 f fd ["_law_row", "_law_many_here"] (spTaken K) := by
  refine F.ok scTaken (fun vs H Q E h => ?_) (fun cdv A outer s H vs Q E hr h => ?_)
  · obtain ⟨r, a, ns, m, rfl, _⟩ := h
    rfl
  · obtain ⟨r, a, ns, m, rfl, ⟨i, b, d, hi, hrow⟩, hS, hm, hm2, q⟩ := h
    have nd := scTaken.nd
    have md : ∀ z : Int, 0 ≤ z.fmod m ∧ z.fmod m < m := fun z => ⟨Int.fmod_nonneg_of_pos z hm, Int.fmod_lt_of_pos z hm⟩
    refine ⟨_, pss_cons (ps_if (pt_cmpR op_gt (pe_ix ix_list (pv 0) pe_int (fun _ _ => rfl)) pe_int (nomark _))
        (pss_cons (ps_set (i := 2) nd rfl (.inl rfl) (pe_op op_modN (pe_callTy call_int1 (by rfl) T.int (by decide +kernel) (pa_cons (pe_ix ix_list (pv 0) pe_int (fun _ _ => rfl)) pa_nil)) (pv 1)))
        (pss_cons (ps_asg (pe_op op_fdivN (pe_ix ix_list (pv 0) pe_int (fun _ _ => rfl)) (pv 1)) (pg_sub (pv 0) pe_int set_list)) (pss_one (ps_ret (pv 2))))) pss_nil)
      (pss_cons (ps_asg (pe_op op_add (pe_ix ix_list (pv 0) pe_int (fun _ _ => rfl)) pe_int) (pg_sub (pv 0) pe_int set_list))
      (pss_cons (ps_if (pt_cmpR op_gt (pe_ix ix_list (pv 0) pe_int (fun _ _ => rfl)) (pe_callB call_len_seq (by rfl) T.len PySem.boot_len (pa_cons (pe_ix ix_list (pv 0) pe_int (fun _ _ => rfl)) pa_nil)) (nomark _))
        (pss_cons (ps_asg (pe_op op_modN (pe_callTy call_int1 (by rfl) T.int (by decide +kernel) (pa_cons (pe_op op_add (pe_op op_mul (pe_ix ix_list (pv 0) pe_int (fun _ _ => rfl)) pe_int) pe_int) pa_nil)) pe_int) (pg_sub (pv 0) pe_int set_list))
        (pss_one (ps_ret (pe_op op_modN (pe_callTy call_int1 (by rfl) T.int (by decide +kernel) (pa_cons (pe_op op_fdivN (pe_ix ix_list (pv 0) pe_int (fun _ _ => rfl)) pe_int) pa_nil)) (pv 1))))) pss_nil)
      (pss_cons (ps_set (i := 3) nd rfl (.inl rfl) (pe_ix ix_list (pe_ix ix_list (pv 0) pe_int (fun _ _ => rfl)) (pe_op op_sub (pe_ix ix_list (pv 0) pe_int (fun _ _ => rfl)) pe_int) (fun _ _ => rfl)))
      (pss_cons (ps_asg (pe_op op_modN (pe_callTy call_int1 (by rfl) T.int (by decide +kernel) (pa_cons (pe_op op_add (pe_op op_add (pe_op op_mul (pe_ix ix_list (pv 0) pe_int (fun _ _ => rfl)) pe_int) (pv 3)) pe_int) pa_nil)) pe_int) (pg_sub (pv 0) pe_int set_list))
      (pss_cons (ps_if (pt_cmpR op_ge (pv 3) (pe_op op_pow pe_int pe_int) (nomark _)) (pss_one (ps_asg (pe_op op_fdivN (pv 3) (pv 1)) (pg_sub (pv 0) pe_int set_list))) pss_nil)
      (pss_one (ps_ret (pe_op op_modN (pe_callTy call_int1 (by rfl) T.int (by decide +kernel) (pa_cons (pv 3) pa_nil)) (pv 1))))))))), ?_⟩
    have big : m ≠ 0 ∧ m.natAbs < 1073741824 := ⟨by omega, by omega⟩
    -- if row[3] > 0
    refine ⟨_, rfl, r, _, _, _, rfl, rfl, SqL.of hrow, atI_nat (j := 3) rfl, _, _, rfl, rfl, _, rfl, ite2 (fun _ => ?_) (fun _ => ?_)⟩
    · refine ⟨_, rfl, r, _, _, _, rfl, rfl, SqL.of hrow, atI_nat (j := 3) rfl, .inl ⟨d, rfl, _, rfl, d, m, rfl, rfl, big.1, ?_⟩⟩
      refine ⟨_, rfl, r, _, _, _, rfl, rfl, SqL.of hrow, atI_nat (j := 3) rfl, _, rfl, d, m, rfl, rfl, big, _, rfl, r, _, _, 3, rfl, rfl, hrow, (by show ixN 4 3 = some 3; decide), ?_⟩
      exact ⟨_, rfl, q _ _ sameBut_upd ⟨i, b, _, hi, upd_same⟩ (md d).1 (md d).2⟩
    · -- row[1] = row[1] + 1
      refine ⟨_, rfl, r, _, _, _, rfl, rfl, SqL.of hrow, atI_nat (j := 1) rfl, i, 1, rfl, rfl, _, rfl, r, _, _, 1, rfl, rfl, hrow, (by show ixN 4 1 = some 1; decide), ?_⟩
      have s1 : SameBut r H (upd H r (.lst [.ref a, .int (i + 1), .int b, .int d])) := sameBut_upd
      have hS1 := hS.but s1
      have hl : (ns.map V.int).length = ns.length := List.length_map ..
      refine ⟨_, rfl, r, _, _, _, rfl, rfl, SqL.of upd_same, atI_nat (j := 1) rfl, _, rfl, r, _, _, _, rfl, rfl, SqL.of upd_same, atI_nat (j := 0) rfl, a, _, rfl, .inl hS1.sq, _, _, rfl, rfl, _, rfl, ite2 (fun h => ?_) (fun h => ?_)⟩
      · refine ⟨_, rfl, r, _, _, _, rfl, rfl, SqL.of upd_same, atI_nat (j := 2) rfl, b, 48271, rfl, rfl, .inr ⟨by decide, by decide⟩, _, _, rfl, rfl, .inl ⟨_, rfl, _, _, rfl, rfl, (by show (2147483647 : Int) ≠ 0; decide), _, rfl, r, _, _, 2, rfl, rfl, upd_same, (by show ixN 4 2 = some 2; decide), ?_⟩⟩
        rw [upd_upd]
        refine ⟨_, rfl, r, _, _, _, rfl, rfl, SqL.of upd_same, atI_nat (j := 2) rfl, _, _, rfl, rfl, ⟨by decide, by decide⟩, .inl ⟨_, rfl, _, rfl, _, _, rfl, rfl, big.1, ?_⟩⟩
        exact q _ _ sameBut_upd ⟨i + 1, _, d, by omega, upd_same⟩ (md _).1 (md _).2
      · have hlt : i.toNat < ns.length := by
          have h2 : ¬ ((ns.map V.int).length : Int) < i + 1 := fun z => h (decide_eq_true z)
          rw [hl] at h2
          omega
        have hat : (ns.map V.int)[i.toNat]? = some (.int ns[i.toNat]) := by
          rw [List.getElem?_map, List.getElem?_eq_getElem hlt]
          rfl
        refine ⟨_, rfl, r, _, _, _, rfl, rfl, SqL.of upd_same, atI_nat (j := 0) rfl, _, rfl, r, _, _, _, rfl, rfl, SqL.of upd_same, atI_nat (j := 1) rfl, _, _, rfl, rfl, a, _, _, _, rfl, rfl, hS1.sq, at_of (j := i.toNat) (by omega) hat, ?_⟩
        refine ⟨_, rfl, r, _, _, _, rfl, rfl, SqL.of upd_same, atI_nat (j := 2) rfl, b, 48271, rfl, rfl, .inr ⟨by decide, by decide⟩, _, rfl, _, _, rfl, rfl, _, _, rfl, rfl, .inl ⟨_, rfl, _, _, rfl, rfl, (by show (2147483647 : Int) ≠ 0; decide), _, rfl, r, _, _, 2, rfl, rfl, upd_same, (by show ixN 4 2 = some 2; decide), ?_⟩⟩
        rw [upd_upd]
        refine ⟨_, rfl, _, _, rfl, rfl, ⟨by decide, by decide, by decide⟩, _, _, rfl, rfl, _, rfl, ite2 (fun _ => ?_) (fun _ => ?_)⟩
        · refine ⟨_, rfl, _, rfl, _, _, rfl, rfl, big, _, rfl, r, _, _, 3, rfl, rfl, upd_same, (by show ixN 4 3 = some 3; decide), ?_⟩
          rw [upd_upd]
          exact ⟨_, rfl, .inl ⟨_, rfl, _, rfl, _, _, rfl, rfl, big.1, q _ _ sameBut_upd ⟨i + 1, _, _, by omega, upd_same⟩ (md _).1 (md _).2⟩⟩
        · exact ⟨_, rfl, .inl ⟨_, rfl, _, rfl, _, _, rfl, rfl, big.1, q _ _ sameBut_upd ⟨i + 1, _, d, by omega, upd_same⟩ (md _).1 (md _).2⟩⟩
/-! ### _law_pick -/
def spPick (K : PySem.W.Frag) : Sp := fun vs H Q _ => ∃ r a ns l xs, vs = [.ref r, .ref l] ∧ RowAt H r a ∧ Scr K H r a ns ∧ H l = some (.lst xs) ∧ l ≠ r ∧ 0 < xs.length ∧ xs.length < 100000 ∧ ∀ H' (k : Nat) v, SameBut r H H' → RowAt H' r a → xs[k]? = some v → Q v H'
theorem scPick : FnScope ["_law_row", "_law_things"] ["_law_row", "_law_things"] (defScope sPick) := ⟨rfl, rfl, rfl, by decide +kernel, rfl, by decide +kernel, by decide +kernel⟩
theorem ok_pick {f ft : Addr} {fd fdt : FuncData} (F : Fun K "_law_pick" "_law_pick" sPick f fd) (T : Txt K mg)
    (GT : FnOk P w K mg base CX0 1 ft fdt ["_law_row", "_law_many_here"] (spTaken K)) (kT : PySem.W.keepIn K (.ref ft) = true) (bT : Binds K fdt ["_law_row", "_law_many_here"] []) (gT : mg "_law_taken" = some (.ref ft)) : FnOk P w K mg base CX0 2 f fd ["_law_row", "_law_things"] (spPick K) := by
  refine F.ok scPick (fun vs H Q E h => ?_) (fun cdv A outer s H vs Q E hr h => ?_)
  · obtain ⟨r, a, ns, l, xs, rfl, _⟩ := h
    rfl
  · obtain ⟨r, a, ns, l, xs, rfl, hrow, hS, hl, hne, h0, h1, q⟩ := h
    refine ⟨_, pss_one (ps_ret (pe_ix ix_list (pv 1) (pe_call GT hr (by rfl) gT kT bT .nil pass0 (pa_cons (pv 0) (pa_cons (pe_callB call_len_seq (by rfl) T.len PySem.boot_len (pa_cons (pv 1) pa_nil)) pa_nil))) (fun _ _ => rfl))), ?_⟩
    refine ⟨_, rfl, _, rfl, _, rfl, l, _, rfl, .inl (SqL.of hl), r, a, ns, _, rfl, hrow, hS, by omega, by omega, fun H' k s hrow' k0 k1 => ?_⟩
    have hk : k.toNat < xs.length := by omega
    exact ⟨l, xs, k, xs[k.toNat], rfl, rfl, SqL.of (s _ _ hne hl), at_of (j := k.toNat) (by omega) (List.getElem?_eq_getElem hk), q H' k.toNat _ s hrow' (List.getElem?_eq_getElem hk)⟩
/-! ### _law_cells -/
theorem join_signs (l : List Nat) : (Txt.join (("" : Str)) (l.map fun c => (⟨#[c]⟩ : Str))).cps.toList = l := by
  have h : ∀ l : List Nat, TL.joinL [] (l.map fun c => [c]) = l := fun l => by
    induction l with
    | nil => rfl
    | cons c r ih =>
      cases r with
      | nil => rfl
      | cons d r' =>
        show [c] ++ ([] ++ TL.joinL [] ((d :: r').map fun c => [c])) = c :: d :: r'
        rw [ih]
        rfl
  have e := TL.tl_join ("" : Str) (l.map fun c => (⟨#[c]⟩ : Str))
  rw [TL.join_eq]
  show TL.tl _ = l
  rw [e, show TL.tl ("" : Str) = [] from by decide +kernel, List.map_map]
  exact h l
def sgB (z : Str) : Bool := z.cps.toList.all (fun c => c == 46 || c == 60 || c == 62 || c == 120)
theorem sgB_ok {z : Str} (h : sgB z = true) : SignsOk z := fun c hc => by
  have := List.all_eq_true.mp h c hc
  simp only [Bool.or_eq_true, beq_iff_eq] at this
  omega
def menu : List Str := [".<>x", "....<>x", "<>", "<>x", ".x", ">>>>>><", ".....<>", ".", "x", ">"]
theorem menu_ok : ∀ z ∈ menu, SignsOk z ∧ 1 ≤ z.cps.size ∧ z.cps.size ≤ 10 := fun z hz => by
  have h : menu.all (fun z => sgB z && decide (1 ≤ z.cps.size) && decide (z.cps.size ≤ 10)) = true := by decide +kernel
  have := List.all_eq_true.mp h z hz
  simp only [Bool.and_eq_true, decide_eq_true_eq] at this
  exact ⟨sgB_ok this.1.1, this.1.2, this.2⟩
def spLCells (K : PySem.W.Frag) : Sp := fun vs H Q _ => ∃ r a ns, vs = [.ref r, .int 4] ∧ RowAt H r a ∧ Scr K H r a ns ∧ ∀ H' t cs c, SameBut r H H' → RowAt H' r a → TabAt H' t cs c → cs.length ≤ 4 → c ≤ 4 → Q (.ref t) H'
theorem scLCells : FnScope ["_law_row", "_law_most", "_law_some", "_law_rows", "_law_columns", "_law_lines", "_law_at", "_law_place"] ["_law_row", "_law_most"] (defScope sLCells) := ⟨rfl, rfl, rfl, by decide +kernel, rfl, by decide +kernel, by decide +kernel⟩
/-- lines of c signs each -/
def LinesOk (c : Nat) (zs : List Str) : Prop := ∀ z ∈ zs, z.cps.size = c ∧ SignsOk z
theorem at_any {α : Type} {xs : List α} {z : Int} {j : Nat} {v : α} (e : z = (j : Int)) (h : xs[j]? = some v) : atI xs z = some v := by
  rw [e]
  exact atI_nat h
theorem cut_lo (z : Str) (n : Nat) (h : n < z.length) : (cutS z none (some (n : Int))).length = n ∧ ∀ c ∈ TL.tl (cutS z none (some (n : Int))), c ∈ z.cps.toList := by
  have e : TL.tl (cutS z none (some (n : Int))) = (z.cps.toList.drop 0).take n := by
    unfold cutS
    rw [HT.sIx_none, HT.sIx_nat, Nat.min_eq_left (Nat.le_of_lt h)]
    rfl
  refine ⟨?_, fun c hc => ?_⟩
  · rw [TL.len_tl, e, List.length_take, List.drop_zero]
    have : z.cps.toList.length = z.length := by rw [Array.length_toList]; rfl
    omega
  · rw [e] at hc
    exact List.mem_of_mem_drop (List.mem_of_mem_take hc)
theorem cut_hi (z : Str) (n : Nat) (h : n < z.length) : (cutS z (some ((n : Int) + 1)) none).length = z.length - (n + 1) ∧ ∀ c ∈ TL.tl (cutS z (some ((n : Int) + 1)) none), c ∈ z.cps.toList := by
  have e : TL.tl (cutS z (some ((n : Int) + 1)) none) = (z.cps.toList.drop (n + 1)).take (z.length - (n + 1)) := by
    unfold cutS
    rw [HT.sIx_none, show ((n : Int) + 1) = ((n + 1 : Nat) : Int) from rfl, HT.sIx_nat, Nat.min_eq_left (show n + 1 ≤ z.length from h)]
  refine ⟨?_, fun c hc => ?_⟩
  · rw [TL.len_tl, e, List.length_take, List.length_drop]
    have : z.cps.toList.length = z.length := by rw [Array.length_toList]; rfl
    omega
  · rw [e] at hc
    exact List.mem_of_mem_drop (List.mem_of_mem_take hc)
theorem ok_lcells {f ft : Addr} {fd fdt : FuncData} (F : Fun K "_law_cells" "_law_cells" sLCells f fd) (T : Txt K mg)
    (GT : FnOk P w K mg base CX0 1 ft fdt ["_law_row", "_law_many_here"] (spTaken K)) (kT : PySem.W.keepIn K (.ref ft) = true) (bT : Binds K fdt ["_law_row", "_law_many_here"] []) (gT : mg "_law_taken" = some (.ref ft)) : FnOk P w K mg base CX0 2 f fd ["_law_row", "_law_most"] (spLCells K) := by
  refine F.ok scLCells (fun vs H Q E h => ?_) (fun cdv A outer s H vs Q E hr h => ?_)
  · obtain ⟨r, a, ns, rfl, _⟩ := h
    rfl
  · obtain ⟨r, a, ns, rfl, hrow, hS, q⟩ := h
    have nd := scLCells.nd
    refine ⟨_, pss_cons (ps_set (i := 2) nd rfl (.inr rfl) (pe_ix ix_list (pe_lst (pa_cons pe_str (pa_cons pe_str (pa_cons pe_str (pa_cons pe_str (pa_cons pe_str (pa_cons pe_str (pa_cons pe_str (pa_cons pe_str (pa_cons pe_str (pa_cons pe_str pa_nil))))))))))) (pe_call GT hr (by rfl) gT kT bT .nil pass0 (pa_cons (pv 0) (pa_cons pe_int pa_nil))) (fun _ _ => rfl)))
      (pss_cons (ps_par rfl nd (i := 3) (j := 4) rfl rfl (by decide) rfl rfl (pa_cons (pe_op op_add pe_int (pe_call GT hr (by rfl) gT kT bT .nil pass0 (pa_cons (pv 0) (pa_cons (pv 1) pa_nil)))) (pa_cons (pe_op op_add pe_int (pe_call GT hr (by rfl) gT kT bT .nil pass0 (pa_cons (pv 0) (pa_cons (pv 1) pa_nil)))) pa_nil)) (by rfl))
      (pss_cons (ps_set (i := 5) nd rfl (.inl rfl) (pe_lst pa_nil))
      (pss_cons (ps_for PassesOwn.never rfl (pi_range1 (by rfl) T.range (pa_cons (pv 3) pa_nil)) (pg_name (i := 6) nd rfl (.inl rfl))
        (pss_one (ps_expr (pe_bm PySem.F.plainAttrs_list PySem.F.slot_list_append PySem.F.type_list_append mt_append (pv 5) (pa_cons (pe_join pe_str (pe_lc (own := [("_law_place", 7)]) (g := gName 7) (tt := tYes) rfl nd (pi_range1 (by rfl) T.range (pa_cons (pv 4) pa_nil))
          (blkOk_by (N := ["_law_row", "_law_most", "_law_some", "_law_rows", "_law_columns", "_law_lines", "_law_at", "_law_place"]) (sc := defScope sLCells) (by decide +kernel)) (fun _ _ _ _ _ => pg_name (i := 7) nd rfl (Or.inl rfl)) (fun _ _ _ _ _ => pts_nil)
          (fun _ _ _ _ _ => pe_ix (r := rIxS) ix_str (pv 2) (pe_call GT hr (by rfl) gT kT bT .nil pass0 (pa_cons (pv 0) (pa_cons (pe_callB call_len_str (by rfl) T.len PySem.boot_len (pa_cons (pv 2) pa_nil)) pa_nil))) (fun _ _ => rfl)))) pa_nil)))))
      (C8.pss_cut (ps_if (pt_cmpR op_eq (pe_call GT hr (by rfl) gT kT bT .nil pass0 (pa_cons (pv 0) (pa_cons pe_int pa_nil))) pe_int (nomark _))
        (pss_cons (ps_par rfl nd (i := 6) (j := 7) rfl rfl (by decide) rfl rfl (pa_cons (pe_call GT hr (by rfl) gT kT bT .nil pass0 (pa_cons (pv 0) (pa_cons (pv 3) pa_nil))) (pa_cons (pe_call GT hr (by rfl) gT kT bT .nil pass0 (pa_cons (pv 0) (pa_cons (pv 4) pa_nil))) pa_nil)) (by rfl))
        (pss_one (ps_asg (pe_op op_add_str (pe_op op_add_str (pe_slice sl_str (pe_ix ix_list (pv 5) (pv 6) (fun _ _ => rfl)) po_none (po_some (pv 7))) (pe_ix ix_str pe_str (pe_call GT hr (by rfl) gT kT bT .nil pass0 (pa_cons (pv 0) (pa_cons pe_int pa_nil))) (fun _ _ => rfl)))
          (pe_slice sl_str (pe_ix ix_list (pv 5) (pv 6) (fun _ _ => rfl)) (po_some (pe_op op_add (pv 7) pe_int)) po_none)) (pg_sub (pv 5) (pv 6) set_list)))) pss_nil)
      (pss_one (ps_ret (pe_callTy call_tuple_of (by rfl) T.tuple (by decide +kernel) (pa_cons (pv 5) pa_nil)))))))), ?_⟩
    -- some
    refine ⟨by show 10 ≤ sizeLine; decide, fun m nm => ?_⟩
    have rm : r ≠ m := by
      obtain ⟨_, _, _, _, e⟩ := hrow
      exact ne_of_none e nm
    have row1 : ∀ {H H' : Hp}, RowAt H r a → Same H H' → RowAt H' r a := fun ⟨i, b, d, h0, e⟩ s => ⟨i, b, d, h0, s _ _ e⟩
    have sm := same_upd (o := .lst (menu.map V.str)) nm
    refine ⟨_, rfl, r, a, ns, 10, rfl, row1 hrow sm, hS.but (Same.but sm), by decide, by decide, fun H1 k1 s1 hrow1 k10 k11 => ?_⟩
    have hk1 : k1.toNat < menu.length := by show k1.toNat < 10; omega
    have hmz : (menu.map V.str)[k1.toNat]? = some (.str menu[k1.toNat]) := by
      rw [List.getElem?_map, List.getElem?_eq_getElem hk1]
      rfl
    obtain ⟨zs1, zs2, zs3⟩ := menu_ok _ (List.getElem_mem hk1)
    generalize menu[k1.toNat] = z at hmz zs1 zs2 zs3
    have t1 : SameBut r H H1 := (Same.but sm).trans s1
    refine ⟨m, _, k1, .str z, rfl, rfl, SqL.of (s1 _ _ rm.symm upd_same), at_of (j := k1.toNat) (by omega) hmz, ?_⟩
    -- rows, columns
    refine ⟨_, rfl, _, rfl, r, a, ns, 4, rfl, hrow1, hS.but t1, by decide, by decide, fun H2 k2 s2 hrow2 k20 k21 => ?_⟩
    have t2 := t1.trans s2
    refine ⟨1, k2, rfl, rfl, _, rfl, _, rfl, r, a, ns, 4, rfl, hrow2, hS.but t2, by decide, by decide, fun H3 k3 s3 hrow3 k30 k31 => ?_⟩
    have t3 := t2.trans s3
    refine ⟨1, k3, rfl, rfl, _, _, rfl, ?_⟩
    have hRn : 1 ≤ 1 + k2 ∧ 1 + k2 ≤ 4 := by omega
    have hCn : 1 ≤ 1 + k3 ∧ 1 + k3 ≤ 4 := by omega
    -- lines = []
    refine ⟨Nat.zero_le _, fun ls nls => ?_⟩
    have rls : ls ≠ r := by
      obtain ⟨_, _, _, _, e⟩ := hrow3
      exact (ne_of_none e nls).symm
    have hls : H ls = none := by
      cases e : H ls with
      | none => rfl
      | some o =>
        have := t3 ls o rls e
        rw [nls] at this
        cases this
    have s4 := same_upd (o := .lst []) nls
    -- for at in range(rows)
    refine ⟨_, rfl, 1 + k2, rfl, by omega, by omega, ?_⟩
    refine for_range (fun i σ H4 => ∃ v6 v7 zs, σ = [some (.ref r), some (.int 4), some (.str z), some (.int (1 + k2)), some (.int (1 + k3)), some (.ref ls), v6, v7] ∧ SameBut r H H4 ∧ RowAt H4 r a ∧ H4 ls = some (.lst (zs.map V.str)) ∧ zs.length = i ∧ LinesOk (1 + k3).toNat zs)
      ⟨none, none, [], rfl, t3.trans (Same.but s4), row1 hrow3 s4, upd_same, rfl, fun z hz => absurd hz List.not_mem_nil⟩ (fun i σ H4 hi hP => ?_) (fun σ H4 hP => ?_)
    · obtain ⟨v6, v7, zs, rfl, t4, hrow4, hl4, hzl, hzo⟩ := hP
      refine ⟨_, rfl, .inl ⟨rfl, _, SqL.of hl4⟩, ⟨_, rfl⟩, _, rfl, 1 + k3, rfl, by omega, by omega, fun D nD => ?_⟩
      have rD : D ≠ r := by
        obtain ⟨_, _, _, _, e⟩ := hrow4
        exact (ne_of_none e nD).symm
      refine lc_it walk_range (fun j H5 => ∃ l : List Nat, H5 D = some (.lst (l.map fun c => V.str ⟨#[c]⟩)) ∧ l.length = j ∧ (∀ c ∈ l, c = 46 ∨ c = 60 ∨ c = 62 ∨ c = 120) ∧ SameBut r H4 H5 ∧ RowAt H5 r a)
        ⟨[], upd_same, rfl, fun c hc => absurd hc List.not_mem_nil, Same.but (same_upd nD), row1 hrow4 (same_upd nD)⟩ (fun _ _ _ _ => trivial) (fun j y H5 H6 hj hP hy => ?_) (fun H5 hP => ?_)
      · obtain ⟨l, eD, hll, hlo, t5, hrow5⟩ := hP
        obtain ⟨rfl, rfl⟩ := hy
        refine ⟨rfl, yes_if ?_⟩
        have hzn : z.length = z.cps.size := rfl
        refine ⟨_, rfl, _, rfl, _, rfl, z, rfl, Nat.le_of_lt (small1000 (by omega)), r, a, ns, _, rfl, hrow5, hS.but (t4.trans t5), by omega, by omega, fun H7 k s7 hrow7 k0 k1 => ?_⟩
        have hk : k.toNat < z.cps.toList.length := by
          rw [Array.length_toList]
          omega
        refine ⟨z, k, z.cps.toList[k.toNat], rfl, rfl, Nat.le_of_lt (small1000 (by omega)), at_any (z := k) (j := k.toNat) (by omega) (List.getElem?_eq_getElem hk), _, s7 _ _ rD eD, by rw [List.length_map]; exact small1000 (by omega), l ++ [z.cps.toList[k.toNat]], ?_, by rw [List.length_append, hll]; rfl, fun c hc => ?_, ?_, ?_⟩
        · rw [upd_same, List.map_append]
          rfl
        · rcases List.mem_append.mp hc with hc | hc
          · exact hlo c hc
          · rw [List.mem_singleton.mp hc]
            exact zs1 _ (List.getElem_mem hk)
        · intro b o hb e
          rw [upd_ne (ne_of_none e nD)]
          exact s7 _ _ hb (t5 _ _ hb e)
        · obtain ⟨i7, b7, d7, h7, e7⟩ := hrow7
          exact ⟨i7, b7, d7, h7, by rw [upd_ne rD.symm]; exact e7⟩
      · obtain ⟨l, eD, hll, hlo, t5, hrow5⟩ := hP
        have hsum : ((l.map fun c => (⟨#[c]⟩ : Str)).map (·.length)).sum = l.length := by
          clear eD hll hlo
          induction l with
          | nil => rfl
          | cons c u ih =>
            rw [List.map_cons, List.map_cons, List.sum_cons, ih, List.length_cons]
            show 1 + _ = _
            omega
        have hcl : (Txt.join ("" : Str) (l.map fun c => (⟨#[c]⟩ : Str))).cps.toList = l := join_signs l
        refine ⟨("" : Str), D, l.map fun c => (⟨#[c]⟩ : Str), rfl, rfl, .inl (SqL.of (by rw [eD, List.map_map]; rfl)), ?_, ?_⟩
        · rw [hsum, List.length_map, show (("" : Str)).length = 0 from by decide +kernel]
          omega
        generalize Txt.join ("" : Str) (l.map fun c => (⟨#[c]⟩ : Str)) = zn at hcl
        refine ⟨ls, _, _, rfl, rfl, t5 _ _ rls hl4, by rw [List.length_map]; exact small1000 (by omega), _, v7, zs ++ [zn], rfl, fun b o hb e => ?_, ?_, by rw [upd_same, List.map_append]; rfl, by rw [List.length_append, hzl]; rfl, fun u hu => ?_⟩
        · rw [upd_ne (ne_of_none e hls)]
          exact t5 _ _ hb (t4 _ _ hb e)
        · obtain ⟨i7, b7, d7, h7, e7⟩ := hrow5
          exact ⟨i7, b7, d7, h7, by rw [upd_ne rls.symm]; exact e7⟩
        · rcases List.mem_append.mp hu with hu | hu
          · exact hzo u hu
          · rw [List.mem_singleton.mp hu]
            refine ⟨?_, fun c hc => hlo c (hcl ▸ hc)⟩
            rw [← Array.length_toList, hcl, hll]
    · obtain ⟨v6, v7, zs, rfl, t4, hrow4, hl4, hzl, hzo⟩ := hP
      -- behind the if the lines are lines again
      refine ⟨fun σ H5 => ∃ v6 v7 zs, σ = [some (.ref r), some (.int 4), some (.str z), some (.int (1 + k2)), some (.int (1 + k3)), some (.ref ls), v6, v7] ∧ SameBut r H H5 ∧ RowAt H5 r a ∧ H5 ls = some (.lst (zs.map V.str)) ∧ zs.length = (1 + k2).toNat ∧ LinesOk (1 + k3).toNat zs, ?_, ?_⟩
      · refine ⟨_, rfl, r, a, ns, 3, rfl, hrow4, hS.but t4, by decide, by decide, fun H5 k5 s5 hrow5 k50 k51 => ?_⟩
        have t5 := t4.trans s5
        have hl5 := s5 _ _ rls hl4
        refine ⟨rfl, _, rfl, ite2 (fun _ => ?_) (fun _ => ⟨v6, v7, zs, rfl, t5, hrow5, hl5, hzl, hzo⟩)⟩
        -- at, place
        refine ⟨_, rfl, _, rfl, r, a, ns, _, rfl, hrow5, hS.but t5, by omega, by omega, fun H6 k6 s6 hrow6 k60 k61 => ?_⟩
        have t6 := t5.trans s6
        refine ⟨_, rfl, _, rfl, r, a, ns, _, rfl, hrow6, hS.but t6, by omega, by omega, fun H7 k7 s7 hrow7 k70 k71 => ⟨_, _, rfl, ?_⟩⟩
        have t7 := t6.trans s7
        have hl7 := s7 _ _ rls (s6 _ _ rls hl5)
        have hk6 : k6.toNat < zs.length := by omega
        have hat : (zs.map V.str)[k6.toNat]? = some (.str zs[k6.toNat]) := by
          rw [List.getElem?_map, List.getElem?_eq_getElem hk6]
          rfl
        obtain ⟨hsz, hso⟩ := hzo _ (List.getElem_mem hk6)
        generalize hzk : zs[k6.toNat] = zk at hat hsz hso
        have hzkl : zk.length = zk.cps.size := rfl
        have hzb : zk.length ≤ sizeLine := Nat.le_of_lt (small1000 (by omega))
        obtain ⟨n7, rfl⟩ : ∃ n7 : Nat, k7 = (n7 : Int) := ⟨k7.toNat, by omega⟩
        have hn7 : n7 < zk.length := by omega
        obtain ⟨c1, c2⟩ := cut_lo zk n7 hn7
        obtain ⟨d1, d2⟩ := cut_hi zk n7 hn7
        refine ⟨_, rfl, _, rfl, ls, _, k6, _, rfl, rfl, SqL.of hl7, at_of (z := k6) (j := k6.toNat) (by omega) hat, _, rfl, (n7 : Int), rfl, zk, rfl, hzb, ?_⟩
        refine ⟨_, rfl, r, a, ns, 4, rfl, hrow7, hS.but t7, by decide, by decide, fun H8 k8 s8 hrow8 k80 k81 => ?_⟩
        have t8 := t7.trans s8
        have hl8 := s8 _ _ rls hl7
        have hk8 : k8.toNat < ((".<>x" : Str)).cps.toList.length := by
          rw [show ((".<>x" : Str)).cps.toList.length = 4 from by decide +kernel]
          omega
        have hc8 : ∀ c ∈ ((".<>x" : Str)).cps.toList, c = 46 ∨ c = 60 ∨ c = 62 ∨ c = 120 := sgB_ok (z := (".<>x" : Str)) (by decide +kernel)
        have hcm := hc8 _ (List.getElem_mem hk8)
        refine ⟨_, k8, _, rfl, rfl, by rw [show ((".<>x" : Str)).length = 4 from by decide +kernel]; decide, at_any (z := k8) (j := k8.toNat) (by omega) (List.getElem?_eq_getElem hk8), ?_⟩
        generalize ((".<>x" : Str)).cps.toList[k8.toNat] = sg at hcm
        have l1 : ((⟨#[sg]⟩ : Str)).length = 1 := rfl
        have lap : ∀ x y : Str, (x ++ y).length = x.length + y.length := fun x y => by
          rw [TL.len_tl, TL.len_tl, TL.len_tl, TL.tl_append, List.length_append]
        refine ⟨_, _, rfl, rfl, by rw [l1, c1]; exact Nat.le_of_lt (small1000 (by omega)), ?_⟩
        refine ⟨_, rfl, _, rfl, ls, _, k6, _, rfl, rfl, SqL.of hl8, at_of (z := k6) (j := k6.toNat) (by omega) hat, _, rfl, _, _, rfl, rfl, _, rfl, zk, rfl, hzb, ?_⟩
        refine ⟨_, _, rfl, rfl, by rw [lap, l1, c1]; exact Nat.le_of_lt (small1000 (by rw [d1]; omega)), ?_⟩
        refine ⟨_, rfl, _, rfl, ls, _, k6, k6.toNat, rfl, rfl, hl8, ?_, ?_⟩
        · unfold ixN
          rw [if_pos k60, if_pos (by rw [List.length_map]; omega)]
        · refine ⟨_, _, zs.set k6.toNat (cutS zk none (some (n7 : Int)) ++ ⟨#[sg]⟩ ++ cutS zk (some ((n7 : Int) + 1)) none), rfl, fun b o hb e => ?_, ?_, ?_, by rw [List.length_set]; exact hzl, fun u hu => ?_⟩
          · rw [upd_ne (ne_of_none e hls)]
            exact t8 _ _ hb e
          · obtain ⟨i9, b9, d9, h9, e9⟩ := hrow8
            exact ⟨i9, b9, d9, h9, by rw [upd_ne rls.symm]; exact e9⟩
          · rw [upd_same, List.map_set]
          · rcases List.mem_or_eq_of_mem_set hu with hu | rfl
            · exact hzo u hu
            · refine ⟨?_, fun c hc => ?_⟩
              · show (cutS zk none (some (n7 : Int)) ++ ⟨#[sg]⟩ ++ cutS zk (some ((n7 : Int) + 1)) none).length = _
                rw [lap, lap, l1, c1, d1]
                omega
              · rw [show (cutS zk none (some (n7 : Int)) ++ ⟨#[sg]⟩ ++ cutS zk (some ((n7 : Int) + 1)) none).cps.toList = TL.tl _ from rfl, TL.tl_append, TL.tl_append] at hc
                rcases List.mem_append.mp hc with hc | hc
                · rcases List.mem_append.mp hc with hc | hc
                  · exact hso c (c2 c hc)
                  · have hc : c ∈ [sg] := hc
                    rw [List.mem_singleton.mp hc]
                    exact hcm
                · exact hso c (d2 c hc)
      · rintro σ H5 ⟨v6, v7, zs, rfl, t5, hrow5, hl5, hzl, hzo⟩
        refine ⟨_, rfl, ls, _, rfl, .inl ⟨SqL.of hl5, fun t nt => ?_⟩⟩
        have st := same_upd (o := .tup (zs.map V.str)) nt
        refine q _ t zs (1 + k3).toNat (t5.trans (Same.but st)) (row1 hrow5 st) ⟨upd_same, ?_⟩ (by omega) (by omega)
        exact ⟨by omega, by omega, by omega, by omega, fun u hu => (hzo u hu).1, fun u hu => (hzo u hu).2⟩
end
end Wf
set_option Elab.async false
set_option linter.all false
set_option maxRecDepth 100000
set_option maxHeartbeats 4000000
namespace Wf
open PySem PySem.Spec PyProof.Rows L2
abbrev sLMany : Stmt := top 31
abbrev sLSteps : Stmt := top 32
abbrev sLLeads : Stmt := top 33
theorem sg_beq (a c : Nat) : ((⟨#[a]⟩ : Str) == ⟨#[c]⟩) = decide (c = a) := by
  rw [Bool.eq_iff_iff, beq_iff_eq, decide_eq_true_eq]
  refine ⟨fun h => ?_, fun h => by rw [h]⟩
  have h2 : (#[a] : Array Nat) = #[c] := congrArg Str.cps h
  have h3 := congrArg Array.toList h2
  injection h3 with h4 _
  exact h4.symm
theorem in_gt (c : Nat) : inV (.str ⟨#[c]⟩) [V.str (">" : Str), V.str ("x" : Str)] = decide (c = 62 ∨ c = 120) := by
  rw [show (">" : Str) = ⟨#[62]⟩ from by decide +kernel, show ("x" : Str) = ⟨#[120]⟩ from by decide +kernel]
  unfold inV
  simp [eqV, sg_beq]
theorem in_lt (c : Nat) : inV (.str ⟨#[c]⟩) [V.str ("<" : Str), V.str ("x" : Str)] = decide (c = 60 ∨ c = 120) := by
  rw [show ("<" : Str) = ⟨#[60]⟩ from by decide +kernel, show ("x" : Str) = ⟨#[120]⟩ from by decide +kernel]
  unfold inV
  simp [eqV, sg_beq]
section
variable {P : Program} {w : World} {K : PySem.W.Frag} {mg : Str → Option Value} {base : Heap} {C : Addr}
/-! ### _law_many -/
def spMany : Sp := fun vs H Q _ => ∃ t cs c, vs = [.ref t] ∧ TabAt H t cs c ∧ Q (.int ((cs.length + c : Nat) : Int)) H
theorem scMany : FnScope ["_law_cells_here"] ["_law_cells_here"] (defScope sLMany) := ⟨rfl, rfl, rfl, by decide +kernel, rfl, by decide +kernel, by decide +kernel⟩
theorem head_of {cs : List Str} {c : Nat} (ok : TabOk cs c) : ∃ z0, z0 ∈ cs ∧ (cs.map V.str)[0]? = some (.str z0) ∧ z0.length = c := by
  cases cs with
  | nil => exact absurd ok.r1 (by decide)
  | cons u v => exact ⟨u, List.mem_cons_self, rfl, ok.sz u List.mem_cons_self⟩
theorem ok_many {f : Addr} {fd : FuncData} (F : Fun K "_law_many" "_law_many" sLMany f fd) (T : Txt K mg) : FnOk P w K mg base CX0 1 f fd ["_law_cells_here"] spMany := by
  refine F.ok scMany (fun vs H Q E h => ?_) (fun cdv A outer s H vs Q E hr h => ?_)
  · obtain ⟨t, cs, c, rfl, _⟩ := h
    rfl
  · obtain ⟨t, cs, c, rfl, hT, q⟩ := h
    have c5 := hT.ok.c5
    obtain ⟨z0, _, e0, l0⟩ := head_of hT.ok
    refine ⟨_, pss_one (ps_ret (pe_op op_add (pe_callB call_len_seq (by rfl) T.len PySem.boot_len (pa_cons (pv 0) pa_nil)) (pe_callB call_len_str (by rfl) T.len PySem.boot_len (pa_cons (pe_ix ix_tup (pv 0) pe_int (fun _ _ => rfl)) pa_nil)))), ?_⟩
    refine ⟨_, rfl, t, _, rfl, .inr (SqT.of hT.at_), _, rfl, t, _, 0, _, rfl, rfl, SqT.of hT.at_, atI_nat (j := 0) e0, z0, rfl, Nat.le_of_lt (small1000 (by omega)), _, _, rfl, rfl, ?_⟩
    rw [List.length_map, l0]
    exact q
/-! ### _law_steps -/
def spLSteps : Sp := fun vs H Q _ => ∃ t cs c, vs = [.ref t] ∧ TabAt H t cs c ∧ ∀ H' p ps, Same H H' → H p = none → PairsAt H' p ps → (ps.map (·.2)).Perm (stps cs c) → Q (.ref p) H'
theorem scLSteps : FnScope ["_law_cells_here", "_law_found", "_law_at", "_law_place"] ["_law_cells_here"] (defScope sLSteps) := ⟨rfl, rfl, rfl, by decide +kernel, rfl, by decide +kernel, by decide +kernel⟩
theorem ok_lsteps {f : Addr} {fd : FuncData} (F : Fun K "_law_steps" "_law_steps" sLSteps f fd) (T : Txt K mg) : FnOk P w K mg base CX0 1 f fd ["_law_cells_here"] spLSteps := by
  refine F.ok scLSteps (fun vs H Q E h => ?_) (fun cdv A outer s H vs Q E hr h => ?_)
  · obtain ⟨t, cs, c, rfl, _⟩ := h
    rfl
  · obtain ⟨t, cs, c, rfl, hT, q⟩ := h
    have ok := hT.ok
    have r5 := ok.r5
    have c5 := ok.c5
    have nd := scLSteps.nd
    obtain ⟨z0, _, e0, l0⟩ := head_of ok
    refine ⟨_, pss_cons (ps_set (i := 1) nd rfl (.inl rfl) (pe_lst pa_nil))
      (pss_cons (ps_for PassesOwn.never rfl (pi_range1 (by rfl) T.range (pa_cons (pe_callB call_len_seq (by rfl) T.len PySem.boot_len (pa_cons (pv 0) pa_nil)) pa_nil)) (pg_name (i := 2) nd rfl (.inl rfl))
        (pss_one (ps_for PassesOwn.never rfl (pi_range1 (by rfl) T.range (pa_cons (pe_callB call_len_str (by rfl) T.len PySem.boot_len (pa_cons (pe_ix ix_tup (pv 0) pe_int (fun _ _ => rfl)) pa_nil)) pa_nil)) (pg_name (i := 3) nd rfl (.inl rfl))
          (C8.pss_cut (ps_if (pt_cmpR op_in_seq (pe_ix ix_str (pe_ix ix_tup (pv 0) (pv 2) (fun _ _ => rfl)) (pv 3) (fun _ _ => rfl)) (pe_lst (pa_cons pe_str (pa_cons pe_str pa_nil))) rfl)
            (pss_one (ps_expr (pe_bm PySem.F.plainAttrs_list PySem.F.slot_list_append PySem.F.type_list_append mt_append (pv 1) (pa_cons (pe_tup (pa_cons (pv 2) (pa_cons (pe_op op_add (pe_callB call_len_seq (by rfl) T.len PySem.boot_len (pa_cons (pv 0) pa_nil)) (pv 3)) pa_nil))) pa_nil)))) pss_nil)
          (pss_one (ps_if (pt_cmpR op_in_seq (pe_ix ix_str (pe_ix ix_tup (pv 0) (pv 2) (fun _ _ => rfl)) (pv 3) (fun _ _ => rfl)) (pe_lst (pa_cons pe_str (pa_cons pe_str pa_nil))) rfl)
            (pss_one (ps_expr (pe_bm PySem.F.plainAttrs_list PySem.F.slot_list_append PySem.F.type_list_append mt_append (pv 1) (pa_cons (pe_tup (pa_cons (pe_op op_add (pe_callB call_len_seq (by rfl) T.len PySem.boot_len (pa_cons (pv 0) pa_nil)) (pv 3)) (pa_cons (pv 2) pa_nil))) pa_nil)))) pss_nil))))))
      (pss_one (ps_ret (pe_callB cr_sortedP (by rfl) T.sorted (by decide +kernel) (pa_cons (pv 1) pa_nil))))), ?_⟩
    refine ⟨Nat.zero_le _, fun fnd hf => ?_⟩
    have s0 : Same H (upd H fnd (.lst [])) := same_upd hf
    have hm : (cs.map V.str).length = cs.length := List.length_map ..
    refine ⟨_, rfl, t, _, rfl, .inr (SqT.of (s0 _ _ hT.at_)), _, rfl, by omega, by omega, ?_⟩
    rw [Int.toNat_natCast]
    refine for_range (fun i σ H2 => ∃ v2 v3 ps, σ = [some (.ref t), some (.ref fnd), v2, v3] ∧ Same H H2 ∧ PairsAt H2 fnd ps ∧ ps.map (·.2) = tabSt (codes cs) cs.length c i)
      ⟨none, none, [], rfl, s0, ⟨upd_same, fun q hq => absurd hq List.not_mem_nil⟩, rfl⟩ (fun i σ H2 hi hP => ?_) (fun σ H2 hP => ?_)
    · obtain ⟨v2, v3, ps, rfl, s2, pa, ep⟩ := hP
      rw [Int.zero_add]
      rw [hm] at hi
      have hz : cs[i]? = some cs[i] := List.getElem?_eq_getElem hi
      have hzs := ok.sz _ (List.getElem_mem hi)
      generalize cs[i] = z at hz hzs
      have hzv : (cs.map V.str)[i]? = some (.str z) := by
        rw [List.getElem?_map, hz]
        rfl
      have hzl : z.length = z.cps.size := rfl
      refine ⟨_, rfl, t, _, 0, _, rfl, rfl, SqT.of (s2 _ _ hT.at_), atI_nat (j := 0) e0, z0, rfl, Nat.le_of_lt (small1000 (by omega)), _, rfl, by omega, by omega, ?_⟩
      rw [Int.toNat_natCast, l0]
      refine for_range (fun j σ H4 => ∃ v3 ps, σ = [some (.ref t), some (.ref fnd), some (.int (i : Int)), v3] ∧ Same H H4 ∧ PairsAt H4 fnd ps ∧ ps.map (·.2) = tabSt (codes cs) cs.length c i ++ rowSt cs.length i z.cps.toList j)
        ⟨v3, ps, rfl, s2, pa, by rw [ep]; exact (List.append_nil _).symm⟩ (fun j σ H4 hj hP => ?_) (fun σ H4 hP => ?_)
      · obtain ⟨v3, ps, rfl, s4, pa4, ep⟩ := hP
        rw [Int.zero_add]
        have hjl : j < z.cps.toList.length := by
          rw [Array.length_toList]
          omega
        have hd : z.cps.toList[j]? = some z.cps.toList[j] := List.getElem?_eq_getElem hjl
        generalize z.cps.toList[j] = d at hd
        have hgd : z.cps.toList.getD j 0 = d := by
          rw [List.getD_eq_getElem?_getD, hd]
          rfl
        have lenb : ∀ {ps : List (Addr × Stp)} {l : List Stp}, ps.map (·.2) = l → l.length ≤ 900 → (ps.map fun q => V.ref q.1).length < sizeLine := fun {ps l} e h => by
          rw [List.length_map, ← List.length_map (as := ps) (f := (·.2)), e]
          exact small1000 (by omega)
        have l1 := tabSt_len (codes cs) cs.length c i
        have l2 := rowSt_len cs.length i z.cps.toList j
        have l3 : 2 * c * i ≤ 2 * 5 * 5 := Nat.mul_le_mul (Nat.mul_le_mul_left 2 c5) (by omega)
        have l4 : (tabSt (codes cs) cs.length c i ++ rowSt cs.length i z.cps.toList j).length ≤ 100 := by
          rw [List.length_append]
          omega
        have hzb : z.length ≤ sizeLine := Nat.le_of_lt (small1000 (by omega))
        -- the two ifs
        refine ⟨fun σ H6 => ∃ ps, σ = [some (.ref t), some (.ref fnd), some (.int (i : Int)), some (.int (j : Int))] ∧ Same H H6 ∧ PairsAt H6 fnd ps ∧ ps.map (·.2) = (tabSt (codes cs) cs.length c i ++ rowSt cs.length i z.cps.toList j) ++ (if d = 62 ∨ d = 120 then [((i : Int), (cs.length : Int) + j)] else []), ?_, ?_⟩
        · refine ⟨_, rfl, _, rfl, t, _, _, _, rfl, rfl, SqT.of (s4 _ _ hT.at_), atI_nat (j := i) hzv, _, rfl, z, _, d, rfl, rfl, hzb, atI_nat (j := j) hd, by show 2 ≤ sizeLine; decide, fun o no => ?_⟩
          have pa5 := pa4.same (same_upd (o := .lst [V.str (">" : Str), V.str ("x" : Str)]) no)
          have s5 := s4.trans (same_upd (o := .lst [V.str (">" : Str), V.str ("x" : Str)]) no)
          refine ⟨o, _, rfl, .inl (SqL.of upd_same), rfl, rfl, inV (.str ⟨#[d]⟩) [V.str (">" : Str), V.str ("x" : Str)], rfl, ?_⟩
          rw [in_gt]
          refine ite2 (fun h => ?_) (fun h => ?_)
          · have h := of_decide_eq_true h
            refine ⟨_, rfl, .inl ⟨rfl, _, SqL.of pa5.ls⟩, _, rfl, _, rfl, t, _, rfl, .inr (SqT.of (s5 _ _ hT.at_)), _, rfl, _, _, rfl, rfl, by show 2 ≤ sizeLine; decide, fun T3 n3 => ?_⟩
            refine ⟨fnd, _, _, rfl, rfl, same_upd n3 _ _ pa5.ls, lenb ep (by omega), ps ++ [(T3, ((i : Int), ((cs.map V.str).length : Int) + j))], rfl, fun b o e => ?_, pa5.push n3, ?_⟩
            · rw [upd_ne (ne_of_none e hf)]
              exact (same_upd n3) _ _ (s5 _ _ e)
            · rw [if_pos h, List.map_append, ep, hm]
              rfl
          · have h : ¬ (d = 62 ∨ d = 120) := fun z => h (decide_eq_true z)
            refine ⟨ps, rfl, s5, pa5, ?_⟩
            rw [if_neg h, List.append_nil]
            exact ep
        · rintro σ H6 ⟨ps, rfl, s6, pa6, ep6⟩
          have l5 : ((tabSt (codes cs) cs.length c i ++ rowSt cs.length i z.cps.toList j) ++ (if d = 62 ∨ d = 120 then [((i : Int), (cs.length : Int) + j)] else [])).length ≤ 200 := by
            rw [List.length_append]
            split
            · show _ + 1 ≤ 200
              omega
            · show _ + 0 ≤ 200
              omega
          have fin : (tabSt (codes cs) cs.length c i ++ rowSt cs.length i z.cps.toList j) ++ cellSt cs.length i j d = tabSt (codes cs) cs.length c i ++ rowSt cs.length i z.cps.toList (j + 1) := by
            rw [rowSt_succ, hgd, List.append_assoc]
          refine ⟨_, rfl, _, rfl, t, _, _, _, rfl, rfl, SqT.of (s6 _ _ hT.at_), atI_nat (j := i) hzv, _, rfl, z, _, d, rfl, rfl, hzb, atI_nat (j := j) hd, by show 2 ≤ sizeLine; decide, fun o no => ?_⟩
          have pa7 := pa6.same (same_upd (o := .lst [V.str ("<" : Str), V.str ("x" : Str)]) no)
          have s7 := s6.trans (same_upd (o := .lst [V.str ("<" : Str), V.str ("x" : Str)]) no)
          refine ⟨o, _, rfl, .inl (SqL.of upd_same), rfl, rfl, inV (.str ⟨#[d]⟩) [V.str ("<" : Str), V.str ("x" : Str)], rfl, ?_⟩
          rw [in_lt]
          refine ite2 (fun h => ?_) (fun h => ?_)
          · have h := of_decide_eq_true h
            refine ⟨_, rfl, .inl ⟨rfl, _, SqL.of pa7.ls⟩, _, rfl, t, _, rfl, .inr (SqT.of (s7 _ _ hT.at_)), _, rfl, _, _, rfl, rfl, _, rfl, by show 2 ≤ sizeLine; decide, fun T3 n3 => ?_⟩
            refine ⟨fnd, _, _, rfl, rfl, same_upd n3 _ _ pa7.ls, lenb ep6 (by omega), _, ps ++ [(T3, (((cs.map V.str).length : Int) + j, (i : Int)))], rfl, fun b o e => ?_, pa7.push n3, ?_⟩
            · rw [upd_ne (ne_of_none e hf)]
              exact (same_upd n3) _ _ (s7 _ _ e)
            · rw [← fin, List.map_append, ep6, hm]
              unfold cellSt
              rw [if_pos h]
              simp only [List.append_assoc]
              rfl
          · have h : ¬ (d = 60 ∨ d = 120) := fun z => h (decide_eq_true z)
            refine ⟨_, ps, rfl, s7, pa7, ?_⟩
            rw [← fin, ep6]
            unfold cellSt
            rw [if_neg h, List.append_nil]
      · obtain ⟨v3, ps, rfl, s4, pa4, ep⟩ := hP
        refine ⟨_, v3, ps, rfl, s4, pa4, ?_⟩
        rw [tabSt_succ, codes_at hz, ep]
    · -- return sorted(found)
      obtain ⟨v2, v3, ps, rfl, s2, pa, ep⟩ := hP
      rw [hm] at ep
      refine ⟨_, rfl, fnd, _, rfl, SqL.of pa.ls, fun y hy => ?_, fun ys p hp np => ?_⟩
      · obtain ⟨r, hr, rfl⟩ := List.mem_map.mp hy
        exact ⟨r.1, r.2.1, r.2.2, rfl, pa.it r hr⟩
      · obtain ⟨ps2, rfl, pp⟩ := perm_pull (f := fun q : Addr × Stp => V.ref q.1) hp
        refine q _ p ps2 (s2.trans (same_upd np)) (s2.free np) ⟨upd_same, fun r hr => ?_⟩ ?_
        · exact same_upd np _ _ (pa.it r (pp.mem_iff.mp hr))
        · unfold stps
          rw [← ep]
          exact pp.map _
end
end Wf
set_option Elab.async false
set_option linter.all false
set_option maxRecDepth 100000
set_option maxHeartbeats 4000000
namespace Wf
open PySem PySem.Spec PyProof.Rows L2
section
variable {P : Program} {w : World} {K : PySem.W.Frag} {mg : Str → Option Value} {base : Heap} {C : Addr}
/-! ### _law_leads -/
def spLLeads : Sp := fun vs H Q _ => ∃ t cs c, vs = [.ref t] ∧ TabAt H t cs c ∧ ∀ H' p Ls, Same H H' → H p = none → LeadsAt H' p (stps cs c) (cs.length + c) Ls → Q (.ref p) H'
theorem scLLeads : FnScope ["_law_cells_here", "_law_told", "_law_found", "_law_thread", "_law_known", "_law_line", "_law_here", "_law_one", "_law_other"] ["_law_cells_here"] (defScope sLLeads) := ⟨rfl, rfl, rfl, by decide +kernel, rfl, by decide +kernel, by decide +kernel⟩
theorem ok_lleads {f fa fm : Addr} {fd fda fdm : FuncData} (F : Fun K "_law_leads" "_law_leads" sLLeads f fd) (T : Txt K mg)
    (GA : FnOk P w K mg base CX0 1 fa fda ["_law_cells_here"] spLSteps) (kA : PySem.W.keepIn K (.ref fa) = true) (bA : Binds K fda ["_law_cells_here"] []) (gA : mg "_law_steps" = some (.ref fa))
    (GM : FnOk P w K mg base CX0 1 fm fdm ["_law_cells_here"] spMany) (kM : PySem.W.keepIn K (.ref fm) = true) (bM : Binds K fdm ["_law_cells_here"] []) (gM : mg "_law_many" = some (.ref fm)) :
    FnOk P w K mg base CX0 2 f fd ["_law_cells_here"] spLLeads := by
  refine F.ok scLLeads (fun vs H Q E h => ?_) (fun cdv A outer s H vs Q E hr h => ?_)
  · obtain ⟨t, cs, c, rfl, _⟩ := h
    rfl
  · obtain ⟨t, cs, c, rfl, hT, q⟩ := h
    have ok := hT.ok
    have r5 := ok.r5
    have c5 := ok.c5
    have nd := scLLeads.nd
    have hu64 := hr.units
    refine ⟨_, pss_cons (ps_par rfl nd (i := 1) (j := 2) rfl rfl (by decide) rfl rfl (pa_cons (pe_call GA hr (by rfl) gA kA bA .nil pass0 (pa_cons (pv 0) pa_nil)) (pa_cons (pe_lst pa_nil) pa_nil)) (by rfl))
      (pss_cons (ps_for PassesOwn.never rfl (pi_range1 (by rfl) T.range (pa_cons (pe_call GM hr (by rfl) gM kM bM .nil pass0 (pa_cons (pv 0) pa_nil)) pa_nil)) (pg_name (i := 3) nd rfl (.inl rfl))
        (pss_cons (ps_par rfl nd (i := 4) (j := 5) rfl rfl (by decide) rfl rfl (pa_cons (pe_lst (pa_cons (pv 3) pa_nil)) (pa_cons (pe_lst (pa_cons (pv 3) pa_nil)) pa_nil)) (by rfl))
        (pss_cons (ps_while PassesOwn.never (pt_cmpR (op_neD hu64) (pv 5) (pe_lst pa_nil) (nomark _))
          (pss_cons (ps_set (i := 6) nd rfl (.inl rfl) (pe_bm0 PySem.F.plainAttrs_list PySem.F.slot_list_pop PySem.F.type_list_pop mt_pop (pv 5)))
          (pss_one (ps_for PassesOwn.never rfl (pi_list (pv 1)) (pg_tup rfl (pgs_cons (pg_name (i := 7) nd rfl (.inl rfl)) (pgs_cons (pg_name (i := 8) nd rfl (.inl rfl)) pgs_nil)))
            (pss_one (ps_if (PW.pt (pw_and (pt_cmpR op_eq (pv 7) (pv 6) (nomark _)) (pw_and1 (pt_cmpR op_notIn_seq (pv 8) (pv 4) rfl))))
              (pss_cons (ps_expr (pe_bm PySem.F.plainAttrs_list PySem.F.slot_list_append PySem.F.type_list_append mt_append (pv 4) (pa_cons (pv 8) pa_nil)))
              (pss_one (ps_expr (pe_bm PySem.F.plainAttrs_list PySem.F.slot_list_append PySem.F.type_list_append mt_append (pv 5) (pa_cons (pv 8) pa_nil))))) pss_nil))))))
        (pss_one (ps_expr (pe_bm PySem.F.plainAttrs_list PySem.F.slot_list_append PySem.F.type_list_append mt_append (pv 2) (pa_cons (pe_callB cr_sorted (by rfl) T.sorted (by decide +kernel) (pa_cons (pv 4) pa_nil)) pa_nil)))))))
      (pss_one (ps_ret (pv 2)))), ?_⟩
    refine ⟨_, rfl, t, cs, c, rfl, hT, fun H1 tl ps s1 ntl pT hperm => ⟨Nat.zero_le _, fun fnd hf => ⟨_, _, rfl, ?_⟩⟩⟩
    have s2 : Same H (upd H1 fnd (.lst [])) := s1.trans (same_upd hf)
    have hfH : H fnd = none := s1.free hf
    have pT2 := pT.same (same_upd (o := .lst []) hf)
    have memT : ∀ p : Stp, p ∈ ps.map (·.2) ↔ p ∈ stps cs c := fun p => hperm.mem_iff
    refine ⟨_, rfl, t, cs, c, rfl, hT.same s2, _, rfl, by omega, by omega, ?_⟩
    rw [Int.toNat_natCast]
    refine for_range (fun i σ H3 => ∃ v3 v4 v5 v6 v7 v8 Ls, σ = [some (.ref t), some (.ref tl), some (.ref fnd), v3, v4, v5, v6, v7, v8] ∧ Same H H3 ∧ PairsAt H3 tl ps ∧ LeadsAt H3 fnd (stps cs c) i Ls ∧ Ls.length = i)
      ⟨none, none, none, none, none, none, [], rfl, s2, pT2, ⟨⟨upd_same, fun q hq => absurd hq List.not_mem_nil⟩, rfl, fun j hj => absurd hj (Nat.not_lt_zero _)⟩, rfl⟩ (fun i σ H3 hi hP => ?_) (fun σ H3 hP => ?_)
    · obtain ⟨v3, v4, v5, v6, v7, v8, Ls, rfl, s4, pT3, hL, hLl⟩ := hP
      rw [Int.zero_add]
      refine ⟨_, rfl, by show 1 ≤ sizeLine; decide, fun ka nka => ⟨_, rfl, by show 1 ≤ sizeLine; decide, fun wa nwa => ⟨_, _, rfl, ?_⟩⟩⟩
      have nwa3 : H3 wa = none := (same_upd nka).free nwa
      have hka : (upd H3 ka (.lst [.int (i : Int)])) ka = some (.lst [.int (i : Int)]) := upd_same
      have nkw : ka ≠ wa := ne_of_none hka nwa
      have s5 : Same H3 (upd (upd H3 ka (.lst [.int (i : Int)])) wa (.lst [.int (i : Int)])) := (same_upd nka).trans (same_upd nwa)
      have hS : ∀ p ∈ stps cs c, (0 ≤ p.1 ∧ p.1 < ((cs.length + c : Nat) : Int)) ∧ 0 ≤ p.2 ∧ p.2 < ((cs.length + c : Nat) : Int) := stps_rng
      generalize hSe : stps cs c = S at hS memT hL q hperm
      generalize hne : cs.length + c = n at hS hL q hi
      have hn10 : n ≤ 10 := by omega
      refine ⟨fun m σ H4 => ∃ v6 v7 v8 kn wt here, σ = [some (.ref t), some (.ref tl), some (.ref fnd), some (.int (i : Int)), some (.ref ka), some (.ref wa), v6, v7, v8] ∧ Same H3 H4 ∧ H4 ka = some (.lst (kn.map V.int)) ∧ H4 wa = some (.lst (wt.map V.int)) ∧ Dfs S n (i : Int) kn wt here [] ∧ m = 2 * (n - kn.length) + wt.length,
        ⟨_, v6, v7, v8, [(i : Int)], [(i : Int)], 0, rfl, s5, by rw [upd_ne nkw]; exact hka, upd_same, Dfs.start (by omega) (by omega) 0, rfl⟩, ?_⟩
      rintro m σ H4 ⟨v6, v7, v8, kn, wt, here, rfl, s6, eka, ewa, D, hm⟩
      refine ⟨_, rfl, Nat.zero_le _, fun l nl => neI (SqL.of (same_upd nl _ _ ewa)) (SqL.of upd_same) ⟨_, rfl, ?_⟩⟩
      have s7 : Same H3 (upd H4 l (.lst [])) := s6.trans (same_upd nl)
      have eka7 := same_upd (o := .lst []) nl _ _ eka
      have ewa7 := same_upd (o := .lst []) nl _ _ ewa
      rcases List.eq_nil_or_concat wt with rfl | ⟨w1, y, rfl⟩
      · refine iteKF rfl ?_
        have hcl := D.closed
        have hkl := D.len.1
        refine ⟨_, rfl, .inl ⟨rfl, _, SqL.of (s7 _ _ hL.1.ls)⟩, _, rfl, ka, kn, rfl, SqL.of eka7, by omega, fun ys p pp _ np => ?_⟩
        have hL7 : LlsAt (upd H4 l (.lst [])) fnd Ls := hL.1.same s7
        refine ⟨fnd, _, _, rfl, rfl, same_upd np _ _ hL7.ls, by rw [List.length_map, hLl]; exact small1000 (by omega), _, _, _, _, _, _, Ls ++ [(p, ys)], rfl, fun b o e => ?_, ?_, ⟨hL7.push np, ?_⟩, by rw [List.length_append, hLl]; rfl⟩
        · rw [upd_ne (ne_of_none e hfH)]
          exact same_upd np _ _ (s7 _ _ (s4 _ _ e))
        · have pT7 := (pT3.same s7).same (same_upd (o := .lst (ys.map V.int)) np)
          have ntf : tl ≠ fnd := ne_of_none pT.ls hf
          exact ⟨by rw [upd_ne ntf]; exact pT7.ls, fun r hr => by
            rw [upd_ne (ne_of (pT7.it r hr) (same_upd np _ _ hL7.ls) (by intro z; cases z))]
            exact pT7.it r hr⟩
        · rw [List.map_append]
          exact leads_push hL.2 fun u => by rw [pp.mem_iff]; exact hcl u
      · have hlw : (w1.concat y).length = w1.length + 1 := by simp
        refine iteK (by rw [hlw]; rfl) ?_
        rw [List.concat_eq_append] at *
        refine ⟨_, fun _ _ h => h, ?_⟩
        refine ⟨_, rfl, .inl ⟨rfl, _, SqL.of ewa7⟩, wa, _, .int y, rfl, rfl, ewa7, by simp, ?_⟩
        rw [show ((w1 ++ [y]).map V.int).dropLast = w1.map V.int by rw [List.map_append]; exact List.dropLast_concat]
        have yk : y ∈ kn := D.sub y (List.mem_append_right _ (List.mem_singleton.mpr rfl))
        have s8 : Same H3 (upd (upd H4 l (.lst [])) wa (.lst (w1.map V.int))) := fun b o e => by
          rw [upd_ne (ne_of_none e nwa3)]
          exact s7 _ _ e
        have D1 := D.pop (T := ps.map (·.2)) memT
        have pT8 := pT3.same s8
        refine ⟨_, rfl, tl, rfl, ⟨_, SqL.of pT8.ls⟩, for_list (K := K) (a := tl) (xs := ps.map fun q => V.ref q.1) (fun k σ H7 => ∃ v7 v8 kn wt, σ = [some (.ref t), some (.ref tl), some (.ref fnd), some (.int (i : Int)), some (.ref ka), some (.ref wa), some (.int y), v7, v8] ∧ Same H3 H7 ∧ H7 ka = some (.lst (kn.map V.int)) ∧ H7 wa = some (.lst (wt.map V.int)) ∧
            Dfs S n (i : Int) kn wt y ((ps.map Prod.snd).drop k) ∧ y ∈ kn ∧ 2 * (n - kn.length) + wt.length < m)
          ⟨v7, v8, kn, w1, rfl, s8, by rw [upd_ne nkw]; exact eka7, upd_same, D1, yk, by rw [hm, List.length_append]; show _ < _ + (_ + 1); omega⟩ (fun k σ H7 _ hP => ?_) (fun k v σ H7 hk hP => ?_) (fun σ H7 hP => ?_)⟩
        · obtain ⟨v7, v8, kn, wt, rfl, s9, _⟩ := hP
          exact SqL.of (s9 _ _ pT3.ls)
        · obtain ⟨v7, v8, kn2, wt2, rfl, s9, eka9, ewa9, D2, yk2, hm2⟩ := hP
          obtain ⟨r, hr, rfl⟩ := item_of hk
          have hrm := List.mem_of_getElem? hr
          have hdr : (ps.map Prod.snd).drop k = (r.2.1, r.2.2) :: (ps.map Prod.snd).drop (k + 1) := by
            have hk2 : (ps.map Prod.snd)[k]? = some r.2 := by
              rw [List.getElem?_map, hr]
              rfl
            obtain ⟨hlt, e⟩ := List.getElem?_eq_some_iff.mp hk2
            rw [List.drop_eq_getElem_cons hlt, e]
          rw [hdr] at D2
          have l2 := D2.len
          refine ⟨r.1, _, rfl, SqT.of (s9 _ _ (pT3.it r hrm)), rfl, _, _, rfl, _, _, rfl, rfl, ?_⟩
          refine ⟨_, rfl, _, rfl, rfl, _, rfl, ite2 (fun h1 => ?_) (fun h1 => ?_)⟩
          · have e1 : r.2.1 = y := V.int.inj (of_decide_eq_true h1)
            refine ⟨_, rfl, _, rfl, ka, _, rfl, .inl (SqL.of eka9), rfl, flat_ints kn2, !inV (.int r.2.2) (kn2.map V.int), rfl, ?_⟩
            rw [inV_ints]
            by_cases h2 : r.2.2 ∈ kn2
            · rw [decide_eq_true h2]
              refine iteF ?_
              exact ⟨_, _, kn2, wt2, rfl, s9, eka9, ewa9, D2.skip (.inr h2), yk2, hm2⟩
            · rw [decide_eq_false h2]
              refine iteT ?_
              have hs := (memT r.2).mp (List.mem_map.mpr ⟨r, hrm, rfl⟩)
              have hs' : (y, r.2.2) ∈ S := by rw [← e1]; exact hs
              have D3 : Dfs S n (i : Int) kn2 wt2 y ((y, r.2.2) :: (ps.map Prod.snd).drop (k + 1)) := by rw [← e1] at D2 ⊢; exact D2
              have D4 := D3.push yk2 hs' (hS _ hs).2 h2
              have l4 := D4.len.1
              rw [List.length_append] at l4
              have l4 : kn2.length + 1 ≤ n := l4
              refine ⟨_, rfl, .inl ⟨rfl, _, SqL.of eka9⟩, _, rfl, ka, _, _, rfl, rfl, eka9, by rw [List.length_map]; exact small1000 (by omega), ?_⟩
              have ewb : (upd H7 ka (.lst (kn2.map V.int ++ [.int r.2.2]))) wa = some (.lst (wt2.map V.int)) := by
                rw [upd_ne nkw.symm]
                exact ewa9
              refine ⟨_, rfl, .inl ⟨rfl, _, SqL.of ewb⟩, _, rfl, wa, _, _, rfl, rfl, ewb, by rw [List.length_map]; exact small1000 (by omega), ?_⟩
              refine ⟨_, _, kn2 ++ [r.2.2], wt2 ++ [r.2.2], rfl, fun b o e => ?_, by rw [upd_ne nkw, upd_same, List.map_append]; rfl, by rw [upd_same, List.map_append]; rfl, D4, List.mem_append_left _ yk2, ?_⟩
              · rw [upd_ne (ne_of_none e nwa3), upd_ne (ne_of_none e nka)]
                exact s9 _ _ e
              · rw [List.length_append, List.length_append]
                show 2 * (n - (kn2.length + 1)) + (wt2.length + 1) < m
                omega
          · refine iteF ?_
            exact ⟨_, _, kn2, wt2, rfl, s9, eka9, ewa9, D2.skip (.inl fun e => h1 (decide_eq_true (congrArg V.int e))), yk2, hm2⟩
        · obtain ⟨v7, v8, kn2, wt2, rfl, s9, eka9, ewa9, D2, yk2, hm2⟩ := hP
          have e0 : (ps.map Prod.snd).drop (ps.map fun q => V.ref q.1).length = [] := List.drop_of_length_le (by rw [List.length_map, List.length_map]; exact Nat.le_refl _)
          rw [e0] at D2
          exact ⟨_, hm2, _, _, _, kn2, wt2, y, rfl, s9, eka9, ewa9, D2, rfl⟩
    · obtain ⟨v3, v4, v5, v6, v7, v8, Ls, rfl, s4, pT3, hL, hLl⟩ := hP
      exact ⟨_, rfl, q H3 fnd Ls s4 hfH hL⟩
end
end Wf
set_option Elab.async false
set_option linter.all false
set_option maxRecDepth 100000
set_option maxHeartbeats 4000000
namespace Wf
open PySem PySem.Spec PyProof.Rows L2
open PySem.W (dataLe)
abbrev sAlike : Stmt := top 34
abbrev sLAllLots : Stmt := top 35
abbrev sLIsClosed : Stmt := top 36
abbrev sLLots : Stmt := top 37
theorem fnOk_or {P : Program} {w : World} {K : PySem.W.Frag} {mg : Str → Option Value} {base : Heap} {CX : CXT} {k : Nat} {f : Addr} {fd : FuncData} {ps : List Str} {s1 s2 : Sp} (a : FnOk P w K mg base CX k f fd ps s1) (b : FnOk P w K mg base CX k f fd ps s2) :
    FnOk P w K mg base CX k f fd ps (fun vs H Q E => s1 vs H Q E ∨ s2 vs H Q E) where
  len := fun vs H Q E h => h.elim (a.len vs H Q E) (b.len vs H Q E)
  run := fun A outer s H args us vs Q E hr e hb hv h => h.elim (a.run A outer s H args us vs Q E hr e hb hv) (b.run A outer s H args us vs Q E hr e hb hv)
section
variable {P : Program} {w : World} {K : PySem.W.Frag} {mg : Str → Option Value} {base : Heap} {C : Addr}
/-! ### _law_alike -/
theorem scAlike : FnScope ["_law_found", "_law_due", "_law_k"] ["_law_found", "_law_due"] (defScope sAlike) := ⟨rfl, rfl, rfl, by decide +kernel, rfl, by decide +kernel, by decide +kernel⟩
/-- of two equal values without parts -/
def spAlk1 : Sp := fun vs H Q _ => ∃ x, vs = [x, x] ∧ (x = .non ∨ (∃ b, x = .bl b) ∨ ∃ i, x = .int i) ∧ ∀ H', Same H H' → Q (.bl true) H'
theorem noSeq {t : String} (h1 : kitB t "tuple" = some false) (h2 : kitB t "list" = some false) : PySem.W.kitAny K (.type t) [.type "tuple", .type "list"] = some false :=
  kitAny_cons (kit_ty h1) (fun _ => kitAny_cons (kit_ty h2) (fun _ => kitAny_nil) (fun z => nomatch z)) (fun z => nomatch z)
theorem ok_alk1 {f : Addr} {fd : FuncData} (F : Fun K "_law_alike" "_law_alike" sAlike f fd) (T : Txt K mg) : FnOk P w K mg base CX0 1 f fd ["_law_found", "_law_due"] spAlk1 := by
  refine F.ok scAlike (fun vs H Q E h => ?_) (fun cdv A outer s H vs Q E hr h => ?_)
  · obtain ⟨x, rfl, _⟩ := h
    rfl
  · obtain ⟨x, rfl, hx, q⟩ := h
    refine ⟨_, pss_cons (ps_if (pt_val (pe_callB call_isiT (by rfl) T.isi (by decide +kernel) (pa_cons (pv 1) (pa_cons (pe_tup (pa_cons (bt "tuple" (by rfl) T.tuple (by decide +kernel)) (pa_cons (bt "list" (by rfl) T.list (by decide +kernel)) pa_nil))) pa_nil)))) pss_never pss_nil)
      (pss_cons (ps_if (PW.pt (pw_or (pt_cmp (pc_isN (pv 1))) (pw_or1 (pt_val (pe_callB call_isi (by rfl) T.isi (by decide +kernel) (pa_cons (pv 1) (pa_cons (bt "str" (by rfl) T.str (by decide +kernel)) pa_nil)))))))
        (pss_one (ps_ret (pe_and (pe_cmpR op_eq (pv 0) (pv 1) (nomark _)) (pe_one (pe_cmpR op_eq (pe_callB call_isi (by rfl) T.isi (by decide +kernel) (pa_cons (pv 0) (pa_cons (bt "str" (by rfl) T.str (by decide +kernel)) pa_nil))) (pe_callB call_isi (by rfl) T.isi (by decide +kernel) (pa_cons (pv 1) (pa_cons (bt "str" (by rfl) T.str (by decide +kernel)) pa_nil))) (nomark _)))))) pss_nil)
      (pss_one (ps_ret (pe_and (pe_callB call_isi (by rfl) T.isi (by decide +kernel) (pa_cons (pv 0) (pa_cons (bt "int" (by rfl) T.int (by decide +kernel)) pa_nil)))
        (pe_and (pe_cmpR op_eq (pe_callB call_isi (by rfl) T.isi (by decide +kernel) (pa_cons (pv 0) (pa_cons (bt "bool" (by rfl) T.bool (by decide +kernel)) pa_nil))) (pe_callB call_isi (by rfl) T.isi (by decide +kernel) (pa_cons (pv 1) (pa_cons (bt "bool" (by rfl) T.bool (by decide +kernel)) pa_nil))) (nomark _))
        (pe_one (pe_cmpR op_eq (pv 0) (pv 1) (nomark _)))))))), ?_⟩
    refine ⟨x, rfl, by show 2 ≤ sizeLine; decide, fun tp ntp => ?_⟩
    have sT := same_upd (o := .tup [V.ty "tuple", V.ty "list"]) ntp
    rcases hx with rfl | ⟨b, rfl⟩ | ⟨i, rfl⟩
    · refine ⟨_, tp, _, _, _, false, rfl, upd_same, .cons (.ty _) (.cons (.ty _) .nil), .base .non, noSeq (by decide +kernel) (by decide +kernel), false, rfl, iteF ?_⟩
      refine ⟨_, rfl, _, rfl, iteY rfl ?_⟩
      refine ⟨_, rfl, _, rfl, rfl, _, rfl, iteY rfl ?_⟩
      refine ⟨_, rfl, _, _, _, _, false, rfl, .ty _, .base .non, kit_ty (by decide +kernel), _, rfl, _, _, _, _, false, rfl, .ty _, .base .non, kit_ty (by decide +kernel), rfl, ?_⟩
      exact q _ sT
    · refine ⟨_, tp, _, _, _, false, rfl, upd_same, .cons (.ty _) (.cons (.ty _) .nil), .base (.bl b), noSeq (by decide +kernel) (by decide +kernel), false, rfl, iteF ?_⟩
      refine ⟨_, rfl, _, rfl, iteN (by intro z; cases z) ⟨_, rfl, _, _, _, _, _, rfl, .ty _, .base (.bl b), kit_ty (by decide +kernel), false, rfl, iteF ?_⟩⟩
      refine ⟨_, rfl, _, _, _, _, _, rfl, .ty _, .base (.bl b), kit_ty (by decide +kernel), true, rfl, iteT ?_⟩
      refine ⟨_, rfl, _, _, _, _, true, rfl, .ty _, .base (.bl b), kit_ty (by decide +kernel), _, rfl, _, _, _, _, true, rfl, .ty _, .base (.bl b), kit_ty (by decide +kernel), rfl, _, rfl, iteY rfl ?_⟩
      refine ⟨_, rfl, _, rfl, rfl, ?_⟩
      rw [decide_eq_true rfl]
      exact q _ sT
    · refine ⟨_, tp, _, _, _, false, rfl, upd_same, .cons (.ty _) (.cons (.ty _) .nil), .base (.int i), noSeq (by decide +kernel) (by decide +kernel), false, rfl, iteF ?_⟩
      refine ⟨_, rfl, _, rfl, iteN (by intro z; cases z) ⟨_, rfl, _, _, _, _, _, rfl, .ty _, .base (.int i), kit_ty (by decide +kernel), false, rfl, iteF ?_⟩⟩
      refine ⟨_, rfl, _, _, _, _, _, rfl, .ty _, .base (.int i), kit_ty (by decide +kernel), true, rfl, iteT ?_⟩
      refine ⟨_, rfl, _, _, _, _, false, rfl, .ty _, .base (.int i), kit_ty (by decide +kernel), _, rfl, _, _, _, _, false, rfl, .ty _, .base (.int i), kit_ty (by decide +kernel), rfl, _, rfl, iteY rfl ?_⟩
      refine ⟨_, rfl, _, rfl, rfl, ?_⟩
      rw [decide_eq_true rfl]
      exact q _ sT
/-- of two tuples of the same ints -/
def spAlk2 : Sp := fun vs H Q _ => ∃ a b, ∃ ns : List Int, vs = [.ref a, .ref b] ∧ H a = some (.tup (ns.map V.int)) ∧ H b = some (.tup (ns.map V.int)) ∧ ns.length ≤ 20 ∧ ∀ H', Same H H' → Q (.bl true) H'
theorem isSeq : PySem.W.kitAny K (.type "tuple") [.type "tuple", .type "list"] = some true := kitAny_cons (b := true) (kit_ty (by decide +kernel)) (fun z => nomatch z) (fun _ => rfl)
theorem ok_alk2 {f : Addr} {fd : FuncData} (F : Fun K "_law_alike" "_law_alike" sAlike f fd) (T : Txt K mg) (bF : Binds K fd ["_law_found", "_law_due"] []) (gF : mg "_law_alike" = some (.ref f)) : FnOk P w K mg base CX0 2 f fd ["_law_found", "_law_due"] spAlk2 := by
  have G1 : FnOk P w K mg base CX0 1 f fd ["_law_found", "_law_due"] spAlk1 := ok_alk1 F T
  refine F.ok scAlike (fun vs H Q E h => ?_) (fun cdv A outer s H vs Q E hr h => ?_)
  · obtain ⟨a, b, ns, rfl, _⟩ := h
    rfl
  · obtain ⟨a, b, ns, rfl, ha, hb, hl, q⟩ := h
    have nd := scAlike.nd
    have hu64 := hr.units
    refine ⟨_, pss_cons (ps_if (pt_val (pe_callB call_isiT (by rfl) T.isi (by decide +kernel) (pa_cons (pv 1) (pa_cons (pe_tup (pa_cons (bt "tuple" (by rfl) T.tuple (by decide +kernel)) (pa_cons (bt "list" (by rfl) T.list (by decide +kernel)) pa_nil))) pa_nil))))
        (pss_cons (ps_if (PW.pt (pw_or (pt_not (pt_val (pe_callB call_isiT (by rfl) T.isi (by decide +kernel) (pa_cons (pv 0) (pa_cons (pe_tup (pa_cons (bt "tuple" (by rfl) T.tuple (by decide +kernel)) (pa_cons (bt "list" (by rfl) T.list (by decide +kernel)) pa_nil))) pa_nil)))))
          (pw_or1 (pt_cmpR op_ne (pe_callB call_isi (by rfl) T.isi (by decide +kernel) (pa_cons (pv 0) (pa_cons (bt "list" (by rfl) T.list (by decide +kernel)) pa_nil))) (pe_callB call_isi (by rfl) T.isi (by decide +kernel) (pa_cons (pv 1) (pa_cons (bt "list" (by rfl) T.list (by decide +kernel)) pa_nil))) (nomark _))))) pss_never pss_nil)
        (pss_cons (ps_if (pt_cmpR op_ne (pe_callB call_len_seq (by rfl) T.len PySem.boot_len (pa_cons (pv 0) pa_nil)) (pe_callB call_len_seq (by rfl) T.len PySem.boot_len (pa_cons (pv 1) pa_nil)) (nomark _)) pss_never pss_nil)
        (pss_one (ps_ret (pe_cmpR (op_eqD hu64) (pe_lc (own := [("_law_k", 2)]) (g := gName 2) rfl nd (pi_range1 (by rfl) T.range (pa_cons (pe_callB call_len_seq (by rfl) T.len PySem.boot_len (pa_cons (pv 1) pa_nil)) pa_nil))
          (blkOk_by (N := ["_law_found", "_law_due", "_law_k"]) (sc := defScope sAlike) (by decide +kernel)) (fun _ _ _ _ _ => pg_name (i := 2) nd rfl (Or.inl rfl))
          (fun _ _ _ _ _ => pts_one (pt_not (pt_val (pe_call G1 hr (by rfl) gF F.kp bF .nil pass0 (pa_cons (pe_ix (r := rIxT K) ix_tup (pv 0) (pv 2) (fun _ _ => rfl)) (pa_cons (pe_ix (r := rIxT K) ix_tup (pv 1) (pv 2) (fun _ _ => rfl)) pa_nil)))))) (fun _ _ _ _ _ => pv 2)) (pe_lst pa_nil) (nomark _)))))) pss_nil)
      pss_never, ?_⟩
    refine ⟨_, rfl, by show 2 ≤ sizeLine; decide, fun tp ntp => ?_⟩
    have s1 := same_upd (o := .tup [V.ty "tuple", V.ty "list"]) ntp
    have hm : (ns.map V.int).length = ns.length := List.length_map ..
    refine ⟨_, tp, _, _, _, true, rfl, upd_same, .cons (.ty _) (.cons (.ty _) .nil), .base (.tup (s1 _ _ hb)), isSeq, true, rfl, iteT ?_⟩
    refine ⟨_, rfl, by show 2 ≤ sizeLine; decide, fun tq ntq => ?_⟩
    have s2 := s1.trans (same_upd (o := .tup [V.ty "tuple", V.ty "list"]) ntq)
    refine ⟨_, tq, _, _, _, true, rfl, upd_same, .cons (.ty _) (.cons (.ty _) .nil), .base (.tup (s2 _ _ ha)), isSeq, true, rfl, iteF ?_⟩
    refine ⟨_, rfl, _, _, _, _, false, rfl, .ty _, .base (.tup (s2 _ _ ha)), kit_ty (by decide +kernel), _, rfl, _, _, _, _, false, rfl, .ty _, .base (.tup (s2 _ _ hb)), kit_ty (by decide +kernel), rfl, _, rfl, iteF ?_⟩
    refine ⟨_, rfl, a, _, rfl, .inr (SqT.of (s2 _ _ ha)), _, rfl, b, _, rfl, .inr (SqT.of (s2 _ _ hb)), rfl, _, rfl, iteNS rfl ?_⟩
    refine ⟨_, rfl, b, _, rfl, .inr (SqT.of (s2 _ _ hb)), _, rfl, by omega, by omega, fun D nD => lc_all walk_range (fun i acc _ => acc = []) nD (fun _ _ _ _ _ a => a) (fun _ _ => trivial) rfl (by omega)
      (fun i y H2 H3 acc Kt Kf hi s3 e hy _ kf => ?_) (fun H2 acc s3 e2 e _ => ?_)⟩
    · obtain ⟨rfl, rfl⟩ := hy
      have hi2 : i < ns.length := by omega
      have g : (ns.map V.int)[i]? = some (.int ns[i]) := by
        rw [List.getElem?_map, List.getElem?_eq_getElem hi2]
        rfl
      refine ⟨rfl, _, rfl, _, rfl, a, _, _, _, rfl, rfl, SqT.of (s3 _ _ (s2 _ _ ha)), at_of (j := i) (by omega) g, _, rfl, _, rfl, b, _, _, _, rfl, rfl, SqT.of (s3 _ _ (s2 _ _ hb)), at_of (j := i) (by omega) g, _, rfl, .inr (.inr ⟨_, rfl⟩), fun H4 s4 => ⟨true, rfl, ?_⟩⟩
      exact iteF (kf _ s4 e)
    · refine ⟨Nat.zero_le _, fun l nl => eqI (ns := []) (SqL.of (same_upd nl _ _ (by rw [e2, e]; rfl))) (SqL.of upd_same) ?_⟩
      exact q _ (s2.trans (s3.trans (same_upd nl)))
end
end Wf
set_option Elab.async false
set_option linter.all false
set_option maxRecDepth 100000
set_option maxHeartbeats 4000000
namespace Wf
open PySem PySem.Spec PyProof.Rows L2
open PySem.W (dataLe AllAlike Sortable)
theorem dp_keyD {K : PySem.W.Frag} {H : Hp} {q a : Addr} {ns : List Int} (hq : H q = some (.tup [.int ns.length, .ref a])) (ha : H a = some (.tup (ns.map V.int))) : Dp K H (.ref q) (keyD ns) :=
  .tup (SqT.of hq) (.cons (.int _) (.cons (.tup (SqT.of ha) (dp_ints ns)) .nil))
/-- what the law looks for among the steps -/
def badB (ns : List Int) (p : Stp) : Bool := decide (p.2 ∈ ns) && !decide (p.1 ∈ ns)
theorem bad_none (S : List Stp) (ns : List Int) : decide ((S.filter (badB ns)).length = 0) = closB S ns := by
  rw [Bool.eq_iff_iff, decide_eq_true_eq, List.length_eq_zero_iff, List.filter_eq_nil_iff]
  unfold closB badB
  rw [List.all_eq_true]
  refine forall_congr' fun p => forall_congr' fun _ => ?_
  by_cases h1 : p.1 ∈ ns <;> by_cases h2 : p.2 ∈ ns <;> simp [h1, h2]
section
variable {P : Program} {w : World} {K : PySem.W.Frag} {mg : Str → Option Value} {base : Heap} {C : Addr}
/-! ### _law_is_closed -/
theorem scLIsC : FnScope ["_law_told", "_law_lot", "_law_one", "_law_other"] ["_law_told", "_law_lot"] (defScope sLIsClosed) := ⟨rfl, rfl, rfl, by decide +kernel, rfl, by decide +kernel, by decide +kernel⟩
theorem ok_lisc {f : Addr} {fd : FuncData} (F : Fun K "_law_is_closed" "_law_is_closed" sLIsClosed f fd) (T : Txt K mg) : FnOk P w K mg base CX0 1 f fd ["_law_told", "_law_lot"] spCloses := by
  refine F.ok scLIsC (fun vs H Q E h => ?_) (fun cdv A outer s H vs Q E hr h => ?_)
  · obtain ⟨tl, l, ps, ns, rfl, _⟩ := h
    rfl
  · obtain ⟨tl, l, ps, ns, rfl, pT, hl, hlen, q⟩ := h
    have nd := scLIsC.nd
    have hu64 := hr.units
    refine ⟨_, pss_one (ps_ret (pe_cmpR (op_eqD hu64) (pe_lc (own := [("_law_one", 2), ("_law_other", 3)]) (g := gPair K 2 3) rfl nd (pi_list (pv 0)) (blkOk_by (N := ["_law_told", "_law_lot", "_law_one", "_law_other"]) (sc := defScope sLIsClosed) (by decide +kernel))
        (fun _ _ _ _ _ => pg_tup rfl (pgs_cons (pg_name (i := 2) nd rfl (Or.inl rfl)) (pgs_cons (pg_name (i := 3) nd rfl (Or.inl rfl)) pgs_nil)))
        (fun _ _ _ _ _ => pts_one (PW.pt (pw_and (pt_cmpR (r := rIn K false) op_in_seq (pv 3) (pv 1) rfl) (pw_and1 (pt_cmpR (r := rIn K true) op_notIn_seq (pv 2) (pv 1) rfl))))) (fun _ _ _ _ _ => pv 2)) (pe_lst pa_nil) (nomark _))), ?_⟩
    refine ⟨_, rfl, tl, rfl, ⟨_, SqL.of pT.ls⟩, fun D hD => lc_all (walk_list (xs := ps.map fun q => V.ref q.1)) (fun i acc _ => acc = (((ps.take i).map Prod.snd).filter (badB ns)).map fun p => V.int p.1) hD (fun _ _ _ _ _ a => a) (fun H' s => SqL.of (s _ _ pT.ls)) rfl (by rw [List.length_map]; omega)
      (fun i y H2 H3 acc Kt Kf hi s1 a hy kt kf => ?_) (fun H2 acc s1 e a _ => ?_)⟩
    · obtain ⟨rfl, hy⟩ := hy
      obtain ⟨r, hr, rfl⟩ := item_of hy
      have hrm := List.mem_of_getElem? hr
      have hl2 := s1 _ _ hl
      have ea : (((ps.take (i + 1)).map Prod.snd).filter (badB ns)).map (fun p => V.int p.1) = acc ++ (if badB ns r.2 = true then [V.int r.2.1] else []) := by
        rw [a, take_succ_of hr, List.map_append, List.filter_append, List.map_append, List.map_cons, List.map_nil, List.filter_cons, List.filter_nil]
        split <;> rfl
      refine ⟨r.1, _, rfl, SqT.of (s1 _ _ (pT.it r hrm)), rfl, _, _, rfl, _, _, rfl, rfl, rfl, ?_⟩
      refine ⟨_, rfl, _, rfl, l, _, rfl, .inr (SqT.of hl2), rfl, flat_ints ns, inV (.int r.2.2) (ns.map V.int), rfl, ?_⟩
      rw [inV_ints]
      by_cases h2 : r.2.2 ∈ ns
      · rw [decide_eq_true h2]
        refine iteT ?_
        refine ⟨_, rfl, _, rfl, l, _, rfl, .inr (SqT.of hl2), rfl, flat_ints ns, !inV (.int r.2.1) (ns.map V.int), rfl, ?_⟩
        rw [inV_ints]
        by_cases h1 : r.2.1 ∈ ns
        · rw [decide_eq_true h1]
          refine iteF (kf _ (Same.refl _) ?_)
          rw [ea, if_neg (by unfold badB; rw [decide_eq_true h1, Bool.not_true, Bool.and_false]; decide), List.append_nil]
        · rw [decide_eq_false h1]
          refine iteT ⟨_, rfl, kt _ _ (Same.refl _) ?_⟩
          rw [ea, if_pos (by unfold badB; rw [decide_eq_true h2, decide_eq_false h1]; rfl)]
      · rw [decide_eq_false h2]
        refine iteF (iteF (kf _ (Same.refl _) ?_))
        rw [ea, if_neg (by unfold badB; rw [decide_eq_false h2, Bool.false_and]; decide), List.append_nil]
    · rw [List.length_map, List.take_length] at a
      refine ⟨Nat.zero_le _, fun z nz => eqI (ns := ((ps.map Prod.snd).filter (badB ns)).map Prod.fst) (SqL.of (same_upd nz _ _ (by rw [e, a, List.map_map]; rfl))) (SqL.of upd_same) ?_⟩
      rw [List.length_map, bad_none]
      exact q _ (s1.trans (same_upd nz))
/-! ### _law_all_lots -/
def spLAllLots : Sp := fun vs H Q _ => ∃ n : Nat, vs = [.int (n : Int)] ∧ n ≤ 10 ∧ ∀ H' p ps, Same H H' → H p = none → LotsAt H' p ps → ps.map Prod.snd = (allLots n).mergeSort leL → Q (.ref p) H'
theorem scLAll : FnScope ["_law_many_here", "_law_found", "_law_thread", "_law_lot", "_law_size"] ["_law_many_here"] (defScope sLAllLots) := ⟨rfl, rfl, rfl, by decide +kernel, rfl, by decide +kernel, by decide +kernel⟩
theorem ok_lall {f : Addr} {fd : FuncData} (F : Fun K "_law_all_lots" "_law_all_lots" sLAllLots f fd) (T : Txt K mg) : FnOk P w K mg base CX0 1 f fd ["_law_many_here"] spLAllLots := by
  refine F.ok scLAll (fun vs H Q E h => ?_) (fun cdv A outer s H vs Q E hr h => ?_)
  · obtain ⟨n, rfl, _⟩ := h
    rfl
  · obtain ⟨n, rfl, hn, q⟩ := h
    have nd := scLAll.nd
    have hu64 := hr.units
    refine ⟨_, pss_cons (ps_set (i := 1) nd rfl (Or.inl rfl) (pe_lst (pa_cons (pe_tup pa_nil) pa_nil)))
      (pss_cons (ps_for PassesOwn.never rfl (pi_range1 (by rfl) T.range (pa_cons (pv 0) pa_nil)) (pg_name (i := 2) nd rfl (Or.inr rfl))
        (pss_one (ps_set (i := 1) nd rfl (Or.inl rfl) (pe_op op_cat (pv 1) (pe_lc (own := [("_law_lot", 3)]) (g := gName 3) (tt := tYes) rfl nd (pi_list (pv 1)) (blkOk_by (N := ["_law_many_here", "_law_found", "_law_thread", "_law_lot", "_law_size"]) (sc := defScope sLAllLots) (by decide +kernel))
          (fun _ _ _ _ _ => pg_name (i := 3) nd rfl (Or.inl rfl)) (fun _ _ _ _ _ => pts_nil) (fun _ _ _ _ _ => pe_op (r := rCatA K) op_catA (pv 3) (pe_tup (pa_cons (pv 2) pa_nil))))))))
      (pss_one (ps_ret (pe_lc (own := [("_law_size", 4), ("_law_lot", 3)]) (g := gPair K 4 3) (tt := tYes) rfl nd
        (pi_list (pe_callB (cr_srtD (fun p : Addr × List Int => keyD p.2) hu64) (by rfl) T.sorted (by decide +kernel) (pa_cons (pe_lc (own := [("_law_lot", 3)]) (g := gName 3) (tt := tYes) rfl nd (pi_list (pv 1)) (blkOk_by (N := ["_law_many_here", "_law_found", "_law_thread", "_law_lot", "_law_size"]) (sc := defScope sLAllLots) (by decide +kernel))
          (fun _ _ _ _ _ => pg_name (i := 3) nd rfl (Or.inl rfl)) (fun _ _ _ _ _ => pts_nil) (fun _ _ _ _ _ => pe_tup (pa_cons (pe_callB (r := fun xs H Q => ∃ p ys, xs = [.ref p] ∧ (SqL K H p ys ∨ SqT K H p ys) ∧ Q (.int ys.length) H) call_len_seq (by rfl) T.len PySem.boot_len (pa_cons (pv 3) pa_nil)) (pa_cons (pv 3) pa_nil)))) pa_nil)))
        (blkOk_by (N := ["_law_many_here", "_law_found", "_law_thread", "_law_lot", "_law_size"]) (sc := defScope sLAllLots) (by decide +kernel))
        (fun _ _ _ _ _ => pg_tup rfl (pgs_cons (pg_name (i := 4) nd rfl (Or.inl rfl)) (pgs_cons (pg_name (i := 3) nd rfl (Or.inl rfl)) pgs_nil))) (fun _ _ _ _ _ => pts_nil) (fun _ _ _ _ _ => pv 3))))), ?_⟩
    refine ⟨Nat.zero_le _, fun e ne => ⟨by show 1 ≤ sizeLine; decide, fun f0 nf0 => ?_⟩⟩
    have s1 : Same H (upd (upd H e (.tup [])) f0 (.lst [.ref e])) := (same_upd ne).trans (same_upd nf0)
    refine ⟨_, rfl, _, rfl, by omega, by omega, ?_⟩
    rw [Int.toNat_natCast]
    refine for_range (fun i σ H2 => ∃ p ps v2 v3 v4, σ = [some (.int (n : Int)), some (.ref p), v2, v3, v4] ∧ Same H H2 ∧ H p = none ∧ LotsAt H2 p ps ∧ ps.map Prod.snd = allLots i)
      ⟨f0, [(e, [])], none, none, none, rfl, s1, (same_upd ne).free nf0, ⟨upd_same, fun r hr => ?_⟩, rfl⟩ (fun i σ H2 hi hP => ?_) (fun σ H2 hP => ?_)
    · rw [List.mem_singleton.mp hr]
      exact same_upd nf0 _ _ upd_same
    · obtain ⟨p, ps, v2, v3, v4, rfl, s2, np, LA, ep⟩ := hP
      rw [Int.zero_add]
      have hl : ps.length ≤ 1024 := by
        have := allLots_small (show i ≤ 10 by omega)
        rw [← ep, List.length_map] at this
        exact this
      refine ⟨_, rfl, _, rfl, p, rfl, ⟨_, SqL.of LA.ls⟩, fun D nD => lc_map (walk_list (xs := ps.map fun q => V.ref q.1)) (fun k acc H3 => ∃ qs : List (Addr × List Int), acc = qs.map (fun q => V.ref q.1) ∧ qs.map Prod.snd = (ps.take k).map (fun q => q.2 ++ [(i : Int)]) ∧ ∀ r ∈ qs, H3 r.1 = some (.tup (r.2.map V.int))) nD
        (fun k acc H3 H4 st ⟨qs, e1, e2, e3⟩ => ⟨qs, e1, e2, fun r hr => st _ _ (e3 r hr)⟩) (fun H' s => SqL.of (s _ _ LA.ls)) ⟨[], rfl, rfl, fun r hr => absurd hr List.not_mem_nil⟩ (by rw [List.length_map]; omega) (fun k y H3 H4 acc Kt hk s3 a hy kt => ?_) (fun H3 acc s3 e3 a _ => ?_) gName_mono⟩
      · obtain ⟨rfl, hy⟩ := hy
        obtain ⟨r, hr, rfl⟩ := item_of hy
        obtain ⟨qs, rfl, e2, e3⟩ := a
        have hrt := s3 _ _ (LA.it r (List.mem_of_getElem? hr))
        have hasc := allLots_asc i r.2 (by rw [← ep]; exact List.mem_map.mpr ⟨r, List.mem_of_getElem? hr, rfl⟩)
        have hrl : r.2.length ≤ i := nodup_le i r.2 (hasc.1.imp fun h => Int.ne_of_lt h) hasc.2
        refine ⟨rfl, _, rfl, _, rfl, by show 1 ≤ sizeLine; decide, fun o no => ?_⟩
        have add : ∀ {u : Addr} {H5 : Hp}, Same H4 H5 → H5 u = some (.tup ((r.2 ++ [(i : Int)]).map V.int)) → ∃ qs2 : List (Addr × List Int), (qs.map fun q => V.ref q.1) ++ [.ref u] = qs2.map (fun q => V.ref q.1) ∧ qs2.map Prod.snd = (ps.take (k + 1)).map (fun q => q.2 ++ [(i : Int)]) ∧ ∀ r ∈ qs2, H5 r.1 = some (.tup (r.2.map V.int)) := fun {u H5} s5 eu => by
          refine ⟨qs ++ [(u, r.2 ++ [(i : Int)])], by rw [List.map_append]; rfl, ?_, fun v hv => ?_⟩
          · rw [List.map_append, e2, take_succ_of hr, List.map_append]
            rfl
          · rcases List.mem_append.mp hv with hv | hv
            · exact s5 _ _ (e3 v hv)
            · rw [List.mem_singleton.mp hv]
              exact eu
        have so := same_upd (o := .tup [V.int (i : Int)]) no
        refine ⟨r.1, o, _, _, rfl, rfl, SqT.of (so _ _ hrt), SqT.of upd_same, ?_, fun he => kt _ _ so (add so ?_), fun _ he => ?_, fun _ _ q nq => kt _ _ (so.trans (same_upd nq)) (add (so.trans (same_upd nq)) ?_)⟩
        · rw [List.length_map]
          show r.2.length + 1 ≤ sizeLine
          exact Nat.le_of_lt (small1000 (by omega))
        · rw [upd_same, List.map_append, he]
          rfl
        · cases he
        · rw [upd_same, List.map_append]
          rfl
      · obtain ⟨qs, rfl, e2, e4⟩ := a
        rw [List.length_map, List.take_length] at e2
        have hql : qs.length = ps.length := by
          have := congrArg List.length e2
          rw [List.length_map, List.length_map] at this
          exact this
        have LA3 := LA.same s3
        refine ⟨p, D, _, _, rfl, rfl, LA3.ls, e3, ?_, fun p2 np2 => ?_⟩
        · rw [List.length_map, List.length_map, hql]
          exact Nat.le_of_lt (Nat.lt_of_le_of_lt (show ps.length + ps.length ≤ 2048 by omega) (by decide))
        · refine ⟨p2, ps ++ qs, _, _, _, rfl, s2.trans (s3.trans (same_upd np2)), (s2.trans s3).free np2, ⟨?_, fun r hr => ?_⟩, ?_⟩
          · rw [upd_same, List.map_append]
          · rcases List.mem_append.mp hr with hr | hr
            · exact same_upd np2 _ _ (LA3.it r hr)
            · exact same_upd np2 _ _ (e4 r hr)
          · rw [List.map_append, e2, ep]
            show allLots i ++ _ = allLots i ++ (allLots i).map (· ++ [(i : Int)])
            rw [← ep, List.map_map]
            rfl
    · -- the sizes, sorted
      obtain ⟨p, ps, v2, v3, v4, rfl, s2, np, LA, ep⟩ := hP
      have hl : ps.length ≤ 1024 := by
        have := allLots_small hn
        rw [← ep, List.length_map] at this
        exact this
      refine ⟨_, rfl, p, rfl, ⟨_, SqL.of LA.ls⟩, fun D nD => lc_map (walk_list (xs := ps.map fun q => V.ref q.1)) (fun k acc H3 => ∃ qs : List (V × (Addr × List Int)), acc = qs.map Prod.fst ∧ qs.map Prod.snd = ps.take k ∧ ∀ z ∈ qs, ∃ q, z.1 = .ref q ∧ H3 q = some (.tup [.int z.2.2.length, .ref z.2.1])) nD
        (fun k acc H3 H4 st ⟨qs, e1, e2, e3⟩ => ⟨qs, e1, e2, fun z hz => (e3 z hz).imp fun q h => ⟨h.1, st _ _ h.2⟩⟩) (fun H' s => SqL.of (s _ _ LA.ls)) ⟨[], rfl, rfl, fun r hr => absurd hr List.not_mem_nil⟩ (by rw [List.length_map]; omega) (fun k y H3 H4 acc Kt hk s3 a hy kt => ?_) (fun H3 acc s3 e3 a _ => ?_) gName_mono⟩
      · obtain ⟨rfl, hy⟩ := hy
        obtain ⟨r, hr, rfl⟩ := item_of hy
        obtain ⟨qs, rfl, e2, e3⟩ := a
        have hrt := s3 _ _ (LA.it r (List.mem_of_getElem? hr))
        refine ⟨rfl, _, rfl, r.1, _, rfl, .inr (SqT.of hrt), _, rfl, by show 2 ≤ sizeLine; decide, fun q nq => kt _ _ (same_upd nq) ⟨qs ++ [(.ref q, r)], by rw [List.map_append]; rfl, by rw [List.map_append, e2, take_succ_of hr]; rfl, fun z hz => ?_⟩⟩
        rcases List.mem_append.mp hz with hz | hz
        · obtain ⟨u, h1, h2⟩ := e3 z hz
          exact ⟨u, h1, same_upd nq _ _ h2⟩
        · rw [List.mem_singleton.mp hz]
          refine ⟨q, rfl, ?_⟩
          rw [upd_same, List.length_map]
      · obtain ⟨qs, rfl, e2, e4⟩ := a
        rw [List.length_map, List.take_length] at e2
        have LA3 := LA.same s3
        have mem : ∀ z ∈ qs, z.2 ∈ ps := fun z hz => by
          rw [← e2]
          exact List.mem_map.mpr ⟨z, hz, rfl⟩
        have hql : qs.length = ps.length := by
          rw [← e2, List.length_map]
        refine ⟨D, qs, rfl, SqL.of e3, fun z hz => ?_, ⟨AllAlike.of fun _ _ => alike_keyD _ _, Sortable.tuples fun _ => ⟨_, _, rfl⟩, fun z _ => by rw [depth_keyD]; decide⟩, fun srt nsrt => ?_⟩
        · obtain ⟨q, h1, h2⟩ := e4 z hz
          rw [h1]
          exact dp_keyD h2 (LA3.it _ (mem z hz))
        -- the lots again
        have e5 : ∀ {zs : List (V × (Addr × List Int))}, zs.Perm qs → ∀ z ∈ zs, (∃ q, z.1 = .ref q ∧ H3 q = some (.tup [.int z.2.2.length, .ref z.2.1])) ∧ z.2 ∈ ps := fun {zs} pz z hz => ⟨e4 z (pz.mem_iff.mp hz), mem z (pz.mem_iff.mp hz)⟩
        have hpz := List.mergeSort_perm qs (dataLe false fun z : V × (Addr × List Int) => keyD z.2.2)
        have esn : (qs.mergeSort (dataLe false fun z : V × (Addr × List Int) => keyD z.2.2)).map (fun z => z.2.2) = (allLots n).mergeSort leL := by
          have h0 : (qs.mergeSort (dataLe false fun z : V × (Addr × List Int) => keyD z.2.2)).map (fun z => z.2.2) = (qs.map fun z => z.2.2).mergeSort leL := PySem.W.sort_maps (fun z : V × (Addr × List Int) => z.2.2) fun _ _ _ _ => rfl
          rw [h0]
          congr 1
          rw [← ep, ← e2, List.map_map]
          rfl
        have hzl : (qs.mergeSort (dataLe false fun z : V × (Addr × List Int) => keyD z.2.2)).length ≤ 1024 := by
          rw [List.length_mergeSort, hql]
          exact hl
        generalize qs.mergeSort (dataLe false fun z : V × (Addr × List Int) => keyD z.2.2) = zs at hpz esn hzl
        have ez := e5 hpz
        refine ⟨srt, rfl, ⟨_, SqL.of upd_same⟩, fun D2 nD2 => lc_map (walk_list (xs := zs.map Prod.fst)) (fun k acc _ => acc = (zs.take k).map fun z => V.ref z.2.1) nD2 (fun _ _ _ _ _ a => a) (fun H' s => SqL.of (s _ _ upd_same)) rfl (by rw [List.length_map]; omega) (fun k y H5 H6 acc Kt hk s5 a hy kt => ?_) (fun H5 acc s5 e6 a _ => ?_) gPair_mono⟩
        · obtain ⟨rfl, hy⟩ := hy
          obtain ⟨z, hz, rfl⟩ := item_of hy
          obtain ⟨⟨u, h1, h2⟩, _⟩ := ez z (List.mem_of_getElem? hz)
          rw [h1]
          refine ⟨u, _, rfl, SqT.of (s5 _ _ (same_upd nsrt _ _ h2)), rfl, _, _, rfl, _, _, rfl, rfl, rfl, _, rfl, kt _ _ (Same.refl _) ?_⟩
          rw [a, take_succ_of hz, List.map_append]
          rfl
        · rw [List.length_map, List.take_length] at a
          have sx := s3.trans ((same_upd nsrt (o := .lst (zs.map Prod.fst))).trans s5)
          refine q H5 D2 (zs.map Prod.snd) (s2.trans sx) (s2.free (s3.free ((same_upd nsrt).free nD2))) ⟨by rw [e6, a, List.map_map]; rfl, fun r hr => ?_⟩ (by rw [List.map_map]; exact esn)
          obtain ⟨z, hz, rfl⟩ := List.mem_map.mp hr
          exact sx _ _ (LA.it _ (ez z hz).2)
/-! ### _law_lots -/
def spLLots : Sp := fun vs H Q _ => ∃ t cs c, vs = [.ref t] ∧ TabAt H t cs c ∧ ∀ H' p ps, Same H H' → H p = none → LotsAt H' p ps → ps.map Prod.snd = closed (stps cs c) (cs.length + c) → Q (.ref p) H'
theorem scLLots : FnScope ["_law_cells_here", "_law_told", "_law_lot"] ["_law_cells_here"] (defScope sLLots) := ⟨rfl, rfl, rfl, by decide +kernel, rfl, by decide +kernel, by decide +kernel⟩
theorem ok_llots {f fa fm fo fc : Addr} {fd fda fdm fdo fdc : FuncData} (F : Fun K "_law_lots" "_law_lots" sLLots f fd)
    (GA : FnOk P w K mg base CX0 1 fa fda ["_law_cells_here"] spLSteps) (kA : PySem.W.keepIn K (.ref fa) = true) (bA : Binds K fda ["_law_cells_here"] []) (gA : mg "_law_steps" = some (.ref fa))
    (GM : FnOk P w K mg base CX0 1 fm fdm ["_law_cells_here"] spMany) (kM : PySem.W.keepIn K (.ref fm) = true) (bM : Binds K fdm ["_law_cells_here"] []) (gM : mg "_law_many" = some (.ref fm))
    (GO : FnOk P w K mg base CX0 1 fo fdo ["_law_many_here"] spLAllLots) (kO : PySem.W.keepIn K (.ref fo) = true) (bO : Binds K fdo ["_law_many_here"] []) (gO : mg "_law_all_lots" = some (.ref fo))
    (GC : FnOk P w K mg base CX0 1 fc fdc ["_law_told", "_law_lot"] spCloses) (kC : PySem.W.keepIn K (.ref fc) = true) (bC : Binds K fdc ["_law_told", "_law_lot"] []) (gC : mg "_law_is_closed" = some (.ref fc)) :
    FnOk P w K mg base CX0 2 f fd ["_law_cells_here"] spLLots := by
  refine F.ok scLLots (fun vs H Q E h => ?_) (fun cdv A outer s H vs Q E hr h => ?_)
  · obtain ⟨t, cs, c, rfl, _⟩ := h
    rfl
  · obtain ⟨t, cs, c, rfl, hT, q⟩ := h
    have nd := scLLots.nd
    have ok := hT.ok
    have r5 := ok.r5
    have c5 := ok.c5
    refine ⟨_, pss_cons (ps_set (i := 1) nd rfl (Or.inr rfl) (pe_call GA hr (by rfl) gA kA bA .nil pass0 (pa_cons (pv 0) pa_nil)))
      (pss_one (ps_ret (pe_lc (own := [("_law_lot", 2)]) (g := gName 2) rfl nd (pi_list (pe_call GO hr (by rfl) gO kO bO .nil pass0 (pa_cons (pe_call GM hr (by rfl) gM kM bM .nil pass0 (pa_cons (pv 0) pa_nil)) pa_nil)))
        (blkOk_by (N := ["_law_cells_here", "_law_told", "_law_lot"]) (sc := defScope sLLots) (by decide +kernel)) (fun _ _ _ _ _ => pg_name (i := 2) nd rfl (Or.inl rfl))
        (fun _ _ _ _ _ => pts_one (pt_val (pe_call GC hr (by rfl) gC kC bC .nil pass0 (pa_cons (pv 1) (pa_cons (pv 2) pa_nil))))) (fun _ _ _ _ _ => pv 2)))), ?_⟩
    refine ⟨_, rfl, t, cs, c, rfl, hT, fun H1 tl ps s1 ntl pT hperm => ?_⟩
    have hpl : ps.length ≤ 50 := by
      have := hperm.length_eq
      rw [List.length_map] at this
      rw [this]
      exact stps_len ok
    refine ⟨_, rfl, t, cs, c, rfl, hT.same s1, _, rfl, by omega, fun H3 p qs s3 np LA eq => ?_⟩
    have hql : qs.length ≤ 1024 := by
      have := allLots_small (show cs.length + c ≤ 10 by omega)
      have e := congrArg List.length eq
      rw [List.length_map, List.length_mergeSort] at e
      omega
    have pT3 := pT.same s3
    refine ⟨p, rfl, ⟨_, SqL.of LA.ls⟩, fun D nD => lc_all (walk_list (xs := qs.map fun q => V.ref q.1)) (fun k acc _ => acc = ((qs.take k).filter fun q => closB (ps.map Prod.snd) q.2).map fun q => V.ref q.1) nD (fun _ _ _ _ _ a => a) (fun H' s => SqL.of (s _ _ LA.ls)) rfl (by rw [List.length_map]; omega)
      (fun k y H4 H5 acc Kt Kf hk s4 a hy kt kf => ?_) (fun H4 acc s4 e4 a _ => ?_)⟩
    · obtain ⟨rfl, hy⟩ := hy
      obtain ⟨r, hr, rfl⟩ := item_of hy
      refine ⟨rfl, _, rfl, _, rfl, tl, r.1, ps, r.2, rfl, pT3.same s4, s4 _ _ (LA.it r (List.mem_of_getElem? hr)), by omega, fun H6 s6 => ⟨_, rfl, ?_⟩⟩
      have ea : ((qs.take (k + 1)).filter fun q => closB (ps.map Prod.snd) q.2).map (fun q => V.ref q.1) = acc ++ (if closB (ps.map Prod.snd) r.2 = true then [V.ref r.1] else []) := by
        rw [a, take_succ_of hr, List.filter_append, List.map_append, List.filter_cons, List.filter_nil]
        split <;> rfl
      refine ite2 (fun h => ?_) (fun h => ?_)
      · refine ⟨_, rfl, kt _ _ s6 ?_⟩
        rw [ea, if_pos h]
      · refine kf _ s6 ?_
        rw [ea, if_neg h, List.append_nil]
    · rw [List.length_map, List.take_length] at a
      have LA4 := LA.same s4
      refine q H4 D (qs.filter fun q => closB (ps.map Prod.snd) q.2) (s1.trans (s3.trans s4)) (s1.free (s3.free nD)) ⟨by rw [e4, a], fun r hr => LA4.it r (List.mem_filter.mp hr).1⟩ ?_
      rw [filter_snd (closB (ps.map Prod.snd)), eq, ← closed_filter]
      congr 1
      funext l
      exact closB_perm hperm l
end
end Wf
set_option Elab.async false
set_option linter.all false
set_option maxRecDepth 100000
set_option maxHeartbeats 8000000
namespace Wf
open PySem PySem.Spec PyProof.Rows L2
abbrev sLaw : Stmt := top 38
/-- all that a turn of the law leans on -/
structure LawAt (K : PySem.W.Frag) (C : Addr) (H : Hp) (r a x t la ev lh : Addr) (ns : List Int) (cs : List Str) (c : Nat) (Ls evs lhs : List (Addr × List Int)) : Prop where
  row : RowAt H r a
  scr : Scr K H r a ns
  bd : BoardAt C H x t
  tb : TabAt H t cs c
  ld : LeadsAt H la (stps cs c) (cs.length + c) Ls
  lr : la ≠ r
  evL : LotsAt H ev evs
  er : ev ≠ r
  evS : evs.map Prod.snd = closed (stps cs c) (cs.length + c)
  lhL : LotsAt H lh lhs
  hr : lh ≠ r
  lhS : lhs.map Prod.snd = (allLots (cs.length + c)).mergeSort leL
theorem RowAt.same {H H' : Hp} {r a : Addr} (h : RowAt H r a) (s : Same H H') : RowAt H' r a := by
  obtain ⟨i, b, d, h0, e⟩ := h
  exact ⟨i, b, d, h0, s _ _ e⟩
theorem ne_row {H : Hp} {r a q : Addr} {o : HO} (h : RowAt H r a) (e : H q = some o) (d : ∀ xs, o ≠ .lst xs) : q ≠ r := by
  obtain ⟨i, b, d', h0, e'⟩ := h
  exact ne_of e e' (d _)
theorem ne_ints {H : Hp} {r a q : Addr} {ns : List Int} (h : RowAt H r a) (e : H q = some (.lst (ns.map V.int))) : q ≠ r := by
  obtain ⟨i, b, d', h0, e'⟩ := h
  refine ne_of e e' fun z => ?_
  injection z with z
  cases ns with
  | nil => cases z
  | cons n l =>
    injection z with z1 _
    cases z1
theorem LawAt.but {K : PySem.W.Frag} {C : Addr} {H H' : Hp} {r a x t la ev lh : Addr} {ns : List Int} {cs : List Str} {c : Nat} {Ls evs lhs : List (Addr × List Int)} (h : LawAt K C H r a x t la ev lh ns cs c Ls evs lhs) (s : SameBut r H H') (hr : RowAt H' r a) :
    LawAt K C H' r a x t la ev lh ns cs c Ls evs lhs where
  row := hr
  scr := h.scr.but s
  bd := h.bd.imp fun dx e => s _ _ (ne_row h.row e fun _ z => by cases z) e
  tb := ⟨s _ _ (ne_row h.row h.tb.at_ fun _ z => by cases z) h.tb.at_, h.tb.ok⟩
  ld := ⟨⟨s _ _ h.lr h.ld.1.ls, fun q hq => ⟨(h.ld.1.it q hq).1, s _ _ (ne_ints h.row (h.ld.1.it q hq).2) (h.ld.1.it q hq).2⟩⟩, h.ld.2⟩
  lr := h.lr
  evL := ⟨s _ _ h.er h.evL.ls, fun q hq => s _ _ (ne_row h.row (h.evL.it q hq) fun _ z => by cases z) (h.evL.it q hq)⟩
  er := h.er
  evS := h.evS
  lhL := ⟨s _ _ h.hr h.lhL.ls, fun q hq => s _ _ (ne_row h.row (h.lhL.it q hq) fun _ z => by cases z) (h.lhL.it q hq)⟩
  hr := h.hr
  lhS := h.lhS
theorem LawAt.same {K : PySem.W.Frag} {C : Addr} {H H' : Hp} {r a x t la ev lh : Addr} {ns : List Int} {cs : List Str} {c : Nat} {Ls evs lhs : List (Addr × List Int)} (h : LawAt K C H r a x t la ev lh ns cs c Ls evs lhs) (s : Same H H') :
    LawAt K C H' r a x t la ev lh ns cs c Ls evs lhs := h.but (Same.but s) (h.row.same s)
theorem range_asc (n : Nat) : Asc n ((List.range n).map fun i : Nat => (i : Int)) := by
  refine ⟨List.pairwise_map.mpr (List.pairwise_lt_range.imp fun {a b} q => by omega), fun k hk => ?_⟩
  obtain ⟨i, hi, rfl⟩ := List.mem_map.mp hk
  have := List.mem_range.mp hi
  omega
theorem rgV_nat (n : Nat) : rgV 0 (n : Int) = ((List.range n).map fun i : Nat => (i : Int)).map V.int := by
  unfold rgV
  rw [Int.sub_zero, Int.toNat_natCast, List.map_map]
  refine List.map_congr_left fun i _ => ?_
  rw [Int.zero_add]
  rfl
/-- the threads to which the first ones do not lead -/
def apTo (L : List (List Int)) (sm done : List Int) : List Int := done.flatMap fun a => sm.filter fun b => !decide (b ∈ L.getD a.toNat [])
theorem apTo_len (L : List (List Int)) (sm : List Int) : ∀ done, (apTo L sm done).length ≤ sm.length * done.length
  | [] => Nat.zero_le _
  | a :: l => by
    have h := apTo_len L sm l
    have h2 : (sm.filter fun b => !decide (b ∈ L.getD a.toNat [])).length ≤ sm.length := List.length_filter_le _ _
    show ((sm.filter fun b => !decide (b ∈ L.getD a.toNat [])) ++ apTo L sm l).length ≤ _
    rw [List.length_append, List.length_cons, Nat.mul_succ]
    omega
section
variable {P : Program} {w : World} {K : PySem.W.Frag} {mg : Str → Option Value} {base : Heap} {C : Addr}
def spLaw (K : PySem.W.Frag) : Sp := fun vs H Q _ => ∃ (a : Addr) (ns : List Int), vs = [.ref a] ∧ SqL K H a (ns.map V.int) ∧ ns.length ≤ 63 ∧ ∀ H', Q (.bl true) H'
theorem scLaw : FnScope ["_law_script", "_law_row", "_law_cells_here", "_law_board", "_law_told", "_law_every", "_law_lots_here", "_law_turn", "_law_some", "_law_apart", "_law_one", "_law_dividing", "_law_lot", "_law_inside", "_law_other"] ["_law_script"] (defScope sLaw) := ⟨rfl, rfl, rfl, by decide +kernel, rfl, by decide +kernel, by decide +kernel⟩
theorem ok_law {f fc fm fl fo fa fy fp fk fs fd' : Addr} {fd fdc fdm fdl fdo fda fdy fdp fdk fds fdd : FuncData} (F : Fun K "law" "law" sLaw f fd) (T : Txt K mg) (B : TxtB K mg C)
    (GC : FnOk P w K mg base CX0 2 fc fdc ["_law_row", "_law_most"] (spLCells K)) (kC : PySem.W.keepIn K (.ref fc) = true) (bC : Binds K fdc ["_law_row", "_law_most"] []) (gC : mg "_law_cells" = some (.ref fc))
    (GM : FnOk P w K mg base CX0 2 fm fdm ["self", "cells"] (spInit C)) (M : Mk K C fm) (bM : Binds K fdm ["self", "cells"] [])
    (GL : FnOk P w K mg base CX0 2 fl fdl ["_law_cells_here"] spLLeads) (kL : PySem.W.keepIn K (.ref fl) = true) (bL : Binds K fdl ["_law_cells_here"] []) (gL : mg "_law_leads" = some (.ref fl))
    (GO : FnOk P w K mg base CX0 2 fo fdo ["_law_cells_here"] spLLots) (kO : PySem.W.keepIn K (.ref fo) = true) (bO : Binds K fdo ["_law_cells_here"] []) (gO : mg "_law_lots" = some (.ref fo))
    (GA : FnOk P w K mg base CX0 1 fa fda ["_law_many_here"] spLAllLots) (kA : PySem.W.keepIn K (.ref fa) = true) (bA : Binds K fda ["_law_many_here"] []) (gA : mg "_law_all_lots" = some (.ref fa))
    (GY : FnOk P w K mg base CX0 1 fy fdy ["_law_cells_here"] spMany) (kY : PySem.W.keepIn K (.ref fy) = true) (bY : Binds K fdy ["_law_cells_here"] []) (gY : mg "_law_many" = some (.ref fy))
    (GP : FnOk P w K mg base CX0 2 fp fdp ["_law_row", "_law_things"] (spPick K)) (kP : PySem.W.keepIn K (.ref fp) = true) (bP : Binds K fdp ["_law_row", "_law_things"] []) (gP : mg "_law_pick" = some (.ref fp))
    (GK : FnOk P w K mg base CX0 2 fk fdk ["_law_found", "_law_due"] (fun vs H Q E => spAlk1 vs H Q E ∨ spAlk2 vs H Q E)) (kK : PySem.W.keepIn K (.ref fk) = true) (bK : Binds K fdk ["_law_found", "_law_due"] []) (gK : mg "_law_alike" = some (.ref fk))
    (GS : FnOk P w K mg base CX0 5 fs fds ["board", "threads"] (spCan C)) (kS : PySem.W.keepIn K (.ref fs) = true) (bS : Binds K fds ["board", "threads"] []) (gS : mg "can_stand" = some (.ref fs))
    (GD : FnOk P w K mg base CX0 5 fd' fdd ["board", "threads"] (spDiv C)) (kD : PySem.W.keepIn K (.ref fd') = true) (bD : Binds K fdd ["board", "threads"] []) (gD : mg "dividing_lot" = some (.ref fd')) :
    FnOk P w K mg base CX0 6 f fd ["_law_script"] (spLaw K) := by
  refine F.ok scLaw (fun vs H Q E h => ?_) (fun cdv A outer s H vs Q E hr h => ?_)
  · obtain ⟨a, ns, rfl, _⟩ := h
    rfl
  · obtain ⟨a, ns, rfl, hS, hlen, q⟩ := h
    have nd := scLaw.nd
    have hu64 := hr.units
    have hr2 := hr.mono (show 2 ≤ 5 by decide)
    have hr1 := hr.mono (show 1 ≤ 5 by decide)
    refine ⟨_, pss_cons (ps_set (i := 1) nd rfl (.inl rfl) (pe_lst (pa_cons (pv 0) (pa_cons pe_int (pa_cons pe_int (pa_cons pe_int pa_nil))))))
      (pss_cons (ps_set (i := 2) nd rfl (.inl rfl) (pe_call GC hr2 (by rfl) gC kC bC .nil pass0 (pa_cons (pv 1) (pa_cons pe_int pa_nil))))
      (pss_cons (ps_asg (pe_tup (pa_cons (pe_make M GM (hr.mono (by decide)) (by rfl) B.mgC bM .nil pass0 (pa_cons (pv 2) pa_nil)) (pa_cons (pe_call GL hr2 (by rfl) gL kL bL .nil pass0 (pa_cons (pv 2) pa_nil)) (pa_cons (pe_call GO hr2 (by rfl) gO kO bO .nil pass0 (pa_cons (pv 2) pa_nil)) pa_nil))))
        (pg_tup rfl (pgs_cons (pg_name (i := 3) nd rfl (.inl rfl)) (pgs_cons (pg_name (i := 4) nd rfl (.inr rfl)) (pgs_cons (pg_name (i := 5) nd rfl (.inl rfl)) pgs_nil)))))
      (pss_cons (ps_set (i := 6) nd rfl (.inl rfl) (pe_call GA hr1 (by rfl) gA kA bA .nil pass0 (pa_cons (pe_call GY hr1 (by rfl) gY kY bY .nil pass0 (pa_cons (pv 2) pa_nil)) pa_nil)))
      (pss_cons (ps_for PassesOwn.never rfl (pi_range1 (by rfl) T.range (pa_cons pe_int pa_nil)) (pg_name (i := 7) nd rfl (.inl rfl))
        (pss_cons (ps_set (i := 8) nd rfl (.inl rfl) (pe_call GP hr2 (by rfl) gP kP bP .nil pass0 (pa_cons (pv 1) (pa_cons (pv 6) pa_nil))))
        (C8.pss_cut (ps_if (pt_cmpR op_eq (pv 7) pe_int (nomark _)) (pss_one (ps_set (i := 8) nd rfl (.inl rfl) (pe_tupRg rfl (by rfl) T.tuple (prg_1 (by rfl) T.range (pe_call GY hr1 (by rfl) gY kY bY .nil pass0 (pa_cons (pv 2) pa_nil)))))) pss_nil)
        (pss_cons (ps_set (i := 9) nd rfl (.inl rfl) (pe_lst pa_nil))
        (pss_cons (ps_for PassesOwn.never rfl (pi_tup (pv 8)) (pg_name (i := 10) nd rfl (.inr rfl))
          (pss_one (ps_set (i := 9) nd rfl (.inl rfl) (pe_op op_cat (pv 9) (pe_lc (own := [("_law_other", 14)]) (g := gName 14) rfl nd (pi_tup (pv 8)) (blkOk_by (N := ["_law_script", "_law_row", "_law_cells_here", "_law_board", "_law_told", "_law_every", "_law_lots_here", "_law_turn", "_law_some", "_law_apart", "_law_one", "_law_dividing", "_law_lot", "_law_inside", "_law_other"]) (sc := defScope sLaw) (by decide +kernel))
            (fun _ _ _ _ _ => pg_name (i := 14) nd rfl (Or.inl rfl)) (fun _ _ _ _ _ => pts_one (pt_cmpR (r := rIn K true) op_notIn_seq (pv 14) (pe_ix (r := rIxL K) ix_list (pv 4) (pv 10) (fun _ _ => rfl)) rfl)) (fun _ _ _ _ _ => pv 14))))))
        (pss_cons (ps_if (pt_not (pt_val (pe_call GK hr2 (by rfl) gK kK bK .nil pass0 (pa_cons (pe_call GS hr (by rfl) gS kS bS .nil pass0 (pa_cons (pv 3) (pa_cons (pv 8) pa_nil))) (pa_cons (pe_cmpR (op_eqD hu64) (pv 9) (pe_lst pa_nil) (nomark _)) pa_nil))))) pss_never pss_nil)
        (pss_cons (ps_set (i := 11) nd rfl (.inl rfl) (pe_lst pa_nil))
        (pss_cons (ps_for PassesOwn.never rfl (pi_list (pv 5)) (pg_name (i := 12) nd rfl (.inr rfl))
          (pss_cons (ps_setLc (i := 13) (own := [("_law_one", 10)]) (g := gName 10) rfl nd rfl rfl (sw_true rfl rfl rfl (by decide +kernel)) (pi_tup (pv 8)) (blkOk_by (N := ["_law_script", "_law_row", "_law_cells_here", "_law_board", "_law_told", "_law_every", "_law_lots_here", "_law_turn", "_law_some", "_law_apart", "_law_one", "_law_dividing", "_law_lot", "_law_inside", "_law_other"]) (sc := defScope sLaw) (by decide +kernel))
            (fun _ _ _ _ _ => pg_name (i := 10) nd rfl (Or.inl rfl)) (fun _ _ _ _ _ => pts_one (pt_cmpR (r := rIn K false) op_in_seq (pv 10) (pv 12) rfl)) (fun _ _ _ _ _ => pv 10))
          (pss_one (ps_if (PW.pt (pw_and (pt_cmpR (op_neD hu64) (pv 13) (pe_lst pa_nil) (nomark _)) (pw_and1 (pt_cmpR op_lt (pe_callB call_len_seq (by rfl) T.len PySem.boot_len (pa_cons (pv 13) pa_nil)) (pe_callB call_len_seq (by rfl) T.len PySem.boot_len (pa_cons (pv 8) pa_nil)) (nomark _)))))
            (pss_one (ps_expr (pe_bm PySem.F.plainAttrs_list PySem.F.slot_list_append PySem.F.type_list_append mt_append (pv 11) (pa_cons (pv 12) pa_nil)))) pss_nil))))
        (pss_cons (ps_if (pt_not (pt_val (pe_call GK hr2 (by rfl) gK kK bK .nil pass0 (pa_cons (pe_call GD hr (by rfl) gD kD bD .nil pass0 (pa_cons (pv 3) (pa_cons (pv 8) pa_nil))) (pa_cons (pe_ifExp (pt_cmpR (op_neD hu64) (pv 11) (pe_lst pa_nil) (nomark _)) (pe_ix ix_list (pv 11) pe_int (fun _ _ => rfl)) pe_non) pa_nil))))) pss_never pss_nil)
        (pss_one (ps_if (pt_cmpR op_ne (pe_cmpR (op_eqD hu64) (pv 11) (pe_lst pa_nil) (nomark _)) (pe_cmpR (op_eqD hu64) (pv 9) (pe_lst pa_nil) (nomark _)) (nomark _)) pss_never pss_nil)))))))))))
      (pss_one (ps_ret pe_bl)))))), ?_⟩
    -- row = [script, 0, 1461, 0]
    refine ⟨_, rfl, by show 4 ≤ sizeLine; decide, fun r nr => ?_⟩
    have s1 := same_upd (o := .lst [V.ref a, .int 0, .int 1461, .int 0]) nr
    have row1 : RowAt (upd H r (.lst [V.ref a, .int 0, .int 1461, .int 0])) r a := ⟨0, 1461, 0, by decide, upd_same⟩
    have scr1 : Scr K (upd H r (.lst [V.ref a, .int 0, .int 1461, .int 0])) r a ns := by
      refine ⟨hlen, fun H' s' => ?_⟩
      rcases hS with hS | hS
      · rcases hS with hS | ⟨o, hS⟩
        · exact .inl (.inl (s' _ _ (ne_of_none hS nr) (s1 _ _ hS)))
        · exact .inl (.inr ⟨o, s' _ _ (ne_of_none hS nr) (s1 _ _ hS)⟩)
      · exact .inr hS
    -- the cells
    refine ⟨_, rfl, r, a, ns, rfl, row1, scr1, fun H2 t cs c s2 row2 hT cl4 c4 => ?_⟩
    have scr2 := scr1.but s2
    -- board, told, every
    refine ⟨_, rfl, fun x dx nx ndx nex => ⟨x, dx, t, cs, c, rfl, upd_same, ?_, fun H3 kp hB => ⟨rfl, ?_⟩⟩⟩
    · exact hT.same ((same_upd ndx).trans (same_upd (by rw [upd_ne nex.symm]; exact nx)))
    have s3 : Same H2 H3 := fun b o e => kp b o (ne_of_none e nx) ((same_upd ndx).trans (same_upd (by rw [upd_ne nex.symm]; exact nx)) b o e)
    refine ⟨_, rfl, t, cs, c, rfl, hT.same s3, fun H4 la Ls s4 nla hL => ?_⟩
    have s34 := s3.trans s4
    refine ⟨_, rfl, t, cs, c, rfl, hT.same s34, fun H5 ev evs s5 nev hE eE => ?_⟩
    have s35 := s34.trans s5
    refine ⟨by show 3 ≤ sizeLine; decide, fun tp ntp => ?_⟩
    have s36 := s35.trans (same_upd (o := .tup [.ref x, .ref la, .ref ev]) ntp)
    refine ⟨tp, _, rfl, SqT.of upd_same, rfl, _, _, rfl, _, _, rfl, _, _, rfl, rfl, ?_⟩
    -- all lots
    refine ⟨_, rfl, t, cs, c, rfl, hT.same s36, _, rfl, by omega, fun H7 lh lhs s7 nlh hLh eLh => ?_⟩
    have s37 := s36.trans s7
    have ne_r : ∀ {H' : Hp} {q : Addr}, RowAt H' r a → H' q = none → q ≠ r := fun ⟨_, _, _, _, e⟩ n => (ne_of_none e n).symm
    have L7 : LawAt K C H7 r a x t la ev lh ns cs c Ls evs lhs := by
      have s57 := (same_upd (o := .tup [.ref x, .ref la, .ref ev]) ntp).trans s7
      have s47 := s5.trans s57
      exact ⟨row2.same s37, scr2.but (Same.but s37), hB.same (s4.trans s47), hT.same s37, ⟨hL.1.same s47, hL.2⟩, ne_r (row2.same s3) nla, hE.same s57, ne_r (row2.same s34) nev, eE, hLh, ne_r (row2.same s36) nlh, eLh⟩
    have lhlen : lhs.length = 2 ^ (cs.length + c) := by
      have := congrArg List.length eLh
      rw [List.length_map, List.length_mergeSort, allLots_len] at this
      exact this
    have lhb : 0 < lhs.length ∧ lhs.length < 100000 := by
      have h1 : 2 ^ (cs.length + c) ≤ 2 ^ 8 := Nat.pow_le_pow_right (by decide) (by omega)
      have h0 : 0 < 2 ^ (cs.length + c) := Nat.pow_pos (by decide)
      omega
    clear s36 s37 hLh eLh nlh s7 hE eE nev s5 s35 ntp hL nla s4 s34 hB kp s3 nx ndx nex
    -- for turn in range(12)
    refine ⟨12, rfl, by decide, by decide, ?_⟩
    refine for_range (fun i σ H8 => ∃ v7 v8 v9 v10 v11 v12 v13 v14, σ = [some (.ref a), some (.ref r), some (.ref t), some (.ref x), some (.ref la), some (.ref ev), some (.ref lh), v7, v8, v9, v10, v11, v12, v13, v14] ∧ LawAt K C H8 r a x t la ev lh ns cs c Ls evs lhs)
      ⟨none, none, none, none, none, none, none, none, rfl, L7⟩ (fun i σ H8 hi hP => ?_) (fun σ H8 hP => ?_)
    · obtain ⟨v7, v8, v9, v10, v11, v12, v13, v14, rfl, L8⟩ := hP
      rw [Int.zero_add]
      -- some = pick(row, lots)
      refine ⟨_, rfl, _, rfl, r, a, ns, lh, _, rfl, L8.row, L8.scr, L8.lhL.ls, L8.hr, by rw [List.length_map]; exact lhb.1, by rw [List.length_map]; exact lhb.2, fun H9 k v s9 row9 hk => ?_⟩
      obtain ⟨q0, hq0, rfl⟩ := item_of hk
      have L9 := L8.but s9 row9
      have hq1 := L9.lhL.it q0 (List.mem_of_getElem? hq0)
      have hq2 : Asc (cs.length + c) q0.2 := by
        refine allLots_asc _ _ ?_
        have hm : q0.2 ∈ lhs.map Prod.snd := List.mem_map.mpr ⟨q0, List.mem_of_getElem? hq0, rfl⟩
        rw [L9.lhS] at hm
        exact (List.mergeSort_perm _ _).mem_iff.mp hm
      refine ⟨fun σ H' => ∃ sa sm, σ = [some (.ref a), some (.ref r), some (.ref t), some (.ref x), some (.ref la), some (.ref ev), some (.ref lh), some (.int (i : Int)), some (.ref sa), v9, v10, v11, v12, v13, v14] ∧ LawAt K C H' r a x t la ev lh ns cs c Ls evs lhs ∧ H' sa = some (.tup (sm.map V.int)) ∧ Asc (cs.length + c) sm, ?_, ?_⟩
      · refine ⟨_, rfl, rfl, _, rfl, ite2 (fun _ => ?_) (fun _ => ⟨q0.1, q0.2, rfl, L9, hq1, hq2⟩)⟩
        refine ⟨_, rfl, t, cs, c, rfl, L9.tb, ((cs.length + c : Nat) : Int), rfl, RgOk.of_le (by decide) (by omega) (by decide) (by omega), fun sa nsa => ⟨sa, _, rfl, L9.same (same_upd nsa), ?_, range_asc _⟩⟩
        rw [upd_same, rgV_nat]
      rintro σ Hm ⟨sa, sm, rfl, Lm, hsa, hA⟩
      have smn := asc_len hA
      have hml : (sm.map V.int).length = sm.length := List.length_map ..
      have hLk := Lm.ld.2
      have hrng := hA.2
      -- apart = []
      refine ⟨Nat.zero_le _, fun ap0 nap0 => ?_⟩
      have sm0 := same_upd (o := .lst []) nap0
      -- for one in some
      refine ⟨_, rfl, sa, rfl, ⟨_, SqT.of (sm0 _ _ hsa)⟩, for_it (walk_tup (xs := sm.map V.int)) (fun j σ H' => ∃ ap v10, σ = [some (.ref a), some (.ref r), some (.ref t), some (.ref x), some (.ref la), some (.ref ev), some (.ref lh), some (.int (i : Int)), some (.ref sa), some (.ref ap), v10, v11, v12, v13, v14] ∧ Same Hm H' ∧ H' ap = some (.lst ((apTo (Ls.map (·.2)) sm (sm.take j)).map V.int)))
        ⟨ap0, v10, rfl, sm0, upd_same⟩ (fun j σ H' _ ⟨_, _, _, s', _⟩ => SqT.of (s' _ _ hsa)) (fun j y σ H' H'' hj hP hy => ?_) (fun σ H' hP => ?_)⟩
      · obtain ⟨ap, v10, rfl, s10, eap⟩ := hP
        obtain ⟨rfl, hy⟩ := hy
        obtain ⟨one, hone, rfl⟩ := item_of hy
        have hom := List.mem_of_getElem? hone
        have hr1 := hrng one hom
        obtain ⟨rw', hrw, erw⟩ : ∃ z, Ls[one.toNat]? = some z ∧ (Ls.map (·.2)).getD one.toNat [] = z.2 := by
          have hll : one.toNat < Ls.length := by
            have := hLk.1
            rw [List.length_map] at this
            omega
          refine ⟨_, List.getElem?_eq_getElem hll, ?_⟩
          rw [List.getD_eq_getElem?_getD, List.getElem?_map, List.getElem?_eq_getElem hll]
          rfl
        have hrwm := s10 _ _ (Lm.ld.1.it rw' (List.mem_of_getElem? hrw)).2
        refine ⟨_, rfl, _, rfl, sa, rfl, ⟨_, SqT.of (s10 _ _ hsa)⟩, fun D nD => lc_all (walk_tup (xs := sm.map V.int)) (fun k acc _ => acc = ((sm.take k).filter fun b => !decide (b ∈ rw'.2)).map V.int) nD (fun _ _ _ _ _ a => a) (fun H' s => SqT.of (s _ _ (s10 _ _ hsa))) rfl (by omega)
          (fun k y H5 H6 acc Kt Kf hk s5 e hy kt kf => ?_) (fun H5 acc s5 e5 e _ => ?_)⟩
        · obtain ⟨rfl, hy⟩ := hy
          obtain ⟨z, hz, rfl⟩ := item_of hy
          refine ⟨rfl, _, rfl, _, rfl, _, rfl, la, _, _, .ref rw'.1, rfl, rfl, SqL.of (s5 _ _ (s10 _ _ Lm.ld.1.ls)), at_of (j := one.toNat) (by omega) (by rw [List.getElem?_map, hrw]; rfl), rw'.1, _, rfl, .inl (SqL.of (s5 _ _ hrwm)), rfl, flat_ints rw'.2, !inV (.int z) (rw'.2.map V.int), rfl, ?_⟩
          rw [inV_ints]
          have ea : ((sm.take (k + 1)).filter fun b => !decide (b ∈ rw'.2)).map V.int = acc ++ (if (!decide (z ∈ rw'.2)) = true then [V.int z] else []) := by
            rw [e, take_succ_of hz, List.filter_append, List.map_append, List.filter_cons, List.filter_nil]
            split <;> rfl
          refine ite2 (fun h => ?_) (fun h => ?_)
          · refine ⟨_, rfl, kt _ _ (Same.refl _) ?_⟩
            rw [ea, if_pos h]
          · refine kf _ (Same.refl _) ?_
            rw [ea, if_neg h, List.append_nil]
        · rw [List.length_map, List.take_length] at e
          have hal := apTo_len (Ls.map (·.2)) sm (sm.take j)
          have hal2 : sm.length * (sm.take j).length ≤ 10 * 10 := Nat.mul_le_mul (by omega) (by rw [List.length_take]; omega)
          have hfl : (sm.filter fun b => !decide (b ∈ rw'.2)).length ≤ sm.length := List.length_filter_le _ _
          refine ⟨ap, D, _, _, rfl, rfl, s5 _ _ eap, by rw [e5, e], by rw [List.length_map, List.length_map]; exact Nat.le_of_lt (small1000 (by omega)), fun p np => ⟨p, _, rfl, s10.trans (s5.trans (same_upd np)), ?_⟩⟩
          rw [upd_same, take_succ_of hone]
          unfold apTo
          rw [List.flatMap_append, List.map_append]
          simp only [List.flatMap_cons, List.flatMap_nil, List.append_nil]
          rw [erw]
      obtain ⟨ap, v10, rfl, s10, eap⟩ := hP
      rw [hml, List.take_length] at eap
      have L10 := Lm.same s10
      have hsa10 := s10 _ _ hsa
      have hap : (apTo (Ls.map (·.2)) sm sm).length = 0 ↔ Together (stps cs c) sm := by
        rw [List.length_eq_zero_iff]
        exact apart_nil hLk hrng
      -- alike(can_stand(board, some), apart == [])
      refine ⟨_, rfl, _, rfl, x, t, sa, cs, c, sm, rfl, L10.bd, L10.tb, hsa10, hA, fun H11 b s11 hb => ?_⟩
      refine ⟨_, rfl, Nat.zero_le _, fun l nl => eqI (SqL.of (same_upd nl _ _ (s11 _ _ eap))) (SqL.of upd_same) ?_⟩
      have eb : decide ((apTo (Ls.map (·.2)) sm sm).length = 0) = b := by
        rw [Bool.eq_iff_iff, decide_eq_true_eq, hap, hb]
      rw [eb]
      refine .inl ⟨.bl b, rfl, .inr (.inl ⟨b, rfl⟩), fun H12 s12 => ⟨true, rfl, iteF ?_⟩⟩
      have s12' : Same Hm H12 := s10.trans (s11.trans ((same_upd nl).trans s12))
      have eap12 := s12 _ _ (same_upd nl _ _ (s11 _ _ eap))
      have L12 := Lm.same s12'
      have hsa12 := s12' _ _ hsa
      -- dividing = []
      refine ⟨Nat.zero_le _, fun dv ndv => ?_⟩
      have sd := same_upd (o := .lst []) ndv
      -- for lot in every
      refine ⟨_, rfl, ev, rfl, ⟨_, SqL.of (sd _ _ L12.evL.ls)⟩, for_it (walk_list (xs := evs.map fun q => V.ref q.1)) (fun j σ H' => ∃ v10 v12 v13 v14, σ = [some (.ref a), some (.ref r), some (.ref t), some (.ref x), some (.ref la), some (.ref ev), some (.ref lh), some (.int (i : Int)), some (.ref sa), some (.ref ap), v10, some (.ref dv), v12, v13, v14] ∧ Same H12 H' ∧ H' dv = some (.lst (((evs.take j).filter fun q => divB sm q.2).map fun q => V.ref q.1)))
        ⟨v10, v12, v13, v14, rfl, sd, upd_same⟩ (fun j σ H' _ ⟨_, _, _, _, _, s', _⟩ => SqL.of (s' _ _ L12.evL.ls)) (fun j y σ H' H'' hj hP hy => ?_) (fun σ H' hP => ?_)⟩
      · obtain ⟨v10, v12, v13, v14, rfl, s13, edv⟩ := hP
        obtain ⟨rfl, hy⟩ := hy
        obtain ⟨lot, hlot, rfl⟩ := item_of hy
        have hlt := s13 _ _ (L12.evL.it lot (List.mem_of_getElem? hlot))
        have hsa13 := s13 _ _ hsa12
        refine ⟨_, rfl, sa, rfl, ⟨_, SqT.of hsa13⟩, fun D nD => lc_all (walk_tup (xs := sm.map V.int)) (fun k acc _ => acc = ((sm.take k).filter fun k => decide (k ∈ lot.2)).map V.int) nD (fun _ _ _ _ _ a => a) (fun H' s => SqT.of (s _ _ hsa13)) rfl (by omega)
          (fun k y H5 H6 acc Kt Kf hk s5 e hy kt kf => ?_) (fun H5 acc s5 e5 e _ => ?_)⟩
        · obtain ⟨rfl, hy⟩ := hy
          obtain ⟨z, hz, rfl⟩ := item_of hy
          refine ⟨rfl, _, rfl, _, rfl, lot.1, _, rfl, .inr (SqT.of (s5 _ _ hlt)), rfl, flat_ints lot.2, inV (.int z) (lot.2.map V.int), rfl, ?_⟩
          rw [inV_ints]
          have ea : ((sm.take (k + 1)).filter fun k => decide (k ∈ lot.2)).map V.int = acc ++ (if decide (z ∈ lot.2) = true then [V.int z] else []) := by
            rw [e, take_succ_of hz, List.filter_append, List.map_append, List.filter_cons, List.filter_nil]
            split <;> rfl
          refine ite2 (fun h => ?_) (fun h => ?_)
          · refine ⟨_, rfl, kt _ _ (Same.refl _) ?_⟩
            rw [ea, if_pos h]
          · refine kf _ (Same.refl _) ?_
            rw [ea, if_neg h, List.append_nil]
        · rw [List.length_map, List.take_length] at e
          have hD5 : SqL K H5 D ((inside sm lot.2).map V.int) := SqL.of (by rw [e5, e]; rfl)
          have evl : evs.length ≤ 1024 := by
            have h1 := congrArg List.length Lm.evS
            rw [List.length_map] at h1
            unfold closed at h1
            rw [List.length_mergeSort] at h1
            have h2 := List.length_filter_le (closB (stps cs c)) (allLots (cs.length + c))
            have h3 := allLots_small (show cs.length + c ≤ 10 by omega)
            omega
          refine ⟨_, rfl, Nat.zero_le _, fun l2 nl2 => neI ((same_upd nl2).seq hD5) (SqL.of upd_same) ⟨_, rfl, ?_⟩⟩
          have s6 : Same H12 (upd H5 l2 (.lst [])) := s13.trans (s5.trans (same_upd nl2))
          have edv6 := same_upd (o := .lst []) nl2 _ _ (s5 _ _ edv)
          have nx : ((evs.take (j + 1)).filter fun q => divB sm q.2).map (fun q => V.ref q.1) = ((evs.take j).filter fun q => divB sm q.2).map (fun q => V.ref q.1) ++ (if divB sm lot.2 = true then [V.ref lot.1] else []) := by
            rw [take_succ_of hlot, List.filter_append, List.map_append, List.filter_cons, List.filter_nil]
            split <;> rfl
          by_cases h0 : inside sm lot.2 = []
          · have hd : ¬ divB sm lot.2 = true := by
              unfold divB
              rw [decide_eq_true h0]
              simp
            refine iteKF (by rw [h0]; rfl) (iteF ⟨_, _, _, _, rfl, s6, ?_⟩)
            rw [edv6, nx, if_neg hd, List.append_nil]
          · have hl0 : (inside sm lot.2).length ≠ 0 := fun e => h0 (List.length_eq_zero_iff.mp e)
            refine iteK (by rw [decide_eq_false hl0]; rfl) ?_
            refine ⟨_, rfl, D, _, rfl, .inl ((same_upd nl2).seq hD5), _, rfl, sa, _, rfl, .inr (SqT.of (s6 _ _ hsa12)), _, _, rfl, rfl, _, rfl, ite2 (fun h => ?_) (fun h => ?_)⟩
            · have h := of_decide_eq_true h
              rw [List.length_map, List.length_map] at h
              have hd : divB sm lot.2 = true := by
                unfold divB
                rw [decide_eq_false h0, decide_eq_true (by omega)]
                rfl
              refine ⟨_, rfl, .inl ⟨rfl, _, SqL.of edv6⟩, _, rfl, dv, _, _, rfl, rfl, edv6, ?_, _, _, _, _, rfl, fun b' o e => ?_, ?_⟩
              · rw [List.length_map]
                have h4 := List.length_filter_le (fun q : Addr × List Int => divB sm q.2) (evs.take j)
                rw [List.length_take] at h4
                exact small2000 (by omega)
              · rw [upd_ne (ne_of_none e ndv)]
                exact s6 _ _ e
              · rw [upd_same, nx, if_pos hd]
            · have hd : ¬ divB sm lot.2 = true := by
                have h : ¬ (inside sm lot.2).length < sm.length := fun z => h (decide_eq_true (by rw [List.length_map, List.length_map]; omega))
                unfold divB
                rw [decide_eq_false h, Bool.and_false]
                decide
              refine ⟨_, _, _, _, rfl, s6, ?_⟩
              rw [edv6, nx, if_neg hd, List.append_nil]
      obtain ⟨v10, v12, v13, v14, rfl, s13, edv⟩ := hP
      rw [List.length_map, List.take_length] at edv
      have L13 := L12.same s13
      -- alike(dividing_lot(board, some), dividing[0] if ..)
      refine ⟨_, rfl, _, rfl, x, t, sa, cs, c, sm, rfl, L13.bd, L13.tb, s13 _ _ hsa12, hA, fun H14 v s14 hv => ?_⟩
      have L14 := L13.same s14
      have edv14 := s14 _ _ edv
      have eap14 := s14 _ _ (s13 _ _ eap12)
      have hsn : (evs.filter fun q => divB sm q.2).map Prod.snd = (closed (stps cs c) (cs.length + c)).filter (divB sm) := by
        rw [filter_snd (divB sm), Lm.evS]
      have hit : ∀ q ∈ evs.filter (fun q => divB sm q.2), H14 q.1 = some (.tup (q.2.map V.int)) := fun q hq => L14.evL.it q (List.mem_filter.mp hq).1
      have hfind : (closed (stps cs c) (cs.length + c)).find? (divB sm) = ((evs.filter fun q => divB sm q.2).map Prod.snd).head? := by
        rw [hsn, List.head?_filter]
      have hlaw : ((evs.filter fun q => divB sm q.2).length = 0) ↔ Together (stps cs c) sm := by
        rw [← List.length_map (as := evs.filter fun q => divB sm q.2) (f := Prod.snd), hsn, List.length_eq_zero_iff]
        exact the_law hrng stps_rng
      have hql : ∀ q ∈ evs.filter (fun q => divB sm q.2), q.2.length ≤ 20 := fun q hq => by
        have h1 : q.2 ∈ closed (stps cs c) (cs.length + c) := by
          rw [← Lm.evS]
          exact List.mem_map.mpr ⟨q, (List.mem_filter.mp hq).1, rfl⟩
        have h2 := asc_len (allLots_asc _ _ (mem_closed.mp h1).1)
        omega
      rw [hfind] at hv
      generalize evs.filter (fun q => divB sm q.2) = dl at edv14 hv hlaw hit hql
      have hf : ∀ ap', ap' = apTo (Ls.map (·.2)) sm sm → (decide (V.bl (decide (dl.length = 0)) = V.bl (decide (ap'.length = 0)))) = true := fun ap' e => by
        subst e
        rw [decide_eq_true_eq]
        congr 1
        rw [Bool.eq_iff_iff, decide_eq_true_eq, decide_eq_true_eq, hlaw, hap]
      refine ⟨_, rfl, Nat.zero_le _, fun l nl => neT (ps := dl) (SqL.of (same_upd nl _ _ edv14)) (fun q hq => SqT.of (same_upd nl _ _ (hit q hq))) (SqL.of upd_same) ⟨_, rfl, ?_⟩⟩
      have s15 := same_upd (o := .lst []) nl
      cases dl with
      | nil =>
        refine iteKF rfl ?_
        have hv : v = .non := hv
        subst hv
        refine .inl ⟨.non, rfl, .inl rfl, fun H16 s16 => ⟨true, rfl, iteF ?_⟩⟩
        have t16 := s15.trans s16
        refine ⟨_, rfl, Nat.zero_le _, fun l3 nl3 => eqT (ps := []) (SqL.of (same_upd nl3 _ _ (t16 _ _ edv14))) (fun q hq => absurd hq List.not_mem_nil) (SqL.of upd_same) ?_⟩
        have t17 := t16.trans (same_upd (o := .lst []) nl3)
        refine ⟨_, rfl, Nat.zero_le _, fun l4 nl4 => eqI (SqL.of (same_upd nl4 _ _ (t17 _ _ eap14))) (SqL.of upd_same) ⟨rfl, _, rfl, ?_⟩⟩
        rw [hf _ rfl]
        exact iteF ⟨_, _, _, _, _, _, _, _, rfl, L14.same (t17.trans (same_upd nl4))⟩
      | cons q0 dl' =>
        refine iteK rfl ?_
        obtain ⟨b1, rfl, hb1⟩ : ∃ b1, v = .ref b1 ∧ H14 b1 = some (.tup (q0.2.map V.int)) := hv
        refine ⟨_, rfl, dv, _, 0, .ref q0.1, rfl, rfl, SqL.of (s15 _ _ edv14), atI_nat (j := 0) rfl, ?_⟩
        refine .inr ⟨b1, q0.1, q0.2, rfl, s15 _ _ hb1, s15 _ _ (hit q0 List.mem_cons_self), hql q0 List.mem_cons_self, fun H16 s16 => ⟨true, rfl, iteF ?_⟩⟩
        have t16 := s15.trans s16
        refine ⟨_, rfl, Nat.zero_le _, fun l3 nl3 => eqT (ps := q0 :: dl') (SqL.of (same_upd nl3 _ _ (t16 _ _ edv14))) (fun q hq => SqT.of (same_upd nl3 _ _ (t16 _ _ (hit q hq)))) (SqL.of upd_same) ?_⟩
        have t17 := t16.trans (same_upd (o := .lst []) nl3)
        refine ⟨_, rfl, Nat.zero_le _, fun l4 nl4 => eqI (SqL.of (same_upd nl4 _ _ (t17 _ _ eap14))) (SqL.of upd_same) ⟨rfl, _, rfl, ?_⟩⟩
        rw [hf _ rfl]
        exact iteF ⟨_, _, _, _, _, _, _, _, rfl, L14.same (t17.trans (same_upd nl4))⟩
    · exact q _
end
end Wf
set_option Elab.async false
set_option linter.all false
set_option maxRecDepth 100000
set_option maxHeartbeats 8000000
namespace Wf
open PySem PySem.Spec PyProof.Rows L2
theorem kit_self (K : PySem.W.Frag) (C : Addr) : PySem.W.kitOne K (.ref C) (.ref C) = some true := by
  unfold PySem.W.kitOne
  exact if_pos (by first | exact beq_self_eq_true _ | simp | (show (C == C) = true; exact beq_self_eq_true C))
theorem all_mk {l : PySem.W.OpenLaw} {w : World} {K : PySem.W.Frag} {h : Heap} {mg : Str → Option Value} {fa C pc : Addr} {tS tM : Tok} {rst : List Value} {f0 f1 f2 f3 f4 f5 f6 f7 f8 f9 f10 f11 f12 f13 f14 f15 f16 f17 f18 f19 f20 f21 f22 f23 f24 fm0 fm1 fm2 : Addr} (X : K.In h) (G : h.Ns mainGlobals mg) (hfa : mg "law" = some (.ref fa))
    {od0 an0 od1 an1 od2 an2 od3 an3 od4 an4 od5 an5 od6 an6 od7 an7 od8 an8 od9 an9 od10 an10 od11 an11 od12 an12 od13 an13 od14 an14 od15 an15 od16 an16 od17 an17 od18 an18 od19 an19 od20 an20 od21 an21 od22 an22 od23 an23 od24 an24 odm0 anm0 odm1 anm1 odm2 anm2 : Option Addr} {sl0 sl1 sl2 sl3 sl4 sl5 sl6 sl7 sl8 sl9 sl10 sl11 sl12 sl13 sl14 sl15 sl16 sl17 sl18 sl19 sl20 sl21 sl22 sl23 sl24 slm0 slm1 slm2 : Array (Option Value)} {oc0 kV0 dc0 pm0 cd0 ct0 oc1 kV1 dc1 pm1 cd1 ct1 oc2 kV2 dc2 pm2 cd2 ct2 oc3 kV3 dc3 pm3 cd3 ct3 oc4 kV4 dc4 pm4 cd4 ct4 oc5 kV5 dc5 pm5 cd5 ct5 oc6 kV6 dc6 pm6 cd6 ct6 oc7 kV7 dc7 pm7 cd7 ct7 oc8 kV8 dc8 pm8 cd8 ct8 oc9 kV9 dc9 pm9 cd9 ct9 oc10 kV10 dc10 pm10 cd10 ct10 oc11 kV11 dc11 pm11 cd11 ct11 oc12 kV12 dc12 pm12 cd12 ct12 oc13 kV13 dc13 pm13 cd13 ct13 oc14 kV14 dc14 pm14 cd14 ct14 oc15 kV15 dc15 pm15 cd15 ct15 oc16 kV16 dc16 pm16 cd16 ct16 oc17 kV17 dc17 pm17 cd17 ct17 oc18 kV18 dc18 pm18 cd18 ct18 oc19 kV19 dc19 pm19 cd19 ct19 oc20 kV20 dc20 pm20 cd20 ct20 oc21 kV21 dc21 pm21 cd21 ct21 oc22 kV22 dc22 pm22 cd22 ct22 oc23 kV23 dc23 pm23 cd23 ct23 oc24 kV24 dc24 pm24 cd24 ct24 ocm0 kVm0 dcm0 pmm0 cdm0 ctm0 ocm1 kVm1 dcm1 pmm1 cdm1 ctm1 ocm2 kVm2 dcm2 pmm2 cdm2 ctm2 : Value}
    (a0 : PySem.W.nsIn K mainGlobals "is_from" = some (some (.ref f0)))
    (l0 : K.lookup f0 = some ⟨oc0, od0, .func (PySem.W.fnOf "is_from" "is_from" (defArgs sIsFrom) (defBody sIsFrom) (defScope sIsFrom) .none kV0 dc0 pm0 an0 cd0 ct0), sl0⟩) (c0 : PySem.W.codeIn K cd0 "is_from" = true) (k0 : PySem.W.keepIn K (.ref f0) = true)
    (a1 : PySem.W.nsIn K mainGlobals "is_line" = some (some (.ref f1)))
    (l1 : K.lookup f1 = some ⟨oc1, od1, .func (PySem.W.fnOf "is_line" "is_line" (defArgs sIsLine) (defBody sIsLine) (defScope sIsLine) .none kV1 dc1 pm1 an1 cd1 ct1), sl1⟩) (c1 : PySem.W.codeIn K cd1 "is_line" = true) (k1 : PySem.W.keepIn K (.ref f1) = true)
    (a2 : PySem.W.nsIn K mainGlobals "need_board" = some (some (.ref f2)))
    (l2 : K.lookup f2 = some ⟨oc2, od2, .func (PySem.W.fnOf "need_board" "need_board" (defArgs sNeedBoard) (defBody sNeedBoard) (defScope sNeedBoard) .none kV2 dc2 pm2 an2 cd2 ct2), sl2⟩) (c2 : PySem.W.codeIn K cd2 "need_board" = true) (k2 : PySem.W.keepIn K (.ref f2) = true)
    (a3 : PySem.W.nsIn K mainGlobals "is_thread" = some (some (.ref f3)))
    (l3 : K.lookup f3 = some ⟨oc3, od3, .func (PySem.W.fnOf "is_thread" "is_thread" (defArgs sIsThread) (defBody sIsThread) (defScope sIsThread) .none kV3 dc3 pm3 an3 cd3 ct3), sl3⟩) (c3 : PySem.W.codeIn K cd3 "is_thread" = true) (k3 : PySem.W.keepIn K (.ref f3) = true)
    (a4 : PySem.W.nsIn K mainGlobals "all_steps" = some (some (.ref f4)))
    (l4 : K.lookup f4 = some ⟨oc4, od4, .func (PySem.W.fnOf "all_steps" "all_steps" (defArgs sAllSteps) (defBody sAllSteps) (defScope sAllSteps) .none kV4 dc4 pm4 an4 cd4 ct4), sl4⟩) (c4 : PySem.W.codeIn K cd4 "all_steps" = true) (k4 : PySem.W.keepIn K (.ref f4) = true)
    (a5 : PySem.W.nsIn K mainGlobals "leads_of" = some (some (.ref f5)))
    (l5 : K.lookup f5 = some ⟨oc5, od5, .func (PySem.W.fnOf "leads_of" "leads_of" (defArgs sLeads) (defBody sLeads) (defScope sLeads) .none kV5 dc5 pm5 an5 cd5 ct5), sl5⟩) (c5 : PySem.W.codeIn K cd5 "leads_of" = true) (k5 : PySem.W.keepIn K (.ref f5) = true)
    (a6 : PySem.W.nsIn K mainGlobals "stand_together" = some (some (.ref f6)))
    (l6 : K.lookup f6 = some ⟨oc6, od6, .func (PySem.W.fnOf "stand_together" "stand_together" (defArgs sStand) (defBody sStand) (defScope sStand) .none kV6 dc6 pm6 an6 cd6 ct6), sl6⟩) (c6 : PySem.W.codeIn K cd6 "stand_together" = true) (k6 : PySem.W.keepIn K (.ref f6) = true)
    (a7 : PySem.W.nsIn K mainGlobals "closes" = some (some (.ref f7)))
    (l7 : K.lookup f7 = some ⟨oc7, od7, .func (PySem.W.fnOf "closes" "closes" (defArgs sCloses) (defBody sCloses) (defScope sCloses) .none kV7 dc7 pm7 an7 cd7 ct7), sl7⟩) (c7 : PySem.W.codeIn K cd7 "closes" = true) (k7 : PySem.W.keepIn K (.ref f7) = true)
    (a8 : PySem.W.nsIn K mainGlobals "sized" = some (some (.ref f8)))
    (l8 : K.lookup f8 = some ⟨oc8, od8, .func (PySem.W.fnOf "sized" "sized" (defArgs sSized) (defBody sSized) (defScope sSized) .none kV8 dc8 pm8 an8 cd8 ct8), sl8⟩) (c8 : PySem.W.codeIn K cd8 "sized" = true) (k8 : PySem.W.keepIn K (.ref f8) = true)
    (a9 : PySem.W.nsIn K mainGlobals "all_lots" = some (some (.ref f9)))
    (l9 : K.lookup f9 = some ⟨oc9, od9, .func (PySem.W.fnOf "all_lots" "all_lots" (defArgs sAllLots) (defBody sAllLots) (defScope sAllLots) .none kV9 dc9 pm9 an9 cd9 ct9), sl9⟩) (c9 : PySem.W.codeIn K cd9 "all_lots" = true) (k9 : PySem.W.keepIn K (.ref f9) = true)
    (a10 : PySem.W.nsIn K mainGlobals "all_closed" = some (some (.ref f10)))
    (l10 : K.lookup f10 = some ⟨oc10, od10, .func (PySem.W.fnOf "all_closed" "all_closed" (defArgs sAllClosed) (defBody sAllClosed) (defScope sAllClosed) .none kV10 dc10 pm10 an10 cd10 ct10), sl10⟩) (c10 : PySem.W.codeIn K cd10 "all_closed" = true) (k10 : PySem.W.keepIn K (.ref f10) = true)
    (a11 : PySem.W.nsIn K mainGlobals "need_threads" = some (some (.ref f11)))
    (l11 : K.lookup f11 = some ⟨oc11, od11, .func (PySem.W.fnOf "need_threads" "need_threads" (defArgs sNeedThr) (defBody sNeedThr) (defScope sNeedThr) .none kV11 dc11 pm11 an11 cd11 ct11), sl11⟩) (c11 : PySem.W.codeIn K cd11 "need_threads" = true) (k11 : PySem.W.keepIn K (.ref f11) = true)
    (a12 : PySem.W.nsIn K mainGlobals "can_stand" = some (some (.ref f12)))
    (l12 : K.lookup f12 = some ⟨oc12, od12, .func (PySem.W.fnOf "can_stand" "can_stand" (defArgs sCanStand) (defBody sCanStand) (defScope sCanStand) .none kV12 dc12 pm12 an12 cd12 ct12), sl12⟩) (c12 : PySem.W.codeIn K cd12 "can_stand" = true) (k12 : PySem.W.keepIn K (.ref f12) = true)
    (a13 : PySem.W.nsIn K mainGlobals "dividing_lot" = some (some (.ref f13)))
    (l13 : K.lookup f13 = some ⟨oc13, od13, .func (PySem.W.fnOf "dividing_lot" "dividing_lot" (defArgs sDivLot) (defBody sDivLot) (defScope sDivLot) .none kV13 dc13 pm13 an13 cd13 ct13), sl13⟩) (c13 : PySem.W.codeIn K cd13 "dividing_lot" = true) (k13 : PySem.W.keepIn K (.ref f13) = true)
    (a14 : PySem.W.nsIn K mainGlobals "_law_taken" = some (some (.ref f14)))
    (l14 : K.lookup f14 = some ⟨oc14, od14, .func (PySem.W.fnOf "_law_taken" "_law_taken" (defArgs sTaken) (defBody sTaken) (defScope sTaken) .none kV14 dc14 pm14 an14 cd14 ct14), sl14⟩) (c14 : PySem.W.codeIn K cd14 "_law_taken" = true) (k14 : PySem.W.keepIn K (.ref f14) = true)
    (a15 : PySem.W.nsIn K mainGlobals "_law_pick" = some (some (.ref f15)))
    (l15 : K.lookup f15 = some ⟨oc15, od15, .func (PySem.W.fnOf "_law_pick" "_law_pick" (defArgs sPick) (defBody sPick) (defScope sPick) .none kV15 dc15 pm15 an15 cd15 ct15), sl15⟩) (c15 : PySem.W.codeIn K cd15 "_law_pick" = true) (k15 : PySem.W.keepIn K (.ref f15) = true)
    (a16 : PySem.W.nsIn K mainGlobals "_law_cells" = some (some (.ref f16)))
    (l16 : K.lookup f16 = some ⟨oc16, od16, .func (PySem.W.fnOf "_law_cells" "_law_cells" (defArgs sLCells) (defBody sLCells) (defScope sLCells) .none kV16 dc16 pm16 an16 cd16 ct16), sl16⟩) (c16 : PySem.W.codeIn K cd16 "_law_cells" = true) (k16 : PySem.W.keepIn K (.ref f16) = true)
    (a17 : PySem.W.nsIn K mainGlobals "_law_many" = some (some (.ref f17)))
    (l17 : K.lookup f17 = some ⟨oc17, od17, .func (PySem.W.fnOf "_law_many" "_law_many" (defArgs sLMany) (defBody sLMany) (defScope sLMany) .none kV17 dc17 pm17 an17 cd17 ct17), sl17⟩) (c17 : PySem.W.codeIn K cd17 "_law_many" = true) (k17 : PySem.W.keepIn K (.ref f17) = true)
    (a18 : PySem.W.nsIn K mainGlobals "_law_steps" = some (some (.ref f18)))
    (l18 : K.lookup f18 = some ⟨oc18, od18, .func (PySem.W.fnOf "_law_steps" "_law_steps" (defArgs sLSteps) (defBody sLSteps) (defScope sLSteps) .none kV18 dc18 pm18 an18 cd18 ct18), sl18⟩) (c18 : PySem.W.codeIn K cd18 "_law_steps" = true) (k18 : PySem.W.keepIn K (.ref f18) = true)
    (a19 : PySem.W.nsIn K mainGlobals "_law_leads" = some (some (.ref f19)))
    (l19 : K.lookup f19 = some ⟨oc19, od19, .func (PySem.W.fnOf "_law_leads" "_law_leads" (defArgs sLLeads) (defBody sLLeads) (defScope sLLeads) .none kV19 dc19 pm19 an19 cd19 ct19), sl19⟩) (c19 : PySem.W.codeIn K cd19 "_law_leads" = true) (k19 : PySem.W.keepIn K (.ref f19) = true)
    (a20 : PySem.W.nsIn K mainGlobals "_law_alike" = some (some (.ref f20)))
    (l20 : K.lookup f20 = some ⟨oc20, od20, .func (PySem.W.fnOf "_law_alike" "_law_alike" (defArgs sAlike) (defBody sAlike) (defScope sAlike) .none kV20 dc20 pm20 an20 cd20 ct20), sl20⟩) (c20 : PySem.W.codeIn K cd20 "_law_alike" = true) (k20 : PySem.W.keepIn K (.ref f20) = true)
    (a21 : PySem.W.nsIn K mainGlobals "_law_all_lots" = some (some (.ref f21)))
    (l21 : K.lookup f21 = some ⟨oc21, od21, .func (PySem.W.fnOf "_law_all_lots" "_law_all_lots" (defArgs sLAllLots) (defBody sLAllLots) (defScope sLAllLots) .none kV21 dc21 pm21 an21 cd21 ct21), sl21⟩) (c21 : PySem.W.codeIn K cd21 "_law_all_lots" = true) (k21 : PySem.W.keepIn K (.ref f21) = true)
    (a22 : PySem.W.nsIn K mainGlobals "_law_is_closed" = some (some (.ref f22)))
    (l22 : K.lookup f22 = some ⟨oc22, od22, .func (PySem.W.fnOf "_law_is_closed" "_law_is_closed" (defArgs sLIsClosed) (defBody sLIsClosed) (defScope sLIsClosed) .none kV22 dc22 pm22 an22 cd22 ct22), sl22⟩) (c22 : PySem.W.codeIn K cd22 "_law_is_closed" = true) (k22 : PySem.W.keepIn K (.ref f22) = true)
    (a23 : PySem.W.nsIn K mainGlobals "_law_lots" = some (some (.ref f23)))
    (l23 : K.lookup f23 = some ⟨oc23, od23, .func (PySem.W.fnOf "_law_lots" "_law_lots" (defArgs sLLots) (defBody sLLots) (defScope sLLots) .none kV23 dc23 pm23 an23 cd23 ct23), sl23⟩) (c23 : PySem.W.codeIn K cd23 "_law_lots" = true) (k23 : PySem.W.keepIn K (.ref f23) = true)
    (a24 : PySem.W.nsIn K mainGlobals "law" = some (some (.ref f24)))
    (l24 : K.lookup f24 = some ⟨oc24, od24, .func (PySem.W.fnOf "law" "law" (defArgs sLaw) (defBody sLaw) (defScope sLaw) .none kV24 dc24 pm24 an24 cd24 ct24), sl24⟩) (c24 : PySem.W.codeIn K cd24 "law" = true) (k24 : PySem.W.keepIn K (.ref f24) = true)
    (aC : PySem.W.nsIn K mainGlobals "Board" = some (some (.ref C)))
    (am0 : PySem.W.findIn K (.ref C) "__init__" = some (some (.ref fm0))) (im0 : PySem.W.isFn K (.ref fm0) = true)
    (lm0 : K.lookup fm0 = some ⟨ocm0, odm0, .func (PySem.W.fnOf "__init__" "Board.__init__" (defArgs sInit) (defBody sInit) (defScope sInit) .none kVm0 dcm0 pmm0 anm0 cdm0 ctm0), slm0⟩) (cm0 : PySem.W.codeIn K cdm0 "Board.__init__" = true) (km0 : PySem.W.keepIn K (.ref fm0) = true)
    (am1 : PySem.W.findIn K (.ref C) "__len__" = some (some (.ref fm1))) (im1 : PySem.W.isFn K (.ref fm1) = true)
    (lm1 : K.lookup fm1 = some ⟨ocm1, odm1, .func (PySem.W.fnOf "__len__" "Board.__len__" (defArgs sLen) (defBody sLen) (defScope sLen) .none kVm1 dcm1 pmm1 anm1 cdm1 ctm1), slm1⟩) (cm1 : PySem.W.codeIn K cdm1 "Board.__len__" = true) (km1 : PySem.W.keepIn K (.ref fm1) = true)
    (am2 : PySem.W.findIn K (.ref C) "cells" = some (some (.ref pc))) (gm2 : PySem.W.specialIn K (.ref pc) "__get__" = some (some (.builtin "property.__get__"))) (tm2 : PySem.W.takesIn K (.ref pc) = some true) (rm2 : PySem.W.recIn K pc "property" = some (.ref fm2 :: rst))
    (lm2 : K.lookup fm2 = some ⟨ocm2, odm2, .func (PySem.W.fnOf "cells" "Board.cells" (defArgs sCells) (defBody sCells) (defScope sCells) .none kVm2 dcm2 pmm2 anm2 cdm2 ctm2), slm2⟩) (cm2 : PySem.W.codeIn K cdm2 "Board.cells" = true) (km2 : PySem.W.keepIn K (.ref fm2) = true)
    (pg : PySem.W.plainGet K C Str.empty = true) (hd : PySem.W.hasDictIn K C = true) (po : PySem.W.plainOver K C = true) (sa : PySem.W.findIn K (.ref C) "__setattr__" = some (some (.builtin "object.__setattr__"))) (mk : PySem.W.makesIn K C = true) (kc : PySem.W.keepIn K (.ref C) = true)
    (nT : PySem.W.findIn K (.ref C) "table" = some none) (ha : PySem.W.findIn K (.ref C) "__class__" = some (some (.builtin "object.__class__"))) (hn : PySem.W.specialIn K (.builtin "object.__class__") "__get__" = some (some (.builtin "getset_descriptor.__get__"))) (htk : PySem.W.takesIn K (.builtin "object.__class__") = some true) (hm : PySem.W.mroIn K C (.type "object") = some true)
    (z_isinstance : PySem.W.nsIn K mainGlobals "isinstance" = some none)
    (z_int : PySem.W.nsIn K mainGlobals "int" = some none)
    (z_bool : PySem.W.nsIn K mainGlobals "bool" = some none)
    (z_str : PySem.W.nsIn K mainGlobals "str" = some none)
    (z_tuple : PySem.W.nsIn K mainGlobals "tuple" = some none)
    (z_list : PySem.W.nsIn K mainGlobals "list" = some none)
    (z_len : PySem.W.nsIn K mainGlobals "len" = some none)
    (z_all : PySem.W.nsIn K mainGlobals "all" = some none)
    (z_range : PySem.W.nsIn K mainGlobals "range" = some none)
    (z_enumerate : PySem.W.nsIn K mainGlobals "enumerate" = some none)
    (z_sorted : PySem.W.nsIn K mainGlobals "sorted" = some none)
    (zS : PySem.W.nsIn K mainGlobals "SIGNS" = some (some (.str ".<>x" tS))) (zM : PySem.W.nsIn K mainGlobals "MOST_LINES" = some (some (.int 5 tM))) :
    ∃ fd : FuncData, (∀ (s : Shared) (v : Value), BindsTo s fd ⟨[v], []⟩ [("_law_script", v)]) ∧ ∀ base : Heap, K.In base → base.Ns mainGlobals mg → FnOk l.prog w K mg base CX0 6 fa fd ["_law_script"] (spLaw K) := by
  have e := hfa.symm.trans (PySem.W.mg_of X G a24)
  cases e
  have T : Txt K mg := ⟨PySem.W.mg_none_of X G z_isinstance, PySem.W.mg_none_of X G z_int, PySem.W.mg_none_of X G z_bool, PySem.W.mg_none_of X G z_str, PySem.W.mg_none_of X G z_tuple, PySem.W.mg_none_of X G z_list, PySem.W.mg_none_of X G z_len, PySem.W.mg_none_of X G z_all, PySem.W.mg_none_of X G z_range, PySem.W.mg_none_of X G z_enumerate, PySem.W.mg_none_of X G z_sorted, ⟨tS, PySem.W.mg_of X G zS⟩, ⟨tM, PySem.W.mg_of X G zM⟩⟩
  have B : TxtB K mg C := ⟨⟨pg, hd, po, sa⟩, nT, PySem.W.mg_of X G aC, ha, hn, htk, hm, kit_self K C⟩
  have F0 := fun_mk (st := sIsFrom) l0 c0 k0
  have b0 := F0.binds (ps := ["value", "low", "high"]) fun _ _ _ _ _ _ us hl => match us, hl with | [_, _, _], _ => rfl
  have g0 := PySem.W.mg_of X G a0
  have F1 := fun_mk (st := sIsLine) l1 c1 k1
  have b1 := F1.binds (ps := ["value"]) fun _ _ _ _ _ _ us hl => match us, hl with | [_], _ => rfl
  have g1 := PySem.W.mg_of X G a1
  have F2 := fun_mk (st := sNeedBoard) l2 c2 k2
  have b2 := F2.binds (ps := ["board"]) fun _ _ _ _ _ _ us hl => match us, hl with | [_], _ => rfl
  have g2 := PySem.W.mg_of X G a2
  have F3 := fun_mk (st := sIsThread) l3 c3 k3
  have b3 := F3.binds (ps := ["board", "value"]) fun _ _ _ _ _ _ us hl => match us, hl with | [_, _], _ => rfl
  have g3 := PySem.W.mg_of X G a3
  have F4 := fun_mk (st := sAllSteps) l4 c4 k4
  have b4 := F4.binds (ps := ["board"]) fun _ _ _ _ _ _ us hl => match us, hl with | [_], _ => rfl
  have g4 := PySem.W.mg_of X G a4
  have F5 := fun_mk (st := sLeads) l5 c5 k5
  have b5 := F5.binds (ps := ["board"]) fun _ _ _ _ _ _ us hl => match us, hl with | [_], _ => rfl
  have g5 := PySem.W.mg_of X G a5
  have F6 := fun_mk (st := sStand) l6 c6 k6
  have b6 := F6.binds (ps := ["cells", "threads"]) fun _ _ _ _ _ _ us hl => match us, hl with | [_, _], _ => rfl
  have g6 := PySem.W.mg_of X G a6
  have F7 := fun_mk (st := sCloses) l7 c7 k7
  have b7 := F7.binds (ps := ["told", "lot"]) fun _ _ _ _ _ _ us hl => match us, hl with | [_, _], _ => rfl
  have g7 := PySem.W.mg_of X G a7
  have F8 := fun_mk (st := sSized) l8 c8 k8
  have b8 := F8.binds (ps := ["lot"]) fun _ _ _ _ _ _ us hl => match us, hl with | [_], _ => rfl
  have g8 := PySem.W.mg_of X G a8
  have F9 := fun_mk (st := sAllLots) l9 c9 k9
  have b9 := F9.binds (ps := ["many"]) fun _ _ _ _ _ _ us hl => match us, hl with | [_], _ => rfl
  have g9 := PySem.W.mg_of X G a9
  have F10 := fun_mk (st := sAllClosed) l10 c10 k10
  have b10 := F10.binds (ps := ["board"]) fun _ _ _ _ _ _ us hl => match us, hl with | [_], _ => rfl
  have g10 := PySem.W.mg_of X G a10
  have F11 := fun_mk (st := sNeedThr) l11 c11 k11
  have b11 := F11.binds (ps := ["board", "threads"]) fun _ _ _ _ _ _ us hl => match us, hl with | [_, _], _ => rfl
  have g11 := PySem.W.mg_of X G a11
  have F12 := fun_mk (st := sCanStand) l12 c12 k12
  have b12 := F12.binds (ps := ["board", "threads"]) fun _ _ _ _ _ _ us hl => match us, hl with | [_, _], _ => rfl
  have g12 := PySem.W.mg_of X G a12
  have F13 := fun_mk (st := sDivLot) l13 c13 k13
  have b13 := F13.binds (ps := ["board", "threads"]) fun _ _ _ _ _ _ us hl => match us, hl with | [_, _], _ => rfl
  have g13 := PySem.W.mg_of X G a13
  have F14 := fun_mk (st := sTaken) l14 c14 k14
  have b14 := F14.binds (ps := ["_law_row", "_law_many_here"]) fun _ _ _ _ _ _ us hl => match us, hl with | [_, _], _ => rfl
  have g14 := PySem.W.mg_of X G a14
  have F15 := fun_mk (st := sPick) l15 c15 k15
  have b15 := F15.binds (ps := ["_law_row", "_law_things"]) fun _ _ _ _ _ _ us hl => match us, hl with | [_, _], _ => rfl
  have g15 := PySem.W.mg_of X G a15
  have F16 := fun_mk (st := sLCells) l16 c16 k16
  have b16 := F16.binds (ps := ["_law_row", "_law_most"]) fun _ _ _ _ _ _ us hl => match us, hl with | [_, _], _ => rfl
  have g16 := PySem.W.mg_of X G a16
  have F17 := fun_mk (st := sLMany) l17 c17 k17
  have b17 := F17.binds (ps := ["_law_cells_here"]) fun _ _ _ _ _ _ us hl => match us, hl with | [_], _ => rfl
  have g17 := PySem.W.mg_of X G a17
  have F18 := fun_mk (st := sLSteps) l18 c18 k18
  have b18 := F18.binds (ps := ["_law_cells_here"]) fun _ _ _ _ _ _ us hl => match us, hl with | [_], _ => rfl
  have g18 := PySem.W.mg_of X G a18
  have F19 := fun_mk (st := sLLeads) l19 c19 k19
  have b19 := F19.binds (ps := ["_law_cells_here"]) fun _ _ _ _ _ _ us hl => match us, hl with | [_], _ => rfl
  have g19 := PySem.W.mg_of X G a19
  have F20 := fun_mk (st := sAlike) l20 c20 k20
  have b20 := F20.binds (ps := ["_law_found", "_law_due"]) fun _ _ _ _ _ _ us hl => match us, hl with | [_, _], _ => rfl
  have g20 := PySem.W.mg_of X G a20
  have F21 := fun_mk (st := sLAllLots) l21 c21 k21
  have b21 := F21.binds (ps := ["_law_many_here"]) fun _ _ _ _ _ _ us hl => match us, hl with | [_], _ => rfl
  have g21 := PySem.W.mg_of X G a21
  have F22 := fun_mk (st := sLIsClosed) l22 c22 k22
  have b22 := F22.binds (ps := ["_law_told", "_law_lot"]) fun _ _ _ _ _ _ us hl => match us, hl with | [_, _], _ => rfl
  have g22 := PySem.W.mg_of X G a22
  have F23 := fun_mk (st := sLLots) l23 c23 k23
  have b23 := F23.binds (ps := ["_law_cells_here"]) fun _ _ _ _ _ _ us hl => match us, hl with | [_], _ => rfl
  have g23 := PySem.W.mg_of X G a23
  have F24 := fun_mk (st := sLaw) l24 c24 k24
  have b24 := F24.binds (ps := ["_law_script"]) fun _ _ _ _ _ _ us hl => match us, hl with | [_], _ => rfl
  have g24 := PySem.W.mg_of X G a24
  have Fm0 := fun_mk (st := sInit) lm0 cm0 km0
  have bm0 := Fm0.binds (ps := ["self", "cells"]) fun _ _ _ _ _ _ us hl => match us, hl with | [_, _], _ => rfl
  have Fm1 := fun_mk (st := sLen) lm1 cm1 km1
  have bm1 := Fm1.binds (ps := ["self"]) fun _ _ _ _ _ _ us hl => match us, hl with | [_], _ => rfl
  have Fm2 := fun_mk (st := sCells) lm2 cm2 km2
  have bm2 := Fm2.binds (ps := ["self"]) fun _ _ _ _ _ _ us hl => match us, hl with | [_], _ => rfl
  refine ⟨PySem.W.fnOf "law" "law" (defArgs sLaw) (defBody sLaw) (defScope sLaw) .none kV24 dc24 pm24 an24 cd24 ct24, fun s v => .of_eq rfl, fun base _ _ => ?_⟩
  have LB : LenB K mg C fm1 _ := ⟨Fm1, bm1, am1, im1⟩
  have GI : FnOk l.prog w K mg base CX0 2 fm0 _ ["self", "cells"] (spInit C) := ok_init Fm0 T B F1 b1 g1
  have Mk0 : Mk K C fm0 := ⟨mk, am0, im0, kc⟩
  have Gc : FnOk l.prog w K mg base CX0 1 fm2 _ ["self"] (spCells C) := ok_cells Fm2 B
  have G2 : FnOk l.prog w K mg base CX0 1 f2 _ ["board"] (spNB C) := ok_needBoard F2 T B
  have G3 : FnOk l.prog w K mg base CX0 3 f3 _ ["board", "value"] (spIsThr C) := ok_isThread F3 T B LB F0 b0 g0
  have G4 : FnOk l.prog w K mg base CX0 1 f4 _ ["board"] (spSteps C) := ok_allSteps F4 T B
  have G5 : FnOk l.prog w K mg base CX0 3 f5 _ ["board"] (spLeads C) := ok_leads F5 T B LB F4 b4 g4
  have G6 : FnOk l.prog w K mg base CX0 4 f6 _ ["cells", "threads"] (spStand C) := ok_stand (fl := fm1) (fdl := PySem.W.fnOf "__len__" "Board.__len__" (defArgs sLen) (defBody sLen) (defScope sLen) .none kVm1 dcm1 pmm1 anm1 cdm1 ctm1) F6 T B GI Mk0 bm0 G5 k5 b5 g5
  have G7 : FnOk l.prog w K mg base CX0 1 f7 _ ["told", "lot"] spCloses := ok_closes F7 T
  have G9 : FnOk l.prog w K mg base CX0 1 f9 _ ["many"] spAllLots := ok_allLots F9 T
  have G10 : FnOk l.prog w K mg base CX0 3 f10 _ ["board"] (spClosed C) := ok_allClosed F10 T B LB G4 k4 b4 g4 G9 k9 b9 g9 G7 k7 b7 g7 F8 g8
  have G11 : FnOk l.prog w K mg base CX0 4 f11 _ ["board", "threads"] (spNT C) := ok_needThr F11 T G2 k2 b2 g2 G3 k3 b3 g3
  have G12 : FnOk l.prog w K mg base CX0 5 f12 _ ["board", "threads"] (spCan C) := ok_can F12 B G11 k11 b11 g11 G6 k6 b6 g6 Gc bm2 ⟨am2, gm2, tm2, rst, rm2⟩
  have G13 : FnOk l.prog w K mg base CX0 5 f13 _ ["board", "threads"] (spDiv C) := ok_div F13 T G11 k11 b11 g11 G10 k10 b10 g10
  have G14 : FnOk l.prog w K mg base CX0 1 f14 _ ["_law_row", "_law_many_here"] (spTaken K) := ok_taken F14 T
  have G15 : FnOk l.prog w K mg base CX0 2 f15 _ ["_law_row", "_law_things"] (spPick K) := ok_pick F15 T G14 k14 b14 g14
  have G16 : FnOk l.prog w K mg base CX0 2 f16 _ ["_law_row", "_law_most"] (spLCells K) := ok_lcells F16 T G14 k14 b14 g14
  have G17 : FnOk l.prog w K mg base CX0 1 f17 _ ["_law_cells_here"] spMany := ok_many F17 T
  have G18 : FnOk l.prog w K mg base CX0 1 f18 _ ["_law_cells_here"] spLSteps := ok_lsteps F18 T
  have G19 : FnOk l.prog w K mg base CX0 2 f19 _ ["_law_cells_here"] spLLeads := ok_lleads F19 T G18 k18 b18 g18 G17 k17 b17 g17
  have G20 : FnOk l.prog w K mg base CX0 2 f20 _ ["_law_found", "_law_due"] (fun vs H Q E => spAlk1 vs H Q E ∨ spAlk2 vs H Q E) := fnOk_or ((ok_alk1 F20 T).mono (by decide)) (ok_alk2 F20 T b20 g20)
  have G21 : FnOk l.prog w K mg base CX0 1 f21 _ ["_law_many_here"] spLAllLots := ok_lall F21 T
  have G22 : FnOk l.prog w K mg base CX0 1 f22 _ ["_law_told", "_law_lot"] spCloses := ok_lisc F22 T
  have G23 : FnOk l.prog w K mg base CX0 2 f23 _ ["_law_cells_here"] spLLots := ok_llots F23 G18 k18 b18 g18 G17 k17 b17 g17 G21 k21 b21 g21 G22 k22 b22 g22
  exact ok_law F24 T B G16 k16 b16 g16 GI Mk0 bm0 G19 k19 b19 g19 G23 k23 b23 g23 G21 k21 b21 g21 G17 k17 b17 g17 G15 k15 b15 g15 G20 k20 b20 g20 G12 k12 b12 g12 G13 k13 b13 g13
end Wf
set_option Elab.async false
set_option linter.all false
set_option maxRecDepth 100000
open PySem PySem.W PyProof.Rows
set_option maxHeartbeats 0 in
theorem PySem.Challenge.cw_wovenframes_k61_whole_standing_together_holds : PySem.Challenge.rw_wovenframes_k61_whole_standing_together.Holds := by
  w_on; o_law; k_head; (case hw => w_witness2)
  k_fill
  refine L2.walk_of (l := PySem.Challenge.rw_wovenframes_k61_whole_standing_together) (n := 63) (k := 6) (x := "_law_script") (CX := fun _ => L2.CX0) (sp := fun w => Wf.spLaw _) rfl (by decide) rfl ⟨rfl, by decide, by decide⟩ (fun w h Y => PySem.W.kIn_of Y) ?F (fun _ _ a ns hl _ hS => ⟨a, ns, rfl, hS, hl, fun _ => rfl⟩) (fun _ _ _ _ _ h => h)
  case F =>
    intro w mg fa h KX G hmg
    refine' Wf.all_mk KX G hmg ?a0 ?l0 ?c0 ?k0 ?a1 ?l1 ?c1 ?k1 ?a2 ?l2 ?c2 ?k2 ?a3 ?l3 ?c3 ?k3 ?a4 ?l4 ?c4 ?k4 ?a5 ?l5 ?c5 ?k5 ?a6 ?l6 ?c6 ?k6 ?a7 ?l7 ?c7 ?k7 ?a8 ?l8 ?c8 ?k8 ?a9 ?l9 ?c9 ?k9 ?a10 ?l10 ?c10 ?k10 ?a11 ?l11 ?c11 ?k11 ?a12 ?l12 ?c12 ?k12 ?a13 ?l13 ?c13 ?k13 ?a14 ?l14 ?c14 ?k14 ?a15 ?l15 ?c15 ?k15 ?a16 ?l16 ?c16 ?k16 ?a17 ?l17 ?c17 ?k17 ?a18 ?l18 ?c18 ?k18 ?a19 ?l19 ?c19 ?k19 ?a20 ?l20 ?c20 ?k20 ?a21 ?l21 ?c21 ?k21 ?a22 ?l22 ?c22 ?k22 ?a23 ?l23 ?c23 ?k23 ?a24 ?l24 ?c24 ?k24 ?aC ?am0 ?im0 ?lm0 ?cm0 ?km0 ?am1 ?im1 ?lm1 ?cm1 ?km1 ?am2 ?gm2 ?tm2 ?rm2 ?lm2 ?cm2 ?km2 ?pg ?hd ?po ?sa ?mk ?kc ?nT ?ha ?hn ?htk ?hm ?z_isinstance ?z_int ?z_bool ?z_str ?z_tuple ?z_list ?z_len ?z_all ?z_range ?z_enumerate ?z_sorted ?zS ?zM
    (case a0 => k_is); (case l0 => k_is); (case c0 => k_is); (case k0 => k_is); (case a1 => k_is); (case l1 => k_is); (case c1 => k_is); (case k1 => k_is)
    (case a2 => k_is); (case l2 => k_is); (case c2 => k_is); (case k2 => k_is); (case a3 => k_is); (case l3 => k_is); (case c3 => k_is); (case k3 => k_is)
    (case a4 => k_is); (case l4 => k_is); (case c4 => k_is); (case k4 => k_is); (case a5 => k_is); (case l5 => k_is); (case c5 => k_is); (case k5 => k_is)
    (case a6 => k_is); (case l6 => k_is); (case c6 => k_is); (case k6 => k_is); (case a7 => k_is); (case l7 => k_is); (case c7 => k_is); (case k7 => k_is)
    (case a8 => k_is); (case l8 => k_is); (case c8 => k_is); (case k8 => k_is); (case a9 => k_is); (case l9 => k_is); (case c9 => k_is); (case k9 => k_is)
    (case a10 => k_is); (case l10 => k_is); (case c10 => k_is); (case k10 => k_is); (case a11 => k_is); (case l11 => k_is); (case c11 => k_is); (case k11 => k_is)
    (case a12 => k_is); (case l12 => k_is); (case c12 => k_is); (case k12 => k_is); (case a13 => k_is); (case l13 => k_is); (case c13 => k_is); (case k13 => k_is)
    (case a14 => k_is); (case l14 => k_is); (case c14 => k_is); (case k14 => k_is); (case a15 => k_is); (case l15 => k_is); (case c15 => k_is); (case k15 => k_is)
    (case a16 => k_is); (case l16 => k_is); (case c16 => k_is); (case k16 => k_is); (case a17 => k_is); (case l17 => k_is); (case c17 => k_is); (case k17 => k_is)
    (case a18 => k_is); (case l18 => k_is); (case c18 => k_is); (case k18 => k_is); (case a19 => k_is); (case l19 => k_is); (case c19 => k_is); (case k19 => k_is)
    (case a20 => k_is); (case l20 => k_is); (case c20 => k_is); (case k20 => k_is); (case a21 => k_is); (case l21 => k_is); (case c21 => k_is); (case k21 => k_is)
    (case a22 => k_is); (case l22 => k_is); (case c22 => k_is); (case k22 => k_is); (case a23 => k_is); (case l23 => k_is); (case c23 => k_is); (case k23 => k_is)
    (case a24 => k_is); (case l24 => k_is); (case c24 => k_is); (case k24 => k_is); (case aC => k_is); (case am0 => k_is); (case im0 => k_is); (case lm0 => k_is)
    (case cm0 => k_is); (case km0 => k_is); (case am1 => k_is); (case im1 => k_is); (case lm1 => k_is); (case cm1 => k_is); (case km1 => k_is); (case am2 => k_is)
    (case gm2 => k_is); (case tm2 => k_is); (case rm2 => k_is); (case lm2 => k_is); (case cm2 => k_is); (case km2 => k_is); (case pg => k_is); (case hd => k_is)
    (case po => k_is); (case sa => k_is); (case mk => k_is); (case kc => k_is); (case nT => k_is); (case ha => k_is); (case hn => k_is); (case htk => k_is)
    (case hm => k_is); (case z_isinstance => k_is); (case z_int => k_is); (case z_bool => k_is); (case z_str => k_is); (case z_tuple => k_is); (case z_list => k_is); (case z_len => k_is)
    (case z_all => k_is); (case z_range => k_is); (case z_enumerate => k_is); (case z_sorted => k_is); (case zS => k_is); (case zM => k_is)
