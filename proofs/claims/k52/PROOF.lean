import PyProof.Rows.All
import Wide.All
import OpenK.AllK
import Wide.FinOn
import PyProof.EqAt
import PyProof.EqKinds
import PyProof.TupleCall
import PyProof.Draws
import HandS.ForMost
import HandS.Zip
import HandS.Exc
import HandS.TryOnly
import HandS.TryMany
import HandS.ExcOwn
import HandS.WordsExc
import HandS.TupAny
import HandS.TupMul
import HandS.Wide
import HandS.IsInst
import HandS.Deep
import HandS.Style
import HandS.Walk
import HandS.Property
import KE.KOpsOwn
import HandS.Lambda
import HandS.Finally
import HandS.HotCalls
import KE.KWithOwn
import HandS.Nested
import HandS.Defaults
import HandS.EndOwn
import PySem.Challenge.RW_rollstrips_k52_whole_rolls_and_scripts
set_option Elab.async false
set_option linter.all false
set_option maxRecDepth 100000
set_option maxHeartbeats 1000000
/-! Mp, part 0: enumerate of a tuple; a walk over a list or a tuple, whichever it is. -/
namespace MpW
open PySem PySem.Spec PyProof.Rows
open PySem.Sem (wp)
theorem drawsT {prog : Program} {w : World} {A : Around} (hh : A.handled = none) (it l : Addr) (hne : l ≠ it) (items : Array Value) :
    Draws prog w A it [it, l] items.size (fun i v => items[i]? = some v) (fun i h => h.IsTupleIter it l i ∧ h.IsTuple l items) where
  live := fun _ _ st => let ⟨o, ho, _⟩ := st.1; ⟨o, ho⟩
  frame := fun _ _ _ st hk => ⟨st.1.at fun o e => hk it (by simp) o e, st.2.at fun o e => hk l (by simp) o e⟩
  item := fun i s Q E hi st hQ => by
    refine RZ.nextOf_tuple_item st.1 st.2 (x := items[i]) (by simp [hi]) fun h' hit' hs' => ?_
    exact hQ _ h' s.toks (by simp [hi]) ⟨hit', st.2.extBut hs'.extBut hne⟩ hs'
  done := fun s Q E st hE => RZ.nextOf_tuple_end hh st.1 st.2 (by simp) hE
theorem meets_enumT (l : Addr) (items : Array Value) :
    Meets (Builtin.«enumerate.__new__» ⟨[.type "enumerate", .ref l], []⟩) (fun _ R s => s.heap.IsTuple l items ∧
      R (.ok (.ret (.ref (s.heap.push { cls := .type "tuple_iterator", data := .fields #[.ref l, .int 0 0] }).objs.size)))
        { s with heap := (s.heap.push { cls := .type "tuple_iterator", data := .fields #[.ref l, .int 0 0] }).push { cls := .type "enumerate", data := .fields #[.none, .bool false, .ref s.heap.objs.size, rawInt 0, .none, .none] } }) :=
  .of_wp fun prog w A R s h => by
    obtain ⟨hp, g, d, tk, os⟩ := s; obtain ⟨hL, h⟩ := h
    have hsub := sub_enumerate
    obtain ⟨⟨c, dct, dt, sl⟩, hl, hc, n, hd⟩ := id hL
    replace hc : c = .type "tuple" := hc
    replace hd : dt = .seq items n := hd
    subst hc hd
    have hL : Heap.IsTuple (Shared.heap ⟨hp, g, d, tk, os⟩) l items := ⟨_, hl, rfl, n, rfl⟩
    wp_walk using AutoSeq1.wpAny_loadPart' hl
    refine wpAny_stack_any fun st => wpAny_pure ?_
    split
    · rename_i c _ _ _ _ _
      cases (c == Value.type "enumerate")
      · wp_walk using AutoSeq1.wpAny_loadPart' hl, wpAny_pyIter_tuple hL
        exact ⟨_, rfl, h⟩
      · wp_walk using AutoSeq1.wpAny_loadPart' hl, wpAny_pyIter_tuple hL
        exact ⟨_, rfl, h⟩
    · wp_walk using AutoSeq1.wpAny_loadPart' hl, wpAny_pyIter_tuple hL
      exact ⟨_, rfl, h⟩
section
variable {prog : Program} {w : World} {A : Around} {E : Value → Shared → Prop} {s : Shared}
theorem call_enumT {l : Addr} {items : Array Value} {Q : Value → Shared → Prop} (hL : s.heap.IsTuple l items)
    (h : ∀ h', IsEnum h' (s.heap.objs.size + 1) s.heap.objs.size 0 .none → h'.IsTupleIter s.heap.objs.size l 0 → h'.objs.size = s.heap.objs.size + 2 →
      (∀ b o, s.heap.get? b = some o → h'.get? b = some o) → Q (.ref (s.heap.objs.size + 1)) { s with heap := h' }) :
    wpAny (model prog w) A (call (.type "enumerate") [.ref l]) Q E s := by
  refine callType_new F.called_enumerate (by decide) (F.typeCall_enumerate_1 _) (F.newCall_enumerate_1 _) (fun obj => F.args_object_init_2 obj _) F.entry_enumerate_new
    (meets_enumT l items) ⟨hL, ?_⟩
  have hz : (s.heap.push { cls := .type "tuple_iterator", data := .fields #[.ref l, .int 0 0] }).objs.size = s.heap.objs.size + 1 := Heap.size_push ..
  show _ ∧ _
  rw [hz]
  have he : IsEnum ((s.heap.push { cls := .type "tuple_iterator", data := .fields #[.ref l, .int 0 0] }).push
      { cls := .type "enumerate", data := .fields #[.none, .bool false, .ref s.heap.objs.size, rawInt 0, .none, .none] }) (s.heap.objs.size + 1) s.heap.objs.size 0 .none := by
    have := Heap.get?_push_size (s.heap.push { cls := .type "tuple_iterator", data := .fields #[.ref l, .int 0 0] })
      (o := { cls := .type "enumerate", data := .fields #[.none, .bool false, .ref s.heap.objs.size, rawInt 0, .none, .none] }) rfl
    rw [hz] at this; exact this
  refine ⟨⟨_, he, rfl⟩, h _ he ⟨_, Heap.get?_push_of_some _ (Heap.get?_push_size _ rfl), rfl, rfl⟩ (by rw [Heap.size_push, hz]) fun b o y => Heap.get?_push_of_some _ (Heap.get?_push_of_some _ y)⟩
end
end MpW
namespace MpW
open PySem PySem.Spec PyProof.Rows L2
abbrev St := L2.St
/-- the tuple at a, each item in a new pair -/
def IteT (K : PySem.W.Frag) (a : Addr) : It :=
  ⟨fun i H => ∃ (xs : List V) (x : V), SqT K H a xs ∧ xs[i]? = some x, fun i H v H' => ∃ T x, v = .ref T ∧ H T = none ∧ H' = upd H T (.tup [.int (i : Nat), x]) ∧ ∀ xs, SqT K H a xs → xs[i]? = some x, fun i H => ∃ xs : List V, SqT K H a xs ∧ xs.length ≤ i⟩
theorem turn_enumT {P : Program} {w : World} {K : PySem.W.Frag} {elts : List Expr} {kk : Nat} {tpos : Pos} (a e it : Addr) (hai : a ≠ it) (hae : a ≠ e) :
    Turn P w K (.Tuple elts kk tpos) (IteT K a) [e, it] e (fun i h => (∃ old, IsEnum h e it ((i : Nat) : Int) old) ∧ h.IsTupleIter it a i ∧ e ≠ it) where
  mem := by simp
  obj := fun i h st b hb => by
    obtain ⟨⟨old, he⟩, ⟨o, ho, hc, hd⟩, _⟩ := st
    have e' : b = e ∨ b = it := by simpa using hb
    rcases e' with z | z
    · rw [z]; exact ⟨_, he, fun v q => nomatch q⟩
    · rw [z]; exact ⟨o, ho, fun v q => by rw [hd] at q; cases q⟩
  keep := fun i h h' st k => let ⟨⟨old, he⟩, hi, hne⟩ := st; ⟨⟨old, k e (by simp) _ he⟩, hi.at fun o q => k it (by simp) o q, hne⟩
  item := by
    intro X hP hw hK hc i pins s σ H E I hf st hg
    subst hP hw hK
    obtain ⟨⟨old, he⟩, hit, hne⟩ := st
    obtain ⟨xs, x, hq, hx⟩ := hg
    obtain ⟨its, rv, p, hz⟩ := I.tuple hq
    obtain ⟨u, hu, ru⟩ := rv.get hx
    have p' : s.heap.IsTuple a its.toArray := p
    have hel : e < s.heap.objs.size := Heap.lt_size he
    have hil : it < s.heap.objs.size := by obtain ⟨_, q, _⟩ := hit; exact Heap.lt_size q
    have hlt : i < its.toArray.size := by
      have := (List.getElem?_eq_some_iff.mp hu).1
      simpa using this
    have D := drawsT (prog := X.prog) (w := X.w) (A := X.A.in1) (show X.A.in1.handled = none from I.ok.hd hc) it a hai its.toArray
    refine wpAny_pyNext_enum_itemD D he ⟨hit, p'⟩ hlt hne (by simp [hne, Ne.symm hae]) fun u' h' tk hu' ho hit' hT hsz hk => ?_
    have eu : u' = u := by
      have : its.toArray[i]? = some u := by simpa using hu
      rw [hu'] at this; exact Option.some.inj this
    subst eu
    refine ⟨_, rfl, wpAny_letOwnedTupleGo_enum (s := { s with heap := h', toks := tk + 1 }) ho fun h'' he' sb => ?_⟩
    have hT2 : h''.get? s.heap.objs.size = some { cls := .type "tuple", data := .seq #[.int i tk, u'] } := (sb.2 _ (Nat.ne_of_gt hel)).trans hT
    have new : ObjOk X.prog X.w (upd H s.heap.objs.size (.tup [.int (i : Nat), x])) h'' s.heap.objs.size (.tup [.int (i : Nat), x]) :=
      ⟨by show 2 ≤ sizeLine; decide, [.int i tk, u'], .cons ⟨_, rfl⟩ (.cons ru .nil), ⟨_, hT2, rfl, _, rfl⟩⟩
    have I1 : Inv X pins σ (upd H s.heap.objs.size (.tup [.int (i : Nat), x])) { s with heap := h'', toks := tk + 1 } :=
      I.turnedNew (ch := [e, it]) (fun b ob hb q => (sb.2 b (fun z => hb (by simp [z]))).trans (hk b ob (fun z => hb (by simp [z])) (fun z => hb (by simp [z])) q)) hf (Nat.le_refl _) new
    refine ⟨.ref s.heap.objs.size, _, I1, rfl, ⟨_, x, rfl, I.hok.fresh (Nat.le_refl _), rfl, fun ys hy => by rw [I.tuple_inj hy hq]; exact hx⟩, ⟨⟨u', ?_⟩, hit'.1.at fun o q => (sb.2 it (Ne.symm hne)).trans q, hne⟩, fun b hb => ?_⟩
    · have e1 : ((i + 1 : Nat) : Int) = (i : Int) + 1 := by omega
      rw [e1]; exact he'
    · have hb' : b < s.heap.objs.size := by
        have e' : b = e ∨ b = it := by simpa using hb
        rcases e' with z | z
        · rw [z]; exact hel
        · rw [z]; exact hil
      rw [upd_ne (Nat.ne_of_lt hb')]
      exact (hf b hb).1
  done := by
    intro X hP hw hK hc i pins s σ H E I hf st hg
    subst hP hw hK
    obtain ⟨⟨old, he⟩, hit, hne⟩ := st
    obtain ⟨xs, hq, hx⟩ := hg
    obtain ⟨its, rv, p, hz⟩ := I.tuple hq
    have p' : s.heap.IsTuple a its.toArray := p
    obtain ⟨f0, f1, f2, f3, f4, f5⟩ := hf it (by simp)
    have hl := rv.length
    have hh : X.A.in1.handled = none := I.ok.hd hc
    have hT : s.TypeIs (.ref e) "enumerate" := ⟨_, he, rfl⟩
    unfold pyNext
    refine wpAny_bind (wpAny_attempt (wpAny_callSpecial?_slot (name := Str.ofString "__next__") hT F.slot_enumerate_next
      (wpAny_call_entry F.slot_enumerate_next hT F.entry_enumerate_next ?_ (F.args_enumerate_next_1 _))))
    show wpAny _ _ (field (.ref e) 2 >>= _) _ _ _
    refine wpAny_bind (wpAny_field he rfl (x := .ref it) rfl ?_)
    refine wpAny_bind (RZ.nextOf_tuple_end hh hit p' (by simp; omega) fun h' x he' hx' => ?_)
    obtain ⟨o, ho, hcl⟩ := hx'
    refine wpAny_bind (wpAny_isInstance (T := "StopIteration") (b := true) ⟨o, ho, hcl⟩ isSubtype_stop ?_)
    exact wpAny_pure ⟨rfl, I.turned (t' := s.toks) (fun b o hb q => he' b o hb q) f0 f1 f3 f4 f5⟩
  self := fun A i s Q E st h => let ⟨⟨_, he⟩, _⟩ := st; wpAny_pyIter_enum he h
/-- enumerate of a list or a tuple -/
def iEnumA (K : PySem.W.Frag) (ta : TA) : TI := fun σ H R => ta σ H fun vs H1 => ∃ a xs, vs = [.ref a] ∧ ((SqL K H1 a xs ∧ R (Ite K a) H1) ∨ (SqT K H1 a xs ∧ R (IteT K a) H1))
theorem pi_enumA {X : Cx} {e : Expr} {ta : TA} {p pos tpos : Pos} {elts : List Expr} {kk : Nat} (hg : Gl X "enumerate") (hm : X.mg "enumerate" = none) (ha : PA X [e] ta) (hs : starEach [e] X.env = [(false, eval e X.env)] := by rfl) :
    PI X (.Tuple elts kk tpos) (.Call (.Name "enumerate" p) [e] [] pos) (iEnumA X.K ta) := by
  refine ⟨fun pins s σ H R I h => ?_⟩
  refine Call_ (ld_blt I hg hm boot_enumerate (PyProof.Rows.callWith_type1 (thn (ha.run pos pins s σ H _ I h) fun us s1 ⟨vs, H1, I1, r1, q1⟩ => ?_) hs rfl))
  obtain ⟨a, xs, ex, q⟩ := q1
  subst ex
  cases r1 with
  | cons r rr =>
    cases rr
    cases r
    have fp : ∀ b, b ∈ [s1.heap.objs.size + 1, s1.heap.objs.size] → FpOk X pins H1 b := fun b hb => by
      have e' : b = s1.heap.objs.size + 1 ∨ b = s1.heap.objs.size := by simpa using hb
      have hle : s1.heap.objs.size ≤ b := by
        rcases e' with z | z
        · rw [z]; exact Nat.le_add_right _ _
        · rw [z]; exact Nat.le_refl _
      exact I1.fpOk hle (I1.hok.fresh hle)
    rcases q with ⟨hq, q⟩ | ⟨hq, q⟩
    · obtain ⟨its, rv, p', hz⟩ := I1.list hq
      refine call_enumerate_list p'.isList fun h' he hit hsz hk => wpAny_pyIter_enum he ?_
      have I2 : Inv X pins σ H1 { s1 with heap := h' } := I1.kept (t' := s1.toks) hk
      exact ⟨s1.heap.objs.size + 1, [s1.heap.objs.size + 1, s1.heap.objs.size], _, _, H1, rfl, I2, turn_enum a (s1.heap.objs.size + 1) s1.heap.objs.size, ⟨⟨.none, he⟩, hit, Nat.succ_ne_self _⟩, fp, q⟩
    · obtain ⟨its, rv, p', hz⟩ := I1.tuple hq
      have p2 : s1.heap.IsTuple a its.toArray := p'
      obtain ⟨o1, ho1, _⟩ := id p2
      have hal := Heap.lt_size ho1
      refine call_enumT p2 fun h' he hit hsz hk => wpAny_pyIter_enum he ?_
      have I2 : Inv X pins σ H1 { s1 with heap := h' } := I1.kept (t' := s1.toks) hk
      exact ⟨s1.heap.objs.size + 1, [s1.heap.objs.size + 1, s1.heap.objs.size], _, _, H1, rfl, I2, turn_enumT a (s1.heap.objs.size + 1) s1.heap.objs.size (Nat.ne_of_lt hal) (Nat.ne_of_lt (Nat.lt_succ_of_lt hal)), ⟨⟨.none, he⟩, hit, Nat.succ_ne_self _⟩, fp, q⟩
/-- a list or a tuple -/
def iSeqA (K : PySem.W.Frag) (tl : TE) : TI := fun σ H R => tl σ H fun x H1 => ∃ a, x = .ref a ∧ (((∃ xs, SqL K H1 a xs) ∧ R (Itl K a) H1) ∨ ((∃ xs, SqT K H1 a xs) ∧ R (Itt K a) H1))
theorem pi_seqA {X : Cx} {tg l : Expr} {tl : TE} (hl : PE X l tl) : PI X tg l (iSeqA X.K tl) := by
  refine ⟨fun pins s σ H R I h => ?_⟩
  refine thn (hl.run pins s σ H _ I h) fun v s1 ⟨x, H1, I1, r1, q1⟩ => ?_
  obtain ⟨a, e, q⟩ := q1
  subst e
  cases r1
  rcases q with ⟨⟨xs, hq⟩, q⟩ | ⟨⟨xs, hq⟩, q⟩
  · obtain ⟨its, rv, p, hz⟩ := I1.list hq
    refine wpAny_pyIter_list p.isList ?_
    refine ⟨s1.heap.objs.size, [s1.heap.objs.size], _, _, H1, rfl, I1.kept (t' := s1.toks) fun b o e => Heap.get?_push_of_some _ e, turn_list a _, ⟨_, Heap.get?_push_size _ rfl, rfl, rfl⟩, fun b hb => ?_, q⟩
    have e : b = s1.heap.objs.size := by simpa using hb
    subst e
    exact I1.fpOk (Nat.le_refl _) (I1.hok.fresh (Nat.le_refl _))
  · obtain ⟨its, rv, p, hz⟩ := I1.tuple hq
    refine wpAny_pyIter_tuple (show s1.heap.IsTuple a its.toArray from p) ?_
    refine ⟨s1.heap.objs.size, [s1.heap.objs.size], _, _, H1, rfl, I1.kept (t' := s1.toks) fun b o e => Heap.get?_push_of_some _ e, turn_tuple a _, ⟨_, Heap.get?_push_size _ rfl, rfl, rfl⟩, fun b hb => ?_, q⟩
    have e : b = s1.heap.objs.size := by simpa using hb
    subst e
    exact I1.fpOk (Nat.le_refl _) (I1.hok.fresh (Nat.le_refl _))
end MpW

set_option Elab.async false
set_option linter.all false
set_option maxRecDepth 100000
set_option maxHeartbeats 1000000
/-! Mp: a small Python of plain values over the hand layer. Part 1: data in the heap, what is owned. -/
namespace Mp
open PySem PySem.Spec PyProof.Rows L2
abbrev St := L2.St

/-! ### data in the heap -/
mutual
inductive Rep (K : PySem.W.Frag) (H : Hp) : V → PyData → Prop
  | non : Rep K H .non .none
  | bl (b : Bool) : Rep K H (.bl b) (.bool b)
  | int (i : Int) : Rep K H (.int i) (.int i)
  | str (x : Str) : Rep K H (.str x) (.str x)
  | lst {a : Addr} {xs : List V} {ds : List PyData} : H a = some (.lst xs) → Reps K H xs ds → Rep K H (.ref a) (.list ds)
  | tup {a : Addr} {xs : List V} {ds : List PyData} : SqT K H a xs → Reps K H xs ds → Rep K H (.ref a) (.tuple ds)
inductive Reps (K : PySem.W.Frag) (H : Hp) : List V → List PyData → Prop
  | nil : Reps K H [] []
  | cons {v : V} {vs : List V} {d : PyData} {ds : List PyData} : Rep K H v d → Reps K H vs ds → Reps K H (v :: vs) (d :: ds)
end
section
variable {K : PySem.W.Frag} {H H' : Hp}
mutual
theorem Rep.dp : ∀ {v : V} {d : PyData}, Rep K H v d → Dp K H v d
  | _, _, .non => .non
  | _, _, .bl b => .bl b
  | _, _, .int i => .int i
  | _, _, .str x => .str x
  | _, _, .lst h r => .lst (SqL.of h) (Reps.dp r)
  | _, _, .tup h r => .tup h (Reps.dp r)
theorem Reps.dp : ∀ {vs : List V} {ds : List PyData}, Reps K H vs ds → DpAll K H vs ds
  | _, _, .nil => .nil
  | _, _, .cons h r => .cons (Rep.dp h) (Reps.dp r)
end
def Sub (H H' : Hp) : Prop := ∀ a o, H a = some o → H' a = some o
theorem Sub.refl (H : Hp) : Sub H H := fun _ _ h => h
theorem Sub.trans {A B C : Hp} (x : Sub A B) (y : Sub B C) : Sub A C := fun a o h => y a o (x a o h)
theorem Sub.sqT {a : Addr} {xs : List V} (e : Sub H H') (h : SqT K H a xs) : SqT K H' a xs := by
  rcases h with (h | ⟨o, h⟩) | h
  · exact .inl (.inl (e _ _ h))
  · exact .inl (.inr ⟨o, e _ _ h⟩)
  · exact .inr h
theorem Sub.sqL {a : Addr} {xs : List V} (e : Sub H H') (h : SqL K H a xs) : SqL K H' a xs := by
  rcases h with (h | ⟨o, h⟩) | h
  · exact .inl (.inl (e _ _ h))
  · exact .inl (.inr ⟨o, e _ _ h⟩)
  · exact .inr h
theorem Sub.free {a : Addr} (e : Sub H H') (h : H' a = none) : H a = none := by
  cases q : H a with
  | none => rfl
  | some o => rw [e a o q] at h; cases h
theorem Sub.upd {H : Hp} {p : Addr} {o : HO} (h : H p = none) : Sub H (upd H p o) := fun a u e => by
  rw [upd_ne (ne_of_none e h)]
  exact e
mutual
theorem Rep.mono (e : Sub H H') : ∀ {v : V} {d : PyData}, Rep K H v d → Rep K H' v d
  | _, _, .non => .non
  | _, _, .bl b => .bl b
  | _, _, .int i => .int i
  | _, _, .str x => .str x
  | _, _, .lst h r => .lst (e _ _ h) (Reps.mono e r)
  | _, _, .tup h r => .tup (e.sqT h) (Reps.mono e r)
theorem Reps.mono (e : Sub H H') : ∀ {vs : List V} {ds : List PyData}, Reps K H vs ds → Reps K H' vs ds
  | _, _, .nil => .nil
  | _, _, .cons h r => .cons (Rep.mono e h) (Reps.mono e r)
end
theorem Reps.length : ∀ {vs : List V} {ds : List PyData}, Reps K H vs ds → vs.length = ds.length
  | _, _, .nil => rfl
  | _, _, .cons _ r => by rw [List.length_cons, List.length_cons, Reps.length r]
theorem Reps.at : ∀ {vs : List V} {ds : List PyData} {i : Nat} {v : V} {d : PyData}, Reps K H vs ds → vs[i]? = some v → ds[i]? = some d → Rep K H v d
  | _, _, i, _, _, .nil, h, _ => by simp at h
  | _, _, 0, _, _, .cons r _, h, g => by simp at h g; subst h; subst g; exact r
  | _, _, i + 1, v, d, .cons _ r, h, g => Reps.at (i := i) r (by simpa using h) (by simpa using g)
theorem Reps.get {vs : List V} {ds : List PyData} {i : Nat} {d : PyData} (r : Reps K H vs ds) (h : ds[i]? = some d) : ∃ v, vs[i]? = some v ∧ Rep K H v d := by
  have hl := r.length
  have hi : i < vs.length := by rw [hl]; exact (List.getElem?_eq_some_iff.mp h).1
  exact ⟨vs[i], List.getElem?_eq_getElem hi, r.at (List.getElem?_eq_getElem hi) h⟩
theorem Reps.of : ∀ {vs : List V} {ds : List PyData}, vs.length = ds.length → (∀ (i : Nat) v d, vs[i]? = some v → ds[i]? = some d → Rep K H v d) → Reps K H vs ds
  | [], [], _, _ => .nil
  | v :: vs, d :: ds, hl, h => .cons (h 0 v d rfl rfl) (Reps.of (by simpa using hl) fun i v d a b => h (i + 1) v d (by simpa using a) (by simpa using b))
  | [], _ :: _, hl, _ => by simp at hl
  | _ :: _, [], hl, _ => by simp at hl
theorem Reps.append {vs ws : List V} {ds es : List PyData} (r : Reps K H vs ds) (q : Reps K H ws es) : Reps K H (vs ++ ws) (ds ++ es) := by
  have l1 := r.length
  refine Reps.of (by rw [List.length_append, List.length_append, l1, q.length]) fun i v d a b => ?_
  by_cases hi : i < vs.length
  · rw [List.getElem?_append_left hi] at a
    rw [List.getElem?_append_left (by omega)] at b
    exact r.at a b
  · rw [List.getElem?_append_right (by omega)] at a
    rw [List.getElem?_append_right (by omega), ← l1] at b
    exact q.at a b
theorem Reps.one {v : V} {d : PyData} (h : Rep K H v d) : Reps K H [v] [d] := .cons h .nil
theorem Reps.take {vs : List V} {ds : List PyData} (n : Nat) (r : Reps K H vs ds) : Reps K H (vs.take n) (ds.take n) := by
  refine Reps.of (by simp [r.length]) fun i v d a b => ?_
  rw [List.getElem?_take] at a b
  split at a
  · rename_i h; rw [if_pos h] at b; exact r.at a b
  · cases a
theorem Reps.drop {vs : List V} {ds : List PyData} (n : Nat) (r : Reps K H vs ds) : Reps K H (vs.drop n) (ds.drop n) := by
  refine Reps.of (by simp [r.length]) fun i v d a b => ?_
  rw [List.getElem?_drop] at a b
  exact r.at a b
theorem Reps.reverse {vs : List V} {ds : List PyData} (r : Reps K H vs ds) : Reps K H vs.reverse ds.reverse := by
  have l1 := r.length
  refine Reps.of (by simp [l1]) fun i v d a b => ?_
  have hi : i < vs.length := by simpa using (List.getElem?_eq_some_iff.mp a).1
  rw [List.getElem?_reverse hi] at a
  rw [List.getElem?_reverse (by omega), ← l1] at b
  exact r.at a b
theorem Reps.dropLast {vs : List V} {ds : List PyData} (r : Reps K H vs ds) : Reps K H vs.dropLast ds.dropLast := by
  rw [List.dropLast_eq_take, List.dropLast_eq_take, r.length]
  exact r.take _
theorem Reps.set {vs : List V} {ds : List PyData} {v : V} {d : PyData} (n : Nat) (r : Reps K H vs ds) (h : Rep K H v d) : Reps K H (vs.set n v) (ds.set n d) := by
  have l1 := r.length
  refine Reps.of (by simp [l1]) fun i x y a b => ?_
  by_cases hi : n = i
  · subst hi
    have hn : n < vs.length := by simpa using (List.getElem?_eq_some_iff.mp a).1
    rw [List.getElem?_set_self hn] at a
    rw [List.getElem?_set_self (by omega)] at b
    cases a; cases b; exact h
  · rw [List.getElem?_set_ne hi] at a b
    exact r.at a b
theorem Reps.replicate {vs : List V} {ds : List PyData} (r : Reps K H vs ds) : ∀ k : Nat, Reps K H (List.replicate k vs).flatten (List.replicate k ds).flatten
  | 0 => .nil
  | k + 1 => by
    rw [List.replicate_succ, List.replicate_succ, List.flatten_cons, List.flatten_cons]
    exact r.append (Reps.replicate r k)
theorem Reps.nil_iff {vs : List V} {ds : List PyData} (r : Reps K H vs ds) : vs = [] ↔ ds = [] := by
  cases r with
  | nil => simp
  | cons => simp
theorem Rep.int_inv {v : V} {i : Int} (h : Rep K H v (.int i)) : v = .int i := by cases h; rfl
theorem Rep.bl_inv {v : V} {i : Bool} (h : Rep K H v (.bool i)) : v = .bl i := by cases h; rfl
theorem Rep.str_inv {v : V} {i : Str} (h : Rep K H v (.str i)) : v = .str i := by cases h; rfl
theorem Rep.non_inv {v : V} (h : Rep K H v .none) : v = .non := by cases h; rfl
theorem Rep.lst_inv {v : V} {ds : List PyData} (h : Rep K H v (.list ds)) : ∃ a xs, v = .ref a ∧ H a = some (.lst xs) ∧ Reps K H xs ds := by
  cases h with
  | lst h r => exact ⟨_, _, rfl, h, r⟩
theorem Rep.tup_inv {v : V} {ds : List PyData} (h : Rep K H v (.tuple ds)) : ∃ a xs, v = .ref a ∧ SqT K H a xs ∧ Reps K H xs ds := by
  cases h with
  | tup h r => exact ⟨_, _, rfl, h, r⟩
theorem Rep.dict_inv {v : V} {ds : List (PyData × PyData)} (h : Rep K H v (.dict ds)) : False := by cases h
theorem Reps.ints : ∀ (ns : List Int), Reps K H (ns.map V.int) (ns.map PyData.int)
  | [] => .nil
  | n :: r => .cons (.int n) (Reps.ints r)
theorem Reps.ints_inv : ∀ {vs : List V} {ns : List Int}, Reps K H vs (ns.map PyData.int) → vs = ns.map V.int
  | _, [], .nil => rfl
  | _, n :: ns, .cons h r => by rw [h.int_inv, Reps.ints_inv r]; rfl
theorem Reps.bls_inv : ∀ {vs : List V} {ns : List Bool}, Reps K H vs (ns.map PyData.bool) → vs = ns.map V.bl
  | _, [], .nil => rfl
  | _, n :: ns, .cons h r => by rw [h.bl_inv, Reps.bls_inv r]; rfl
theorem Reps.strs_inv : ∀ {vs : List V} {ns : List Str}, Reps K H vs (ns.map PyData.str) → vs = ns.map V.str
  | _, [], .nil => rfl
  | _, n :: ns, .cons h r => by rw [h.str_inv, Reps.strs_inv r]; rfl
end

/-! ### hidden addresses -/
def hid (O : List Addr) (H : Hp) : Hp := fun a => if a ∈ O then none else H a
theorem hid_in {O : List Addr} {H : Hp} {a : Addr} (h : a ∈ O) : hid O H a = none := if_pos h
theorem hid_out {O : List Addr} {H : Hp} {a : Addr} (h : a ∉ O) : hid O H a = H a := if_neg h
theorem hid_some {O : List Addr} {H : Hp} {a : Addr} {o : HO} (h : hid O H a = some o) : a ∉ O ∧ H a = some o := by
  unfold hid at h
  split at h
  · cases h
  · exact ⟨‹_›, h⟩
theorem hid_sub (O : List Addr) (H : Hp) : Sub (hid O H) H := fun a o h => (hid_some h).2
theorem hid_mono {O O' : List Addr} {H H' : Hp} (hO : ∀ a, a ∈ O' → a ∈ O ∨ H a = none) (hH : ∀ a o, a ∉ O → H a = some o → H' a = some o) : Sub (hid O H) (hid O' H') := fun a o h => by
  obtain ⟨n, e⟩ := hid_some h
  rw [hid_out fun z => ?_]
  · exact hH a o n e
  · rcases hO a z with q | q
    · exact n q
    · rw [e] at q; cases q
theorem hid_upd {O : List Addr} {H : Hp} {a : Addr} {o : HO} (h : a ∈ O) : hid O (upd H a o) = hid O H := by
  funext b
  unfold hid
  split
  · rfl
  · rw [upd_ne]
    intro e
    subst e
    exact absurd h ‹_›
theorem hid_new {O : List Addr} {H : Hp} {p : Addr} {o : HO} (h : H p = none) : hid (p :: O) (upd H p o) = hid O H := by
  funext b
  unfold hid
  by_cases hb : b = p
  · subst hb
    simp [h]
  · simp [hb, upd_ne hb]

/-! ### slots and results -/
/-- a field -/
inductive Fd where
  /-- not there -/
  | no
  | v (d : PyData)
  /-- a list that only the object knows -/
  | o (ds : List PyData)
inductive Sl where
  /-- not assigned, or forgotten -/
  | no
  /-- a value -/
  | v (d : PyData)
  /-- a list that nothing else knows -/
  | o (ds : List PyData)
  /-- a list that the caller handed in to be changed (slot 0) -/
  | io (ds : List PyData)
  /-- the script -/
  | sc (ns : List Int)
  /-- an object that nothing else knows: its class, its fields -/
  | ob (c : Nat) (fs : List Fd)
  /-- an object that the caller handed in to be changed (slot 0) -/
  | ib (c : Nat) (fs : List Fd)
inductive R where
  | v (d : PyData)
  | o (ds : List PyData)
  /-- a new object -/
  | ob (c : Nat) (fs : List Fd)
  /-- what the caller handed in -/
  | me
  /-- what the slot i holds -/
  | b (i : Nat)
abbrev Env := List Sl
/-- the classes: where they lie, their fields; the tables of code objects to which a call may add -/
structure Cls where
  c : Nat → Option (Addr × List Str)
  T : List (Addr × Str)
instance : CoeFun Cls (fun _ => Nat → Option (Addr × List Str)) := ⟨Cls.c⟩
/-- the tables stand, and are hidden -/
def Tb (T : List (Addr × Str)) (H : Hp) (O : List Addr) : Prop := LamX.Tabs T H ∧ ∀ p ∈ T, p.1 ∈ O
/-- the frame's ground: the heap at the entry, what is hidden there, the list handed in -/
structure Cf where
  K : PySem.W.Frag
  H0 : Hp
  O0 : List Addr
  io : Option Addr
  cls : Cls
/-- the object at a has an own list at l: in the field of this name -/
def past : Str := "past"
def fld (H : Hp) (a l : Addr) : Prop := ∃ (C dx : Addr) (gs : List (Str × V)), H a = some (.ins C dx gs) ∧ gs.lookup past = some (.ref l)
theorem fld_cong {H H' : Hp} {a l : Addr} (h : H' a = H a) : fld H' a l ↔ fld H a l := by unfold fld; rw [h]
theorem not_fld_none {H : Hp} {a l : Addr} (h : H a = none) : ¬ fld H a l := fun ⟨_, _, _, e, _⟩ => by rw [h] at e; cases e
theorem not_fld_lst {H : Hp} {a l : Addr} {vs : List V} (h : H a = some (.lst vs)) : ¬ fld H a l := fun ⟨_, _, _, e, _⟩ => by rw [h] at e; cases e
def FdOk (K : PySem.W.Frag) (H : Hp) (O : List Addr) (N : Addr → Prop) (gs : List (Str × V)) (f : Str) : Fd → Prop
  | .no => gs.lookup f = none
  | .v d => ∃ u, gs.lookup f = some u ∧ f ≠ past ∧ Rep K (hid O H) u d
  | .o xs => ∃ l ws, f = past ∧ gs.lookup f = some (.ref l) ∧ H l = some (.lst ws) ∧ l ∈ O ∧ N l ∧ Reps K (hid O H) ws xs
def FdsOk (K : PySem.W.Frag) (H : Hp) (O : List Addr) (N : Addr → Prop) (gs : List (Str × V)) : List Str → List Fd → Prop
  | [], [] => True
  | f :: ns, d :: ds => FdOk K H O N gs f d ∧ FdsOk K H O N gs ns ds
  | _, _ => False
def ObOk (K : PySem.W.Frag) (cls : Cls) (H : Hp) (O : List Addr) (N : Addr → Prop) (a : Addr) (c : Nat) (fs : List Fd) : Prop :=
  ∃ (C dx : Addr) (names : List Str) (gs : List (Str × V)), cls c = some (C, names) ∧ H a = some (.ins C dx gs) ∧ hid O H dx = some (.own a) ∧ a ∈ O ∧ ((gs.map (·.1)).Nodup ∧ ∀ f u, gs.lookup f = some u → f ∈ names) ∧ FdsOk K H O N gs names fs
/-- what of the caller's may have changed -/
def partOf (T : List (Addr × Str)) (io : Option Addr) (H : Hp) (O : List Addr) (b : Addr) : Prop := io = some b ∨ (∃ a, io = some a ∧ b ∈ O ∧ fld H a b) ∨ ∃ p ∈ T, p.1 = b
def Cf.part (F : Cf) (b : Addr) : Prop := partOf F.cls.T F.io F.H0 F.O0 b
def noTbl (H : Hp) (b : Addr) : Prop := ∀ ps, H b ≠ some (.tbl ps)
theorem noTbl_lst {H : Hp} {a : Addr} {vs : List V} (h : H a = some (.lst vs)) : noTbl H a := fun ps z => by rw [h] at z; cases z
theorem noTbl_ins {H : Hp} {a C dx : Addr} {gs : List (Str × V)} (h : H a = some (.ins C dx gs)) : noTbl H a := fun ps z => by rw [h] at z; cases z
theorem Tb.not {T : List (Addr × Str)} {H : Hp} {O : List Addr} {b : Addr} (t : Tb T H O) (n : noTbl H b) : ¬ ∃ p ∈ T, p.1 = b := fun ⟨p, hp, e⟩ => by
  obtain ⟨ps, h, _⟩ := t.1 p hp
  exact n ps (by rw [← e]; exact h)
theorem Tb.sub {T : List (Addr × Str)} {H H' : Hp} {O O' : List Addr} (t : Tb T H O) (k : Sub H H') (o : ∀ a ∈ O, a ∈ O') : Tb T H' O' := ⟨t.1.ext k, fun p hp => o _ (t.2 p hp)⟩
/-- what is no table and no code object is changed -/
theorem Tb.upd {T : List (Addr × Str)} {H : Hp} {O O' : List Addr} {a : Addr} {u o : HO} (t : Tb T H O) (h : H a = some u) (n1 : ∀ ps, u ≠ .tbl ps) (n2 : ∀ q, u ≠ LamX.CodeO a q) (k : ∀ a ∈ O, a ∈ O') : Tb T (L2.upd H a o) O' := by
  refine ⟨fun p hp => ?_, fun p hp => k _ (t.2 p hp)⟩
  obtain ⟨ps, e1, e2, e3⟩ := t.1 p hp
  refine ⟨ps, ?_, e2, fun pos cv hc => ?_⟩
  · rw [upd_ne]
    · exact e1
    · intro z
      rw [z, h] at e1
      exact n1 ps (Option.some.inj e1)
  · obtain ⟨c, f1, f2⟩ := e3 pos cv hc
    refine ⟨c, f1, ?_⟩
    rw [upd_ne]
    · exact f2
    · intro z
      rw [z, h] at f2
      exact n2 _ (Option.some.inj f2)
theorem Tb.lst {T : List (Addr × Str)} {H : Hp} {O O' : List Addr} {a : Addr} {vs : List V} {o : HO} (t : Tb T H O) (h : H a = some (.lst vs)) (k : ∀ a ∈ O, a ∈ O') : Tb T (L2.upd H a o) O' :=
  t.upd h (fun ps z => by cases z) (fun q z => by unfold LamX.CodeO at z; cases z) k
theorem Tb.ins {T : List (Addr × Str)} {H : Hp} {O O' : List Addr} {a C dx : Addr} {gs : List (Str × V)} {o : HO} (t : Tb T H O) (h : H a = some (.ins C dx gs)) (k : ∀ a ∈ O, a ∈ O') : Tb T (L2.upd H a o) O' :=
  t.upd h (fun ps z => by cases z) (fun q z => by unfold LamX.CodeO at z; cases z) k
theorem Tb.rm {T : List (Addr × Str)} {H : Hp} {O : List Addr} {a : Addr} (t : Tb T H O) (h : noTbl H a) : ∀ p ∈ T, p.1 ∈ O ∧ p.1 ≠ a := fun p hp => ⟨t.2 p hp, fun z => t.not h ⟨p, hp, z⟩⟩
def Cf.old (F : Cf) (a l : Addr) : Prop := F.H0 l = none ∨ fld F.H0 a l
def SlOk (F : Cf) (H : Hp) (O : List Addr) (s : Sl) (x : Option V) : Prop := match s with
  | .no => True
  | .v d => ∃ v, x = some v ∧ Rep F.K (hid O H) v d
  | .o ds => ∃ a vs, x = some (.ref a) ∧ H a = some (.lst vs) ∧ a ∈ O ∧ F.H0 a = none ∧ Reps F.K (hid O H) vs ds
  | .io ds => ∃ a vs, x = some (.ref a) ∧ F.io = some a ∧ H a = some (.lst vs) ∧ a ∈ O ∧ Reps F.K (hid O H) vs ds
  | .sc ns => ∃ a, x = some (.ref a) ∧ SqL F.K (hid O H) a (ns.map V.int)
  | .ob c fs => ∃ a, x = some (.ref a) ∧ F.H0 a = none ∧ ObOk F.K F.cls H O (fun l => F.H0 l = none) a c fs
  | .ib c fs => ∃ a, x = some (.ref a) ∧ F.io = some a ∧ ObOk F.K F.cls H O (F.old a) a c fs
def TOk (F : Cf) (σ : St) (H : Hp) (O : List Addr) (t : V × R) : Prop := match t.2 with
  | .v d => Rep F.K (hid O H) t.1 d
  | .o ds => ∃ a vs, t.1 = .ref a ∧ H a = some (.lst vs) ∧ a ∈ O ∧ F.H0 a = none ∧ Reps F.K (hid O H) vs ds
  | .ob c fs => ∃ a, t.1 = .ref a ∧ F.H0 a = none ∧ ObOk F.K F.cls H O (fun l => F.H0 l = none) a c fs
  | .me => ∃ a, F.io = some a ∧ t.1 = .ref a
  | .b i => σ[i]? = some (some t.1)
def isO : Sl → Bool
  | .o _ => true
  | .ob _ _ => true
  | _ => false
def isRO : R → Bool
  | .o _ => true
  | .ob _ _ => true
  | _ => false
/-- a list -/
def isL : Sl → Bool
  | .o _ => true
  | .io _ => true
  | _ => false
def isRL : R → Bool
  | .o _ => true
  | _ => false
/-- no list is known twice -/
structure Sep (H0 : Hp) (O0 : List Addr) (env : Env) (σ : St) (T : List (V × R)) (H : Hp) (O : List Addr) : Prop where
  nf : ∀ a ∈ O, ∀ l, fld H a l → (a ∈ O0 ∧ fld H0 a l) ∨ H0 l = none
  wf : ∀ a ∈ O, ∀ l, fld H a l → ∃ ws, H l = some (.lst ws)
  one : ∀ a ∈ O, ∀ b ∈ O, ∀ l ∈ O, fld H a l → fld H b l → a = b
  sl : ∀ (i : Nat) s, env[i]? = some s → isL s = true → ∀ a ∈ O, ∀ l, fld H a l → (σ[i]?).getD none ≠ some (.ref l)
  tm : ∀ t ∈ T, isRL t.2 = true → ∀ a ∈ O, ∀ l, fld H a l → t.1 ≠ .ref l
/-- where a list comes from -/
def From (env : Env) (σ : St) (T : List (V × R)) (H : Hp) (x : Option V) : Prop :=
  (∃ (j : Nat) (u : Sl), env[j]? = some u ∧ isL u = true ∧ (σ[j]?).getD none = x) ∨ (∃ t ∈ T, isRL t.2 = true ∧ some t.1 = x) ∨ ∃ p, x = some (.ref p) ∧ H p = none
theorem Sep.not {H0 : Hp} {O0 : List Addr} {env : Env} {σ : St} {T : List (V × R)} {H : Hp} {O : List Addr} (s : Sep H0 O0 env σ T H O) {x : Option V} (f : From env σ T H x) {a l : Addr} (ha : a ∈ O) (h : fld H a l) : x ≠ some (.ref l) := by
  intro z
  rcases f with ⟨j, u, h1, h2, h3⟩ | ⟨t, h1, h2, h3⟩ | ⟨p, h1, h2⟩
  · exact s.sl j u h1 h2 a ha l h (h3.trans z)
  · exact s.tm t h1 h2 a ha l h (Option.some.inj (h3.trans z))
  · rw [h1] at z
    cases z
    obtain ⟨ws, w⟩ := s.wf a ha _ h
    rw [h2] at w
    cases w
theorem Sep.step {H0 : Hp} {O0 : List Addr} {env env' : Env} {σ σ' : St} {T T' : List (V × R)} {H H' : Hp} {O O' : List Addr} (s : Sep H0 O0 env σ T H O) (h1 : ∀ a ∈ O', (a ∈ O ∧ H' a = H a) ∨ ∀ l, ¬ fld H' a l) (h2 : ∀ b ws, H b = some (.lst ws) → ∃ ws', H' b = some (.lst ws')) (h3 : ∀ l ∈ O', l ∈ O ∨ H l = none)
    (h4 : ∀ (i : Nat) u, env'[i]? = some u → isL u = true → From env σ T H ((σ'[i]?).getD none)) (h5 : ∀ t ∈ T', isRL t.2 = true → From env σ T H (some t.1)) : Sep H0 O0 env' σ' T' H' O' := by
  have old : ∀ a ∈ O', ∀ l, fld H' a l → a ∈ O ∧ fld H a l := fun a ha l h => by
    rcases h1 a ha with ⟨x, y⟩ | x
    · exact ⟨x, (fld_cong y).mp h⟩
    · exact absurd h (x l)
  refine ⟨fun a ha l h => ?_, fun a ha l h => ?_, fun a ha b hb l hl h h' => ?_, fun i u e1 e2 a ha l h => ?_, fun t e1 e2 a ha l h => ?_⟩
  · obtain ⟨x, y⟩ := old a ha l h
    exact s.nf a x l y
  · obtain ⟨x, y⟩ := old a ha l h
    obtain ⟨ws, w⟩ := s.wf a x l y
    exact h2 l ws w
  · obtain ⟨x, y⟩ := old a ha l h
    obtain ⟨x', y'⟩ := old b hb l h'
    rcases h3 l hl with z | z
    · exact s.one a x b x' l z y y'
    · obtain ⟨ws, w⟩ := s.wf a x l y
      rw [z] at w
      cases w
  · obtain ⟨x, y⟩ := old a ha l h
    exact s.not (h4 i u e1 e2) x y
  · obtain ⟨x, y⟩ := old a ha l h
    exact fun z => s.not (h5 t e1 e2) x y (congrArg some z)
theorem From.sl {env : Env} {σ : St} {T : List (V × R)} {H : Hp} {i : Nat} {u : Sl} (h : env[i]? = some u) (k : isL u = true) : From env σ T H ((σ[i]?).getD none) := .inl ⟨i, u, h, k, rfl⟩
theorem From.tm {env : Env} {σ : St} {T : List (V × R)} {H : Hp} {t : V × R} (h : t ∈ T) (k : isRL t.2 = true) : From env σ T H (some t.1) := .inr (.inl ⟨t, h, k, rfl⟩)
theorem From.new {env : Env} {σ : St} {T : List (V × R)} {H : Hp} {p : Addr} (h : H p = none) : From env σ T H (some (.ref p)) := .inr (.inr ⟨p, rfl, h⟩)
/-- the same heap, the same hidden addresses or fewer -/
theorem Sep.same {H0 : Hp} {O0 : List Addr} {env env' : Env} {σ σ' : St} {T T' : List (V × R)} {H : Hp} {O O' : List Addr} (s : Sep H0 O0 env σ T H O) (h : ∀ a ∈ O', a ∈ O)
    (h4 : ∀ (i : Nat) u, env'[i]? = some u → isL u = true → From env σ T H ((σ'[i]?).getD none)) (h5 : ∀ t ∈ T', isRL t.2 = true → From env σ T H (some t.1)) : Sep H0 O0 env' σ' T' H O' :=
  s.step (fun a ha => .inl ⟨h a ha, rfl⟩) (fun _ ws h => ⟨ws, h⟩) (fun l hl => .inl (h l hl)) h4 h5
/-- what the caller handed in to be changed -/
def isB : Sl → Bool
  | .io _ => true
  | .ib _ _ => true
  | _ => false
/-- what a slot's value leads to -/
def Foot (H : Hp) (O : List Addr) (x : Option V) (a : Addr) : Prop := x = some (.ref a) ∨ ∃ b ∈ O, x = some (.ref b) ∧ fld H b a
structure Good (F : Cf) (env : Env) (σ : St) (T : List (V × R)) (H : Hp) (O : List Addr) : Prop where
  len : env.length = σ.length
  oin : ∀ a ∈ O, H a ≠ none
  o0 : ∀ a ∈ F.O0, a ∈ O
  h0 : ∀ a ∈ F.O0, F.H0 a ≠ none
  ion : ∀ a, F.io = some a → a ∈ F.O0
  keep : ∀ b u, F.H0 b = some u → ¬ F.part b → H b = some u
  keep0 : ∀ b, F.H0 b ≠ none → H b ≠ none
  new : ∀ a ∈ O, a ∈ F.O0 ∨ F.H0 a = none
  sl : ∀ (i : Nat) s, env[i]? = some s → SlOk F H O s ((σ[i]?).getD none)
  tm : ∀ t ∈ T, TOk F σ H O t
  dss : ∀ (i j : Nat) s u, i ≠ j → env[i]? = some s → isO s = true → env[j]? = some u → isO u = true → (σ[i]?).getD none ≠ (σ[j]?).getD none
  dst : ∀ (i : Nat) s, env[i]? = some s → isO s = true → ∀ t ∈ T, isRO t.2 = true → (σ[i]?).getD none ≠ some t.1
  dtt : T.Pairwise fun t u => isRO t.2 = true → isRO u.2 = true → t.1 ≠ u.1
  one : ∀ (i : Nat) s, env[i]? = some s → isB s = true → i = 0
  sep : Sep F.H0 F.O0 env σ T H O
  tb : Tb F.cls.T H O
theorem FdsOk.mono {K : PySem.W.Frag} {H H' : Hp} {O O' : List Addr} {N : Addr → Prop} {gs : List (Str × V)} (e : Sub (hid O H) (hid O' H')) (k : ∀ l, l ∈ O → gs.lookup past = some (.ref l) → H' l = H l ∧ l ∈ O') :
    ∀ {ns : List Str} {fs : List Fd}, FdsOk K H O N gs ns fs → FdsOk K H' O' N gs ns fs
  | [], [], _ => True.intro
  | [], _ :: _, h => h.elim
  | _ :: _, [], h => h.elim
  | f :: ns, .no :: ds, h => ⟨h.1, FdsOk.mono e k h.2⟩
  | f :: ns, .v d :: ds, h => by
    obtain ⟨⟨u, h1, h2, h4⟩, h3⟩ := h
    exact ⟨⟨u, h1, h2, Rep.mono e h4⟩, FdsOk.mono e k h3⟩
  | f :: ns, .o xs :: ds, h => by
    obtain ⟨⟨l, ws, rfl, h1, q1, q2, q3, q4⟩, h3⟩ := h
    obtain ⟨z1, z2⟩ := k l q2 h1
    exact ⟨⟨l, ws, rfl, h1, by rw [z1]; exact q1, z2, q3, q4.mono e⟩, FdsOk.mono e k h3⟩
/-- the own list of an object that is known -/
theorem FdsOk.own {K : PySem.W.Frag} {H : Hp} {O : List Addr} {N : Addr → Prop} {gs : List (Str × V)} {l : Addr} (h : gs.lookup past = some (.ref l)) :
    ∀ {ns : List Str} {fs : List Fd}, FdsOk K H O N gs ns fs → past ∈ ns → (∃ ws, H l = some (.lst ws)) ∧ l ∈ O ∧ N l
  | [], [], _, m => absurd m List.not_mem_nil
  | [], _ :: _, k, _ => k.elim
  | _ :: _, [], k, _ => k.elim
  | g :: ns, .no :: ds, k, m => by
    rcases List.mem_cons.mp m with rfl | m
    · have k1 : gs.lookup past = none := k.1
      rw [h] at k1; cases k1
    · exact FdsOk.own h k.2 m
  | g :: ns, .v d :: ds, k, m => by
    obtain ⟨⟨u, h1, h2, h4⟩, h3⟩ := k
    rcases List.mem_cons.mp m with e | m
    · exact absurd e.symm h2
    · exact FdsOk.own h h3 m
  | g :: ns, .o xs :: ds, k, m => by
    obtain ⟨⟨l', ws, rfl, h1, q1, q2, q3, q4⟩, h3⟩ := k
    rw [h] at h1
    cases h1
    exact ⟨⟨ws, q1⟩, q2, q3⟩
theorem ObOk.own {K : PySem.W.Frag} {cls : Cls} {H : Hp} {O : List Addr} {N : Addr → Prop} {a l : Addr} {c : Nat} {fs : List Fd} (h : ObOk K cls H O N a c fs) (hf : fld H a l) : (∃ ws, H l = some (.lst ws)) ∧ l ∈ O ∧ N l := by
  obtain ⟨C, dx, names, gs, h1, h2, h3, h4, h5, h6⟩ := h
  obtain ⟨C', dx', gs', e1, e2⟩ := hf
  rw [h2] at e1
  cases e1
  exact h6.own e2 (h5.2 _ _ e2)
theorem ObOk.mono {K : PySem.W.Frag} {cls : Cls} {H H' : Hp} {O O' : List Addr} {N : Addr → Prop} {a : Addr} {c : Nat} {fs : List Fd} (h : ObOk K cls H O N a c fs) (e : Sub (hid O H) (hid O' H')) (k : ∀ b, b ∈ O → (b = a ∨ fld H a b) → noTbl H b → H' b = H b ∧ b ∈ O') : ObOk K cls H' O' N a c fs := by
  have own := fun l hl => h.own (l := l) hl
  obtain ⟨C, dx, names, gs, h1, h2, h3, h4, h5, h6⟩ := h
  obtain ⟨z1, z2⟩ := k a h4 (.inl rfl) (noTbl_ins h2)
  refine ⟨C, dx, names, gs, h1, by rw [z1]; exact h2, e _ _ h3, z2, h5, h6.mono e fun l hl hf => ?_⟩
  have hl2 : fld H a l := ⟨C, dx, gs, h2, hf⟩
  obtain ⟨⟨ws, w⟩, _⟩ := own l hl2
  exact k l hl (.inr hl2) (noTbl_lst w)
theorem FdsOk.impN {K : PySem.W.Frag} {H : Hp} {O : List Addr} {N N' : Addr → Prop} {gs : List (Str × V)} (i : ∀ l, gs.lookup past = some (.ref l) → l ∈ O → N l → N' l) :
    ∀ {ns : List Str} {fs : List Fd}, FdsOk K H O N gs ns fs → FdsOk K H O N' gs ns fs
  | [], [], _ => True.intro
  | [], _ :: _, h => h.elim
  | _ :: _, [], h => h.elim
  | f :: ns, .no :: ds, h => ⟨h.1, FdsOk.impN i h.2⟩
  | f :: ns, .v d :: ds, h => ⟨h.1, FdsOk.impN i h.2⟩
  | f :: ns, .o xs :: ds, h => by
    obtain ⟨⟨l, ws, rfl, h1, q1, q2, q3, q4⟩, h3⟩ := h
    exact ⟨⟨l, ws, rfl, h1, q1, q2, i l h1 q2 q3, q4⟩, FdsOk.impN i h3⟩
theorem ObOk.impN {K : PySem.W.Frag} {cls : Cls} {H : Hp} {O : List Addr} {N N' : Addr → Prop} {a : Addr} {c : Nat} {fs : List Fd} (h : ObOk K cls H O N a c fs) (i : ∀ l, fld H a l → l ∈ O → N l → N' l) : ObOk K cls H O N' a c fs := by
  obtain ⟨C, dx, names, gs, h1, h2, h3, h4, h5, h6⟩ := h
  exact ⟨C, dx, names, gs, h1, h2, h3, h4, h5, h6.impN fun l e => i l ⟨C, dx, gs, h2, e⟩⟩
theorem ObOk.inO {K : PySem.W.Frag} {cls : Cls} {H : Hp} {O : List Addr} {N : Addr → Prop} {a : Addr} {c : Nat} {fs : List Fd} (h : ObOk K cls H O N a c fs) : a ∈ O := by
  obtain ⟨C, dx, names, gs, h1, h2, h3, h4, h5, h6⟩ := h
  exact h4
theorem ObOk.at {K : PySem.W.Frag} {cls : Cls} {H : Hp} {O : List Addr} {N : Addr → Prop} {a : Addr} {c : Nat} {fs : List Fd} (h : ObOk K cls H O N a c fs) : ∃ C dx gs, H a = some (.ins C dx gs) := by
  obtain ⟨C, dx, names, gs, h1, h2, h3, h4, h5, h6⟩ := h
  exact ⟨C, dx, gs, h2⟩
theorem SlOk.mono {F : Cf} {H H' : Hp} {O O' : List Addr} {s : Sl} {x : Option V} (h : SlOk F H O s x) (e : Sub (hid O H) (hid O' H'))
    (k : ∀ a, a ∈ O → Foot H O x a → (isO s = true ∨ ∃ b, F.io = some b ∧ x = some (.ref b)) → noTbl H a → H' a = H a ∧ a ∈ O') : SlOk F H' O' s x := by
  cases s with
  | no => trivial
  | v d => obtain ⟨v, h1, h2⟩ := h; exact ⟨v, h1, h2.mono e⟩
  | o ds =>
    obtain ⟨a, vs, h1, h2, h3, h4, h5⟩ := h
    obtain ⟨z1, z2⟩ := k a h3 (.inl h1) (.inl rfl) (noTbl_lst h2)
    exact ⟨a, vs, h1, by rw [z1]; exact h2, z2, h4, h5.mono e⟩
  | io ds =>
    obtain ⟨a, vs, h1, h2, h3, h4, h5⟩ := h
    obtain ⟨z1, z2⟩ := k a h4 (.inl h1) (.inr ⟨a, h2, h1⟩) (noTbl_lst h3)
    exact ⟨a, vs, h1, h2, by rw [z1]; exact h3, z2, h5.mono e⟩
  | sc ns => obtain ⟨a, h1, h2⟩ := h; exact ⟨a, h1, e.sqL h2⟩
  | ob c fs =>
    obtain ⟨a, h1, h2, h3⟩ := h
    refine ⟨a, h1, h2, h3.mono e fun b hb q nt => k b hb ?_ (.inl rfl) nt⟩
    rcases q with rfl | q
    · exact .inl h1
    · exact .inr ⟨a, h3.inO, h1, q⟩
  | ib c fs =>
    obtain ⟨a, h1, h2, h3⟩ := h
    refine ⟨a, h1, h2, h3.mono e fun b hb q nt => k b hb ?_ (.inr ⟨a, h2, h1⟩) nt⟩
    rcases q with rfl | q
    · exact .inl h1
    · exact .inr ⟨a, h3.inO, h1, q⟩
theorem TOk.mono {F : Cf} {σ : St} {H H' : Hp} {O O' : List Addr} {t : V × R} (h : TOk F σ H O t) (e : Sub (hid O H) (hid O' H'))
    (k : ∀ a, a ∈ O → Foot H O (some t.1) a → isRO t.2 = true → noTbl H a → H' a = H a ∧ a ∈ O') : TOk F σ H' O' t := by
  obtain ⟨v, r⟩ := t
  cases r with
  | v d => exact Rep.mono e h
  | o ds =>
    obtain ⟨a, vs, h1, h2, h3, h4, h5⟩ := h
    obtain ⟨z1, z2⟩ := k a h3 (.inl (congrArg some h1)) rfl (noTbl_lst h2)
    exact ⟨a, vs, h1, by rw [z1]; exact h2, z2, h4, h5.mono e⟩
  | ob c fs =>
    obtain ⟨a, h1, h2, h3⟩ := h
    refine ⟨a, h1, h2, h3.mono e fun b hb q nt => k b hb ?_ rfl nt⟩
    rcases q with rfl | q
    · exact .inl (congrArg some h1)
    · exact .inr ⟨a, h3.inO, congrArg some h1, q⟩
  | me => exact h
  | b i => exact h
theorem Sub.at {H H' : Hp} (k : Sub H H') {a : Addr} (h : H a ≠ none) : H' a = H a := by
  cases q : H a with
  | none => exact absurd q h
  | some o => exact k a o q
section
variable {F : Cf} {env : Env} {σ : St} {T : List (V × R)} {H H' : Hp} {O O' : List Addr}
theorem Good.foot_ne (g : Good F env σ T H O) {x y : Option V} {a b : Addr} (f : From env σ T H x) (hx : x = some (.ref a)) (n : y ≠ x) (h : Foot H O y b) : b ≠ a := by
  rintro rfl
  rcases h with h | ⟨c, hc, _, h⟩
  · exact n (h.trans hx.symm)
  · exact g.sep.not f hc h hx
theorem Good.io_ne (g : Good F env σ T H O) {a : Addr} (h0 : F.H0 a = none) : F.io ≠ some a := fun z => g.h0 a (g.ion a z) h0
/-- a slot's value is not that of a list which is known elsewhere -/
theorem Good.cond_ne (g : Good F env σ T H O) {x y : Option V} {s : Sl} {a : Addr} (h0 : F.H0 a = none) (hx : x = some (.ref a)) (n : isO s = true → y ≠ x) (c : isO s = true ∨ ∃ b, F.io = some b ∧ y = some (.ref b)) : y ≠ x := by
  rcases c with c | ⟨b, c1, c2⟩
  · exact n c
  · rw [c2, hx]
    intro z
    cases z
    exact g.io_ne h0 c1
/-- the heap grows, what is hidden stays -/
theorem Good.grow (g : Good F env σ T H O) (k : Sub H H') : Good F env σ T H' O := by
  have e : Sub (hid O H) (hid O H') := hid_mono (fun a h => .inl h) fun a o _ h => k a o h
  exact ⟨g.len, fun a ha z => g.oin a ha (k.free z), g.o0, g.h0, g.ion, fun b u h n => k b u (g.keep b u h n), fun b h z => g.keep0 b h (k.free z), g.new,
    fun i s h => (g.sl i s h).mono e fun a ha _ _ _ => ⟨k.at (g.oin a ha), ha⟩, fun t ht => (g.tm t ht).mono e fun a ha _ _ _ => ⟨k.at (g.oin a ha), ha⟩, g.dss, g.dst, g.dtt, g.one,
    g.sep.step (fun a ha => .inl ⟨ha, k.at (g.oin a ha)⟩) (fun b ws h => ⟨ws, k b _ h⟩) (fun l hl => .inl hl) (fun i u e1 e2 => .sl e1 e2) (fun t e1 e2 => .tm e1 e2), g.tb.sub k fun _ h => h⟩
theorem Good.pushV {x : V} {d : PyData} (g : Good F env σ T H O) (h : Rep F.K (hid O H) x d) : Good F env σ ((x, .v d) :: T) H O :=
  ⟨g.len, g.oin, g.o0, g.h0, g.ion, g.keep, g.keep0, g.new, g.sl, fun t ht => by
    rcases List.mem_cons.mp ht with rfl | ht
    · exact h
    · exact g.tm t ht, g.dss, fun i s h1 h2 t ht h3 => by
    rcases List.mem_cons.mp ht with rfl | ht
    · cases h3
    · exact g.dst i s h1 h2 t ht h3, List.Pairwise.cons (fun t _ h => by cases h) g.dtt, g.one, g.sep.same (fun _ h => h) (fun i u e1 e2 => .sl e1 e2) fun t ht h => by
    rcases List.mem_cons.mp ht with rfl | ht
    · cases h
    · exact .tm ht h, g.tb⟩
theorem Good.pushB {x : V} {i : Nat} (g : Good F env σ T H O) (h : σ[i]? = some (some x)) : Good F env σ ((x, .b i) :: T) H O :=
  ⟨g.len, g.oin, g.o0, g.h0, g.ion, g.keep, g.keep0, g.new, g.sl, fun t ht => by
    rcases List.mem_cons.mp ht with rfl | ht
    · exact h
    · exact g.tm t ht, g.dss, fun i s h1 h2 t ht h3 => by
    rcases List.mem_cons.mp ht with rfl | ht
    · cases h3
    · exact g.dst i s h1 h2 t ht h3, List.Pairwise.cons (fun t _ h => by cases h) g.dtt, g.one, g.sep.same (fun _ h => h) (fun i u e1 e2 => .sl e1 e2) fun t ht h => by
    rcases List.mem_cons.mp ht with rfl | ht
    · cases h
    · exact .tm ht h, g.tb⟩
theorem Good.pop {t : V × R} (g : Good F env σ (t :: T) H O) : Good F env σ T H O :=
  ⟨g.len, g.oin, g.o0, g.h0, g.ion, g.keep, g.keep0, g.new, g.sl, fun t ht => g.tm t (List.mem_cons_of_mem _ ht), g.dss, fun i s h1 h2 t ht h3 => g.dst i s h1 h2 t (List.mem_cons_of_mem _ ht) h3, (List.pairwise_cons.mp g.dtt).2, g.one,
    g.sep.same (fun _ h => h) (fun i u e1 e2 => .sl e1 e2) fun t ht h => .tm (List.mem_cons_of_mem _ ht) h, g.tb⟩
/-- an address of what is owned -/
theorem Good.own_ne (g : Good F env σ T H O) {p : Addr} (hp : H p = none) : (∀ (i : Nat) s, env[i]? = some s → isO s = true → (σ[i]?).getD none ≠ some (.ref p)) ∧ ∀ t ∈ T, isRO t.2 = true → t.1 ≠ .ref p := by
  constructor
  · intro i s h1 h2 z
    have := g.sl i s h1
    cases s with
    | o ds =>
      obtain ⟨a, vs, q1, q2, _⟩ := this
      rw [z] at q1
      cases q1
      rw [hp] at q2; cases q2
    | ob c fs =>
      obtain ⟨a, q1, _, q2⟩ := this
      obtain ⟨C, dx, gs, q3⟩ := q2.at
      rw [z] at q1
      cases q1
      rw [hp] at q3; cases q3
    | _ => cases h2
  · intro t ht h2 z
    have := g.tm t ht
    obtain ⟨v, r⟩ := t
    cases r with
    | o ds =>
      obtain ⟨a, vs, q1, q2, _⟩ := this
      have z' : v = .ref p := z
      have q1' : v = .ref a := q1
      rw [z'] at q1'
      cases q1'
      rw [hp] at q2; cases q2
    | ob c fs =>
      obtain ⟨a, q1, _, q2⟩ := this
      obtain ⟨C, dx, gs, q3⟩ := q2.at
      have z' : v = .ref p := z
      have q1' : v = .ref a := q1
      rw [z'] at q1'
      cases q1'
      rw [hp] at q3; cases q3
    | _ => cases h2
theorem Good.free0 (g : Good F env σ T H O) {p : Addr} (hp : H p = none) : F.H0 p = none := by
  cases q : F.H0 p with
  | none => rfl
  | some u => exact absurd hp (g.keep0 p (by rw [q]; simp))
/-- a new list, owned -/
theorem Good.pushO {p : Addr} {vs : List V} {ds : List PyData} (g : Good F env σ T H O) (hp : H p = none) (h : Reps F.K (hid O H) vs ds) : Good F env σ ((.ref p, .o ds) :: T) (upd H p (.lst vs)) (p :: O) := by
  have eq : hid (p :: O) (upd H p (.lst vs)) = hid O H := hid_new hp
  have e : Sub (hid O H) (hid (p :: O) (upd H p (.lst vs))) := by rw [eq]; exact Sub.refl _
  have ne : ∀ a, H a ≠ none → a ≠ p := fun a h z => h (by rw [z]; exact hp)
  obtain ⟨o1, o2⟩ := g.own_ne hp
  have g0 := g.free0 hp
  refine ⟨g.len, fun a ha => ?_, fun a ha => List.mem_cons_of_mem _ (g.o0 a ha), g.h0, g.ion, fun b u h n => ?_, fun b h => ?_, fun a ha => ?_, fun i s h => (g.sl i s h).mono e fun a ha _ _ _ => ⟨upd_ne (ne a (g.oin a ha)), List.mem_cons_of_mem _ ha⟩,
    fun t ht => ?_, g.dss, fun i s h1 h2 t ht h3 => ?_, List.Pairwise.cons (fun t ht _ h3 z => o2 t ht h3 z.symm) g.dtt, g.one, ?_, g.tb.sub (Sub.upd hp) fun _ h => List.mem_cons_of_mem _ h⟩
  · rcases List.mem_cons.mp ha with rfl | ha
    · rw [upd_same]; simp
    · rw [upd_ne (ne a (g.oin a ha))]; exact g.oin a ha
  · rw [upd_ne]
    · exact g.keep b u h n
    · exact ne b (g.keep0 b (by rw [h]; simp))
  · rw [upd_ne (ne b (g.keep0 b h))]
    exact g.keep0 b h
  · rcases List.mem_cons.mp ha with rfl | ha
    · exact .inr g0
    · exact g.new a ha
  · rcases List.mem_cons.mp ht with rfl | ht
    · exact ⟨p, vs, rfl, upd_same, List.mem_cons_self, g0, by rw [eq]; exact h⟩
    · exact (g.tm t ht).mono e fun a ha _ _ _ => ⟨upd_ne (ne a (g.oin a ha)), List.mem_cons_of_mem _ ha⟩
  · rcases List.mem_cons.mp ht with rfl | ht
    · exact o1 i s h1 h2
    · exact g.dst i s h1 h2 t ht h3
  · refine g.sep.step (fun a ha => ?_) (fun b ws h => ⟨ws, by rw [upd_ne (ne b (by rw [h]; simp))]; exact h⟩) (fun l hl => ?_) (fun i u e1 e2 => .sl e1 e2) fun t ht k => ?_
    · rcases List.mem_cons.mp ha with rfl | ha
      · exact .inr fun l => not_fld_lst upd_same
      · exact .inl ⟨ha, upd_ne (ne a (g.oin a ha))⟩
    · rcases List.mem_cons.mp hl with rfl | hl
      · exact .inr hp
      · exact .inl hl
    · rcases List.mem_cons.mp ht with rfl | ht
      · exact .new hp
      · exact .tm ht k
/-- a new tuple -/
theorem Good.pushT {p : Addr} {vs : List V} {ds : List PyData} (g : Good F env σ T H O) (hp : H p = none) (h : Reps F.K (hid O H) vs ds) : Good F env σ ((.ref p, .v (.tuple ds)) :: T) (upd H p (.tup vs)) O := by
  have hO : p ∉ O := fun z => g.oin p z hp
  refine (g.grow (Sub.upd hp)).pushV (.tup (.inl (.inl ?_)) (h.mono (hid_mono (fun a h => .inl h) fun a o _ q => Sub.upd hp a o q)))
  rw [hid_out hO, upd_same]
def rm (O : List Addr) (a : Addr) : List Addr := O.filter fun x => decide (x ≠ a)
theorem mem_rm {O : List Addr} {a b : Addr} : b ∈ rm O a ↔ b ∈ O ∧ b ≠ a := by
  unfold rm
  rw [List.mem_filter, decide_eq_true_eq]
theorem not_rm {O : List Addr} {a : Addr} : a ∉ rm O a := fun z => (mem_rm.mp z).2 rfl
theorem Good.rm_hid {a : Addr} : Sub (hid O H) (hid (rm O a) H) := hid_mono (fun b h => .inl (mem_rm.mp h).1) fun _ _ _ h => h
/-- an owned list on the stack becomes a value -/
theorem Good.shareT {x : V} {ds : List PyData} (g : Good F env σ ((x, .o ds) :: T) H O) : ∃ O', Good F env σ ((x, .v (.list ds)) :: T) H O' := by
  obtain ⟨a, vs, rfl, h2, h3, h4, h5⟩ := g.tm _ List.mem_cons_self
  have h2 : H a = some (.lst vs) := h2
  have h3 : a ∈ O := h3
  have h4 : F.H0 a = none := h4
  have h5 : Reps F.K (hid O H) vs ds := h5
  have d1 := (List.pairwise_cons.mp g.dtt).1
  have e : Sub (hid O H) (hid (rm O a) H) := Good.rm_hid
  have fr : From env σ ((V.ref a, R.o ds) :: T) H (some (.ref a)) := .tm List.mem_cons_self rfl
  refine ⟨rm O a, ⟨g.len, fun b hb => g.oin b (mem_rm.mp hb).1, fun b hb => mem_rm.mpr ⟨g.o0 b hb, fun z => g.h0 b hb (by rw [z]; exact h4)⟩, g.h0, g.ion, g.keep, g.keep0, fun b hb => g.new b (mem_rm.mp hb).1,
    fun i s h => (g.sl i s h).mono e fun b hb e1 e2 _ => ⟨rfl, mem_rm.mpr ⟨hb, g.foot_ne fr rfl (g.cond_ne h4 rfl (fun k => g.dst i s h k _ List.mem_cons_self rfl) e2) e1⟩⟩, fun t ht => ?_, g.dss, fun i s h1 h2 t ht h3 => ?_, List.Pairwise.cons (fun t _ h => by cases h) (List.pairwise_cons.mp g.dtt).2, g.one,
    g.sep.same (fun b hb => (mem_rm.mp hb).1) (fun i u e1 e2 => .sl e1 e2) fun t ht k => ?_, ⟨g.tb.1, fun p hp => mem_rm.mpr (g.tb.rm (noTbl_lst h2) p hp)⟩⟩⟩
  · rcases List.mem_cons.mp ht with rfl | ht
    · refine .lst (xs := vs) ?_ (h5.mono e)
      rw [hid_out not_rm]
      exact h2
    · exact (g.tm t (List.mem_cons_of_mem _ ht)).mono e fun b hb e1 e2 _ => ⟨rfl, mem_rm.mpr ⟨hb, g.foot_ne fr rfl (fun z => d1 t ht rfl e2 (Option.some.inj z).symm) e1⟩⟩
  · rcases List.mem_cons.mp ht with rfl | ht
    · cases h3
    · exact g.dst i s h1 h2 t (List.mem_cons_of_mem _ ht) h3
  · rcases List.mem_cons.mp ht with rfl | ht
    · cases k
    · exact .tm (List.mem_cons_of_mem _ ht) k
theorem getD_get {v : V} {i : Nat} (h : (σ[i]?).getD none = some v) : σ[i]? = some (some v) := by
  cases q : σ[i]? with
  | none => rw [q] at h; cases h
  | some y => rw [q] at h; simp at h; rw [h]
theorem get_getD {v : V} {i : Nat} (h : σ[i]? = some (some v)) : (σ[i]?).getD none = some v := by rw [h]; rfl
/-- an owned list in a slot becomes a value -/
theorem Good.shareS {i : Nat} {ds : List PyData} (g : Good F env σ T H O) (hi : env[i]? = some (.o ds)) : ∃ O', Good F (env.set i (.v (.list ds))) σ T H O' := by
  obtain ⟨a, vs, h1, h2, h3, h4, h5⟩ := g.sl i _ hi
  have e : Sub (hid O H) (hid (rm O a) H) := Good.rm_hid
  have hil : i < env.length := (List.getElem?_eq_some_iff.mp hi).1
  have old : ∀ (j : Nat) s, (env.set i (.v (.list ds)))[j]? = some s → (j = i ∧ s = .v (.list ds)) ∨ (j ≠ i ∧ env[j]? = some s) := fun j s h => by
    by_cases hj : j = i
    · subst hj
      rw [List.getElem?_set_self hil] at h
      cases h; exact .inl ⟨rfl, rfl⟩
    · rw [List.getElem?_set_ne (Ne.symm hj)] at h
      exact .inr ⟨hj, h⟩
  have fr : From env σ T H ((σ[i]?).getD none) := .sl hi rfl
  refine ⟨rm O a, ⟨by simpa using g.len, fun b hb => g.oin b (mem_rm.mp hb).1, fun b hb => mem_rm.mpr ⟨g.o0 b hb, fun z => g.h0 b hb (by rw [z]; exact h4)⟩, g.h0, g.ion, g.keep, g.keep0, fun b hb => g.new b (mem_rm.mp hb).1,
    fun j s h => ?_, fun t ht => ?_, fun j k s u hjk hj hs hk hu => ?_, fun j s hj hs t ht h3 => ?_, g.dtt, fun j s h hb => ?_, g.sep.same (fun b hb => (mem_rm.mp hb).1) (fun j u e1 e2 => ?_) fun t ht k => .tm ht k, ⟨g.tb.1, fun p hp => mem_rm.mpr (g.tb.rm (noTbl_lst h2) p hp)⟩⟩⟩
  · rcases old j s h with ⟨rfl, rfl⟩ | ⟨hj, h⟩
    · refine ⟨.ref a, h1, .lst (xs := vs) ?_ (h5.mono e)⟩
      rw [hid_out not_rm]
      exact h2
    · exact (g.sl j s h).mono e fun b hb e1 e2 _ => ⟨rfl, mem_rm.mpr ⟨hb, g.foot_ne fr h1 (g.cond_ne h4 h1 (fun k => g.dss j i s _ hj h k hi rfl) e2) e1⟩⟩
  · exact (g.tm t ht).mono e fun b hb e1 e2 _ => ⟨rfl, mem_rm.mpr ⟨hb, g.foot_ne fr h1 (fun z => g.dst i _ hi rfl t ht e2 z.symm) e1⟩⟩
  · rcases old j s hj with ⟨rfl, rfl⟩ | ⟨_, hj⟩
    · cases hs
    · rcases old k u hk with ⟨rfl, rfl⟩ | ⟨_, hk⟩
      · cases hu
      · exact g.dss j k s u hjk hj hs hk hu
  · rcases old j s hj with ⟨rfl, rfl⟩ | ⟨_, hj⟩
    · cases hs
    · exact g.dst j s hj hs t ht h3
  · rcases old j _ h with ⟨_, rfl⟩ | ⟨_, h⟩
    · cases hb
    · exact g.one j _ h hb
  · rcases old j u e1 with ⟨_, rfl⟩ | ⟨_, h⟩
    · cases e2
    · exact .sl h e2
end
end Mp

set_option Elab.async false
set_option linter.all false
set_option maxRecDepth 100000
set_option maxHeartbeats 1000000
/-! Mp, part 2: the small language, its weakest preconditions, the check against the kit's trees. -/
namespace Mp
open PySem

inductive Bf where
  | abs | int | str | all | any | tuple | list | max2 | min2 | bool
  deriving DecidableEq
inductive Tg where
  | nm (i : Nat)
  | tp (is : List Nat)
mutual
inductive P where
  | var (i : Nat) | int (i : Int) | bl (b : Bool) | non | str (s : Str)
  | con (k : Nat)
  | bin (op : Operator) (a b : P)
  | neg (a : P)
  | cmp (op : CmpOp) (a b : P)
  | chn (op op' : CmpOp) (a b c : P)
  | bop (isAnd : Bool) (es : Ps)
  | not (a : P)
  | ife (t a b : P)
  | tup (es : Ps)
  | lst (es : Ps)
  | ix (a i : P)
  | sl (a : P) (lo hi : Po)
  | rev (a : P)
  | call (k : Nat) (es : Ps)
  | callIo (k : Nat) (i : Nat) (es : Ps)
  | callSc (k : Nat) (i : Nat) (es : Ps)
  | blt (f : Bf) (es : Ps)
  | len (a : P)
  | isin (a : P) (t : String)
  | comp (own : List Nat) (w : Wk) (tg : Tg) (c : Po) (elt : P)
  | pop (i : Nat)
  /-- name.f, an attribute -/
  | fld (i j : Nat) (f : Str)
  /-- len(name.f), f a list of the object's own -/
  | flen (i j : Nat) (f : Str)
  /-- name.f == [] -/
  | femp (i j : Nat) (f : Str)
  /-- name.f.pop() -/
  | fpop (i j : Nat) (f : Str)
  /-- name.m(..) -/
  | callM (k i : Nat) (es : Ps)
  /-- name.m, a property -/
  | prop (k i : Nat)
  /-- f(name, ..), name an object of the class c -/
  | callOb (k c i : Nat) (es : Ps)
  /-- C(..) -/
  | new (k : Nat) (es : Ps)
  /-- name == name, both objects of the class c, by its own __eq__ -/
  | eqOb (c i j : Nat)
  /-- never come to -/
  | dead
inductive Ps where
  | nil
  | cons (a : P) (r : Ps)
inductive Po where
  | none
  | some (a : P)
inductive Wk where
  | seq (a : P)
  | rng1 (a : P)
  | rng2 (a b : P)
  | enum (a : P)
  | zip (a b : P)
end
/-- what an except suite hands back -/
inductive Su where
  | bl (b : Bool) | int (i : Int) | str (s : Str) | non
  /-- what the slot i holds -/
  | var (i : Nat)
mutual
inductive S where
  | asg (i : Nat) (e : P)
  | asgT (is : List Nat) (e : P)
  | par (is : List Nat) (es : Ps)
  /-- i, j = a, b: two new objects -/
  | par2 (i j : Nat) (a b : P)
  | setIx (i : Nat) (ix e : P)
  | app (i : Nat) (e : P)
  | ite (t : P) (a b : Ss)
  | whl (t : P) (b : Ss)
  | for_ (tg : Tg) (w : Wk) (b : Ss)
  | ret (e : P)
  | raise (x : Str)
  | brk
  | cont
  | pass
  | try_ (b : Ss) (hs : List (Str × Su))
  /-- an expression whose value is dropped -/
  | xp (e : P)
  /-- name.f = e -/
  | stF (i j : Nat) (f : Str) (e : P)
  /-- .. a list that nothing else knows -/
  | stL (i j : Nat) (e : P)
  /-- name.f.append(name.g) -/
  | appF (i j : Nat) (f : Str) (j2 : Nat) (f2 : Str)
  /-- return of what was handed in -/
  | retMe
  /-- name += e, by an own __iadd__ that hands itself back -/
  | iadd (k i : Nat) (e : P)
  /-- never come to -/
  | dead
inductive Ss where
  | nil
  | cons (a : S) (r : Ss)
end

/-! ### specs -/
/-- the first argument, where it is no plain value -/
inductive Hdv where
  | no
  | io (ds : List PyData)
  | sc (ns : List Int)
  /-- an object: its class, its fields -/
  | ob (c : Nat) (fs : List Fd)
inductive HdK where
  | no | io | sc | ob (c : Nat)
  deriving DecidableEq
structure FSpec where
  pre : Hdv → List PyData → Prop
  post : Hdv → List PyData → R → Hdv → Prop
  /-- the class of the error, its field, the first argument as it is then -/
  exc : Hdv → List PyData → Str → PyData → Hdv → Prop
/-- a def of the module: its name, its first argument's kind, its level, its parameters -/
structure FnI where
  name : Str
  hd : HdK
  lev : Nat
  pars : List Str
inductive MtK where
  | meth | prop | init | iadd
  deriving DecidableEq
/-- a def of a class -/
structure MtI where
  cls : Nat
  /-- its name; of __init__: the class's -/
  name : Str
  kind : MtK
  lev : Nat
  pars : List Str
structure GE where
  /-- the attributes of a class -/
  flds : Nat → List Str
  mti : Nat → Option MtI
  /-- a class with an own __eq__: its level, what it asks of the two objects' fields, what it tells -/
  eqs : Nat → Option Nat
  eqp : Nat → List Fd → List Fd → Prop
  eqf : Nat → List Fd → List Fd → Bool
  con : Nat → Option (Str × PyData)
  fni : Nat → Option FnI
  fns : Nat → FSpec
  excs : List Str
  /-- class raised, class named in a clause -/
  exm : Str → Str → Option Bool

/-! ### values -/
def Sl.d : Sl → Option PyData
  | .v d => some d
  | .o ds => some (.list ds)
  | .io ds => some (.list ds)
  | _ => none
def R.d (env : Env) : R → Option PyData
  | .v d => some d
  | .o ds => some (.list ds)
  | .ob _ _ => none
  | .me => none
  | .b i => match env[i]? with
    | some s => s.d
    | none => none
/-- .. the script's too: for len and items -/
def R.q (env : Env) : R → Option PyData
  | .b i => match env[i]? with
    | some (.sc ns) => some (.list (ns.map .int))
    | some s => s.d
    | none => none
  | r => r.d env
/-- as a value that may be kept by anyone -/
def R.sh (env : Env) : R → Option (PyData × Env)
  | .v d => some (d, env)
  | .o ds => some (.list ds, env)
  | .ob _ _ => none
  | .me => none
  | .b i => match env[i]? with
    | some (.v d) => some (d, env)
    | some (.o ds) => some (.list ds, env.set i (.v (.list ds)))
    | _ => none
def MulOk (i j : Int) : Prop := (i.natAbs.log2 + j.natAbs.log2 < 1000000) ∨ (-(2 ^ 64) < i ∧ i < 2 ^ 64) ∨ (-(2 ^ 64) < j ∧ j < 2 ^ 64)
def line : Nat := 16777216
def opB (op : Operator) (x y : PyData) (Q : R → Prop) : Prop := match op, x, y with
  | .Add, .int i, .int j => Q (.v (.int (i + j)))
  | .Add, .list xs, .list ys => xs.length + ys.length ≤ line ∧ Q (.o (xs ++ ys))
  | .Add, .tuple xs, .tuple ys => xs.length + ys.length ≤ line ∧ Q (.v (.tuple (xs ++ ys)))
  | .Add, .str a, .str b => a.length + b.length ≤ line ∧ Q (.v (.str (a ++ b)))
  | .Sub, .int i, .int j => Q (.v (.int (i - j)))
  | .Mult, .int i, .int j => MulOk i j ∧ Q (.v (.int (i * j)))
  | .Mult, .list xs, .int k => (-(2 ^ 63) ≤ k ∧ k < 2 ^ 63 ∧ xs.length * k.toNat ≤ line) ∧ Q (.o (List.replicate k.toNat xs).flatten)
  | .Mult, .tuple xs, .int k => (xs ≠ [] ∧ 2 ≤ k ∧ k ≤ 1000 ∧ xs.length ≤ 1000) ∧ Q (.v (.tuple (List.replicate k.toNat xs).flatten))
  | .FloorDiv, .int i, .int j => (0 < j ∧ j.natAbs.log2 < 9000) ∧ Q (.v (.int (i / j)))
  | .Mod, .int i, .int j => 0 < j ∧ Q (.v (.int (i % j)))
  | .Pow, .int i, .int j => (0 ≤ j ∧ j ≤ 1000000 ∧ i.natAbs < 2 ^ 64) ∧ Q (.v (.int (i ^ j.toNat)))
  | _, _, _ => False
def isNone : PyData → Bool
  | .none => true
  | _ => false
/-- flat values of which == tells as the data do, whatever they are -/
def scalD : PyData → PyData → Bool
  | .none, .none => true | .none, .int _ => true | .int _, .none => true | .none, .bool _ => true | .bool _, .none => true | .none, .str _ => true | .str _, .none => true
  | .int _, .int _ => true | .bool _, .bool _ => true | .str _, .str _ => true
  | .int _, .str _ => true | .str _, .int _ => true | .bool _, .str _ => true | .str _, .bool _ => true
  | _, _ => false
def eqOk (x y : PyData) : Bool := scalD x y || (SeqAt.shaped x && SeqAt.shaped y)
def opC (op : CmpOp) (x y : PyData) (Q : Bool → Prop) : Prop := match op, x, y with
  | .Eq, x, y => eqOk x y = true ∧ Q (PyData.eqv x y)
  | .NotEq, x, y => eqOk x y = true ∧ Q (!PyData.eqv x y)
  | .Lt, .int i, .int j => Q (decide (i < j))
  | .LtE, .int i, .int j => Q (decide (i ≤ j))
  | .Gt, .int i, .int j => Q (decide (j < i))
  | .GtE, .int i, .int j => Q (decide (j ≤ i))
  | .Is, x, .none => Q (isNone x)
  | .IsNot, x, .none => Q (!isNone x)
  | .In, x, .list ds => (SeqAt.shaped x = true ∧ SeqAt.shaped (.list ds) = true) ∧ Q (ds.any fun z => PyData.eqv z x)
  | .In, x, .tuple ds => (SeqAt.shaped x = true ∧ SeqAt.shaped (.tuple ds) = true) ∧ Q (ds.any fun z => PyData.eqv z x)
  | .NotIn, x, .list ds => (SeqAt.shaped x = true ∧ SeqAt.shaped (.list ds) = true) ∧ Q (!ds.any fun z => PyData.eqv z x)
  | .NotIn, x, .tuple ds => (SeqAt.shaped x = true ∧ SeqAt.shaped (.tuple ds) = true) ∧ Q (!ds.any fun z => PyData.eqv z x)
  | _, _, _ => False
/-- the place of an index of any sign -/
def ixAt (xs : List PyData) (i : Int) (Q : PyData → Prop) : Prop := match L2.atI xs i with
  | some d => Q d
  | none => False
def opI (x i : PyData) (Q : R → Prop) : Prop := match x, i with
  | .list ds, .int k => ixAt ds k fun d => Q (.v d)
  | .tuple ds, .int k => ixAt ds k fun d => Q (.v d)
  | .str z, .int k => z.length ≤ line ∧ (match L2.atI z.cps.toList k with
    | some c => Q (.v (.str ⟨#[c]⟩))
    | none => False)
  | _, _ => False
def cutD {α : Type} (xs : List α) (lo hi : Option Int) : List α := (xs.drop (HT.sIx xs.length 0 lo)).take (HT.sIx xs.length xs.length hi - HT.sIx xs.length 0 lo)
def opS (x : PyData) (lo hi : Option Int) (Q : R → Prop) : Prop := match x with
  | .list ds => Q (.o (cutD ds lo hi))
  | .tuple ds => Q (.v (.tuple (cutD ds lo hi)))
  | _ => False
def tyOf : PyData → Option String
  | .none => some "NoneType"
  | .bool _ => some "bool"
  | .int _ => some "int"
  | .str _ => some "str"
  | .list _ => some "list"
  | .tuple _ => some "tuple"
  | .dict _ => none
def isTy (d : PyData) (t : String) : Option Bool := match tyOf d with
  | some s => L2.kitB s t
  | none => none
def opLen (x : PyData) (Q : Int → Prop) : Prop := match x with
  | .list ds => Q ds.length
  | .tuple ds => Q ds.length
  | .str z => z.length ≤ line ∧ Q z.length
  | _ => False
def bools? : List PyData → Option (List Bool)
  | [] => some []
  | .bool b :: r => match bools? r with
    | some bs => some (b :: bs)
    | none => none
  | _ :: _ => none
def withBs (x : Option (List Bool)) (Q : List Bool → Prop) : Prop := match x with
  | some bs => Q bs
  | none => False
def opF (f : Bf) (xs : List PyData) (Q : R → Prop) : Prop := match f, xs with
  | .abs, [.int i] => Q (.v (.int (if i < 0 then -i else i)))
  | .int, [.int i] => Q (.v (.int i))
  | .int, [.bool k] => Q (.v (.int (if k then 1 else 0)))
  | .bool, [.int i] => Q (.v (.bool (i != 0)))
  | .bool, [.bool k] => Q (.v (.bool k))
  | .str, [.int i] => i.natAbs.log2 < 1920 ∧ Q (.v (.str (toString i)))
  | .all, [.list ds] => withBs (bools? ds) fun bs => Q (.v (.bool (bs.all id)))
  | .any, [.list ds] => withBs (bools? ds) fun bs => Q (.v (.bool (bs.any id)))
  | .tuple, [.list ds] => Q (.v (.tuple ds))
  | .tuple, [.tuple ds] => Q (.v (.tuple ds))
  | .list, [.list ds] => Q (.o ds)
  | .list, [.tuple ds] => Q (.o ds)
  | .max2, [.int i, .int j] => Q (.v (.int (if j > i then j else i)))
  | .min2, [.int i, .int j] => Q (.v (.int (if j < i then j else i)))
  | _, _ => False
def enumD : Nat → List PyData → List PyData
  | _, [] => []
  | i, d :: r => .tuple [.int (i : Nat), d] :: enumD (i + 1) r
def zipD : List PyData → List PyData → List PyData
  | x :: xs, y :: ys => .tuple [x, y] :: zipD xs ys
  | _, _ => []
def rngD (lo : Int) (n : Nat) : List PyData := (List.range n).map fun i => .int (lo + (i : Nat))
def setMany : List Nat → List PyData → Env → Env
  | i :: is, d :: ds, env => setMany is ds (env.set i (.v d))
  | _, _, env => env
def setTg (tg : Tg) (d : PyData) (env : Env) (Q : Env → Prop) : Prop := match tg, d with
  | .nm i, d => Q (env.set i (.v d))
  | .tp is, .tuple ds => ds.length = is.length ∧ Q (setMany is ds env)
  | .tp _, _ => False
def wipeE (env : Env) : List Nat → Env
  | [] => env
  | i :: is => (wipeE env is).set i .no
def compL (turn : PyData → Env → (Option PyData → Env → Prop) → Prop) : List PyData → List PyData → Env → (List PyData → Env → Prop) → Prop
  | [], acc, env, Q => Q acc env
  | d :: r, acc, env, Q => turn d env fun x env' => match x with
    | some y => acc.length < line ∧ compL turn r (acc ++ [y]) env' Q
    | none => compL turn r acc env' Q
def forL (turn : PyData → Env → (Env → Prop) → Prop) : List PyData → Env → (Env → Prop) → Prop
  | [], env, Q => Q env
  | d :: r, env, Q => turn d env fun env' => forL turn r env' Q
/-- .. with a word for each item: whether it is a list that nothing else knows -/
def compLO (turn : PyData → Env → (PyData → Bool → Env → Prop) → Prop) : List PyData → List PyData → List Bool → Env → (List PyData → List Bool → Env → Prop) → Prop
  | [], acc, fl, env, Q => Q acc fl env
  | d :: r, acc, fl, env, Q => turn d env fun y b env' => acc.length < line ∧ compLO turn r (acc ++ [y]) (fl ++ [b]) env' Q
/-- owned lists become values -/
def shr (env : Env) : List Nat → Env
  | [] => env
  | j :: js => match env[j]? with
    | some (.o ds) => shr (env.set j (.v (.list ds))) js
    | _ => shr env js
def mskS : Sl → Sl
  | .v d => .v d
  | .sc ns => .sc ns
  | _ => .no
def mskE (env : Env) : Env := env.map mskS
def oddOk (ds : List PyData) (fl : List Bool) (n : Nat) (j : Nat) : Prop := fl[j]? = some true ∧ match ds[j]? with
  | some (.list l) => l.length + n ≤ line
  | _ => False
def withD (x : Option PyData) (Q : PyData → Prop) : Prop := match x with
  | some d => Q d
  | none => False
def withS (x : Option (PyData × Env)) (Q : PyData → Env → Prop) : Prop := match x with
  | some (d, e) => Q d e
  | none => False
def asB (r : R) (Q : Bool → Prop) : Prop := match r with
  | .v (.bool b) => Q b
  | _ => False
def asI (x : Option PyData) (Q : Int → Prop) : Prop := match x with
  | some (.int i) => Q i
  | _ => False
def seqOf (x : Option (PyData × Env)) (Q : List PyData → Env → Prop) : Prop := match x with
  | some (.list ds, e) => Q ds e
  | some (.tuple ds, e) => Q ds e
  | _ => False
/-- a slot that holds a list which may be changed; the slot behind the change -/
def ioSlot (s : Option Sl) (Q : List PyData → (List PyData → Sl) → Prop) : Prop := match s with
  | some (.o xs) => Q xs .o
  | some (.io xs) => Q xs .io
  | _ => False
def ixSet (ds : List PyData) (n : Int) (Q : Nat → Prop) : Prop := match L2.ixN ds.length n with
  | some j => Q j
  | none => False
def scSlot (s : Option Sl) (Q : List Int → Prop) : Prop := match s with
  | some (.sc ns) => Q ns
  | _ => False
/-- a slot that holds an object; the slot behind a change -/
def obSlot (s : Option Sl) (Q : Nat → List Fd → (List Fd → Sl) → Prop) : Prop := match s with
  | some (.ob c fs) => Q c fs (.ob c)
  | some (.ib c fs) => Q c fs (.ib c)
  | _ => False
def fdV (x : Option Fd) (Q : PyData → Prop) : Prop := match x with
  | some (.v d) => Q d
  | _ => False
def fdO (x : Option Fd) (Q : List PyData → Prop) : Prop := match x with
  | some (.o d) => Q d
  | _ => False
def lastD (x : Option PyData) (Q : PyData → Prop) : Prop := match x with
  | some d => Q d
  | none => False
def asO (r : R) (Q : List PyData → Prop) : Prop := match r with
  | .o d => Q d
  | _ => False
def withM (x : Option MtI) (Q : MtI → Prop) : Prop := match x with
  | some m => Q m
  | none => False
def nosF (n : Nat) : List Fd := List.replicate n .no
/-- what is handed back is what was handed in -/
def unMe (i : Nat) : R → R
  | .me => .b i
  | r => r
abbrev EX := Str → PyData → Env → Prop
def noEx : EX := fun _ _ _ => False
/-! ### weakest preconditions of expressions -/
section
variable (G : GE)
mutual
def wpE : P → Env → (R → Env → Prop) → EX → Prop
  | .var i, env, Q, _ => match env[i]? with
    | some (.v d) => Q (.v d) env
    | some (.o _) => Q (.b i) env
    | some (.io _) => Q (.b i) env
    | some (.sc _) => Q (.b i) env
    | _ => False
  | .int i, env, Q, _ => Q (.v (.int i)) env
  | .bl b, env, Q, _ => Q (.v (.bool b)) env
  | .non, env, Q, _ => Q (.v .none) env
  | .str s, env, Q, _ => Q (.v (.str s)) env
  | .con k, env, Q, _ => (match G.con k with
    | some (_, d) => Q (.v d) env
    | none => False)
  | .bin op a b, env, Q, E => wpE a env (fun x env1 => wpE b env1 (fun y env2 => withD (x.d env2) fun d => withD (y.d env2) fun e => opB op d e fun r => Q r env2) E) E
  | .neg a, env, Q, E => wpE a env (fun x env1 => asI (x.d env1) fun i => Q (.v (.int (-i))) env1) E
  | .cmp op a b, env, Q, E => wpE a env (fun x env1 => wpE b env1 (fun y env2 => withD (x.d env2) fun d => withD (y.d env2) fun e => opC op d e fun r => Q (.v (.bool r)) env2) E) E
  | .chn op op' a b c, env, Q, E => wpE a env (fun x env1 => wpE b env1 (fun y env2 => withD (x.d env2) fun d => withD (y.d env2) fun e => opC op d e fun r =>
      if r = true then wpE c env2 (fun z env3 => withD (y.d env3) fun e' => withD (z.d env3) fun g => opC op' e' g fun r' => Q (.v (.bool r')) env3) E else Q (.v (.bool false)) env2) E) E
  | .bop k es, env, Q, E => wpBop k es env Q E
  | .not a, env, Q, E => wpE a env (fun x env1 => asB x fun b => Q (.v (.bool (!b))) env1) E
  | .ife t a b, env, Q, E => wpE t env (fun x env1 => asB x fun k => if k = true then wpE a env1 Q E else wpE b env1 Q E) E
  | .tup es, env, Q, E => wpEs es env (fun ds env1 => ds.length ≤ line ∧ Q (.v (.tuple ds)) env1) E
  | .lst es, env, Q, E => wpEs es env (fun ds env1 => ds.length ≤ line ∧ Q (.o ds) env1) E
  | .ix a i, env, Q, E => wpE a env (fun x env1 => wpE i env1 (fun y env2 => withD (x.q env2) fun d => withD (y.d env2) fun e => opI d e fun r => Q r env2) E) E
  | .sl a lo hi, env, Q, E => wpE a env (fun x env1 => wpPo lo env1 (fun l env2 => wpPo hi env2 (fun u env3 => withD (x.d env3) fun d => opS d l u fun r => Q r env3) E) E) E
  | .rev a, env, Q, E => wpE a env (fun x env1 => match x.d env1 with
    | some (.list ds) => Q (.o ds.reverse) env1
    | _ => False) E
  | .call k es, env, Q, E => wpEs es env (fun ds env1 => (G.fns k).pre .no ds ∧ (∀ r h, (G.fns k).post .no ds r h → Q r env1) ∧ ∀ x p h, (G.fns k).exc .no ds x p h → E x p env1) E
  | .callIo k i es, env, Q, E => ioSlot env[i]? (fun _ _ => wpEs es env (fun ds env1 => ioSlot env1[i]? fun xs mk =>
      (G.fns k).pre (.io xs) ds ∧ (∀ r h, (G.fns k).post (.io xs) ds r h → ∃ ys, h = .io ys ∧ Q (unMe i r) (env1.set i (mk ys))) ∧ ∀ x p h, (G.fns k).exc (.io xs) ds x p h → ∃ ys, h = .io ys ∧ E x p (env1.set i (mk ys))) E)
  | .callSc k i es, env, Q, E => scSlot env[i]? (fun _ => wpEs es env (fun ds env1 => scSlot env1[i]? fun ns =>
      (G.fns k).pre (.sc ns) ds ∧ (∀ r h, (G.fns k).post (.sc ns) ds r h → Q r env1) ∧ ∀ x p h, (G.fns k).exc (.sc ns) ds x p h → E x p env1) E)
  | .len a, env, Q, E => wpE a env (fun x env1 => withD (x.q env1) fun d => opLen d fun n => Q (.v (.int n)) env1) E
  | .blt f es, env, Q, E => wpBs es env (fun ds env1 => opF f ds fun r => Q r env1) E
  | .isin a t, env, Q, E => wpE a env (fun x env1 => withD (x.d env1) fun d => match isTy d t with
    | some b => Q (.v (.bool b)) env1
    | none => False) E
  | .comp own w tg c elt, env, Q, E => wpW w env (fun items env1 =>
      compL (fun d env2 K => setTg tg d env2 fun env3 => wpPc c env3 (fun b env4 => if b = true then wpE elt env4 (fun r env5 => withS (r.sh env5) fun y env6 => K (some y) (wipeE env6 own)) noEx else K none (wipeE env4 own)) noEx)
        items [] (wipeE env1 own) fun ds env' => Q (.o ds) env') E
  | .pop i, env, Q, _ => (match env[i]? with
    | some (.o ds) => (match ds.getLast? with
      | some d => Q (.v d) (env.set i (.o ds.dropLast))
      | none => False)
    | _ => False)
  | .fld i j f, env, Q, _ => obSlot env[i]? fun c fs _ => (G.flds c)[j]? = some f ∧ fdV fs[j]? fun d => Q (.v d) env
  | .flen i j f, env, Q, _ => obSlot env[i]? fun c fs _ => ((G.flds c)[j]? = some f ∧ f = past) ∧ fdO fs[j]? fun d => Q (.v (.int d.length)) env
  | .femp i j f, env, Q, _ => obSlot env[i]? fun c fs _ => ((G.flds c)[j]? = some f ∧ f = past) ∧ fdO fs[j]? fun d => SeqAt.shaped (.list d) = true ∧ Q (.v (.bool d.isEmpty)) env
  | .fpop i j f, env, Q, _ => obSlot env[i]? fun c fs mk => ((G.flds c)[j]? = some f ∧ f = past) ∧ fdO fs[j]? fun d => lastD d.getLast? fun x => Q (.v x) (env.set i (mk (fs.set j (.o d.dropLast))))
  | .callM k i es, env, Q, E => withM (G.mti k) fun m => obSlot env[i]? fun c0 _ _ => m.cls = c0 ∧ wpEs es env (fun ds env1 => obSlot env1[i]? fun c fs mk => m.cls = c ∧
      (G.fns k).pre (.ob c fs) ds ∧ (∀ r h, (G.fns k).post (.ob c fs) ds r h → ∃ gs, h = .ob c gs ∧ Q (unMe i r) (env1.set i (mk gs))) ∧ ∀ x p h, (G.fns k).exc (.ob c fs) ds x p h → ∃ gs, h = .ob c gs ∧ E x p (env1.set i (mk gs))) E
  | .prop k i, env, Q, _ => withM (G.mti k) fun m => obSlot env[i]? fun c fs mk => m.cls = c ∧
      (G.fns k).pre (.ob c fs) [] ∧ (∀ r h, (G.fns k).post (.ob c fs) [] r h → ∃ gs, h = .ob c gs ∧ Q (unMe i r) (env.set i (mk gs))) ∧ ∀ x p h, ¬ (G.fns k).exc (.ob c fs) [] x p h
  | .callOb k c i es, env, Q, E => obSlot env[i]? fun _ _ _ => wpEs es env (fun ds env1 => obSlot env1[i]? fun c' fs mk => c' = c ∧
      (G.fns k).pre (.ob c' fs) ds ∧ (∀ r h, (G.fns k).post (.ob c' fs) ds r h → ∃ gs, h = .ob c' gs ∧ Q (unMe i r) (env1.set i (mk gs))) ∧ ∀ x p h, (G.fns k).exc (.ob c' fs) ds x p h → ∃ gs, h = .ob c' gs ∧ E x p (env1.set i (mk gs))) E
  | .new k es, env, Q, E => withM (G.mti k) fun m => wpEs es env (fun ds env1 => (G.fns k).pre (.ob m.cls (nosF (G.flds m.cls).length)) ds ∧
      (∀ r h, (G.fns k).post (.ob m.cls (nosF (G.flds m.cls).length)) ds r h → ∃ gs, h = .ob m.cls gs ∧ r = .v .none ∧ Q (.ob m.cls gs) env1) ∧ ∀ x p h, (G.fns k).exc (.ob m.cls (nosF (G.flds m.cls).length)) ds x p h → E x p env1) E
  | .eqOb c i j, env, Q, _ => obSlot env[i]? fun c1 fs _ => obSlot env[j]? fun c2 gs _ => (c1 = c ∧ c2 = c ∧ G.eqp c fs gs) ∧ Q (.v (.bool (G.eqf c fs gs))) env
  | .dead, _, _, _ => False
def wpEs : Ps → Env → (List PyData → Env → Prop) → EX → Prop
  | .nil, env, Q, _ => Q [] env
  | .cons a r, env, Q, E => wpE a env (fun x env1 => withS (x.sh env1) fun d env2 => wpEs r env2 (fun ds env3 => Q (d :: ds) env3) E) E
/-- read, not kept -/
def wpBs : Ps → Env → (List PyData → Env → Prop) → EX → Prop
  | .nil, env, Q, _ => Q [] env
  | .cons a r, env, Q, E => wpE a env (fun x env1 => wpBs r env1 (fun ds env2 => withD (x.d env2) fun d => Q (d :: ds) env2) E) E
def wpBop (k : Bool) : Ps → Env → (R → Env → Prop) → EX → Prop
  | .nil, _, _, _ => False
  | .cons a .nil, env, Q, E => wpE a env Q E
  | .cons a (.cons b r), env, Q, E => wpE a env (fun x env1 => asB x fun c => if c = k then wpBop k (.cons b r) env1 Q E else Q (.v (.bool c)) env1) E
/-- an optional part of a slice -/
def wpPo : Po → Env → (Option Int → Env → Prop) → EX → Prop
  | .none, env, Q, _ => Q none env
  | .some a, env, Q, E => wpE a env (fun x env1 => asI (x.d env1) fun i => Q (some i) env1) E
/-- an optional condition -/
def wpPc : Po → Env → (Bool → Env → Prop) → EX → Prop
  | .none, env, Q, _ => Q true env
  | .some a, env, Q, E => wpE a env (fun x env1 => asB x fun b => Q b env1) E
def wpW : Wk → Env → (List PyData → Env → Prop) → EX → Prop
  | .seq a, env, Q, E => wpE a env (fun x env1 => seqOf (x.sh env1) Q) E
  | .rng1 a, env, Q, E => wpE a env (fun x env1 => asI (x.d env1) fun n => (-(2 ^ 62) ≤ n ∧ n < 2 ^ 62) ∧ Q (rngD 0 n.toNat) env1) E
  | .rng2 a b, env, Q, E => wpE a env (fun x env1 => wpE b env1 (fun y env2 => asI (x.d env2) fun m => asI (y.d env2) fun n => (-(2 ^ 62) ≤ m ∧ m < 2 ^ 62 ∧ -(2 ^ 62) ≤ n ∧ n < 2 ^ 62) ∧ Q (rngD m (n - m).toNat) env2) E) E
  | .enum a, env, Q, E => wpE a env (fun x env1 => seqOf (x.sh env1) fun ds env2 => Q (enumD 0 ds) env2) E
  | .zip a b, env, Q, E => wpE a env (fun x env1 => withS (x.sh env1) fun d env2 => wpE b env2 (fun y env3 => withS (y.sh env3) fun e env4 => (match d, e with
    | .list ds, .list es => Q (zipD ds es) env4
    | .tuple ds, .tuple es => Q (zipD ds es) env4
    | _, _ => False)) E) E
end
end
/-! ### .. of statements -/
structure Pst where
  nx : Env → Prop
  rt : R → Env → Prop
  bk : Env → Prop
  ct : Env → Prop
  ex : EX
def store (i : Nat) (r : R) (env : Env) (Q : Env → Prop) : Prop := match r with
  | .v d => Q (env.set i (.v d))
  | .o ds => Q (env.set i (.o ds))
  | .ob c fs => Q (env.set i (.ob c fs))
  | .me => False
  | .b j => withS ((R.b j).sh env) fun d env1 => Q (env1.set i (.v d))
/-- a new object is stored -/
def stOb (i : Nat) (r : R) (env : Env) (Q : Env → Prop) : Prop := match r with
  | .ob c fs => Q (env.set i (.ob c fs))
  | _ => False
/-- what a def hands back: an owned list goes out as owned -/
def give (r : R) (env : Env) (Q : R → Env → Prop) : Prop := match r with
  | .v d => Q (.v d) env
  | .o ds => Q (.o ds) env
  | .ob c fs => Q (.ob c fs) env
  | .me => Q .me env
  | .b j => match env[j]? with
    | some (.v d) => Q (.v d) env
    | some (.o ds) => Q (.o ds) (env.set j .no)
    | _ => False
def suD (s : Su) (env : Env) (Q : PyData → Prop) : Prop := match s with
  | .bl b => Q (.bool b)
  | .int i => Q (.int i)
  | .str s => Q (.str s)
  | .non => Q .none
  | .var i => match env[i]? with
    | some (.v d) => Q d
    | _ => False
def handle (G : GE) (D : Pst) (x : Str) (p : PyData) (env : Env) : List (Str × Su) → Prop
  | [] => D.ex x p env
  | (y, s) :: r => match G.exm x y with
    | some true => suD s env fun d => D.rt (.v d) env
    | some false => handle G D x p env r
    | none => False
section
variable (G : GE)
mutual
def wpS : S → Env → Pst → Prop
  | .asg i e, env, D => wpE G e env (fun r env1 => store i r env1 D.nx) D.ex
  | .asgT is e, env, D => wpE G e env (fun r env1 => withS (r.sh env1) fun d env2 => (match d with
    | .tuple ds => ds.length = is.length ∧ D.nx (setMany is ds env2)
    | .list ds => ds.length = is.length ∧ D.nx (setMany is ds env2)
    | _ => False)) D.ex
  | .par is es, env, D => wpEs G es env (fun ds env1 => ds.length = is.length ∧ D.nx (setMany is ds env1)) D.ex
  | .par2 i j a b, env, D => wpE G a env (fun x env1 => wpE G b env1 (fun y env2 => stOb i x env2 fun env3 => stOb j y env3 D.nx) D.ex) D.ex
  | .setIx i ix e, env, D => wpE G e env (fun r env1 => withS (r.sh env1) fun d env2 => ioSlot env2[i]? fun _ _ => wpE G ix env2 (fun k env3 => asI (k.d env3) fun n => ioSlot env3[i]? fun ds mk => ixSet ds n fun j => D.nx (env3.set i (mk (ds.set j d)))) D.ex) D.ex
  | .app i e, env, D => ioSlot env[i]? fun _ _ => wpE G e env (fun r env1 => withS (r.sh env1) fun d env2 => ioSlot env2[i]? fun ds mk => ds.length < line ∧ D.nx (env2.set i (mk (ds ++ [d])))) D.ex
  | .ite t a b, env, D => wpE G t env (fun x env1 => asB x fun k => if k = true then wpSs a env1 D else wpSs b env1 D) D.ex
  | .whl t b, env, D => ∃ W : Nat → Env → Prop, (∃ m, W m env) ∧ ∀ m e, W m e →
      wpE G t e (fun x e1 => asB x fun k => if k = true then wpSs b e1 { D with nx := fun e2 => ∃ m', m' < m ∧ W m' e2, ct := fun e2 => ∃ m', m' < m ∧ W m' e2, bk := D.nx } else D.nx e1) D.ex
  | .for_ tg w b, env, D => wpW G w env (fun items env1 => forL (fun d e K => setTg tg d e fun e1 => wpSs b e1 { D with nx := K, ct := K, bk := D.nx }) items env1 D.nx) D.ex
  | .ret e, env, D => wpE G e env (fun r env1 => give r env1 D.rt) D.ex
  | .raise x, env, D => D.ex x .none env
  | .brk, env, D => D.bk env
  | .cont, env, D => D.ct env
  | .pass, env, D => D.nx env
  | .try_ b hs, env, D => wpSs b env { D with ex := fun x p e => handle G D x p e hs }
  | .xp e, env, D => wpE G e env (fun _ env1 => D.nx env1) D.ex
  | .stF i j f e, env, D => wpE G e env (fun r env1 => withS (r.sh env1) fun d env2 => obSlot env2[i]? fun c fs mk => ((G.flds c)[j]? = some f ∧ f ≠ past) ∧ D.nx (env2.set i (mk (fs.set j (.v d))))) D.ex
  | .stL i j e, env, D => wpE G e env (fun r env1 => asO r fun d => obSlot env1[i]? fun c fs mk => (G.flds c)[j]? = some past ∧ D.nx (env1.set i (mk (fs.set j (.o d))))) D.ex
  | .appF i j f j2 f2, env, D => obSlot env[i]? fun c fs mk => ((G.flds c)[j]? = some f ∧ f = past ∧ (G.flds c)[j2]? = some f2) ∧ fdO fs[j]? fun xs => fdV fs[j2]? fun d => xs.length < line ∧ D.nx (env.set i (mk (fs.set j (.o (xs ++ [d])))))
  | .dead, _, _ => False
  | .iadd k i e, env, D => withM (G.mti k) fun m => obSlot env[i]? fun _ _ _ => wpE G e env (fun r env1 => withS (r.sh env1) fun d env2 => obSlot env2[i]? fun c fs mk => m.cls = c ∧ (G.fns k).pre (.ob c fs) [d] ∧
      (∀ r h, (G.fns k).post (.ob c fs) [d] r h → ∃ gs, h = .ob c gs ∧ r = .me ∧ D.nx (env2.set i (mk gs))) ∧ ∀ x p h, (G.fns k).exc (.ob c fs) [d] x p h → ∃ gs, h = .ob c gs ∧ D.ex x p (env2.set i (mk gs))) D.ex
  | .retMe, env, D => (match (env[0]? : Option Sl) with
    | some (Sl.ib _ _) => D.rt .me env
    | _ => False)
def wpSs : Ss → Env → Pst → Prop
  | .nil, env, D => D.nx env
  | .cons a r, env, D => wpS a env { D with nx := fun e => wpSs r e D }
end
end

/-! ### the check against the kit's trees -/
mutual
/-- what may stand as a test -/
def okT : P → Bool
  | .ife _ _ _ => false
  | .not a => okT a
  | .bop _ es => okTs es
  | _ => true
def okTs : Ps → Bool
  | .nil => true
  | .cons a r => okT a && okTs r
end
def okPo : Po → Bool
  | .none => true
  | .some a => okT a
def Tg.ix : Tg → List Nat
  | .nm i => [i]
  | .tp is => is
def notStar : Expr → Bool
  | .Starred .. => false
  | _ => true
def notSet : Expr → Bool
  | .Set .. => false
  | _ => true
def visB (sc : Scope) (x : Str) : Bool := match sc.names.lookup x with
  | some .local => true
  | some .cell => true
  | some .free => true
  | _ => false
def locB (sc : Scope) (x : Str) : Bool := match sc.names.lookup x with
  | some .local => true
  | some .cell => true
  | _ => false
def glB (sc : Scope) (x : Str) : Bool := decide (sc.names.lookup x = some .globalImplicit) && !(x == ("__debug__" : Str))
def varB (N : List Str) (sc : Scope) (i : Nat) (x : Str) : Bool := decide (N[i]? = some x) && visB sc x && !(x == ("__debug__" : Str)) && !(x == ("__classdict__" : Str))
def Bf.name : Bf → Str
  | .abs => "abs" | .int => "int" | .str => "str" | .all => "all" | .any => "any" | .tuple => "tuple" | .list => "list" | .max2 => "max" | .min2 => "min" | .bool => "bool"
def Bf.ar : Bf → Nat
  | .max2 => 2 | .min2 => 2 | _ => 1
def tyName : String → Bool
  | "int" => true | "bool" => true | "str" => true | "tuple" => true | "list" => true
  | _ => false
/-- a comprehension's scope as it runs -/
def blkSc (scope sc : Scope) : Scope := L2.relS scope sc
def tgB (N : List Str) (sc : Scope) : Tg → Expr → Bool
  | .nm i, e => (match e with
    | .Name x _ => decide (N[i]? = some x) && decide (sc.names.lookup x = some .local)
    | _ => false)
  | .tp is, e => (match e with
    | .Tuple es _ _ => namesB is es
    | _ => false)
where namesB : List Nat → List Expr → Bool
  | [], [] => true
  | i :: is, e :: es => (match e with
    | .Name x _ => decide (N[i]? = some x) && decide (sc.names.lookup x = some .local)
    | _ => false) && namesB is es
  | _, _ => false
/-- .. of a statement: local or cell -/
def nameB (N : List Str) (sc : Scope) (i : Nat) : Expr → Bool
  | .Name x _ => decide (N[i]? = some x) && locB sc x
  | _ => false
def namesB (N : List Str) (sc : Scope) : List Nat → List Expr → Bool
  | [], [] => true
  | i :: is, e :: es => nameB N sc i e && namesB N sc is es
  | _, _ => false
def ownB (N : List Str) (own : List Nat) : List (Str × Nat) := own.map fun i => (N.getD i Str.empty, i)
def mtB (f : Option MtI) (k : MtK) (x : Str) (L n : Nat) : Bool := match f with
  | some fi => decide (fi.name = x) && decide (fi.kind = k) && decide (fi.lev ≤ L) && decide (n = fi.pars.length)
  | none => false
def fnB (f : Option FnI) (k : HdK) (x : Str) (L n : Nat) : Bool := match f with
  | some fi => decide (fi.name = x) && decide (fi.hd = k) && decide (fi.lev ≤ L) && decide (n = fi.pars.length)
  | none => false
section
variable (G : GE) (N : List Str) (L : Nat)
mutual
def chkE : P → Scope → Expr → Bool
  | .var i, sc, e => (match e with
    | .Name x _ => varB N sc i x
    | _ => false)
  | .int i, _, e => (match e with
    | .Constant (.int j) _ _ => decide (i = j)
    | _ => false)
  | .bl i, _, e => (match e with
    | .Constant (.bool j) _ _ => decide (i = j)
    | _ => false)
  | .non, _, e => (match e with
    | .Constant .none _ _ => true
    | _ => false)
  | .str i, _, e => (match e with
    | .Constant (.str j) _ _ => decide (i = j)
    | _ => false)
  | .con k, sc, e => (match e with
    | .Name x _ => glB sc x && (match G.con k with
      | some (y, _) => decide (x = y)
      | none => false)
    | _ => false)
  | .bin op a b, sc, e => (match e with
    | .BinOp l o r _ => decide (op = o) && chkE a sc l && chkE b sc r
    | _ => false)
  | .neg a, sc, e => (match e with
    | .UnaryOp .USub l _ => chkE a sc l
    | _ => false)
  | .cmp op a b, sc, e => (match e with
    | .Compare l [o] [r] _ => decide (op = o) && chkE a sc l && chkE b sc r && notSet r
    | _ => false)
  | .chn op op' a b c, sc, e => (match e with
    | .Compare l [o, o'] [r, q] _ => decide (op = o) && decide (op' = o') && chkE a sc l && chkE b sc r && chkE c sc q && notSet r && notSet q
    | _ => false)
  | .bop k es, sc, e => (match e with
    | .BoolOp o vs _ => decide (o = if k then BoolOp.And else BoolOp.Or) && chkEs es sc vs
    | _ => false)
  | .not a, sc, e => (match e with
    | .UnaryOp .Not l _ => chkE a sc l
    | _ => false)
  | .ife t a b, sc, e => (match e with
    | .IfExp t' a' b' _ => okT t && chkE t sc t' && chkE a sc a' && chkE b sc b'
    | _ => false)
  | .tup es, sc, e => (match e with
    | .Tuple l _ _ => chkEs es sc l
    | _ => false)
  | .lst es, sc, e => (match e with
    | .List l _ => chkEs es sc l
    | _ => false)
  | .ix a i, sc, e => (match e with
    | .Subscript l r _ => chkE a sc l && chkE i sc r
    | _ => false)
  | .sl a lo hi, sc, e => (match e with
    | .Subscript l (.Slice x y none _) _ => chkE a sc l && chkPo lo sc x && chkPo hi sc y
    | _ => false)
  | .rev a, sc, e => (match e with
    | .Subscript l (.Slice none none (some (.UnaryOp .USub (.Constant (.int 1) _ _) _)) _) _ => chkE a sc l
    | _ => false)
  | .call k es, sc, e => (match e with
    | .Call (.Name x _) args [] _ => glB sc x && chkEs es sc args && fnB (G.fni k) .no x L args.length
    | _ => false)
  | .callIo k i es, sc, e => (match e with
    | .Call (.Name x _) (.Name y _ :: args) [] _ => glB sc x && varB N sc i y && chkEs es sc args && fnB (G.fni k) .io x L (args.length + 1)
    | _ => false)
  | .callSc k i es, sc, e => (match e with
    | .Call (.Name x _) (.Name y _ :: args) [] _ => glB sc x && varB N sc i y && chkEs es sc args && fnB (G.fni k) .sc x L (args.length + 1)
    | _ => false)
  | .blt f es, sc, e => (match e with
    | .Call (.Name x _) args [] _ => glB sc x && decide (x = f.name) && decide (args.length = f.ar) && chkEs es sc args
    | _ => false)
  | .len a, sc, e => (match e with
    | .Call (.Name x _) [l] [] _ => glB sc x && decide (x = ("len" : Str)) && notStar l && chkE a sc l
    | _ => false)
  | .isin a t, sc, e => (match e with
    | .Call (.Name x _) [l, .Name y _] [] _ => glB sc x && decide (x = ("isinstance" : Str)) && notStar l && chkE a sc l && glB sc y && decide (y = (t : Str)) && tyName t
    | _ => false)
  | .comp own w tg c elt, sc, e => (match e with
    | .ListComp el [⟨tge, iter, ifs, 0⟩] scope _ => chkW w sc tg tge iter && tgB N (blkSc scope sc) tg tge && (match ifs with
        | [] => chkPo c (blkSc scope sc) none
        | [x] => chkPo c (blkSc scope sc) (some x)
        | _ => false) && chkE elt (blkSc scope sc) el && L2.blkC N sc scope (ownB N own) && okPo c && tg.ix.all (fun i => own.contains i)
    | _ => false)
  | .pop i, sc, e => (match e with
    | .Call (.Attribute (.Name x _) m apos) [] [] cpos => varB N sc i x && decide (m = ("pop" : Str)) && (apos.endLine == cpos.line)
    | _ => false)
  | .fld i j f, sc, e => (match e with
    | .Attribute (.Name x _) y _ => varB N sc i x && decide (y = f)
    | _ => false)
  | .flen i j f, sc, e => (match e with
    | .Call (.Name z _) [.Attribute (.Name x _) y _] [] _ => glB sc z && decide (z = ("len" : Str)) && varB N sc i x && decide (y = f)
    | _ => false)
  | .femp i j f, sc, e => (match e with
    | .Compare (.Attribute (.Name x _) y _) [.Eq] [.List [] _] _ => varB N sc i x && decide (y = f)
    | _ => false)
  | .fpop i j f, sc, e => (match e with
    | .Call (.Attribute (.Attribute (.Name x _) y _) m apos) [] [] cpos => varB N sc i x && decide (y = f) && decide (m = ("pop" : Str)) && (apos.endLine == cpos.line)
    | _ => false)
  | .callM k i es, sc, e => (match e with
    | .Call (.Attribute (.Name x _) m apos) args [] cpos => varB N sc i x && chkEs es sc args && mtB (G.mti k) .meth m L (args.length + 1) && decide (args.length < 30) && (apos.endLine == cpos.line)
    | _ => false)
  | .prop k i, sc, e => (match e with
    | .Attribute (.Name x _) m _ => varB N sc i x && mtB (G.mti k) .prop m (L - 1) 1 && decide (1 ≤ L)
    | _ => false)
  | .callOb k c i es, sc, e => (match e with
    | .Call (.Name x _) (.Name y _ :: args) [] _ => glB sc x && varB N sc i y && chkEs es sc args && fnB (G.fni k) (.ob c) x L (args.length + 1)
    | _ => false)
  | .new k es, sc, e => (match e with
    | .Call (.Name x _) (e0 :: args) [] _ => glB sc x && chkEs es sc (e0 :: args) && mtB (G.mti k) .init x (L - 1) (args.length + 1 + 1) && decide (1 ≤ L)
    | _ => false)
  | .eqOb c i j, sc, e => (match e with
    | .Compare (.Name x _) [.Eq] [.Name y _] _ => varB N sc i x && varB N sc j y && (match G.eqs c with
      | some l => decide (l ≤ L)
      | none => false)
    | _ => false)
  | .dead, _, e => (match e with
    | .Slice .. => false
    | .Set .. => false
    | _ => true)
def chkEs : Ps → Scope → List Expr → Bool
  | .nil, _, [] => true
  | .cons a r, sc, e :: es => notStar e && chkE a sc e && chkEs r sc es
  | _, _, _ => false
def chkPo : Po → Scope → Option Expr → Bool
  | .none, _, none => true
  | .some a, sc, some e => chkE a sc e
  | _, _, _ => false
def chkW : Wk → Scope → Tg → Expr → Expr → Bool
  | .seq a, sc, _, _, e => chkE a sc e
  | .rng1 a, sc, _, _, e => (match e with
    | .Call (.Name x _) [l] [] _ => glB sc x && decide (x = ("range" : Str)) && notStar l && chkE a sc l
    | _ => false)
  | .rng2 a b, sc, _, _, e => (match e with
    | .Call (.Name x _) [l, r] [] _ => glB sc x && decide (x = ("range" : Str)) && notStar l && notStar r && chkE a sc l && chkE b sc r
    | _ => false)
  | .enum a, sc, tg, tge, e => (match tg, tge, e with
    | .tp _, .Tuple _ _ _, .Call (.Name x _) [l] [] _ => glB sc x && decide (x = ("enumerate" : Str)) && notStar l && chkE a sc l
    | _, _, _ => false)
  | .zip a b, sc, tg, tge, e => (match tg, tge, e with
    | .tp _, .Tuple _ _ _, .Call (.Name x _) [l, r] [] _ => glB sc x && decide (x = ("zip" : Str)) && notStar l && notStar r && chkE a sc l && chkE b sc r
    | _, _, _ => false)
end
def isLc : Expr → Bool
  | .ListComp .. => true
  | .SetComp .. => true
  | .DictComp .. => true
  | _ => false
/-- the names that a display's stores are swapped to; none: a look that the model leaves open -/
def swpD (sc : Scope) (ts vs : List Expr) : Option (Option (List Str)) :=
  if !(ts.length == 2 || ts.length == 3) || vs.length != ts.length then some none else
  if vs.any fun | .Starred .. => true | _ => false then some none else
  let line := (ts.head?.map (·.pos.line)).getD 0
  let names := ts.filterMap fun
    | .Name id pos => if sc.names.lookup id == some .local && pos.line == line then some id else none
    | _ => none
  if names.length != ts.length || names.eraseDups.length != names.length then some none else
  if vs.all (foldedForSure 8) then some none else
  if vs.all (constantsAlone 8) then none else
  some (some names)
def suB (N : List Str) (sc : Scope) : Su → Expr → Bool
  | .var i, .Name x _ => varB N sc i x
  | .bl b, .Constant (.bool c) _ _ => decide (b = c)
  | .int b, .Constant (.int c) _ _ => decide (b = c)
  | .str b, .Constant (.str c) _ _ => decide (b = c)
  | .non, .Constant .none _ _ => true
  | _, _ => false
def hsB (N : List Str) (sc : Scope) : List (Str × Su) → List ExceptHandler → Bool
  | [], [] => true
  | (x, s) :: r, .ExceptHandler (some (.Name y _)) none [.Return (some c) _] _ :: hs => decide (x = y) && glB sc y && suB N sc s c && hsB N sc r hs
  | _, _ => false
def asgB (sc : Scope) (i : Nat) (e : P) (st : Stmt) : Bool := match st with
    | .Assign [.Name x px] v pos => decide (N[i]? = some x) && (if isLc v then (match v with
        | .ListComp _ _ scope lpos => decide (sc.names.lookup x = some .local) && (px.line == lpos.line) && !(scope.names.any fun (n, k) => n == x && (k == .local || k == .cell))
        | _ => false) else locB sc x) && chkE G N L e sc v
    | _ => false
def chkAp (sc : Scope) (i : Nat) : List Nat → List Stmt → Option (List Stmt)
  | [], l => some l
  | j :: js, st :: l => (match st with
    | .Expr (.Call (.Attribute (.Subscript (.Name x _) (.Constant (.int n) _ _) _) m apos) [.Constant (.str _) _ _] [] cpos) _ =>
      if varB N sc i x && decide (n = (j : Int)) && decide (m = ("append" : Str)) && (apos.endLine == cpos.line) then chkAp sc i js l else none
    | _ => none)
  | _ :: _, [] => none
mutual
def chkS (sc : Scope) : S → Stmt → Bool
  | .asg i e, st => (match st with
    | .Assign [.Name x px] v pos => decide (N[i]? = some x) && (if isLc v then (match v with
        | .ListComp _ _ scope lpos => decide (sc.names.lookup x = some .local) && (px.line == lpos.line) && !(scope.names.any fun (n, k) => n == x && (k == .local || k == .cell))
        | _ => false) else locB sc x) && chkE G N L e sc v
    | _ => false)
  | .asgT is e, st => (match st with
    | .Assign [.Tuple ts _ _] v _ => namesB N sc is ts && chkE G N L e sc v && (match v with
      | .Tuple vs _ _ => decide (swpD sc ts vs = some none)
      | .ListComp .. => false
      | _ => true)
    | _ => false)
  | .par is es, st => (match st with
    | .Assign [.Tuple ts _ _] (.Tuple vs _ _) _ => namesB N sc is ts && chkEs G N L es sc vs && decide is.Nodup && (match swpD sc ts vs with
      | some (some names) => (match is with
        | [i, j] => decide (names.map some = [N[i]?, N[j]?])
        | [i, j, k] => decide (names.map some = [N[i]?, N[j]?, N[k]?])
        | _ => false)
      | _ => false)
    | _ => false)
  | .par2 i j a b, st => (match st with
    | .Assign [.Tuple ts _ _] (.Tuple vs _ _) _ => namesB N sc [i, j] ts && chkEs G N L (.cons a (.cons b .nil)) sc vs && decide (i ≠ j) && (match swpD sc ts vs with
      | some (some names) => decide (names.map some = [N[i]?, N[j]?])
      | _ => false)
    | _ => false)
  | .setIx i ix e, st => (match st with
    | .Assign [.Subscript (.Name x _) j _] v _ => varB N sc i x && chkE G N L ix sc j && chkE G N L e sc v && !(isLc v) && (match j with
      | .Slice .. => false
      | _ => true)
    | _ => false)
  | .app i e, st => (match st with
    | .Expr (.Call (.Attribute (.Name x _) m apos) [a] [] cpos) _ => varB N sc i x && decide (m = ("append" : Str)) && notStar a && chkE G N L e sc a && (apos.endLine == cpos.line)
    | _ => false)
  | .ite t a b, st => (match st with
    | .If c x y _ => okT t && chkE G N L t sc c && chkSs sc a x && chkSs sc b y
    | _ => false)
  | .whl t b, st => (match st with
    | .While c x [] _ => okT t && chkE G N L t sc c && chkSs sc b x
    | _ => false)
  | .for_ tg w b, st => (match st with
    | .For tge iter x [] _ => chkW G N L w sc tg tge iter && (match tg with
      | .nm i => nameB N sc i tge
      | .tp is => (match tge with
        | .Tuple es _ _ => namesB N sc is es
        | _ => false)) && chkSs sc b x
    | _ => false)
  | .ret e, st => (match st with
    | .Return (some v) _ => chkE G N L e sc v
    | _ => false)
  | .raise x, st => (match st with
    | .Raise (some (.Call (.Name y _) [.Constant (.str _) _ _] [] _)) none _ => decide (x = y) && glB sc y && G.excs.contains x
    | _ => false)
  | .brk, st => (match st with
    | .Break _ => true
    | _ => false)
  | .cont, st => (match st with
    | .Continue _ => true
    | _ => false)
  | .pass, st => (match st with
    | .Pass _ => true
    | _ => false)
  | .try_ b hs, st => (match st with
    | .Try x hds [] [] _ => chkSs sc b x && hsB N sc hs hds && !hs.isEmpty && hs.all (fun h => G.excs.contains h.1)
    | _ => false)
  | .xp e, st => (match st with
    | .Expr v _ => !(isLc v) && chkE G N L e sc v
    | _ => false)
  | .stF i j f e, st => (match st with
    | .Assign [.Attribute (.Name x _) y _] v _ => varB N sc i x && decide (y = f) && !(isLc v) && chkE G N L e sc v
    | _ => false)
  | .stL i j e, st => (match st with
    | .Assign [.Attribute (.Name x _) y _] v _ => varB N sc i x && decide (y = past) && !(isLc v) && chkE G N L e sc v
    | _ => false)
  | .appF i j f j2 f2, st => (match st with
    | .Expr (.Call (.Attribute (.Attribute (.Name x _) y _) m apos) [.Attribute (.Name x2 _) y2 _] [] cpos) _ => varB N sc i x && varB N sc i x2 && decide (y = f) && decide (y2 = f2) && decide (m = ("append" : Str)) && (apos.endLine == cpos.line)
    | _ => false)
  | .dead, _ => true
  | .iadd k i e, st => (match st with
    | .AugAssign (.Name x _) .Add v _ => decide (N[i]? = some x) && locB sc x && chkE G N L e sc v && mtB (G.mti k) .iadd "__iadd__" L 2
    | _ => false)
  | .retMe, st => (match st with
    | .Return (some (.Name x _)) _ => varB N sc 0 x
    | _ => false)
def chkSs (sc : Scope) : Ss → List Stmt → Bool
  | .nil, [] => true
  | .cons a r, s :: ss => chkS sc a s && chkSs sc r ss
  | _, _ => false
end
end
end Mp

set_option Elab.async false
set_option linter.all false
set_option maxRecDepth 100000
set_option maxHeartbeats 1000000
/-! Mp, part 3: what the owned lists and the slots do when something is stored. -/
namespace Mp
open PySem PySem.Spec PyProof.Rows L2
section
variable {F : Cf} {env : Env} {σ : St} {T : List (V × R)} {H H' : Hp} {O O' : List Addr}
/-- no alias waits on the stack -/
def NoB (T : List (V × R)) : Prop := ∀ t ∈ T, ∀ i, t.2 ≠ .b i
theorem NoB.nil : NoB [] := fun _ h => nomatch h
theorem NoB.cons {t : V × R} (h : ∀ i, t.2 ≠ .b i) (n : NoB T) : NoB (t :: T) := fun u hu => by
  rcases List.mem_cons.mp hu with rfl | hu
  · exact h
  · exact n u hu
theorem Good.pop2 {t u : V × R} (g : Good F env σ (t :: u :: T) H O) : Good F env σ (t :: T) H O := by
  have d := List.pairwise_cons.mp g.dtt
  refine ⟨g.len, g.oin, g.o0, g.h0, g.ion, g.keep, g.keep0, g.new, g.sl, fun x hx => ?_, g.dss, fun i s h1 h2 x hx h3 => ?_, List.pairwise_cons.mpr ⟨fun x hx => d.1 x (List.mem_cons_of_mem _ hx), (List.pairwise_cons.mp d.2).2⟩, g.one, g.sep.same (fun _ h => h) (fun i u e1 e2 => .sl e1 e2) fun x hx k => ?_, g.tb⟩
  · rcases List.mem_cons.mp hx with rfl | hx
    · exact g.tm _ List.mem_cons_self
    · exact g.tm x (List.mem_cons_of_mem _ (List.mem_cons_of_mem _ hx))
  · rcases List.mem_cons.mp hx with rfl | hx
    · exact g.dst i s h1 h2 _ List.mem_cons_self h3
    · exact g.dst i s h1 h2 x (List.mem_cons_of_mem _ (List.mem_cons_of_mem _ hx)) h3
  · rcases List.mem_cons.mp hx with rfl | hx
    · exact .tm List.mem_cons_self k
    · exact .tm (List.mem_cons_of_mem _ (List.mem_cons_of_mem _ hx)) k
theorem Good.pop3 {t u : V × R} : ∀ {S : List (V × R)}, Good F env σ (t :: (S ++ T)) H O → Good F env σ (t :: T) H O
  | [], g => g
  | s :: S, g => Good.pop3 (S := S) (t := t) (u := u) g.pop2
theorem TOk.sig {σ' : St} {t : V × R} (h : TOk F σ H O t) (n : ∀ i, t.2 ≠ .b i) : TOk F σ' H O t := by
  obtain ⟨v, r⟩ := t
  cases r with
  | v d => exact h
  | o ds => exact h
  | ob c fs => exact h
  | me => exact h
  | b i => exact absurd rfl (n i)
theorem set_get {α : Type} {l : List α} {i j : Nat} {x y : α} (h : (l.set i x)[j]? = some y) : (j = i ∧ y = x ∧ i < l.length) ∨ (j ≠ i ∧ l[j]? = some y) := by
  by_cases hj : j = i
  · subst hj
    have hl : j < l.length := by simpa using (List.getElem?_eq_some_iff.mp h).1
    rw [List.getElem?_set_self hl] at h
    exact .inl ⟨rfl, (Option.some.inj h).symm, hl⟩
  · rw [List.getElem?_set_ne (Ne.symm hj)] at h
    exact .inr ⟨hj, h⟩
theorem getD_set_ne {i j : Nat} {x : Option V} (h : j ≠ i) : ((σ.set i x)[j]?).getD none = (σ[j]?).getD none := by
  rw [List.getElem?_set_ne (Ne.symm h)]
theorem getD_set_self {i : Nat} {x : Option V} (h : i < σ.length) : ((σ.set i x)[i]?).getD none = x := by
  rw [List.getElem?_set_self h]; rfl
/-- a slot is forgotten; what it holds in truth does not matter -/
theorem Good.forget {i : Nat} {x : Option V} (g : Good F env σ T H O) (n : NoB T) : Good F (env.set i .no) (σ.set i x) T H O := by
  refine ⟨by simpa using g.len, g.oin, g.o0, g.h0, g.ion, g.keep, g.keep0, g.new, fun j s h => ?_, fun t ht => (g.tm t ht).sig (n t ht), fun j k s u hjk hj hs hk hu => ?_, fun j s hj hs t ht h3 => ?_, g.dtt, fun j s h hb => ?_, g.sep.same (fun _ h => h) (fun j u e1 e2 => ?_) fun t ht k => .tm ht k, g.tb⟩
  · rcases set_get h with ⟨_, rfl, _⟩ | ⟨hj, h⟩
    · trivial
    · rw [getD_set_ne hj]; exact g.sl j s h
  · rcases set_get hj with ⟨_, rfl, _⟩ | ⟨nj, hj⟩
    · cases hs
    · rcases set_get hk with ⟨_, rfl, _⟩ | ⟨nk, hk⟩
      · cases hu
      · rw [getD_set_ne nj, getD_set_ne nk]; exact g.dss j k s u hjk hj hs hk hu
  · rcases set_get hj with ⟨_, rfl, _⟩ | ⟨nj, hj⟩
    · cases hs
    · rw [getD_set_ne nj]; exact g.dst j s hj hs t ht h3
  · rcases set_get h with ⟨_, rfl, _⟩ | ⟨_, h⟩
    · cases hb
    · exact g.one j _ h hb
  · rcases set_get e1 with ⟨_, rfl, _⟩ | ⟨nj, e1⟩
    · cases e2
    · rw [getD_set_ne nj]; exact .sl e1 e2
/-- .. the slot's own value as it is -/
theorem Good.no {i : Nat} (g : Good F env σ T H O) : Good F (env.set i .no) σ T H O := by
  refine ⟨by simpa using g.len, g.oin, g.o0, g.h0, g.ion, g.keep, g.keep0, g.new, fun j s h => ?_, g.tm, fun j k s u hjk hj hs hk hu => ?_, fun j s hj hs t ht h3 => ?_, g.dtt, fun j s h hb => ?_, g.sep.same (fun _ h => h) (fun j u e1 e2 => ?_) fun t ht k => .tm ht k, g.tb⟩
  · rcases set_get h with ⟨_, rfl, _⟩ | ⟨hj, h⟩
    · trivial
    · exact g.sl j s h
  · rcases set_get hj with ⟨_, rfl, _⟩ | ⟨nj, hj⟩
    · cases hs
    · rcases set_get hk with ⟨_, rfl, _⟩ | ⟨nk, hk⟩
      · cases hu
      · exact g.dss j k s u hjk hj hs hk hu
  · rcases set_get hj with ⟨_, rfl, _⟩ | ⟨nj, hj⟩
    · cases hs
    · exact g.dst j s hj hs t ht h3
  · rcases set_get h with ⟨_, rfl, _⟩ | ⟨_, h⟩
    · cases hb
    · exact g.one j _ h hb
  · rcases set_get e1 with ⟨_, rfl, _⟩ | ⟨nj, e1⟩
    · cases e2
    · exact .sl e1 e2
/-- a value is stored -/
theorem Good.setV {i : Nat} {x : V} {d : PyData} (g : Good F env σ T H O) (n : NoB T) (h : Rep F.K (hid O H) x d) : Good F (env.set i (.v d)) (σ.set i (some x)) T H O := by
  refine ⟨by simpa using g.len, g.oin, g.o0, g.h0, g.ion, g.keep, g.keep0, g.new, fun j s hs => ?_, fun t ht => (g.tm t ht).sig (n t ht), fun j k s u hjk hj hs hk hu => ?_, fun j s hj hs t ht h3 => ?_, g.dtt, fun j s h hb => ?_, g.sep.same (fun _ h => h) (fun j u e1 e2 => ?_) fun t ht k => .tm ht k, g.tb⟩
  · rcases set_get hs with ⟨rfl, rfl, hl⟩ | ⟨hj, hs⟩
    · exact ⟨x, getD_set_self (by rw [← g.len]; exact hl), h⟩
    · rw [getD_set_ne hj]; exact g.sl j s hs
  · rcases set_get hj with ⟨_, rfl, _⟩ | ⟨nj, hj⟩
    · cases hs
    · rcases set_get hk with ⟨_, rfl, _⟩ | ⟨nk, hk⟩
      · cases hu
      · rw [getD_set_ne nj, getD_set_ne nk]; exact g.dss j k s u hjk hj hs hk hu
  · rcases set_get hj with ⟨_, rfl, _⟩ | ⟨nj, hj⟩
    · cases hs
    · rw [getD_set_ne nj]; exact g.dst j s hj hs t ht h3
  · rcases set_get h with ⟨_, rfl, _⟩ | ⟨_, h⟩
    · cases hb
    · exact g.one j _ h hb
  · rcases set_get e1 with ⟨_, rfl, _⟩ | ⟨nj, e1⟩
    · cases e2
    · rw [getD_set_ne nj]; exact .sl e1 e2
/-- an owned list is stored -/
theorem Good.setO {i : Nat} {x : V} {ds : List PyData} (g : Good F env σ ((x, .o ds) :: T) H O) (n : NoB T) : Good F (env.set i (.o ds)) (σ.set i (some x)) T H O := by
  obtain ⟨a, vs, rfl, h2, h3, h4, h5⟩ := g.tm _ List.mem_cons_self
  have d := List.pairwise_cons.mp g.dtt
  refine ⟨by simpa using g.len, g.oin, g.o0, g.h0, g.ion, g.keep, g.keep0, g.new, fun j s hs => ?_, fun t ht => (g.tm t (List.mem_cons_of_mem _ ht)).sig (n t ht), fun j k s u hjk hj hs hk hu => ?_, fun j s hj hs t ht h3 => ?_, d.2, fun j s h hb => ?_, g.sep.same (fun _ h => h) (fun j u e1 e2 => ?_) fun t ht k => .tm (List.mem_cons_of_mem _ ht) k, g.tb⟩
  · rcases set_get hs with ⟨rfl, rfl, hl⟩ | ⟨hj, hs⟩
    · exact ⟨a, vs, getD_set_self (by rw [← g.len]; exact hl), h2, h3, h4, h5⟩
    · rw [getD_set_ne hj]; exact g.sl j s hs
  · rcases set_get hj with ⟨rfl, rfl, hl⟩ | ⟨nj, hj'⟩
    · rcases set_get hk with ⟨rfl, _, _⟩ | ⟨nk, hk⟩
      · exact absurd rfl hjk
      · rw [getD_set_ne nk, getD_set_self (by rw [← g.len]; exact hl)]
        exact Ne.symm (g.dst k u hk hu _ List.mem_cons_self rfl)
    · rcases set_get hk with ⟨rfl, rfl, hl⟩ | ⟨nk, hk⟩
      · rw [getD_set_ne nj, getD_set_self (by rw [← g.len]; exact hl)]
        exact g.dst j s hj' hs _ List.mem_cons_self rfl
      · rw [getD_set_ne nj, getD_set_ne nk]; exact g.dss j k s u hjk hj' hs hk hu
  · rcases set_get hj with ⟨rfl, rfl, hl⟩ | ⟨nj, hj⟩
    · rw [getD_set_self (by rw [← g.len]; exact hl)]
      intro z
      exact d.1 t ht rfl h3 (Option.some.inj z)
    · rw [getD_set_ne nj]; exact g.dst j s hj hs t (List.mem_cons_of_mem _ ht) h3
  · rcases set_get h with ⟨_, rfl, _⟩ | ⟨_, h⟩
    · cases hb
    · exact g.one j _ h hb
  · rcases set_get e1 with ⟨rfl, rfl, hl⟩ | ⟨nj, e1⟩
    · rw [getD_set_self (by rw [← g.len]; exact hl)]; exact .tm List.mem_cons_self rfl
    · rw [getD_set_ne nj]; exact .sl e1 e2
/-- an owned object is stored -/
theorem Good.setOb {i : Nat} {x : V} {c : Nat} {fs : List Fd} (g : Good F env σ ((x, .ob c fs) :: T) H O) (n : NoB T) : Good F (env.set i (.ob c fs)) (σ.set i (some x)) T H O := by
  obtain ⟨a, rfl, h2, h3⟩ := g.tm _ List.mem_cons_self
  have d := List.pairwise_cons.mp g.dtt
  refine ⟨by simpa using g.len, g.oin, g.o0, g.h0, g.ion, g.keep, g.keep0, g.new, fun j s hs => ?_, fun t ht => (g.tm t (List.mem_cons_of_mem _ ht)).sig (n t ht), fun j k s u hjk hj hs hk hu => ?_, fun j s hj hs t ht h3 => ?_, d.2, fun j s h hb => ?_, g.sep.same (fun _ h => h) (fun j u e1 e2 => ?_) fun t ht k => .tm (List.mem_cons_of_mem _ ht) k, g.tb⟩
  · rcases set_get hs with ⟨rfl, rfl, hl⟩ | ⟨hj, hs⟩
    · exact ⟨a, getD_set_self (by rw [← g.len]; exact hl), h2, h3⟩
    · rw [getD_set_ne hj]; exact g.sl j s hs
  · rcases set_get hj with ⟨rfl, rfl, hl⟩ | ⟨nj, hj'⟩
    · rcases set_get hk with ⟨rfl, _, _⟩ | ⟨nk, hk⟩
      · exact absurd rfl hjk
      · rw [getD_set_ne nk, getD_set_self (by rw [← g.len]; exact hl)]
        exact Ne.symm (g.dst k u hk hu _ List.mem_cons_self rfl)
    · rcases set_get hk with ⟨rfl, rfl, hl⟩ | ⟨nk, hk⟩
      · rw [getD_set_ne nj, getD_set_self (by rw [← g.len]; exact hl)]
        exact g.dst j s hj' hs _ List.mem_cons_self rfl
      · rw [getD_set_ne nj, getD_set_ne nk]; exact g.dss j k s u hjk hj' hs hk hu
  · rcases set_get hj with ⟨rfl, rfl, hl⟩ | ⟨nj, hj⟩
    · rw [getD_set_self (by rw [← g.len]; exact hl)]
      intro z
      exact d.1 t ht rfl h3 (Option.some.inj z)
    · rw [getD_set_ne nj]; exact g.dst j s hj hs t (List.mem_cons_of_mem _ ht) h3
  · rcases set_get h with ⟨_, rfl, _⟩ | ⟨_, h⟩
    · cases hb
    · exact g.one j _ h hb
  · rcases set_get e1 with ⟨rfl, rfl, hl⟩ | ⟨nj, e1⟩
    · cases e2
    · rw [getD_set_ne nj]; exact .sl e1 e2
/-- no object in a slot leads to this list, nor does a list elsewhere -/
theorem Good.oth {i : Nat} {a : Addr} {s : Sl} (g : Good F env σ T H O) (hi : env[i]? = some s) (hs : isL s = true) (hb : isO s = true ∨ F.io = some a) (ha : (σ[i]?).getD none = some (.ref a)) (h0 : isO s = true → F.H0 a = none) :
    (∀ (j : Nat) u, j ≠ i → env[j]? = some u → ∀ b, b ∈ O → Foot H O ((σ[j]?).getD none) b → (isO u = true ∨ ∃ c, F.io = some c ∧ (σ[j]?).getD none = some (.ref c) ∧ isB u = true) → b ≠ a) ∧ ∀ t ∈ T, ∀ b, b ∈ O → Foot H O (some t.1) b → isRO t.2 = true → b ≠ a := by
  have fr : From env σ T H ((σ[i]?).getD none) := .sl hi hs
  have o0 : ∀ (j : Nat) u, env[j]? = some u → isO u = true → ∀ c, (σ[j]?).getD none = some (.ref c) → F.H0 c = none := fun j u hu ho c hc => by
    have z := g.sl j u hu
    cases u with
    | o ds => obtain ⟨b, vs, q1, _, _, q4, _⟩ := z; rw [hc] at q1; cases q1; exact q4
    | ob c' fs => obtain ⟨b, q1, q2, _⟩ := z; rw [hc] at q1; cases q1; exact q2
    | _ => cases ho
  have t0 : ∀ t ∈ T, isRO t.2 = true → ∀ c, t.1 = .ref c → F.H0 c = none := fun t ht ho c hc => by
    have z := g.tm t ht
    obtain ⟨v, r⟩ := t
    have hc : v = .ref c := hc
    subst hc
    cases r with
    | o ds => obtain ⟨b, vs, q1, _, _, q4, _⟩ := z; cases q1; exact q4
    | ob c' fs => obtain ⟨b, q1, q2, _⟩ := z; cases q1; exact q2
    | _ => cases ho
  refine ⟨fun j u hj hu b hbO f c => g.foot_ne fr ha (fun z => ?_) f, fun t ht b hbO f c => g.foot_ne fr ha (fun z => ?_) f⟩
  · rcases c with c | ⟨c, c1, c2, c3⟩
    · by_cases hO : isO s = true
      · exact g.dss j i u s hj hu c hi hO z
      · have e := hb.resolve_left hO
        exact g.io_ne (o0 j u hu c a (z.trans ha)) e
    · rcases hb with hO | e
      · rw [c2, ha] at z
        cases z
        exact g.io_ne (h0 hO) c1
      · cases s with
        | io ds => exact hj ((g.one j u hu c3).trans (g.one i _ hi rfl).symm)
        | o ds => exact g.io_ne (h0 rfl) e
        | _ => cases hs
  · by_cases hO : isO s = true
    · exact g.dst i s hi hO t ht c z.symm
    · have e := hb.resolve_left hO
      exact g.io_ne (t0 t ht c a (Option.some.inj (z.trans ha))) e
/-- an owned list, or the one handed in, is changed where it stands -/
theorem Good.change {i : Nat} {a : Addr} {ds : List PyData} {vs' : List V} {ds' : List PyData} {s s' : Sl} (g : Good F env σ T H O) (hi : env[i]? = some s) (hs : (s = .o ds ∧ s' = .o ds') ∨ (s = .io ds ∧ s' = .io ds')) (ha : (σ[i]?).getD none = some (.ref a))
    (r : Reps F.K (hid O H) vs' ds') : Good F (env.set i s') σ T (upd H a (.lst vs')) O := by
  have base : ∃ vs, H a = some (.lst vs) ∧ a ∈ O ∧ (F.H0 a = none ∨ F.io = some a) := by
    have := g.sl i s hi
    rcases hs with ⟨rfl, _⟩ | ⟨rfl, _⟩
    · obtain ⟨b, vs, h1, h2, h3, h4, _⟩ := this
      rw [ha] at h1; cases h1
      exact ⟨vs, h2, h3, .inl h4⟩
    · obtain ⟨b, vs, h1, h2, h3, h4, _⟩ := this
      rw [ha] at h1; cases h1
      exact ⟨vs, h3, h4, .inr h2⟩
  obtain ⟨vs, h2, h3, h4⟩ := base
  have eq : hid O (upd H a (.lst vs')) = hid O H := hid_upd h3
  have e : Sub (hid O H) (hid O (upd H a (.lst vs'))) := by rw [eq]; exact Sub.refl _
  have hil : i < env.length := (List.getElem?_eq_some_iff.mp hi).1
  have sL : isL s = true ∧ isL s' = true ∧ isO s' = isO s ∧ isB s' = isB s := by rcases hs with ⟨rfl, rfl⟩ | ⟨rfl, rfl⟩ <;> exact ⟨rfl, rfl, rfl, rfl⟩
  obtain ⟨oth, ott⟩ := g.oth hi sL.1 (by
    rcases hs with ⟨rfl, rfl⟩ | ⟨rfl, rfl⟩
    · exact .inl rfl
    · obtain ⟨b, ws, q1, q2, _⟩ := g.sl i _ hi
      rw [ha] at q1; cases q1
      exact .inr q2) ha (fun hO => by
    rcases hs with ⟨rfl, rfl⟩ | ⟨rfl, rfl⟩
    · obtain ⟨b, ws, q1, _, _, q4, _⟩ := g.sl i _ hi
      rw [ha] at q1; cases q1
      exact q4
    · cases hO)
  have condB : ∀ (j : Nat) u, env[j]? = some u → (isO u = true ∨ ∃ c, F.io = some c ∧ (σ[j]?).getD none = some (.ref c)) → u ≠ .no → (∀ d, u ≠ .v d) → (∀ d, u ≠ .sc d) → isO u = true ∨ ∃ c, F.io = some c ∧ (σ[j]?).getD none = some (.ref c) ∧ isB u = true := fun j u hu c n1 n2 n3 => by
    rcases c with c | ⟨c, c1, c2⟩
    · exact .inl c
    · cases u with
      | no => exact absurd rfl n1
      | v d => exact absurd rfl (n2 d)
      | sc d => exact absurd rfl (n3 d)
      | o d => exact .inl rfl
      | ob c d => exact .inl rfl
      | io d => exact .inr ⟨c, c1, c2, rfl⟩
      | ib c' d => exact .inr ⟨c, c1, c2, rfl⟩
  refine ⟨by simpa using g.len, fun b hb => ?_, g.o0, g.h0, g.ion, fun b u h n => ?_, fun b h => ?_, g.new, fun j u hu => ?_, fun t ht => ?_, fun j k s u hjk hj hs' hk hu => ?_, fun j u hj hu t ht h5 => ?_, g.dtt, fun j u h hb => ?_,
    g.sep.step (fun b hb => ?_) (fun b ws h => ?_) (fun l hl => .inl hl) (fun j u e1 e2 => ?_) fun t ht k => .tm ht k, g.tb.lst h2 fun _ h => h⟩
  · by_cases hb' : b = a
    · subst hb'; rw [upd_same]; simp
    · rw [upd_ne hb']; exact g.oin b hb
  · rw [upd_ne]
    · exact g.keep b u h n
    · rintro rfl
      rcases h4 with h4 | h4
      · rw [h4] at h; cases h
      · exact n (.inl h4)
  · by_cases hb' : b = a
    · subst hb'; rw [upd_same]; simp
    · rw [upd_ne hb']; exact g.keep0 b h
  · rcases set_get hu with ⟨rfl, rfl, _⟩ | ⟨hj, hu⟩
    · rcases hs with ⟨rfl, rfl⟩ | ⟨rfl, rfl⟩
      · obtain ⟨b, ws, q1, _, q3, q4, _⟩ := g.sl j _ hi
        rw [ha] at q1; cases q1
        exact ⟨_, vs', ha, upd_same, h3, q4, by rw [eq]; exact r⟩
      · obtain ⟨b, ws, q1, q2, _, _, _⟩ := g.sl j _ hi
        rw [ha] at q1; cases q1
        exact ⟨_, vs', ha, q2, upd_same, h3, by rw [eq]; exact r⟩
    · have old := g.sl j u hu
      have key : u ≠ .no → (∀ d, u ≠ .v d) → (∀ d, u ≠ .sc d) → SlOk F (upd H a (.lst vs')) O u ((σ[j]?).getD none) := fun n1 n2 n3 => old.mono e fun b hb f c _ => ⟨upd_ne (oth j u hj hu b hb f (condB j u hu c n1 n2 n3)), hb⟩
      cases u with
      | no => trivial
      | v d => obtain ⟨v, q1, q2⟩ := old; exact ⟨v, q1, q2.mono e⟩
      | sc ns => obtain ⟨b, q1, q2⟩ := old; exact ⟨b, q1, e.sqL q2⟩
      | _ => exact key (by simp) (by simp) (by simp)
  · exact (g.tm t ht).mono e fun b hb f c _ => ⟨upd_ne (ott t ht b hb f c), hb⟩
  · have back : ∀ (j : Nat) u, (env.set i s')[j]? = some u → isO u = true → ∃ u', env[j]? = some u' ∧ isO u' = true := fun j u hu ho => by
      rcases set_get hu with ⟨rfl, rfl, _⟩ | ⟨hj, hu⟩
      · exact ⟨_, hi, by rw [← sL.2.2.1]; exact ho⟩
      · exact ⟨u, hu, ho⟩
    obtain ⟨u1, a1, a2⟩ := back j s hj hs'
    obtain ⟨u2, b1, b2⟩ := back k u hk hu
    exact g.dss j k u1 u2 hjk a1 a2 b1 b2
  · rcases set_get hj with ⟨rfl, rfl, _⟩ | ⟨nj, hj⟩
    · exact g.dst j _ hi (by rw [← sL.2.2.1]; exact hu) t ht h5
    · exact g.dst j u hj hu t ht h5
  · rcases set_get h with ⟨rfl, rfl, _⟩ | ⟨_, h⟩
    · exact g.one j _ hi (by rw [← sL.2.2.2]; exact hb)
    · exact g.one j _ h hb
  · by_cases hb' : b = a
    · subst hb'
      exact .inr fun l => not_fld_lst upd_same
    · exact .inl ⟨hb, upd_ne hb'⟩
  · by_cases hb' : b = a
    · subst hb'; exact ⟨vs', upd_same⟩
    · exact ⟨ws, by rw [upd_ne hb']; exact h⟩
  · rcases set_get e1 with ⟨rfl, rfl, _⟩ | ⟨_, e1⟩
    · exact .sl hi sL.1
    · exact .sl e1 e2
end
end Mp

set_option Elab.async false
set_option linter.all false
set_option maxRecDepth 100000
set_option maxHeartbeats 1000000
/-! Mp, part 4: promises, contexts, readings; operators. -/
namespace Mp
open PySem PySem.Spec PyProof.Rows L2

/-! ### what a def promises -/
def Hdv.k : Hdv → HdK
  | .no => .no
  | .io _ => .io
  | .sc _ => .sc
  | .ob c _ => .ob c
def headOk (K : PySem.W.Frag) (cls : Cls) (H : Hp) (O : List Addr) (hv : Hdv) (vs : List V) (io : Option Addr) (rest : List V) : Prop := match hv with
  | .no => rest = vs ∧ io = none
  | .io ds => ∃ a ws, vs = .ref a :: rest ∧ io = some a ∧ H a = some (.lst ws) ∧ a ∈ O ∧ Reps K (hid O H) ws ds ∧ ∀ b ∈ O, ¬ fld H b a
  | .sc ns => ∃ a, vs = .ref a :: rest ∧ io = none ∧ SqL K (hid O H) a (ns.map V.int)
  | .ob c fs => ∃ a, vs = .ref a :: rest ∧ io = some a ∧ ObOk K cls H O (fun _ => True) a c fs
def resOk (K : PySem.W.Frag) (cls : Cls) (io : Option Addr) (H : Hp) (H' : Hp) (O' : List Addr) (v : V) (r : R) : Prop := match r with
  | .v d => Rep K (hid O' H') v d
  | .o ds => ∃ a vs, v = .ref a ∧ H' a = some (.lst vs) ∧ a ∈ O' ∧ H a = none ∧ Reps K (hid O' H') vs ds
  | .ob c fs => ∃ a, v = .ref a ∧ H a = none ∧ ObOk K cls H' O' (fun l => H l = none) a c fs
  | .me => ∃ a, io = some a ∧ v = .ref a
  | .b _ => False
structure Left (K : PySem.W.Frag) (cls : Cls) (io : Option Addr) (H : Hp) (O : List Addr) (H' : Hp) (O' : List Addr) (v : V) (r : R) (h : Hdv) : Prop where
  keep : ∀ b u, H b = some u → ¬ partOf cls.T io H O b → H' b = some u
  keep0 : ∀ b, H b ≠ none → H' b ≠ none
  sub : ∀ a ∈ O, a ∈ O'
  new : ∀ a ∈ O', a ∈ O ∨ H a = none
  oin : ∀ a ∈ O', H' a ≠ none
  res : resOk K cls io H H' O' v r
  sep : Sep H O [] [] [(v, r)] H' O'
  hd : ∀ xs, h = .io xs → ∃ a ws, io = some a ∧ H' a = some (.lst ws) ∧ Reps K (hid O' H') ws xs ∧ ∀ b ∈ O', ¬ fld H' b a
  ob : ∀ c fs, h = .ob c fs → ∃ a, io = some a ∧ ObOk K cls H' O' (fun l => H l = none ∨ fld H a l) a c fs
  tb : Tb cls.T H' O'
/-- the dict of an error with a field -/
def PayOk (H : Hp) (p : PyData) (d : Option Addr) : Prop := match p with
  | .none => d = none
  | .tuple [.str f, .int n] => ∃ a, d = some a ∧ H a = some (.xd [(f, .int n)])
  | _ => False
def prom (K : PySem.W.Frag) (cls : Cls) (mg : Str → Option Value) (k : HdK) (n : Nat) (s : FSpec) : Sp := fun vs H Q E => ∃ (hv : Hdv) (ds : List PyData) (O : List Addr) (io : Option Addr) (rest : List V),
  hv.k = k ∧ vs.length = n ∧ headOk K cls H O hv vs io rest ∧ Reps K (hid O H) rest ds ∧ (∀ a ∈ O, H a ≠ none) ∧ Sep H O [] [] [] H O ∧ Tb cls.T H O ∧ s.pre hv ds ∧
  (∀ r h v H' O', s.post hv ds r h → Left K cls io H O H' O' v r h → Q v H') ∧
  (∀ x p h C d H' O', s.exc hv ds x p h → mg x = some (.ref C) → PayOk H' p d → Left K cls io H O H' O' .non (.v .none) h → E (.ref C) d H')
def bltNames : List Str := ["len", "abs", "int", "str", "all", "any", "tuple", "list", "max", "min", "bool", "isinstance", "range", "enumerate", "zip"]
/-- what an own __eq__ promises -/
def eqSp (K : PySem.W.Frag) (cls : Cls) (c : Nat) (pre : List Fd → List Fd → Prop) (ef : List Fd → List Fd → Bool) : Sp := fun vs H Q _ => ∃ (a b : Addr) (fs gs : List Fd) (O : List Addr) (N N' : Addr → Prop), vs = [.ref a, .ref b] ∧ ObOk K cls H O N a c fs ∧ ObOk K cls H O N' b c gs ∧ pre fs gs ∧
  ∀ H', Sub H H' → Q (.bl (ef fs gs)) H'
/-- what is known of the module, for defs up to the level L -/
structure Kn (G : GE) (cls : Cls) (L : Nat) (P : Program) (w : World) (K : PySem.W.Frag) (mg : Str → Option Value) (base : Heap) : Prop where
  con : ∀ k x d, G.con k = some (x, d) → ∃ v u, mg x = some u ∧ RelV v u ∧ Rep K (fun _ => none) v d
  fn : ∀ k fi, G.fni k = some fi → fi.lev ≤ L → ∃ (f : Addr) (fd : FuncData), mg fi.name = some (.ref f) ∧ PySem.W.keepIn K (.ref f) = true ∧ Binds K fd fi.pars [] ∧ FnOk P w K mg base (L2.CX P w) fi.lev f fd fi.pars (prom K cls mg fi.hd fi.pars.length (G.fns k))
  exc : ∀ x, G.excs.contains x = true → ∃ (C : Addr) (bmB : List Value) (B newId initId : String), mg x = some (.ref C) ∧ ExcBaseFacts B newId initId bmB ∧ PySem.W.excIn K C bmB newId = true ∧ PySem.W.keepIn K (.ref C) = true ∧
    PySem.W.subIn K (.ref C) (.type "BaseException") = some true ∧ PySem.W.typeIn K (.ref C) = some (.type "type")
  exm : ∀ x y b, G.exm x y = some b → ∃ C C' : Addr, mg x = some (.ref C) ∧ mg y = some (.ref C') ∧ PySem.W.exmOne K (.ref C) (.ref C') = some b
  blt : ∀ x ∈ bltNames, mg x = none
  cl : ∀ c C names, cls c = some (C, names) → L2.Cls K C ∧ names = G.flds c ∧ names.Nodup ∧ names.length < 900 ∧ ∀ f ∈ names, NoAttr K C f
  eq : ∀ c l, G.eqs c = some l → l ≤ L → ∃ (C : Addr) (names : List Str) (f : Addr) (fd : FuncData) (ps : List Str), cls c = some (C, names) ∧ PySem.W.findIn K (.ref C) "__eq__" = some (some (.ref f)) ∧ PySem.W.isFn K (.ref f) = true ∧ Binds K fd ps [] ∧
    FnOk P w K mg base (L2.CX P w) l f fd ps (eqSp K cls c (G.eqp c) (G.eqf c))
  mt : ∀ k mi, G.mti k = some mi → mi.lev ≤ L → ∃ (C : Addr) (names : List Str) (f : Addr) (fd : FuncData), cls mi.cls = some (C, names) ∧ Binds K fd mi.pars [] ∧ FnOk P w K mg base (L2.CX P w) mi.lev f fd mi.pars (prom K cls mg (.ob mi.cls) mi.pars.length (G.fns k)) ∧
    (match mi.kind with
      | .meth => Meth K C mi.name f ∧ mi.name ∉ names
      | .prop => ∃ p, PropOf K C mi.name p f
      | .init => Mk K C f ∧ mg mi.name = some (.ref C)
      | .iadd => PySem.W.selfFirst K C = true ∧ PySem.W.findIn K (.ref C) "__iadd__" = some (some (.ref f)) ∧ PySem.W.isFn K (.ref f) = true)
theorem Kn.mono {G : GE} {cls : Cls} {L L' : Nat} {P : Program} {w : World} {K : PySem.W.Frag} {mg : Str → Option Value} {base : Heap} (h : Kn G cls L P w K mg base) (l : L' ≤ L) : Kn G cls L' P w K mg base :=
  ⟨h.con, fun k fi e q => h.fn k fi e (Nat.le_trans q l), h.exc, h.exm, h.blt, h.cl, fun c l' e q => h.eq c l' e (Nat.le_trans q l), fun k mi e q => h.mt k mi e (Nat.le_trans q l)⟩

/-! ### contexts -/
structure Ctx (G : GE) (F : Cf) (N : List Str) (L : Nat) (sc : Scope) (W : WX) (X : Cx) : Prop where
  N : X.N = N
  K : X.K = F.K
  scE : X.env.scope = sc
  calm : X.calm = true
  nd : X.N.Nodup
  room : Room L X.A
  tk : Takes X W
  kn : Kn G F.cls L X.prog X.w X.K X.mg X.base

/-! ### readings -/
section
variable (G : GE) (F : Cf) (mg : Str → Option Value) (W : WX)
def ExOk (E : EX) (σ : St) (T : List (V × R)) : Prop := ∀ x p C d env' H' O', mg x = some (.ref C) → PayOk H' p d → Good F env' σ T H' O' → E x p env' → W (.ref C) d σ H'
def rdE (p : P) : TE := fun σ H Q => ∃ (env : Env) (T : List (V × R)) (O : List Addr) (Qd : R → Env → Prop) (E : EX), Good F env σ T H O ∧ wpE G p env Qd E ∧ (∀ r v env' H' O', Good F env' σ ((v, r) :: T) H' O' → Qd r env' → Q v H') ∧ ExOk F mg W E σ T
def rdT (p : P) : TT := fun σ H Q => ∃ (env : Env) (T : List (V × R)) (O : List Addr) (Qd : Bool → Env → Prop) (E : EX), Good F env σ T H O ∧ wpE G p env (fun r e => asB r fun b => Qd b e) E ∧ (∀ b env' H' O', Good F env' σ T H' O' → Qd b env' → Q b H') ∧ ExOk F mg W E σ T
end
theorem _root_.L2.PE.imp {X : Cx} {e : Expr} {t t' : TE} (h : PE X e t) (i : ∀ σ H Q, t' σ H Q → t σ H Q) : PE X e t' := ⟨fun pins s σ H Q I q => h.run pins s σ H Q I (i σ H Q q)⟩
theorem _root_.L2.PT.imp {X : Cx} {e : Expr} {t t' : TT} (h : PT X e t) (i : ∀ σ H Q, t' σ H Q → t σ H Q) : PT X e t' := ⟨fun pins s σ H Q I q => h.run pins s σ H Q I (i σ H Q q)⟩
theorem _root_.L2.PA.imp {X : Cx} {e : List Expr} {t t' : TA} (h : PA X e t) (i : ∀ σ H Q, t' σ H Q → t σ H Q) : PA X e t' := ⟨fun pos pins s σ H Q I q => h.run pos pins s σ H Q I (i σ H Q q)⟩
theorem _root_.L2.PW.imp {X : Cx} {e : Expr} {t t' : TT} (h : PW X e t) (i : ∀ σ H Q, t' σ H Q → t σ H Q) : PW X e t' := ⟨fun wh pins s σ H Q I q => h.run wh pins s σ H Q I (i σ H Q q)⟩
theorem _root_.L2.PO.imp {X : Cx} {e : Option Expr} {t t' : TO} (h : PO X e t) (i : ∀ σ H Q, t' σ H Q → t σ H Q) : PO X e t' := ⟨fun pins s σ H Q I q => h.run pins s σ H Q I (i σ H Q q)⟩
theorem _root_.L2.PI.imp {X : Cx} {tg e : Expr} {t t' : TI} (h : PI X tg e t) (i : ∀ σ H Q, t' σ H Q → t σ H Q) : PI X tg e t' := ⟨fun pins s σ H Q I q => h.run pins s σ H Q I (i σ H Q q)⟩
theorem _root_.L2.PG.imp {X : Cx} {tg : Expr} {t t' : TG} (h : PG X tg t) (i : ∀ v σ H Q, t' v σ H Q → t v σ H Q) : PG X tg t' := ⟨fun pins s σ H v u Q I r q => h.run pins s σ H v u Q I r (i v σ H Q q)⟩
theorem _root_.L2.PS.imp {X : Cx} {st : Stmt} {t t' : TS} (h : PS X st t) (i : ∀ D σ H, t' D σ H → t D σ H) : PS X st t' := ⟨fun pins s σ H D I q => h.run pins s σ H D I (i D σ H q)⟩
theorem _root_.L2.PSs.imp {X : Cx} {st : List Stmt} {t t' : TS} (h : PSs X st t) (i : ∀ D σ H, t' D σ H → t D σ H) : PSs X st t' := ⟨fun pins s σ H D I q => h.run pins s σ H D I (i D σ H q)⟩

/-! ### what a result is in the heap -/
def RdV (K : PySem.W.Frag) (H : Hp) (O : List Addr) (v : V) (d : PyData) : Prop := Rep K (hid O H) v d ∨ ∃ a vs ds, v = .ref a ∧ d = .list ds ∧ H a = some (.lst vs) ∧ Reps K (hid O H) vs ds
def RdQ (K : PySem.W.Frag) (H : Hp) (O : List Addr) (v : V) (d : PyData) : Prop := RdV K H O v d ∨ ∃ a vs ds, v = .ref a ∧ d = .list ds ∧ SqL K H a vs ∧ Reps K (hid O H) vs ds
section
variable {K : PySem.W.Frag} {H : Hp} {O : List Addr} {v : V} {d : PyData}
theorem RdV.rep (h : RdV K H O v d) : Rep K H v d := by
  rcases h with h | ⟨a, vs, ds, rfl, rfl, h, r⟩
  · exact h.mono (hid_sub O H)
  · exact .lst h (r.mono (hid_sub O H))
theorem RdV.lst {ds : List PyData} (h : RdV K H O v (.list ds)) : ∃ a vs, v = .ref a ∧ H a = some (.lst vs) ∧ Reps K (hid O H) vs ds := by
  rcases h with h | ⟨a, vs, ds', rfl, e, h, r⟩
  · obtain ⟨a, vs, rfl, h, r⟩ := h.lst_inv
    exact ⟨a, vs, rfl, hid_sub O H _ _ h, r⟩
  · cases e
    exact ⟨a, vs, rfl, h, r⟩
theorem RdV.tup {ds : List PyData} (h : RdV K H O v (.tuple ds)) : ∃ a vs, v = .ref a ∧ SqT K H a vs ∧ SqT K (hid O H) a vs ∧ Reps K (hid O H) vs ds := by
  rcases h with h | ⟨a, vs, ds', rfl, e, h, r⟩
  · obtain ⟨a, vs, rfl, h, r⟩ := h.tup_inv
    exact ⟨a, vs, rfl, (hid_sub O H).sqT h, h, r⟩
  · cases e
theorem RdV.int {i : Int} (h : RdV K H O v (.int i)) : v = .int i := h.rep.int_inv
theorem RdV.bl {i : Bool} (h : RdV K H O v (.bool i)) : v = .bl i := h.rep.bl_inv
theorem RdV.str {i : Str} (h : RdV K H O v (.str i)) : v = .str i := h.rep.str_inv
theorem RdQ.lst {ds : List PyData} (h : RdQ K H O v (.list ds)) : ∃ a vs, v = .ref a ∧ SqL K H a vs ∧ Reps K (hid O H) vs ds := by
  rcases h with h | ⟨a, vs, ds', rfl, e, h, r⟩
  · obtain ⟨a, vs, rfl, h, r⟩ := h.lst
    exact ⟨a, vs, rfl, SqL.of h, r⟩
  · cases e
    exact ⟨a, vs, rfl, h, r⟩
theorem RdQ.nl (h : RdQ K H O v d) (n : ∀ ds, d ≠ .list ds) : RdV K H O v d := by
  rcases h with h | ⟨a, vs, ds', rfl, e, h, r⟩
  · exact h
  · exact absurd e (n _)
end
section
variable {F : Cf} {env : Env} {σ : St} {T : List (V × R)} {H : Hp} {O : List Addr}
theorem SlOk.rd {s : Sl} {x : V} {d : PyData} (h : SlOk F H O s (some x)) (hd : s.d = some d) : RdV F.K H O x d := by
  cases s with
  | no => cases hd
  | v e => obtain ⟨v, e1, r⟩ := h; cases e1; cases hd; exact .inl r
  | o ds => obtain ⟨a, vs, e1, h2, _, _, r⟩ := h; cases e1; cases hd; exact .inr ⟨a, vs, ds, rfl, rfl, h2, r⟩
  | io ds => obtain ⟨a, vs, e1, _, h2, _, r⟩ := h; cases e1; cases hd; exact .inr ⟨a, vs, ds, rfl, rfl, h2, r⟩
  | sc ns => cases hd
  | ob c fs => cases hd
  | ib c fs => cases hd
theorem Good.rd (g : Good F env σ T H O) {v : V} {r : R} {d : PyData} (ht : (v, r) ∈ T) (hd : r.d env = some d) : RdV F.K H O v d := by
  have t := g.tm _ ht
  cases r with
  | v e => cases hd; exact .inl t
  | o ds => obtain ⟨a, vs, e1, h2, _, _, q⟩ := t; cases hd; exact .inr ⟨a, vs, ds, e1, rfl, h2, q⟩
  | ob c fs => cases hd
  | me => cases hd
  | b i =>
    have t : σ[i]? = some (some v) := t
    simp only [R.d] at hd
    cases e : env[i]? with
    | none => rw [e] at hd; cases hd
    | some s =>
      rw [e] at hd
      have z := g.sl i s e
      rw [get_getD t] at z
      exact z.rd hd
theorem Good.rq (g : Good F env σ T H O) {v : V} {r : R} {d : PyData} (ht : (v, r) ∈ T) (hd : r.q env = some d) : RdQ F.K H O v d := by
  cases r with
  | v e => exact .inl (g.rd ht hd)
  | o ds => exact .inl (g.rd ht hd)
  | ob c fs => exact .inl (g.rd ht hd)
  | me => exact .inl (g.rd ht hd)
  | b i =>
    have t : σ[i]? = some (some v) := g.tm _ ht
    simp only [R.q] at hd
    cases e : env[i]? with
    | none => rw [e] at hd; cases hd
    | some s =>
      rw [e] at hd
      have z := g.sl i s e
      rw [get_getD t] at z
      cases s with
      | sc ns =>
        obtain ⟨a, e1, q⟩ := z
        cases e1
        cases hd
        exact .inr ⟨a, _, _, rfl, rfl, (hid_sub O H).sqL q, Reps.ints ns⟩
      | no => cases hd
      | v e => exact .inl (z.rd hd)
      | o ds => exact .inl (z.rd hd)
      | io ds => exact .inl (z.rd hd)
      | ob c fs => cases hd
      | ib c fs => cases hd
/-- the top of the stack is made a value -/
theorem Good.share {v : V} {r : R} {d : PyData} {env' : Env} (g : Good F env σ ((v, r) :: T) H O) (h : r.sh env = some (d, env')) : ∃ O', Good F env' σ ((v, .v d) :: T) H O' := by
  cases r with
  | v e => cases h; exact ⟨O, g⟩
  | o ds => cases h; exact g.shareT
  | ob c fs => cases h
  | me => cases h
  | b i =>
    have t : σ[i]? = some (some v) := g.tm _ List.mem_cons_self
    simp only [R.sh] at h
    cases e : env[i]? with
    | none => rw [e] at h; cases h
    | some s =>
      rw [e] at h
      cases s with
      | v e' =>
        cases h
        have z := g.sl i _ e
        rw [get_getD t] at z
        obtain ⟨w, e1, q⟩ := z
        cases e1
        exact ⟨O, g.pop.pushV q⟩
      | o ds =>
        cases h
        obtain ⟨O', g'⟩ := g.pop.shareS e
        have z := g'.sl i (.v (.list ds)) (List.getElem?_set_self (List.getElem?_eq_some_iff.mp e).1)
        rw [get_getD t] at z
        obtain ⟨w, e1, q⟩ := z
        cases e1
        exact ⟨O', g'.pushV q⟩
      | no => cases h
      | io ds => cases h
      | sc ns => cases h
      | ob c fs => cases h
      | ib c fs => cases h
end

/-! ### operators -/
theorem line_eq : line = sizeLine := by rw [sizeLine_eq]; rfl
section
variable {G : GE} {F : Cf} {N : List Str} {L : Nat} {sc : Scope} {W : WX} {X : Cx}
/-- two operands on the stack, an answer -/
def rBin (F : Cf) (op : PyData → PyData → (R → Prop) → Prop) : R2 := fun x y H Q => ∃ env σ T O rx ry d e Qr, Good F env σ ((y, ry) :: (x, rx) :: T) H O ∧ rx.d env = some d ∧ ry.d env = some e ∧ op d e Qr ∧ ∀ r v H' O', Good F env σ ((v, r) :: (y, ry) :: (x, rx) :: T) H' O' → Qr r → Q v H'
theorem CMul_of {i j : Int} (h : MulOk i j) : CMulW i j ∨ CMul i j := by
  rcases h with h | h | h
  · exact .inl h
  · exact .inr (.inl h)
  · exact .inr (.inr h)
theorem op_ok (C : Ctx G F N L sc W X) (op : Operator) : OpR X (binaryOp op) (rBin F (opB op)) := by
  intro pins s σ' H x y v u Q I rx ry h
  obtain ⟨env, σ, T, O, r1, r2, d, e, Qr, g, hd, he, ho, q⟩ := h
  have R1 := g.rd (List.mem_cons_of_mem _ List.mem_cons_self) hd
  have R2 := g.rd List.mem_cons_self he
  have g0 := g
  have K := C.K
  unfold opB at ho
  split at ho
  · obtain rfl := R1.int; obtain rfl := R2.int
    exact op_add pins s σ' H _ _ v u Q I rx ry ⟨_, _, rfl, rfl, q _ _ _ _ (g0.pushV (.int _)) ho⟩
  · obtain ⟨a, vs, rfl, h1, h2⟩ := R1.lst
    obtain ⟨b, ws, rfl, h3, h4⟩ := R2.lst
    refine op_cat pins s σ' H _ _ v u Q I rx ry ⟨a, b, vs, ws, rfl, rfl, h1, h3, ?_, fun p hp => q _ _ _ _ (g0.pushO hp (h2.append h4)) ho.2⟩
    rw [← line_eq, h2.length, h4.length]; exact ho.1
  · obtain ⟨a, vs, rfl, h1, h1', h2⟩ := R1.tup
    obtain ⟨b, ws, rfl, h3, h3', h4⟩ := R2.tup
    refine op_catA pins s σ' H _ _ v u Q I rx ry ⟨a, b, vs, ws, rfl, rfl, by rw [K]; exact h1, by rw [K]; exact h3, ?_, fun z => ?_, fun z z' => ?_, fun z z' p hp => ?_⟩
    · rw [← line_eq, h2.length, h4.length]; exact ho.1
    · have z2 := h2.nil_iff.mp z
      subst z2
      exact q _ _ _ _ (g0.pushV (.tup h3' h4)) ho.2
    · have z2 := h4.nil_iff.mp z'
      subst z2
      rw [List.append_nil] at ho
      exact q _ _ _ _ (g0.pushV (.tup h1' h2)) ho.2
    · exact q _ _ _ _ (g0.pushT hp (h2.append h4)) ho.2
  · obtain rfl := R1.str; obtain rfl := R2.str
    exact op_add_str pins s σ' H _ _ v u Q I rx ry ⟨_, _, rfl, rfl, by rw [← line_eq]; exact ho.1, q _ _ _ _ (g0.pushV (.str _)) ho.2⟩
  · obtain rfl := R1.int; obtain rfl := R2.int
    exact op_sub pins s σ' H _ _ v u Q I rx ry ⟨_, _, rfl, rfl, q _ _ _ _ (g0.pushV (.int _)) ho⟩
  · obtain rfl := R1.int; obtain rfl := R2.int
    have q' := q _ _ _ _ (g0.pushV (.int _)) ho.2
    rcases CMul_of ho.1 with c | c
    · exact op_mulW pins s σ' H _ _ v u Q I rx ry ⟨_, _, rfl, rfl, c, q'⟩
    · exact op_mul pins s σ' H _ _ v u Q I rx ry ⟨_, _, rfl, rfl, c, q'⟩
  · obtain ⟨a, vs, rfl, h1, h2⟩ := R1.lst
    obtain rfl := R2.int
    refine op_rep pins s σ' H _ _ v u Q I rx ry ⟨a, _, vs, rfl, rfl, h1, ho.1.1, ho.1.2.1, ?_, fun p hp => q _ _ _ _ (g0.pushO hp (h2.replicate _)) ho.2⟩
    rw [← line_eq, h2.length]; exact ho.1.2.2
  · obtain ⟨a, vs, rfl, h1, h1', h2⟩ := R1.tup
    obtain rfl := R2.int
    refine op_repT pins s σ' H _ _ v u Q I rx ry ⟨a, _, vs, rfl, rfl, by rw [K]; exact h1, fun z => ho.1.1 (h2.nil_iff.mp z), ho.1.2.1, ho.1.2.2.1, ?_, fun p hp => q _ _ _ _ (g0.pushT hp (h2.replicate _)) ho.2⟩
    rw [h2.length]; exact ho.1.2.2.2
  · obtain rfl := R1.int; obtain rfl := R2.int
    exact op_fdivW pins s σ' H _ _ v u Q I rx ry ⟨_, _, rfl, rfl, ho.1, q _ _ _ _ (g0.pushV (.int _)) ho.2⟩
  · obtain rfl := R1.int; obtain rfl := R2.int
    exact op_mod pins s σ' H _ _ v u Q I rx ry ⟨_, _, rfl, rfl, ho.1, q _ _ _ _ (g0.pushV (.int _)) ho.2⟩
  · obtain rfl := R1.int; obtain rfl := R2.int
    exact op_pow pins s σ' H _ _ v u Q I rx ry ⟨_, _, rfl, rfl, ho.1, q _ _ _ _ (g0.pushV (.int _)) ho.2⟩
  · exact ho.elim
theorem hu64 (C : Ctx G F N L sc W X) : X.A.units + 64 < cLine := C.room.units
theorem hu65 (C : Ctx G F N L sc W X) : X.A.units + 65 < cLine := by have := C.room.un; omega
def blP (op : PyData → PyData → (Bool → Prop) → Prop) : PyData → PyData → (R → Prop) → Prop := fun d e Q => op d e fun b => Q (.v (.bool b))
theorem Rep.isNon {K : PySem.W.Frag} {H : Hp} {v : V} {d : PyData} (h : Rep K H v d) : decide (v = .non) = isNone d := by
  cases h <;> rfl
theorem scal_of {K : PySem.W.Frag} {H : Hp} {v u : V} {d e : PyData} (h : Rep K H v d) (h' : Rep K H u e) (s : scalD d e = true) : scal v u = true ∧ decide (v = u) = PyData.eqv d e := by
  cases h <;> cases h' <;> first
    | (refine ⟨rfl, ?_⟩; simp only [PyData.eqv, dec_int, dec_bl, dec_str]; done)
    | (refine ⟨rfl, ?_⟩; simp [PyData.eqv]; done)
    | (exact absurd s Bool.false_ne_true)
theorem cmp_ok (C : Ctx G F N L sc W X) (op : CmpOp) : OpR X (compareOp op) (rBin F (blP (opC op))) := by
  intro pins s σ' H x y v u Q I rx ry h
  obtain ⟨env, σ, T, O, r1, r2, d, e, Qr, g, hd, he, ho, q⟩ := h
  have R1 := g.rd (List.mem_cons_of_mem _ List.mem_cons_self) hd
  have R2 := g.rd List.mem_cons_self he
  have g0 := g
  have K := C.K
  have fin : ∀ b, Qr (.v (.bool b)) → Q (.bl b) H := fun b h => q _ _ _ _ (g0.pushV (.bl b)) h
  unfold blP opC at ho
  split at ho
  · obtain ⟨o1, o2⟩ := ho
    rcases Bool.or_eq_true_iff.mp o1 with o1 | o1
    · obtain ⟨z1, z2⟩ := scal_of R1.rep R2.rep o1
      exact op_eq pins s σ' H _ _ v u Q I rx ry ⟨z1, by rw [z2]; exact fin _ o2⟩
    · obtain ⟨z1, z2⟩ := Bool.and_eq_true_iff.mp o1
      exact op_eqD (hu64 C) pins s σ' H _ _ v u Q I rx ry ⟨_, _, by rw [K]; exact R1.rep.dp, by rw [K]; exact R2.rep.dp, z1, z2, fin _ o2⟩
  · obtain ⟨o1, o2⟩ := ho
    rcases Bool.or_eq_true_iff.mp o1 with o1 | o1
    · obtain ⟨z1, z2⟩ := scal_of R1.rep R2.rep o1
      exact op_ne pins s σ' H _ _ v u Q I rx ry ⟨z1, by rw [z2]; exact fin _ o2⟩
    · obtain ⟨z1, z2⟩ := Bool.and_eq_true_iff.mp o1
      exact op_neD (hu64 C) pins s σ' H _ _ v u Q I rx ry ⟨_, _, by rw [K]; exact R1.rep.dp, by rw [K]; exact R2.rep.dp, z1, z2, fin _ o2⟩
  · obtain rfl := R1.int; obtain rfl := R2.int
    exact op_lt pins s σ' H _ _ v u Q I rx ry ⟨_, _, rfl, rfl, fin _ ho⟩
  · obtain rfl := R1.int; obtain rfl := R2.int
    exact op_le pins s σ' H _ _ v u Q I rx ry ⟨_, _, rfl, rfl, fin _ ho⟩
  · obtain rfl := R1.int; obtain rfl := R2.int
    exact op_gt pins s σ' H _ _ v u Q I rx ry ⟨_, _, rfl, rfl, fin _ ho⟩
  · obtain rfl := R1.int; obtain rfl := R2.int
    exact op_ge pins s σ' H _ _ v u Q I rx ry ⟨_, _, rfl, rfl, fin _ ho⟩
  · exact op_isN pins s σ' H _ _ v u Q I rx ry ⟨R2.rep.non_inv, by rw [R1.rep.isNon]; exact fin _ ho⟩
  · exact op_notN pins s σ' H _ _ v u Q I rx ry ⟨R2.rep.non_inv, by rw [R1.rep.isNon]; exact fin _ ho⟩
  · exact op_inD (hu65 C) pins s σ' H _ _ v u Q I rx ry ⟨_, _, by rw [K]; exact R1.rep.dp, by rw [K]; exact R2.rep.dp, ho.1.1, ho.1.2, fin _ ho.2⟩
  · obtain ⟨as, q1⟩ := Dp.reads I _ x v (by rw [K]; exact R1.rep.dp) rx
    obtain ⟨bs, q2⟩ := Dp.reads I _ y u (by rw [K]; exact R2.rep.dp) ry
    exact SeqAt.in_tuple_reads q2 q1 (SeqAt.canLay_of_shaped ho.1.2) (SeqAt.canLay_of_shaped ho.1.1) (room_in_shaped ho.1.1 (hu65 C)) ⟨.bl _, H, I, rfl, fin _ ho.2⟩
  · exact op_notInD (hu65 C) pins s σ' H _ _ v u Q I rx ry ⟨_, _, by rw [K]; exact R1.rep.dp, by rw [K]; exact R2.rep.dp, ho.1.1, ho.1.2, fin _ ho.2⟩
  · obtain ⟨as, q1⟩ := Dp.reads I _ x v (by rw [K]; exact R1.rep.dp) rx
    obtain ⟨bs, q2⟩ := Dp.reads I _ y u (by rw [K]; exact R2.rep.dp) ry
    exact SeqAt.notIn_tuple_reads q2 q1 (SeqAt.canLay_of_shaped ho.1.2) (SeqAt.canLay_of_shaped ho.1.1) (room_in_shaped ho.1.1 (hu65 C)) ⟨.bl _, H, I, rfl, fin _ ho.2⟩
  · exact ho.elim
end
end Mp

set_option Elab.async false
set_option linter.all false
set_option maxRecDepth 100000
set_option maxHeartbeats 1000000
/-! Mp, part 5: the rules of expressions. -/
namespace Mp
open PySem PySem.Spec PyProof.Rows L2
section
variable {G : GE} {F : Cf} {N : List Str} {L : Nat} {sc : Scope} {W : WX} {X : Cx}
variable {mg : Str → Option Value}
def Ps.len : Ps → Nat
  | .nil => 0
  | .cons _ r => r.len + 1
section
variable (G : GE) (F : Cf) (mg : Str → Option Value) (W : WX)
/-- arguments that are handed on -/
def rdEs (p : Ps) : TA := fun σ H Q => ∃ (env : Env) (T : List (V × R)) (O : List Addr) (Qd : List PyData → Env → Prop) (E : EX), Good F env σ T H O ∧ wpEs G p env Qd E ∧
  (∀ ds vs env' H' O', ds.length = p.len → Good F env' σ T H' O' → Reps F.K (hid O' H') vs ds → Qd ds env' → Q vs H') ∧ ExOk F mg W E σ T
/-- arguments that are read -/
def rdBs (p : Ps) : TA := fun σ H Q => ∃ (env : Env) (T : List (V × R)) (O : List Addr) (Qd : List PyData → Env → Prop) (E : EX), Good F env σ T H O ∧ wpBs G p env Qd E ∧
  (∀ ds vs env' H' O', Good F env' σ T H' O' → Paired (RdV F.K H' O') vs ds → Qd ds env' → Q vs H') ∧ ExOk F mg W E σ T
def rdBop (k : Bool) (p : Ps) : TE := fun σ H Q => ∃ (env : Env) (T : List (V × R)) (O : List Addr) (Qd : R → Env → Prop) (E : EX), Good F env σ T H O ∧ wpBop G k p env Qd E ∧
  (∀ r v env' H' O', Good F env' σ ((v, r) :: T) H' O' → Qd r env' → Q v H') ∧ ExOk F mg W E σ T
def rdBopT (k : Bool) (p : Ps) : TT := fun σ H Q => ∃ (env : Env) (T : List (V × R)) (O : List Addr) (Qd : Bool → Env → Prop) (E : EX), Good F env σ T H O ∧ wpBop G k p env (fun r e => asB r fun b => Qd b e) E ∧
  (∀ b env' H' O', Good F env' σ T H' O' → Qd b env' → Q b H') ∧ ExOk F mg W E σ T
def rdPo (p : Po) : TO := fun σ H Q => ∃ (env : Env) (T : List (V × R)) (O : List Addr) (Qd : Option Int → Env → Prop) (E : EX), Good F env σ T H O ∧ wpPo G p env Qd E ∧
  (∀ o env' H' O', Good F env' σ T H' O' → Qd o env' → Q o H') ∧ ExOk F mg W E σ T
def rdPc (p : Po) : TT := fun σ H Q => ∃ (env : Env) (T : List (V × R)) (O : List Addr) (Qd : Bool → Env → Prop) (E : EX), Good F env σ T H O ∧ wpPc G p env Qd E ∧
  (∀ b env' H' O', Good F env' σ T H' O' → Qd b env' → Q b H') ∧ ExOk F mg W E σ T
end
theorem ExOk.pop {E : EX} {σ : St} {T : List (V × R)} {t : V × R} (h : ExOk F mg W E σ T) : ExOk F mg W E σ (t :: T) := fun x p C d env' H' O' e pk g q => h x p C d env' H' O' e pk g.pop q
theorem asB_of {r : R} {Q : Bool → Prop} (h : asB r Q) : ∃ b, r = .v (.bool b) ∧ Q b := by
  unfold asB at h
  split at h
  · exact ⟨_, rfl, h⟩
  · exact h.elim
theorem asI_of {r : Option PyData} {Q : Int → Prop} (h : asI r Q) : ∃ b, r = some (.int b) ∧ Q b := by
  unfold asI at h
  split at h
  · exact ⟨_, rfl, h⟩
  · exact h.elim
theorem withD_of {r : Option PyData} {Q : PyData → Prop} (h : withD r Q) : ∃ b, r = some b ∧ Q b := by
  unfold withD at h
  split at h
  · exact ⟨_, rfl, h⟩
  · exact h.elim
theorem withS_of {r : Option (PyData × Env)} {Q : PyData → Env → Prop} (h : withS r Q) : ∃ d e, r = some (d, e) ∧ Q d e := by
  unfold withS at h
  split at h
  · exact ⟨_, _, rfl, h⟩
  · exact h.elim
theorem Good.topB {env : Env} {σ : St} {T : List (V × R)} {H : Hp} {O : List Addr} {v : V} {b : Bool} (g : Good F env σ ((v, .v (.bool b)) :: T) H O) : v = .bl b :=
  Rep.bl_inv (g.tm _ List.mem_cons_self)

/-! ### names and constants -/
theorem vis_of {sc : Scope} {x : Str} (h : visB sc x = true) : Vis sc x := by
  unfold visB at h
  split at h
  · exact .inl ‹_›
  · exact .inr (.inl ‹_›)
  · exact .inr (.inr ‹_›)
  · cases h
theorem ne_of_bnot {x y : Str} (h : (!(x == y)) = true) : (x == y) = false := by simpa using h
theorem gl_of (C : Ctx G F N L sc W X) {x : Str} (h : glB sc x = true) : Gl X x ∧ (x == ("__debug__" : Str)) = false := by
  unfold glB at h
  obtain ⟨h1, h2⟩ := Bool.and_eq_true_iff.mp h
  refine ⟨?_, ne_of_bnot h2⟩
  show X.env.scope.names.lookup x = _
  rw [C.scE]
  exact of_decide_eq_true h1
theorem snd_var (C : Ctx G F N L sc W X) {i : Nat} {x : Str} {pos : Pos} (h : varB N sc i x = true) : PE X (.Name x pos) (rdE G F X.mg W (.var i)) := by
  unfold varB at h
  simp only [Bool.and_eq_true, decide_eq_true_eq] at h
  obtain ⟨⟨⟨h1, h2⟩, h3⟩, h4⟩ := h
  refine (pe_var (i := i) (by rw [C.N]; exact h1) (by rw [C.scE]; exact vis_of h2) (ne_of_bnot h3) (ne_of_bnot h4)).imp fun σ H Q ⟨env, T, O, Qd, E, g, w, q, ex⟩ => ?_
  simp only [wpE] at w
  cases e : env[i]? with
  | none => rw [e] at w; exact w.elim
  | some s =>
    rw [e] at w
    have z := g.sl i s e
    cases s with
    | no => exact w.elim
    | v d =>
      obtain ⟨v, h1, h2⟩ := z
      exact ⟨v, getD_get h1, q _ _ _ _ _ (g.pushV h2) w⟩
    | o ds =>
      obtain ⟨a, vs, h1, _⟩ := z
      exact ⟨_, getD_get h1, q _ _ _ _ _ (g.pushB (getD_get h1)) w⟩
    | io ds =>
      obtain ⟨a, vs, h1, _⟩ := z
      exact ⟨_, getD_get h1, q _ _ _ _ _ (g.pushB (getD_get h1)) w⟩
    | sc ns =>
      obtain ⟨a, h1, _⟩ := z
      exact ⟨_, getD_get h1, q _ _ _ _ _ (g.pushB (getD_get h1)) w⟩
    | ob c fs => exact w.elim
    | ib c fs => exact w.elim
theorem snd_int (C : Ctx G F N L sc W X) {i : Int} {j : Nat} {pos : Pos} : PE X (.Constant (.int i) j pos) (rdE G F X.mg W (.int i)) :=
  pe_int.imp fun σ H Q ⟨env, T, O, Qd, E, g, w, q, ex⟩ => q _ _ _ _ _ (g.pushV (.int i)) w
theorem snd_bl (C : Ctx G F N L sc W X) {i : Bool} {j : Nat} {pos : Pos} : PE X (.Constant (.bool i) j pos) (rdE G F X.mg W (.bl i)) :=
  pe_bl.imp fun σ H Q ⟨env, T, O, Qd, E, g, w, q, ex⟩ => q _ _ _ _ _ (g.pushV (.bl i)) w
theorem snd_non (C : Ctx G F N L sc W X) {j : Nat} {pos : Pos} : PE X (.Constant .none j pos) (rdE G F X.mg W .non) :=
  pe_non.imp fun σ H Q ⟨env, T, O, Qd, E, g, w, q, ex⟩ => q _ _ _ _ _ (g.pushV .non) w
theorem snd_str (C : Ctx G F N L sc W X) {i : Str} {j : Nat} {pos : Pos} : PE X (.Constant (.str i) j pos) (rdE G F X.mg W (.str i)) :=
  pe_str.imp fun σ H Q ⟨env, T, O, Qd, E, g, w, q, ex⟩ => q _ _ _ _ _ (g.pushV (.str i)) w
theorem snd_con (C : Ctx G F N L sc W X) {k : Nat} {x : Str} {d : PyData} {pos : Pos} (hk : G.con k = some (x, d)) (h : glB sc x = true) : PE X (.Name x pos) (rdE G F X.mg W (.con k)) := by
  obtain ⟨g1, g2⟩ := gl_of C h
  obtain ⟨v, u, m, r, rp⟩ := C.kn.con k x d hk
  refine (pe_glob g1 m r g2).imp fun σ H Q ⟨env, T, O, Qd, E, g, w, q, ex⟩ => ?_
  simp only [wpE, hk] at w
  rw [C.K] at rp
  exact q _ _ _ _ _ (g.pushV (rp.mono fun a o z => by cases z)) w

/-! ### operators -/
section
variable {a b c : Expr} {p p' p'' : P} {pos : Pos}
theorem tOp_of {op : PyData → PyData → (R → Prop) → Prop} {σ : St} {H : Hp} {Q : VK} {env : Env} {T : List (V × R)} {O : List Addr} {Qd : R → Env → Prop} {E : EX} (g : Good F env σ T H O)
    (w : wpE G p env (fun x env1 => wpE G p' env1 (fun y env2 => withD (x.d env2) fun d => withD (y.d env2) fun e => op d e fun r => Qd r env2) E) E)
    (q : ∀ r v env' H' O', Good F env' σ ((v, r) :: T) H' O' → Qd r env' → Q v H') (ex : ExOk F mg W E σ T) : tOp (rBin F op) (rdE G F mg W p) (rdE G F mg W p') σ H Q := by
  refine ⟨env, T, O, _, E, g, w, fun r v env' H' O' g' w' => ?_, ex⟩
  refine ⟨env', _, O', _, E, g', w', fun r2 v2 env2 H2 O2 g2 w2 => ?_, ex.pop⟩
  obtain ⟨d, hd, w2⟩ := withD_of w2
  obtain ⟨e, he, w2⟩ := withD_of w2
  exact ⟨env2, σ, T, O2, r, r2, d, e, _, g2, hd, he, w2, fun r v H' O' g3 w3 => q _ _ _ _ _ g3.pop2.pop2 w3⟩
theorem snd_bin (C : Ctx G F N L sc W X) {op : Operator} (ha : PE X a (rdE G F X.mg W p)) (hb : PE X b (rdE G F X.mg W p')) : PE X (.BinOp a op b pos) (rdE G F X.mg W (.bin op p p')) :=
  (pe_op (op_ok C op) ha hb).imp fun σ H Q ⟨env, T, O, Qd, E, g, w, q, ex⟩ => by
    simp only [wpE] at w
    exact tOp_of g w q ex
theorem snd_neg (C : Ctx G F N L sc W X) (ha : PE X a (rdE G F X.mg W p)) : PE X (.UnaryOp .USub a pos) (rdE G F X.mg W (.neg p)) :=
  (pe_un un_neg ha).imp fun σ H Q ⟨env, T, O, Qd, E, g, w, q, ex⟩ => by
    simp only [wpE] at w
    refine ⟨env, T, O, _, E, g, w, fun r v env' H' O' g' w' => ?_, ex⟩
    obtain ⟨i, hi, w'⟩ := asI_of w'
    have := (g'.rd List.mem_cons_self hi).int
    subst this
    exact ⟨i, rfl, q _ _ _ _ _ (g'.pop.pushV (.int _)) w'⟩
theorem snd_cmp (C : Ctx G F N L sc W X) {op : CmpOp} (ha : PE X a (rdE G F X.mg W p)) (hb : PE X b (rdE G F X.mg W p')) (hm : behindInMarks op b = false) : PE X (.Compare a [op] [b] pos) (rdE G F X.mg W (.cmp op p p')) :=
  (pe_cmpR (cmp_ok C op) ha hb hm).imp fun σ H Q ⟨env, T, O, Qd, E, g, w, q, ex⟩ => by
    simp only [wpE] at w
    exact tOp_of (op := blP (opC op)) g w q ex
theorem snd_cmpT (C : Ctx G F N L sc W X) {op : CmpOp} (ha : PE X a (rdE G F X.mg W p)) (hb : PE X b (rdE G F X.mg W p')) (hm : behindInMarks op b = false) : PT X (.Compare a [op] [b] pos) (rdT G F X.mg W (.cmp op p p')) :=
  (pt_cmpR (cmp_ok C op) ha hb hm).imp fun σ H Q ⟨env, T, O, Qd, E, g, w, q, ex⟩ => by
    simp only [wpE] at w
    refine tOp_of (op := blP (opC op)) (Qd := fun r e => asB r fun b => Qd b e) g w (fun r v env' H' O' g' w' => ?_) ex
    obtain ⟨b, hz, w''⟩ := asB_of w'
    subst hz
    have w' := w''
    exact ⟨b, g'.topB, q _ _ _ _ g'.pop w'⟩
theorem chn_of {op op' : CmpOp} {σ : St} {H : Hp} {Q : VK} {env : Env} {T : List (V × R)} {O : List Addr} {Qd : R → Env → Prop} {E : EX} (g : Good F env σ T H O) (w : wpE G (.chn op op' p p' p'') env Qd E)
    (q : ∀ r v env' H' O', Good F env' σ ((v, r) :: T) H' O' → Qd r env' → Q v H') (ex : ExOk F mg W E σ T) :
    tChain (rBin F (blP (opC op))) (rBin F (blP (opC op'))) (rdE G F mg W p) (rdE G F mg W p') (rdE G F mg W p'') σ H Q := by
  simp only [wpE] at w
  refine ⟨env, T, O, _, E, g, w, fun r v env' H' O' g' w' => ?_, ex⟩
  refine ⟨env', _, O', _, E, g', w', fun r2 v2 env2 H2 O2 g2 w2 => ?_, ex.pop⟩
  obtain ⟨d, hd, w2⟩ := withD_of w2
  obtain ⟨e, he, w2⟩ := withD_of w2
  refine ⟨env2, σ, T, O2, r, r2, d, e, fun z => asB z fun k => if k = true then wpE G p'' env2 (fun z env3 => withD (r2.d env3) fun e' => withD (z.d env3) fun g => opC op' e' g fun r' => Qd (.v (.bool r')) env3) E else Qd (.v (.bool false)) env2, g2, hd, he, w2, fun z vz H3 O3 g3 w3 => ?_⟩
  obtain ⟨k, hz, w4⟩ := asB_of w3
  subst hz
  clear w3
  refine ⟨k, g3.topB, ?_⟩
  cases k with
  | false =>
    rw [if_neg Bool.false_ne_true] at w4 ⊢
    have := g3.topB
    subst this
    exact q _ _ _ _ _ g3.pop2.pop2 w4
  | true =>
    rw [if_pos rfl] at w4 ⊢
    refine ⟨env2, _, O3, _, E, g3.pop, w4, fun r4 v4 env4 H4 O4 g4 w4 => ?_, ex.pop.pop⟩
    obtain ⟨e', he', w4⟩ := withD_of w4
    obtain ⟨f', hf', w4⟩ := withD_of w4
    exact ⟨env4, σ, _, O4, r2, r4, e', f', _, g4, he', hf', (show blP (opC op') e' f' (fun r' => match r' with | .v (.bool x) => Qd (.v (.bool x)) env4 | _ => False) from w4), fun r5 v5 H5 O5 g5 w5 => by
      refine q _ _ _ _ _ g5.pop2.pop2.pop2 (?_ : Qd r5 env4)
      split at w5
      · exact w5
      · exact w5.elim⟩
theorem snd_chn (C : Ctx G F N L sc W X) {op op' : CmpOp} (ha : PE X a (rdE G F X.mg W p)) (hb : PE X b (rdE G F X.mg W p')) (hc : PE X c (rdE G F X.mg W p'')) (hm : lastMarks [op, op'] [b, c] = false) :
    PE X (.Compare a [op, op'] [b, c] pos) (rdE G F X.mg W (.chn op op' p p' p'')) :=
  (pe_chain (cmp_ok C op) (cmp_ok C op') ha hb hc hm).imp fun σ H Q ⟨env, T, O, Qd, E, g, w, q, ex⟩ => chn_of g w q ex
theorem snd_chnT (C : Ctx G F N L sc W X) {op op' : CmpOp} (ha : PE X a (rdE G F X.mg W p)) (hb : PE X b (rdE G F X.mg W p')) (hc : PE X c (rdE G F X.mg W p'')) (hm : lastMarks [op, op'] [b, c] = false) :
    PT X (.Compare a [op, op'] [b, c] pos) (rdT G F X.mg W (.chn op op' p p' p'')) :=
  (pt_chain (cmp_ok C op) (cmp_ok C op') ha hb hc hm).imp fun σ H Q ⟨env, T, O, Qd, E, g, w, q, ex⟩ => chn_of g w (fun r v env' H' O' g' w' => by
    obtain ⟨b, hz, w''⟩ := asB_of w'
    subst hz
    have w' := w''
    exact ⟨b, g'.topB, q _ _ _ _ g'.pop w'⟩) ex
/-- an expression of a truth value, as a test -/
theorem snd_val (he : PE X a (rdE G F X.mg W p)) (hp : ∀ whole, isTrue a X.env whole = (do let v ← whole; standAt a.pos; holding [v] (truthy v))) : PT X a (rdT G F X.mg W p) :=
  (pt_val he hp).imp fun σ H Q ⟨env, T, O, Qd, E, g, w, q, ex⟩ => ⟨env, T, O, _, E, g, w, fun r v env' H' O' g' w' => by
    obtain ⟨b, hz, w''⟩ := asB_of w'
    subst hz
    have w' := w''
    exact ⟨b, g'.topB, q _ _ _ _ g'.pop w'⟩, ex⟩
theorem snd_not (ha : PE X a (rdE G F X.mg W p)) : PE X (.UnaryOp .Not a pos) (rdE G F X.mg W (.not p)) :=
  (pe_not ha).imp fun σ H Q ⟨env, T, O, Qd, E, g, w, q, ex⟩ => by
    simp only [wpE] at w
    refine ⟨env, T, O, _, E, g, w, fun r v env' H' O' g' w' => ?_, ex⟩
    obtain ⟨b, hz, w''⟩ := asB_of w'
    subst hz
    have w' := w''
    exact ⟨b, g'.topB, q _ _ _ _ _ (g'.pop.pushV (.bl _)) w'⟩
theorem snd_notT (ha : PT X a (rdT G F X.mg W p)) : PT X (.UnaryOp .Not a pos) (rdT G F X.mg W (.not p)) :=
  (pt_not ha).imp fun σ H Q ⟨env, T, O, Qd, E, g, w, q, ex⟩ => by
    simp only [wpE] at w
    exact ⟨env, T, O, _, E, g, w, fun b env' H' O' g' w' => q _ _ _ _ g' w', ex⟩
theorem snd_ife {t : Expr} {pt : P} (ht : PT X t (rdT G F X.mg W pt)) (ha : PE X a (rdE G F X.mg W p)) (hb : PE X b (rdE G F X.mg W p')) : PE X (.IfExp t a b pos) (rdE G F X.mg W (.ife pt p p')) :=
  (pe_ifExp ht ha hb).imp fun σ H Q ⟨env, T, O, Qd, E, g, w, q, ex⟩ => by
    simp only [wpE] at w
    refine ⟨env, T, O, _, E, g, w, fun k env' H' O' g' w' => ?_, ex⟩
    cases k with
    | true => rw [if_pos rfl] at w' ⊢; exact ⟨env', T, O', _, E, g', w', q, ex⟩
    | false => rw [if_neg Bool.false_ne_true] at w' ⊢; exact ⟨env', T, O', _, E, g', w', q, ex⟩
/-! ### and, or -/
theorem snd_bop1 {k : Bool} {op : BoolOp} (ha : PE X a (rdE G F X.mg W p)) : PE X (.BoolOp op [a] pos) (rdBop G F X.mg W k (.cons p .nil)) :=
  (pe_one ha).imp fun σ H Q ⟨env, T, O, Qd, E, g, w, q, ex⟩ => ⟨env, T, O, Qd, E, g, by simpa only [wpBop] using w, q, ex⟩
theorem snd_bopA {rest : List Expr} {r : Ps} (ha : PE X a (rdE G F X.mg W p)) (hb : PE X (.BoolOp .And (b :: rest) pos) (rdBop G F X.mg W true (.cons p' r))) :
    PE X (.BoolOp .And (a :: b :: rest) pos) (rdBop G F X.mg W true (.cons p (.cons p' r))) :=
  (pe_and ha hb).imp fun σ H Q ⟨env, T, O, Qd, E, g, w, q, ex⟩ => by
    simp only [wpBop] at w
    refine ⟨env, T, O, _, E, g, w, fun x v env' H' O' g' w' => ?_, ex⟩
    obtain ⟨c, hz, w''⟩ := asB_of w'
    subst hz
    have w' := w''
    refine ⟨c, g'.topB, ?_⟩
    cases c with
    | true => rw [if_pos rfl] at w' ⊢; exact ⟨env', T, O', _, E, g'.pop, w', q, ex⟩
    | false =>
      rw [if_neg Bool.false_ne_true] at w' ⊢
      exact q _ _ _ _ _ (g'.pop.pushV (.bl _)) w'
theorem snd_bopO {rest : List Expr} {r : Ps} (ha : PE X a (rdE G F X.mg W p)) (hb : PE X (.BoolOp .Or (b :: rest) pos) (rdBop G F X.mg W false (.cons p' r))) :
    PE X (.BoolOp .Or (a :: b :: rest) pos) (rdBop G F X.mg W false (.cons p (.cons p' r))) :=
  (pe_or ha hb).imp fun σ H Q ⟨env, T, O, Qd, E, g, w, q, ex⟩ => by
    simp only [wpBop] at w
    refine ⟨env, T, O, _, E, g, w, fun x v env' H' O' g' w' => ?_, ex⟩
    obtain ⟨c, hz, w''⟩ := asB_of w'
    subst hz
    have w' := w''
    refine ⟨c, g'.topB, ?_⟩
    cases c with
    | true =>
      rw [if_neg (by decide)] at w'
      rw [if_pos rfl]
      exact q _ _ _ _ _ (g'.pop.pushV (.bl _)) w'
    | false =>
      rw [if_pos rfl] at w'
      rw [if_neg Bool.false_ne_true]
      exact ⟨env', T, O', _, E, g'.pop, w', q, ex⟩
theorem snd_bop1AT (ha : PT X a (rdT G F X.mg W p)) : PW X (.BoolOp .And [a] pos) (rdBopT G F X.mg W true (.cons p .nil)) :=
  (pw_and1 ha).imp fun σ H Q ⟨env, T, O, Qd, E, g, w, q, ex⟩ => ⟨env, T, O, Qd, E, g, by simpa only [wpBop] using w, q, ex⟩
theorem snd_bop1OT (ha : PT X a (rdT G F X.mg W p)) : PW X (.BoolOp .Or [a] pos) (rdBopT G F X.mg W false (.cons p .nil)) :=
  (pw_or1 ha).imp fun σ H Q ⟨env, T, O, Qd, E, g, w, q, ex⟩ => ⟨env, T, O, Qd, E, g, by simpa only [wpBop] using w, q, ex⟩
theorem snd_bopAT {rest : List Expr} {r : Ps} (ha : PT X a (rdT G F X.mg W p)) (hb : PW X (.BoolOp .And (b :: rest) pos) (rdBopT G F X.mg W true (.cons p' r))) :
    PW X (.BoolOp .And (a :: b :: rest) pos) (rdBopT G F X.mg W true (.cons p (.cons p' r))) :=
  (pw_and ha hb).imp fun σ H Q ⟨env, T, O, Qd, E, g, w, q, ex⟩ => by
    simp only [wpBop] at w
    refine ⟨env, T, O, _, E, g, w, fun c env' H' O' g' w' => ?_, ex⟩
    cases c with
    | true => rw [if_pos rfl] at w' ⊢; exact ⟨env', T, O', _, E, g', w', q, ex⟩
    | false =>
      rw [if_neg Bool.false_ne_true] at w' ⊢
      exact q _ _ _ _ g' w'
theorem snd_bopOT {rest : List Expr} {r : Ps} (ha : PT X a (rdT G F X.mg W p)) (hb : PW X (.BoolOp .Or (b :: rest) pos) (rdBopT G F X.mg W false (.cons p' r))) :
    PW X (.BoolOp .Or (a :: b :: rest) pos) (rdBopT G F X.mg W false (.cons p (.cons p' r))) :=
  (pw_or ha hb).imp fun σ H Q ⟨env, T, O, Qd, E, g, w, q, ex⟩ => by
    simp only [wpBop] at w
    refine ⟨env, T, O, _, E, g, w, fun c env' H' O' g' w' => ?_, ex⟩
    cases c with
    | true =>
      rw [if_neg (by decide)] at w'
      rw [if_pos rfl]
      exact q _ _ _ _ g' w'
    | false =>
      rw [if_pos rfl] at w'
      rw [if_neg Bool.false_ne_true]
      exact ⟨env', T, O', _, E, g', w', q, ex⟩
end

/-! ### displays, items, slices -/
section
variable {a b c : Expr} {p p' p'' : P} {pos : Pos} {es : List Expr} {ps : Ps}
theorem snd_nil : PA X [] (rdEs G F X.mg W .nil) :=
  pa_nil.imp fun σ H Q ⟨env, T, O, Qd, E, g, w, q, ex⟩ => q _ _ _ _ _ rfl g .nil (by simpa only [wpEs] using w)
theorem star_cons {e : Expr} {es : List Expr} {env : PySem.Env} (h : notStar e = true) : starEach (e :: es) env = (false, eval e env) :: starEach es env := by
  cases e <;> first
    | rfl
    | cases h
theorem snd_cons (hs : notStar a = true) (ha : PE X a (rdE G F X.mg W p)) (hr : PA X es (rdEs G F X.mg W ps)) : PA X (a :: es) (rdEs G F X.mg W (.cons p ps)) :=
  (pa_cons ha hr (star_cons hs)).imp fun σ H Q ⟨env, T, O, Qd, E, g, w, q, ex⟩ => by
    simp only [wpEs] at w
    refine ⟨env, T, O, _, E, g, w, fun r v env' H' O' g' w' => ?_, ex⟩
    obtain ⟨d, env2, hd, w'⟩ := withS_of w'
    obtain ⟨O2, g2⟩ := g'.share hd
    refine ⟨env2, _, O2, _, E, g2, w', fun ds vs env3 H3 O3 l3 g3 r3 w3 => ?_, ex.pop⟩
    exact q _ _ _ _ _ (by show ds.length + 1 = ps.len + 1; rw [l3]) g3.pop (.cons (g3.tm _ List.mem_cons_self) r3) w3
theorem snd_bnil : PA X [] (rdBs G F X.mg W .nil) :=
  pa_nil.imp fun σ H Q ⟨env, T, O, Qd, E, g, w, q, ex⟩ => q _ _ _ _ _ g .nil (by simpa only [wpBs] using w)
theorem snd_bcons (hs : notStar a = true) (ha : PE X a (rdE G F X.mg W p)) (hr : PA X es (rdBs G F X.mg W ps)) : PA X (a :: es) (rdBs G F X.mg W (.cons p ps)) :=
  (pa_cons ha hr (star_cons hs)).imp fun σ H Q ⟨env, T, O, Qd, E, g, w, q, ex⟩ => by
    simp only [wpBs] at w
    refine ⟨env, T, O, _, E, g, w, fun r v env' H' O' g' w' => ?_, ex⟩
    refine ⟨env', _, O', _, E, g', w', fun ds vs env3 H3 O3 g3 r3 w3 => ?_, ex.pop⟩
    obtain ⟨d, hd, w3⟩ := withD_of w3
    exact q _ _ _ _ _ g3.pop (.cons (g3.rd List.mem_cons_self hd) r3) w3
theorem snd_tup {k : Nat} (h : PA X es (rdEs G F X.mg W ps)) : PE X (.Tuple es k pos) (rdE G F X.mg W (.tup ps)) :=
  (pe_tup h).imp fun σ H Q ⟨env, T, O, Qd, E, g, w, q, ex⟩ => by
    simp only [wpE] at w
    refine ⟨env, T, O, _, E, g, w, fun ds vs env' H' O' _ g' r' w' => ?_, ex⟩
    refine ⟨by rw [r'.length, ← line_eq]; exact w'.1, fun p hp => q _ _ _ _ _ (g'.pushT hp r') w'.2⟩
theorem snd_lst (h : PA X es (rdEs G F X.mg W ps)) : PE X (.List es pos) (rdE G F X.mg W (.lst ps)) :=
  (pe_lst h).imp fun σ H Q ⟨env, T, O, Qd, E, g, w, q, ex⟩ => by
    simp only [wpE] at w
    refine ⟨env, T, O, _, E, g, w, fun ds vs env' H' O' _ g' r' w' => ?_, ex⟩
    refine ⟨by rw [r'.length, ← line_eq]; exact w'.1, fun p hp => q _ _ _ _ _ (g'.pushO hp r') w'.2⟩
/-- an item: the first operand may be the script -/
def rItem (F : Cf) : R2 := fun x y H Q => ∃ env σ T O rx ry d e Qr, Good F env σ ((y, ry) :: (x, rx) :: T) H O ∧ rx.q env = some d ∧ ry.d env = some e ∧ opI d e Qr ∧ ∀ r v H' O', Good F env σ ((v, r) :: (y, ry) :: (x, rx) :: T) H' O' → Qr r → Q v H'
theorem atI_reps {K : PySem.W.Frag} {H : Hp} {vs : List V} {ds : List PyData} {k : Int} {d : PyData} (r : Reps K H vs ds) (h : L2.atI ds k = some d) : ∃ v, L2.atI vs k = some v ∧ Rep K H v d := by
  unfold L2.atI at h ⊢
  rw [r.length]
  cases e : ixN ds.length k with
  | none => rw [e] at h; cases h
  | some j =>
    rw [e] at h
    exact r.get (i := j) h
theorem ix_ok (C : Ctx G F N L sc W X) : IxR X (rItem F) := by
  intro value slice pins s σ' H x y v u Q I rx ry h hsub
  obtain ⟨env, σ, T, O, r1, r2, d, e, Qr, g, hd, he, ho, q⟩ := h
  have R1 := g.rq (List.mem_cons_of_mem _ List.mem_cons_self) hd
  have R2 := g.rd List.mem_cons_self he
  have K := C.K
  unfold opI at ho
  split at ho
  · obtain ⟨a, vs, rfl, h1, h2⟩ := R1.lst
    obtain rfl := R2.int
    unfold ixAt at ho
    split at ho
    · rename_i d' hd'
      obtain ⟨w', hw, rw'⟩ := atI_reps h2 hd'
      exact ix_list value slice pins s σ' H _ _ v u Q I rx ry ⟨a, vs, _, w', rfl, rfl, by rw [K]; exact h1, hw, q _ _ _ _ (g.pushV rw') ho⟩ hsub
    · exact ho.elim
  · obtain ⟨a, vs, rfl, h1, h1', h2⟩ := (R1.nl fun _ z => by cases z).tup
    obtain rfl := R2.int
    unfold ixAt at ho
    split at ho
    · rename_i d' hd'
      obtain ⟨w', hw, rw'⟩ := atI_reps h2 hd'
      exact ix_tup value slice pins s σ' H _ _ v u Q I rx ry ⟨a, vs, _, w', rfl, rfl, by rw [K]; exact h1, hw, q _ _ _ _ (g.pushV rw') ho⟩ hsub
    · exact ho.elim
  · obtain rfl := (R1.nl fun _ z => by cases z).str
    obtain rfl := R2.int
    obtain ⟨ho1, ho⟩ := ho
    split at ho
    · rename_i c hc
      exact ix_str value slice pins s σ' H _ _ v u Q I rx ry ⟨_, _, c, rfl, rfl, by rw [← line_eq]; exact ho1, hc, q _ _ _ _ (g.pushV (.str _)) ho⟩ hsub
    · exact ho.elim
  · exact ho.elim
theorem snd_ix (C : Ctx G F N L sc W X) (ha : PE X a (rdE G F X.mg W p)) (hb : PE X b (rdE G F X.mg W p')) (hs : PlainIx b) : PE X (.Subscript a b pos) (rdE G F X.mg W (.ix p p')) :=
  (pe_ix (ix_ok C) ha hb hs).imp fun σ H Q ⟨env, T, O, Qd, E, g, w, q, ex⟩ => by
    simp only [wpE] at w
    refine ⟨env, T, O, _, E, g, w, fun r v env' H' O' g' w' => ?_, ex⟩
    refine ⟨env', _, O', _, E, g', w', fun r2 v2 env2 H2 O2 g2 w2 => ?_, ex.pop⟩
    obtain ⟨d, hd, w2⟩ := withD_of w2
    obtain ⟨e, he, w2⟩ := withD_of w2
    exact ⟨env2, σ, T, O2, r, r2, d, e, _, g2, hd, he, w2, fun r v H' O' g3 w3 => q _ _ _ _ _ g3.pop2.pop2 w3⟩
theorem snd_poN : PO X none (rdPo G F X.mg W .none) :=
  po_none.imp fun σ H Q ⟨env, T, O, Qd, E, g, w, q, ex⟩ => q _ _ _ _ g (by simpa only [wpPo] using w)
theorem snd_poS (ha : PE X a (rdE G F X.mg W p)) : PO X (some a) (rdPo G F X.mg W (.some p)) :=
  (po_some ha).imp fun σ H Q ⟨env, T, O, Qd, E, g, w, q, ex⟩ => by
    simp only [wpPo] at w
    refine ⟨env, T, O, _, E, g, w, fun r v env' H' O' g' w' => ?_, ex⟩
    obtain ⟨i, hi, w'⟩ := asI_of w'
    exact ⟨i, (g'.rd List.mem_cons_self hi).int, q _ _ _ _ g'.pop w'⟩
theorem cut_reps {K : PySem.W.Frag} {H : Hp} {vs : List V} {ds : List PyData} (r : Reps K H vs ds) (lo hi : Option Int) : Reps K H (cutV vs lo hi) (cutD ds lo hi) := by
  unfold cutV cutD
  rw [r.length]
  exact (r.drop _).take _
theorem cut_whole {ds : List PyData} {lo hi : Option Int} (h : HT.sIx ds.length 0 lo = 0 ∧ HT.sIx ds.length ds.length hi = ds.length) : cutD ds lo hi = ds := by
  unfold cutD
  rw [h.1, h.2]
  simp
def rSlice (F : Cf) : V → Option Int → Option Int → Hp → VK → Prop := fun x lo hi H Q => ∃ env σ T O rx d Qr, Good F env σ ((x, rx) :: T) H O ∧ rx.d env = some d ∧ opS d lo hi Qr ∧ ∀ r v H' O', Good F env σ ((v, r) :: (x, rx) :: T) H' O' → Qr r → Q v H'
theorem sl_ok (C : Ctx G F N L sc W X) : SlR X (rSlice F) := by
  intro pins s σ' H x v vl vu lo hi sl Q I rx hsl pl pu h
  obtain ⟨env, σ, T, O, r1, d, Qr, g, hd, ho, q⟩ := h
  have R1 := g.rd List.mem_cons_self hd
  have K := C.K
  unfold opS at ho
  split at ho
  · obtain ⟨a, vs, rfl, h1, h2⟩ := R1.lst
    exact sl_list pins s σ' H _ v vl vu lo hi sl Q I rx hsl pl pu ⟨a, vs, rfl, SqL.of h1, fun p hp => q _ _ _ _ (g.pushO hp (cut_reps h2 lo hi)) ho⟩
  · obtain ⟨a, vs, rfl, h1, h1', h2⟩ := R1.tup
    refine sl_tupA pins s σ' H _ v vl vu lo hi sl Q I rx hsl pl pu ⟨a, vs, rfl, by rw [K]; exact h1, fun z => ?_, fun z p hp => q _ _ _ _ (g.pushT hp (cut_reps h2 lo hi)) ho⟩
    rw [h2.length] at z
    rw [cut_whole z] at ho
    exact q _ _ _ _ (g.pushV (.tup h1' h2)) ho
  · exact ho.elim
theorem snd_sl (C : Ctx G F N L sc W X) {lo hi : Option Expr} {plo phi : Po} {p2 : Pos} (ha : PE X a (rdE G F X.mg W p)) (hl : PO X lo (rdPo G F X.mg W plo)) (hu : PO X hi (rdPo G F X.mg W phi)) :
    PE X (.Subscript a (.Slice lo hi none p2) pos) (rdE G F X.mg W (.sl p plo phi)) :=
  (pe_slice (sl_ok C) ha hl hu).imp fun σ H Q ⟨env, T, O, Qd, E, g, w, q, ex⟩ => by
    simp only [wpE] at w
    refine ⟨env, T, O, _, E, g, w, fun r v env' H' O' g' w' => ?_, ex⟩
    refine ⟨env', _, O', _, E, g', w', fun l env2 H2 O2 g2 w2 => ?_, ex.pop⟩
    refine ⟨env2, _, O2, _, E, g2, w2, fun u env3 H3 O3 g3 w3 => ?_, ex.pop⟩
    obtain ⟨d, hd, w3⟩ := withD_of w3
    exact ⟨env3, σ, T, O3, r, d, _, g3, hd, w3, fun r v H' O' g4 w4 => q _ _ _ _ _ g4.pop2 w4⟩
theorem snd_rev (C : Ctx G F N L sc W X) {k : Nat} {p1 p2 p3 : Pos} (ha : PE X a (rdE G F X.mg W p)) : PE X (.Subscript a (.Slice none none (some (.UnaryOp .USub (.Constant (.int 1) k p1) p2)) p3) pos) (rdE G F X.mg W (.rev p)) :=
  (pe_revL ha).imp fun σ H Q ⟨env, T, O, Qd, E, g, w, q, ex⟩ => by
    simp only [wpE] at w
    refine ⟨env, T, O, _, E, g, w, fun r v env' H' O' g' w' => ?_, ex⟩
    split at w'
    · rename_i ds hds
      obtain ⟨a', vs, rfl, h1, h2⟩ := (g'.rd List.mem_cons_self hds).lst
      exact ⟨a', vs, rfl, SqL.of h1, fun p hp => q _ _ _ _ _ (g'.pushO hp h2.reverse).pop2 w'⟩
    · exact w'.elim
end
end
end Mp

set_option Elab.async false
set_option linter.all false
set_option maxRecDepth 100000
set_option maxHeartbeats 1000000
/-! Mp, part 6: built-ins, calls, walks, comprehensions; the check is sound for expressions. -/
namespace Mp
open PySem PySem.Spec PyProof.Rows L2
section
variable {G : GE} {F : Cf} {N : List Str} {L : Nat} {sc : Scope} {W : WX} {X : Cx}
variable {mg : Str → Option Value}

/-! ### built-ins -/
def rFn (F : Cf) (f : Bf) : List V → Hp → VK → Prop := fun xs H Q => ∃ env σ T O ds Qr, Good F env σ T H O ∧ Paired (RdV F.K H O) xs ds ∧ opF f ds Qr ∧ ∀ r v H' O', Good F env σ ((v, r) :: T) H' O' → Qr r → Q v H'
theorem bools_of {K : PySem.W.Frag} {H : Hp} : ∀ {ds : List PyData} {bs : List Bool} {vs : List V}, bools? ds = some bs → Reps K H vs ds → vs = bs.map V.bl
  | [], bs, vs, h, r => by cases h; cases r; rfl
  | d :: ds, bs, vs, h, r => by
    cases r with
    | cons r1 r2 =>
      cases d with
      | bool b =>
        simp only [bools?] at h
        split at h
        · cases h
          rw [r1.bl_inv, bools_of ‹_› r2]; rfl
        · cases h
      | _ => cases h
def fnTy (K : PySem.W.Frag) (f : Bf) (xs : List V) (H : Hp) (Q : VK) : Prop :=
    match f with
    | .abs => ∃ i, xs = [.int i] ∧ Q (.int (if i < 0 then -i else i)) H
    | .int => (∃ i, xs = [.int i] ∧ Q (.int i) H) ∨ ∃ k, xs = [.bl k] ∧ Q (.int (if k then 1 else 0)) H
    | .bool => (∃ i, xs = [.int i] ∧ Q (.bl (i != 0)) H) ∨ ∃ k, xs = [.bl k] ∧ Q (.bl k) H
    | .str => ∃ i, xs = [.int i] ∧ i.natAbs.log2 < 1920 ∧ Q (.str (toString i)) H
    | .all => rAll K xs H Q
    | .any => rAny K xs H Q
    | .tuple => ∃ p ys, xs = [.ref p] ∧ ((SqL K H p ys ∧ ∀ l, H l = none → Q (.ref l) (upd H l (.tup ys))) ∨ (SqT K H p ys ∧ Q (.ref p) H))
    | .list => ∃ p ys, xs = [.ref p] ∧ (SqL K H p ys ∨ SqT K H p ys) ∧ ∀ l, H l = none → Q (.ref l) (upd H l (.lst ys))
    | .max2 => ∃ i j, xs = [.int i, .int j] ∧ Q (.int (if j > i then j else i)) H
    | .min2 => ∃ i j, xs = [.int i, .int j] ∧ Q (.int (if j < i then j else i)) H
theorem withBs_of {r : Option (List Bool)} {Q : List Bool → Prop} (h : withBs r Q) : ∃ b, r = some b ∧ Q b := by
  unfold withBs at h
  split at h
  · exact ⟨_, rfl, h⟩
  · exact h.elim
theorem fn_ty (C : Ctx G F N L sc W X) {f : Bf} {xs : List V} {H : Hp} {Q : VK} (h : rFn F f xs H Q) : fnTy X.K f xs H Q := by
  obtain ⟨env, σ, T, O, ds, Qr, g, hp, ho, q⟩ := h
  have K := C.K
  unfold opF at ho
  split at ho
  · cases hp with | cons r1 r2 => cases r2; obtain rfl := r1.int; exact ⟨_, rfl, q _ _ _ _ (g.pushV (.int _)) ho⟩
  · cases hp with | cons r1 r2 => cases r2; obtain rfl := r1.int; exact .inl ⟨_, rfl, q _ _ _ _ (g.pushV (.int _)) ho⟩
  · cases hp with | cons r1 r2 => cases r2; obtain rfl := r1.bl; exact .inr ⟨_, rfl, q _ _ _ _ (g.pushV (.int _)) ho⟩
  · cases hp with | cons r1 r2 => cases r2; obtain rfl := r1.int; exact .inl ⟨_, rfl, q _ _ _ _ (g.pushV (.bl _)) ho⟩
  · cases hp with | cons r1 r2 => cases r2; obtain rfl := r1.bl; exact .inr ⟨_, rfl, q _ _ _ _ (g.pushV (.bl _)) ho⟩
  · cases hp with | cons r1 r2 => cases r2; obtain rfl := r1.int; exact ⟨_, rfl, ho.1, q _ _ _ _ (g.pushV (.str _)) ho.2⟩
  · cases hp with
    | cons r1 r2 =>
      cases r2
      obtain ⟨a, vs, rfl, h1, h2⟩ := r1.lst
      obtain ⟨bs, hbs, ho2⟩ := withBs_of ho
      have e := bools_of hbs h2
      subst e
      exact ⟨a, bs, rfl, SqL.of h1, q _ _ _ _ (g.pushV (.bl _)) ho2⟩
  · cases hp with
    | cons r1 r2 =>
      cases r2
      obtain ⟨a, vs, rfl, h1, h2⟩ := r1.lst
      obtain ⟨bs, hbs, ho2⟩ := withBs_of ho
      have e := bools_of hbs h2
      subst e
      exact ⟨a, bs, rfl, SqL.of h1, q _ _ _ _ (g.pushV (.bl _)) ho2⟩
  · cases hp with
    | cons r1 r2 =>
      cases r2
      obtain ⟨a, vs, rfl, h1, h2⟩ := r1.lst
      exact ⟨a, vs, rfl, .inl ⟨SqL.of h1, fun l hl => q _ _ _ _ (g.pushT hl h2) ho⟩⟩
  · cases hp with
    | cons r1 r2 =>
      cases r2
      obtain ⟨a, vs, rfl, h1, h1', h2⟩ := r1.tup
      exact ⟨a, vs, rfl, .inr ⟨by rw [K]; exact h1, q _ _ _ _ (g.pushV (.tup h1' h2)) ho⟩⟩
  · cases hp with
    | cons r1 r2 =>
      cases r2
      obtain ⟨a, vs, rfl, h1, h2⟩ := r1.lst
      exact ⟨a, vs, rfl, .inl (SqL.of h1), fun l hl => q _ _ _ _ (g.pushO hl h2) ho⟩
  · cases hp with
    | cons r1 r2 =>
      cases r2
      obtain ⟨a, vs, rfl, h1, h1', h2⟩ := r1.tup
      exact ⟨a, vs, rfl, .inr (by rw [K]; exact h1), fun l hl => q _ _ _ _ (g.pushO hl h2) ho⟩
  · cases hp with
    | cons r1 r2 =>
      cases r2 with
      | cons r2 r3 => cases r3; obtain rfl := r1.int; obtain rfl := r2.int; exact ⟨_, _, rfl, q _ _ _ _ (g.pushV (.int _)) ho⟩
  · cases hp with
    | cons r1 r2 =>
      cases r2 with
      | cons r2 r3 => cases r3; obtain rfl := r1.int; obtain rfl := r2.int; exact ⟨_, _, rfl, q _ _ _ _ (g.pushV (.int _)) ho⟩
  · exact ho.elim
theorem _root_.L2.CallR.imp {f : Value} {r r' : List V → Hp → VK → Prop} (h : CallR X f r) (i : ∀ xs H Q, r' xs H Q → r xs H Q) : CallR X f r' :=
  fun pins s σ H xs us Q I v q => h pins s σ H xs us Q I v (i xs H Q q)
theorem plain_of : ∀ {es : List Expr} {ps : Ps} {env : PySem.Env} {pos : Pos} {sc : Scope}, chkEs G N L ps sc es = true → (backTo pos (starEach es env)).any (·.1) = false
  | [], ps, env, pos, sc, h => rfl
  | e :: es, ps, env, pos, sc, h => by
    cases ps with
    | nil => simp [chkEs] at h
    | cons p ps =>
      simp only [chkEs, Bool.and_eq_true] at h
      rw [star_cons h.1.1]
      have ih := plain_of (env := env) (pos := pos) h.2
      show (false || (backTo pos (starEach es env)).any (·.1)) = false
      rw [ih]; rfl
/-- built-ins by their names -/
theorem snd_blt (C : Ctx G F N L sc W X) {f : Bf} {p pos : Pos} {e : Expr} {es : List Expr} {ps : Ps} (hg : glB sc f.name = true) (h1 : notStar e = true) (h2 : (backTo pos (starEach es X.env)).any (·.1) = false) (ha : PA X (e :: es) (rdBs G F X.mg W ps)) :
    PE X (.Call (.Name f.name p) (e :: es) [] pos) (rdE G F X.mg W (.blt f ps)) := by
  have gl := (gl_of C hg).1
  have hm : X.mg f.name = none := C.kn.blt _ (by cases f <;> decide)
  have fin : ∀ σ H Q, rdE G F X.mg W (.blt f ps) σ H Q → tCB (rFn F f) (rdBs G F X.mg W ps) σ H Q := fun σ H Q ⟨env, T, O, Qd, E, g, w, q, ex⟩ => by
    simp only [wpE] at w
    refine ⟨env, T, O, _, E, g, w, fun ds vs env' H' O' g' r' w' => ?_, ex⟩
    exact ⟨env', σ, T, O', ds, _, g', r', w', fun r v H2 O2 g2 w2 => q _ _ _ _ _ g2 w2⟩
  have st := star_cons (es := es) (env := X.env) h1
  cases f with
  | abs => exact (pe_callB ((call_abs (X := X)).imp (r' := rFn F .abs) fun xs H Q h => fn_ty (f := .abs) C h) gl hm (by decide +kernel) ha (by decide) (by decide) st h2).imp fin
  | int => exact (pe_callTy ((call_int1 (X := X)).imp (r' := rFn F .int) fun xs H Q h => fn_ty (f := .int) C h) gl hm (by decide +kernel) ha (by decide) (by decide) st h2).imp fin
  | str => exact (pe_callTy ((call_str_int (X := X)).imp (r' := rFn F .str) fun xs H Q h => fn_ty (f := .str) C h) gl hm (by decide +kernel) ha (by decide) (by decide) st h2).imp fin
  | all => exact (pe_callB ((cr_all C.calm).imp (r' := rFn F .all) fun xs H Q h => fn_ty (f := .all) C h) gl hm (by decide +kernel) ha (by decide) (by decide) st h2).imp fin
  | any => exact (pe_callB ((cr_any C.calm).imp (r' := rFn F .any) fun xs H Q h => fn_ty (f := .any) C h) gl hm (by decide +kernel) ha (by decide) (by decide) st h2).imp fin
  | tuple => exact (pe_callTy ((call_tuple_of (X := X)).imp (r' := rFn F .tuple) fun xs H Q h => fn_ty (f := .tuple) C h) gl hm (by decide +kernel) ha (by decide) (by decide) st h2).imp fin
  | list => exact (pe_callTy ((call_list_of (X := X)).imp (r' := rFn F .list) fun xs H Q h => fn_ty (f := .list) C h) gl hm (by decide +kernel) ha (by decide) (by decide) st h2).imp fin
  | max2 => exact (pe_callB ((call_max2 C.calm).imp (r' := rFn F .max2) fun xs H Q h => fn_ty (f := .max2) C h) gl hm (by decide +kernel) ha (by decide) (by decide) st h2).imp fin
  | min2 => exact (pe_callB ((call_min2 C.calm).imp (r' := rFn F .min2) fun xs H Q h => fn_ty (f := .min2) C h) gl hm (by decide +kernel) ha (by decide) (by decide) st h2).imp fin
  | bool => exact (pe_callTy ((call_bool1 (X := X)).imp (r' := rFn F .bool) fun xs H Q h => fn_ty (f := .bool) C h) gl hm (by decide +kernel) ha (by decide) (by decide) st h2).imp fin
theorem snd_len (C : Ctx G F N L sc W X) {p pos : Pos} {e : Expr} {q : P} (hg : glB sc ("len" : Str) = true) (h1 : notStar e = true) (ha : PE X e (rdE G F X.mg W q)) : PE X (.Call (.Name "len" p) [e] [] pos) (rdE G F X.mg W (.len q)) :=
  (pe_callB call_len (gl_of C hg).1 (C.kn.blt _ (by decide)) (by decide +kernel) (pa_cons ha pa_nil (star_cons h1)) (by decide) (by decide) (star_cons h1) rfl).imp fun σ H Q ⟨env, T, O, Qd, E, g, w, qq, ex⟩ => by
    simp only [wpE] at w
    refine ⟨env, T, O, _, E, g, w, fun r v env' H' O' g' w' => ?_, ex⟩
    obtain ⟨d, hd, w2⟩ := withD_of w'
    have R1 := g'.rq List.mem_cons_self hd
    have K := C.K
    unfold opLen at w2
    split at w2
    · obtain ⟨a, vs, rfl, h3, h4⟩ := R1.lst
      exact ⟨_, _, rfl, .inl ⟨vs, by rw [K]; exact h3, rfl⟩, by rw [h4.length]; exact qq _ _ _ _ _ (g'.pop.pushV (.int _)) w2⟩
    · obtain ⟨a, vs, rfl, h3, h3', h4⟩ := (R1.nl fun _ z => by cases z).tup
      exact ⟨_, _, rfl, .inr ⟨vs, by rw [K]; exact h3, rfl⟩, by rw [h4.length]; exact qq _ _ _ _ _ (g'.pop.pushV (.int _)) w2⟩
    · obtain rfl := (R1.nl fun _ z => by cases z).str
      exact ⟨_, _, rfl, ⟨by rw [← line_eq]; exact w2.1, rfl⟩, qq _ _ _ _ _ (g'.pop.pushV (.int _)) w2.2⟩
    · exact w2.elim
theorem ty_of {K : PySem.W.Frag} {H : Hp} {v : V} {d : PyData} {s : String} (r : Rep K H v d) (h : tyOf d = some s) : TyX K H v (.type s) := by
  cases r with
  | non => cases h; exact .base .non
  | bl b => cases h; exact .base (.bl b)
  | int i => cases h; exact .base (.int i)
  | str x => cases h; exact .base (.str x)
  | lst h1 h2 => cases h; exact .base (.lst h1)
  | tup h1 h2 =>
    cases h
    rcases h1 with (h1 | ⟨o, h1⟩) | ⟨o, its, n, h1, h3, _⟩
    · exact .base (.tup h1)
    · exact .fTuple h1
    · exact .kTuple h1 h3
theorem snd_isin (C : Ctx G F N L sc W X) {t : String} {p p2 pos : Pos} {e : Expr} {q : P} (hg : glB sc ("isinstance" : Str) = true) (hg2 : glB sc (t : Str) = true) (ht : tyName t = true) (h1 : notStar e = true) (ha : PE X e (rdE G F X.mg W q)) :
    PE X (.Call (.Name "isinstance" p) [e, .Name t p2] [] pos) (rdE G F X.mg W (.isin q t)) := by
  have gl := (gl_of C hg2).1
  have ty : PE X (.Name t p2) (tC (.ty t)) := by
    unfold tyName at ht
    split at ht
    · exact pe_bltn gl (C.kn.blt _ (by decide)) (by decide +kernel) rfl (by decide) (by decide)
    · exact pe_bltn gl (C.kn.blt _ (by decide)) (by decide +kernel) rfl (by decide) (by decide)
    · exact pe_bltn gl (C.kn.blt _ (by decide)) (by decide +kernel) rfl (by decide) (by decide)
    · exact pe_bltn gl (C.kn.blt _ (by decide)) (by decide +kernel) rfl (by decide) (by decide)
    · exact pe_bltn gl (C.kn.blt _ (by decide)) (by decide +kernel) rfl (by decide) (by decide)
    · cases ht
  refine (pe_callB call_isi (gl_of C hg).1 (C.kn.blt _ (by decide)) (by decide +kernel) (pa_cons ha (pa_cons ty pa_nil) (star_cons h1)) (by decide) (by decide) (star_cons h1) rfl).imp fun σ H Q ⟨env, T, O, Qd, E, g, w, qq, ex⟩ => ?_
  simp only [wpE] at w
  refine ⟨env, T, O, _, E, g, w, fun r v env' H' O' g' w' => ?_, ex⟩
  obtain ⟨d, hd, w2⟩ := withD_of w'
  have R1 := g'.rd List.mem_cons_self hd
  have K := C.K
  unfold isTy at w2
  cases e1 : tyOf d with
  | none => rw [e1] at w2; exact w2.elim
  | some s =>
    rw [e1] at w2
    simp only at w2
    cases e2 : kitB s t with
    | none => rw [e2] at w2; exact w2.elim
    | some b =>
      rw [e2] at w2
      exact ⟨v, .ty t, .type s, .type t, b, rfl, .ty t, by rw [K]; exact ty_of R1.rep e1, kit_ty e2, qq _ _ _ _ _ (g'.pop.pushV (.bl b)) w2⟩
end
end Mp

set_option Elab.async false
set_option linter.all false
set_option maxRecDepth 100000
set_option maxHeartbeats 1000000
/-! Mp, part 7: calls of defs. -/
namespace Mp
open PySem PySem.Spec PyProof.Rows L2
section
variable {G : GE} {F : Cf} {N : List Str} {L : Nat} {sc : Scope} {W : WX} {X : Cx}
variable {mg : Str → Option Value}
section
variable {env : Env} {σ : St} {T : List (V × R)} {H H' : Hp} {O O' : List Addr} {v : V} {r : R} {h : Hdv}
theorem Good.own_in (g : Good F env σ T H O) : (∀ (i : Nat) s a, env[i]? = some s → isO s = true → (σ[i]?).getD none = some (.ref a) → H a ≠ none) ∧ ∀ t ∈ T, isRO t.2 = true → ∀ a, t.1 = .ref a → H a ≠ none := by
  constructor
  · intro i s a h1 h2 h3 h4
    exact (g.own_ne h4).1 i s h1 h2 h3
  · intro t ht h2 a h3 h4
    exact (g.own_ne h4).2 t ht h2 h3
theorem _root_.Mp.Sep.self {H0 : Hp} {O0 : List Addr} (s : Sep H0 O0 env σ T H O) : Sep H O [] [] [] H O := ⟨fun a ha l h => .inl ⟨ha, h⟩, s.wf, s.one, fun i u h => by simp at h, fun t h => by cases h⟩
theorem Good.list_in (g : Good F env σ T H O) : (∀ (i : Nat) s a, env[i]? = some s → isL s = true → (σ[i]?).getD none = some (.ref a) → H a ≠ none) ∧ ∀ t ∈ T, isRL t.2 = true → ∀ a, t.1 = .ref a → H a ≠ none := by
  constructor
  · intro i s a h1 h2 h3
    have z := g.sl i s h1
    cases s with
    | o ds => obtain ⟨b, vs, q1, q2, _⟩ := z; rw [h3] at q1; cases q1; rw [q2]; simp
    | io ds => obtain ⟨b, vs, q1, _, q2, _⟩ := z; rw [h3] at q1; cases q1; rw [q2]; simp
    | _ => cases h2
  · intro t ht h2 a h3
    obtain ⟨v, r⟩ := t
    cases r with
    | o ds => exact g.own_in.2 _ ht rfl a h3
    | _ => cases h2
variable {io : Option Addr}
theorem Left.hid_sub (l : Left F.K F.cls io H O H' O' v r h) (tb : Tb F.cls.T H O) (hio : ∀ a, io = some a → a ∈ O) : Sub (hid O H) (hid O' H') :=
  hid_mono l.new fun a o n e => l.keep a o e fun z => by
    rcases z with z | ⟨_, _, z, _⟩ | ⟨p, hp, z⟩
    · exact n (hio a z)
    · exact n z
    · exact n (by rw [← z]; exact tb.2 p hp)
theorem Left.sepG (l : Left F.K F.cls io H O H' O' v r h) (g : Good F env σ T H O) {env' : Env} (he : ∀ (i : Nat) u, env'[i]? = some u → isL u = true → ∃ u', env[i]? = some u' ∧ isL u' = true) : Sep F.H0 F.O0 env' σ T H' O' := by
  obtain ⟨l1, l2⟩ := g.list_in
  refine ⟨fun a ha m hm => ?_, l.sep.wf, l.sep.one, fun i u h1 h2 a ha m hm z => ?_, fun t h1 h2 a ha m hm z => ?_⟩
  · rcases l.sep.nf a ha m hm with ⟨q1, q2⟩ | q
    · exact g.sep.nf a q1 m q2
    · exact .inr (g.free0 q)
  · obtain ⟨u', k1, k2⟩ := he i u h1 h2
    rcases l.sep.nf a ha m hm with ⟨q1, q2⟩ | q
    · exact g.sep.sl i u' k1 k2 a q1 m q2 z
    · exact l1 i u' m k1 k2 z q
  · rcases l.sep.nf a ha m hm with ⟨q1, q2⟩ | q
    · exact g.sep.tm t h1 h2 a q1 m q2 z
    · exact l2 t h1 h2 m z q
/-- what was made elsewhere and is handed over -/
theorem Good.pushR (g : Good F env σ T H' O') (l : Left F.K F.cls io H O H' O' v r h) (hme : r ≠ .me) (g0 : ∀ a, H a = none → F.H0 a = none) (hs : ∀ (i : Nat) s a, env[i]? = some s → isO s = true → (σ[i]?).getD none = some (.ref a) → H a ≠ none)
    (ht : ∀ t ∈ T, isRO t.2 = true → ∀ a, t.1 = .ref a → H a ≠ none) : Good F env σ ((v, r) :: T) H' O' := by
  have sp : Sep F.H0 F.O0 env σ ((v, r) :: T) H' O' := ⟨g.sep.nf, g.sep.wf, g.sep.one, g.sep.sl, fun t hm => by
    rcases List.mem_cons.mp hm with rfl | hm
    · exact l.sep.tm _ List.mem_cons_self
    · exact g.sep.tm t hm⟩
  have res := l.res
  have nw : ∀ a, v = .ref a → H a = none → isRO r = true → TOk F σ H' O' (v, r) → Good F env σ ((v, r) :: T) H' O' := fun a e hn hr tk => by
    refine ⟨g.len, g.oin, g.o0, g.h0, g.ion, g.keep, g.keep0, g.new, g.sl, fun t hm => ?_, g.dss, fun i s h5 h6 t hm h7 => ?_, List.Pairwise.cons (fun t hm _ h7 z => ht t hm h7 a (z.symm.trans e) hn) g.dtt, g.one, sp, g.tb⟩
    · rcases List.mem_cons.mp hm with rfl | hm
      · exact tk
      · exact g.tm t hm
    · rcases List.mem_cons.mp hm with rfl | hm
      · intro z
        have z : (σ[i]?).getD none = some v := z
        exact hs i s a h5 h6 (by rw [z, e]) hn
      · exact g.dst i s h5 h6 t hm h7
  cases r with
  | v d => exact g.pushV res
  | b i => exact res.elim
  | o ds =>
    obtain ⟨a, vs, e, h1, h2, h3, h4⟩ := res
    exact nw a e h3 rfl ⟨a, vs, e, h1, h2, g0 a h3, h4⟩
  | ob c fs =>
    obtain ⟨a, e, h3, h4⟩ := res
    exact nw a e h3 rfl ⟨a, e, g0 a h3, h4.impN fun l _ _ hl => g0 l hl⟩
  | me => exact absurd rfl hme
theorem not_part_none {T : List (Addr × Str)} {b : Addr} (n : ¬ ∃ p ∈ T, p.1 = b) : ¬ partOf T none H O b := fun z => by
  rcases z with z | ⟨_, z, _⟩ | z
  · cases z
  · cases z
  · exact n z
/-- behind a call to which nothing was handed in: the frame -/
theorem Good.after0 (g : Good F env σ T H O) (l : Left F.K F.cls none H O H' O' v r h) : Good F env σ T H' O' := by
  have e := l.hid_sub g.tb (fun a z => by cases z)
  have at_ : ∀ a ∈ O, noTbl H a → H' a = H a := fun a ha nt => by
    cases q : H a with
    | none => exact absurd q (g.oin a ha)
    | some u => exact l.keep a u q (not_part_none (g.tb.not nt))
  refine ⟨g.len, l.oin, fun a ha => l.sub a (g.o0 a ha), g.h0, g.ion, fun b u hb n => l.keep b u (g.keep b u hb n) (not_part_none fun z => n (.inr (.inr z))), fun b hb => l.keep0 b (g.keep0 b hb), fun a ha => ?_,
    fun i s hs => (g.sl i s hs).mono e fun a ha _ _ nt => ⟨at_ a ha nt, l.sub a ha⟩, fun t ht => (g.tm t ht).mono e fun a ha _ _ nt => ⟨at_ a ha nt, l.sub a ha⟩, g.dss, g.dst, g.dtt, g.one, l.sepG g (fun i u h1 h2 => ⟨u, h1, h2⟩), l.tb⟩
  rcases l.new a ha with q | q
  · exact g.new a q
  · exact .inr (g.free0 q)
/-- .. and its answer -/
theorem Good.after (g : Good F env σ T H O) (l : Left F.K F.cls none H O H' O' v r h) : Good F env σ ((v, r) :: T) H' O' :=
  (g.after0 l).pushR l (fun e => by subst e; obtain ⟨a, z, _⟩ := l.res; cases z) (fun a => g.free0) g.own_in.1 g.own_in.2
/-- what a head is changed to -/
inductive Turn : Sl → Sl → Hdv → Prop
  | o {xs ys : List PyData} : Turn (.o xs) (.o ys) (.io ys)
  | io {xs ys : List PyData} : Turn (.io xs) (.io ys) (.io ys)
  | ob {c : Nat} {fs gs : List Fd} : Turn (.ob c fs) (.ob c gs) (.ob c gs)
  | ib {c : Nat} {fs gs : List Fd} : Turn (.ib c fs) (.ib c gs) (.ob c gs)
/-- behind a call to which what is in the slot i was handed in: the frame -/
theorem Good.afterH0 {i : Nat} {a : Addr} {s s' : Sl} (g : Good F env σ T H O) (hi : env[i]? = some s) (tn : Turn s s' h) (ha : (σ[i]?).getD none = some (.ref a)) (l : Left F.K F.cls (some a) H O H' O' v r h) : Good F (env.set i s') σ T H' O' := by
  have same : isO s' = isO s ∧ isL s' = isL s ∧ isB s' = isB s := by cases tn <;> exact ⟨rfl, rfl, rfl⟩
  have hd : isO s = true ∨ isB s = true := by cases tn <;> first | exact .inl rfl | exact .inr rfl
  -- what lies at a
  have base : a ∈ O ∧ (isO s = true → F.H0 a = none) ∧ (isB s = true → F.io = some a) := by
    have z := g.sl i s hi
    cases tn with
    | o => obtain ⟨b, vs, q1, _, q3, q4, _⟩ := z; rw [ha] at q1; cases q1; exact ⟨q3, fun _ => q4, (fun k => by cases k)⟩
    | io => obtain ⟨b, vs, q1, q2, _, q4, _⟩ := z; rw [ha] at q1; cases q1; exact ⟨q4, (fun k => by cases k), fun _ => q2⟩
    | ob => obtain ⟨b, q1, q2, q3⟩ := z; rw [ha] at q1; cases q1; exact ⟨q3.inO, fun _ => q2, (fun k => by cases k)⟩
    | ib => obtain ⟨b, q1, q2, q3⟩ := z; rw [ha] at q1; cases q1; exact ⟨q3.inO, (fun k => by cases k), fun _ => q2⟩
  obtain ⟨b2, b3, b4⟩ := base
  have own : ∀ m, fld H a m → F.H0 m = none ∨ (F.io = some a ∧ m ∈ O ∧ fld F.H0 a m) := fun m hm => by
    have z := g.sl i s hi
    cases tn with
    | o => obtain ⟨b, vs, q1, q2, _⟩ := z; rw [ha] at q1; cases q1; exact absurd hm (not_fld_lst q2)
    | io => obtain ⟨b, vs, q1, _, q2, _⟩ := z; rw [ha] at q1; cases q1; exact absurd hm (not_fld_lst q2)
    | ob => obtain ⟨b, q1, q2, q3⟩ := z; rw [ha] at q1; cases q1; exact .inl (q3.own hm).2.2
    | ib =>
      obtain ⟨b, q1, q2, q3⟩ := z
      rw [ha] at q1; cases q1
      obtain ⟨_, k1, k2⟩ := q3.own hm
      exact k2.imp id fun k => ⟨q2, k1, k⟩
  have e := l.hid_sub g.tb (fun b z => by cases z; exact b2)
  -- the others lead elsewhere
  have o0 : ∀ (j : Nat) u, env[j]? = some u → isO u = true → ∀ c, (σ[j]?).getD none = some (.ref c) → F.H0 c = none := fun j u hu ho c hc => by
    have z := g.sl j u hu
    cases u with
    | o ds => obtain ⟨b, vs, q1, _, _, q4, _⟩ := z; rw [hc] at q1; cases q1; exact q4
    | ob c' fs => obtain ⟨b, q1, q2, _⟩ := z; rw [hc] at q1; cases q1; exact q2
    | _ => cases ho
  have t0 : ∀ t ∈ T, isRO t.2 = true → ∀ c, t.1 = .ref c → F.H0 c = none := fun t ht ho c hc => by
    have z := g.tm t ht
    obtain ⟨v, r⟩ := t
    have hc : v = .ref c := hc
    subst hc
    cases r with
    | o ds => obtain ⟨b, vs, q1, _, _, q4, _⟩ := z; cases q1; exact q4
    | ob c' fs => obtain ⟨b, q1, q2, _⟩ := z; cases q1; exact q2
    | _ => cases ho
  have ne1 : ∀ (j : Nat) u, j ≠ i → env[j]? = some u → (isO u = true ∨ isB u = true) → (∀ c, F.io = some c → isB u = true → (σ[j]?).getD none = some (.ref c)) → (σ[j]?).getD none ≠ some (.ref a) := fun j u hj hu hk hc z => by
    by_cases ho : isO u = true
    · by_cases ho' : isO s = true
      · exact g.dss j i u s hj hu ho hi ho' (z.trans ha.symm)
      · exact g.io_ne (o0 j u hu ho a z) (b4 (hd.resolve_left ho'))
    · have hb := hk.resolve_left ho
      rcases hd with ho' | hb'
      · have z' := g.sl j u hu
        cases u with
        | io ds => obtain ⟨b, vs, q1, q2, _⟩ := z'; rw [z] at q1; cases q1; exact g.io_ne (b3 ho') q2
        | ib c fs => obtain ⟨b, q1, q2, _⟩ := z'; rw [z] at q1; cases q1; exact g.io_ne (b3 ho') q2
        | _ => cases hb
      · exact hj ((g.one j u hu hb).trans (g.one i s hi hb').symm)
  have ne2 : ∀ t ∈ T, isRO t.2 = true → some t.1 ≠ some (.ref a) := fun t ht ho z => by
    by_cases ho' : isO s = true
    · exact g.dst i s hi ho' t ht ho (ha.trans z.symm)
    · exact g.io_ne (t0 t ht ho a (Option.some.inj z)) (b4 (hd.resolve_left ho'))
  have free : ∀ {x : Option V} {b : Addr}, x ≠ some (.ref a) → (∀ m, x = some (.ref m) → ¬ fld H a m) → b ∈ O → Foot H O x b → noTbl H b → ¬ partOf F.cls.T (some a) H O b := fun {x b} n1 n2 hb f nt z => by
    rcases z with z | ⟨a', z1, z2, z3⟩ | z
    · cases z
      rcases f with f | ⟨c, hc, f1, f2⟩
      · exact n1 f
      · have z := g.sl i s hi
        have lst := g.sep.wf c hc _ f2
        cases tn with
        | o => exact g.sep.sl i _ hi rfl c hc _ f2 ha
        | io => exact g.sep.sl i _ hi rfl c hc _ f2 ha
        | ob => obtain ⟨b', q1, q2, q3⟩ := z; rw [ha] at q1; cases q1; obtain ⟨C, dx, gs, q⟩ := q3.at; obtain ⟨ws, w⟩ := lst; rw [q] at w; cases w
        | ib => obtain ⟨b', q1, q2, q3⟩ := z; rw [ha] at q1; cases q1; obtain ⟨C, dx, gs, q⟩ := q3.at; obtain ⟨ws, w⟩ := lst; rw [q] at w; cases w
    · cases z1
      rcases f with f | ⟨c, hc, f1, f2⟩
      · exact n2 b f z3
      · exact n1 (by rw [f1, g.sep.one c hc a b2 b hb f2 z3])
    · exact g.tb.not nt z
  have nin : ∀ {m : Addr} {C dx : Addr} {gs : List (Str × V)}, H m = some (.ins C dx gs) → ¬ fld H a m := fun {m C dx gs} q hm => by
    obtain ⟨ws, w⟩ := g.sep.wf a b2 m hm
    rw [q] at w; cases w
  have at_ : ∀ b ∈ O, ¬ partOf F.cls.T (some a) H O b → H' b = H b := fun b hb n => by
    cases q : H b with
    | none => exact absurd q (g.oin b hb)
    | some u => exact l.keep b u q n
  refine ⟨by simpa using g.len, l.oin, fun b hb => l.sub b (g.o0 b hb), g.h0, g.ion, fun b u hb n => l.keep b u (g.keep b u hb n) fun z => ?_, fun b hb => l.keep0 b (g.keep0 b hb), fun b hb => ?_, fun j u hu => ?_, fun t ht => ?_,
    fun j k u1 u2 hjk hj h1 hk h2 => ?_, fun j u hj hu t ht h5 => ?_, g.dtt, fun j u hh hb => ?_, l.sepG g (fun j u h1 h2 => ?_), l.tb⟩
  · rcases z with z | ⟨a', z1, z2, z3⟩ | z
    · cases z
      rcases hd with hk | hk
      · rw [b3 hk] at hb; cases hb
      · exact n (.inl (b4 hk))
    · cases z1
      rcases own b z3 with q | ⟨q1, q2, q3⟩
      · rw [q] at hb; cases hb
      · rcases g.new b q2 with q | q
        · exact n (.inr (.inl ⟨a, q1, q, q3⟩))
        · rw [q] at hb; cases hb
    · exact n (.inr (.inr z))
  · rcases l.new b hb with q | q
    · exact g.new b q
    · exact .inr (g.free0 q)
  · rcases set_get hu with ⟨rfl, rfl, _⟩ | ⟨hj, hu⟩
    · have z := g.sl j s hi
      cases tn with
      | o =>
        obtain ⟨c, ws, e1, w1, w2, _⟩ := l.hd _ rfl
        cases e1
        exact ⟨a, ws, ha, w1, l.sub a b2, b3 rfl, w2⟩
      | io =>
        obtain ⟨c, ws, e1, w1, w2, _⟩ := l.hd _ rfl
        cases e1
        exact ⟨a, ws, ha, b4 rfl, w1, l.sub a b2, w2⟩
      | ob =>
        obtain ⟨c, e1, w⟩ := l.ob _ _ rfl
        cases e1
        refine ⟨a, ha, b3 rfl, w.impN fun m hm _ k => ?_⟩
        rcases k with k | k
        · exact g.free0 k
        · rcases own m k with q | ⟨q1, _⟩
          · exact q
          · exact absurd q1 (g.io_ne (b3 rfl))
      | ib =>
        obtain ⟨c, e1, w⟩ := l.ob _ _ rfl
        cases e1
        refine ⟨a, ha, b4 rfl, w.impN fun m hm _ k => ?_⟩
        rcases k with k | k
        · exact .inl (g.free0 k)
        · exact (own m k).imp id fun q => q.2.2
    · have old := g.sl j u hu
      have key : (isO u = true ∨ isB u = true) → (∀ m, (σ[j]?).getD none = some (.ref m) → ¬ fld H a m) → SlOk F H' O' u ((σ[j]?).getD none) := fun hk n2 =>
        old.mono e fun b hb f c nt => ⟨at_ b hb (free (ne1 j u hj hu hk (fun c e1 e2 => by
          cases u with
          | io ds => obtain ⟨b, vs, q1, q2, _⟩ := old; rw [e1] at q2; cases q2; exact q1
          | ib c' fs => obtain ⟨b, q1, q2, _⟩ := old; rw [e1] at q2; cases q2; exact q1
          | _ => cases e2)) n2 hb f nt), l.sub b hb⟩
      cases u with
      | no => trivial
      | v d => obtain ⟨v, q1, q2⟩ := old; exact ⟨v, q1, q2.mono e⟩
      | sc ns => obtain ⟨b, q1, q2⟩ := old; exact ⟨b, q1, e.sqL q2⟩
      | o ds => exact key (.inl rfl) fun m hm k => g.sep.sl j _ hu rfl a b2 m k hm
      | io ds => exact key (.inr rfl) fun m hm k => g.sep.sl j _ hu rfl a b2 m k hm
      | ob c fs => exact key (.inl rfl) fun m hm => by obtain ⟨b, q1, _, q3⟩ := g.sl j _ hu; obtain ⟨C, dx, gs, q⟩ := q3.at; rw [hm] at q1; cases q1; exact nin q
      | ib c fs => exact key (.inr rfl) fun m hm => by obtain ⟨b, q1, _, q3⟩ := g.sl j _ hu; obtain ⟨C, dx, gs, q⟩ := q3.at; rw [hm] at q1; cases q1; exact nin q
  · have old := g.tm t ht
    refine old.mono e fun b hb f c nt => ⟨at_ b hb (free (ne2 t ht c) (fun m hm k => ?_) hb f nt), l.sub b hb⟩
    obtain ⟨v, r⟩ := t
    cases r with
    | o ds => exact g.sep.tm _ ht rfl a b2 m k (Option.some.inj hm)
    | ob c fs =>
      obtain ⟨b, q1, _, q3⟩ := old
      obtain ⟨C, dx, gs, q⟩ := q3.at
      have q1 : v = .ref b := q1
      have hm : some v = some (.ref m) := hm
      rw [q1] at hm
      cases hm
      exact nin q k
    | _ => cases c
  · have back : ∀ (j : Nat) u, (env.set i s')[j]? = some u → isO u = true → ∃ u', env[j]? = some u' ∧ isO u' = true := fun j u hu ho => by
      rcases set_get hu with ⟨rfl, rfl, _⟩ | ⟨hj, hu⟩
      · exact ⟨_, hi, by rw [← same.1]; exact ho⟩
      · exact ⟨u, hu, ho⟩
    obtain ⟨v1, a1, a2⟩ := back j u1 hj h1
    obtain ⟨v2, c1, c2⟩ := back k u2 hk h2
    exact g.dss j k v1 v2 hjk a1 a2 c1 c2
  · rcases set_get hj with ⟨rfl, rfl, _⟩ | ⟨hn, hj⟩
    · exact g.dst j s hi (by rw [← same.1]; exact hu) t ht h5
    · exact g.dst j u hj hu t ht h5
  · rcases set_get hh with ⟨rfl, rfl, _⟩ | ⟨_, hh⟩
    · exact g.one j s hi (by rw [← same.2.2]; exact hb)
    · exact g.one j u hh hb
  · rcases set_get h1 with ⟨rfl, rfl, _⟩ | ⟨_, h1⟩
    · exact ⟨s, hi, by rw [← same.2.1]; exact h2⟩
    · exact ⟨u, h1, h2⟩
/-- .. and its answer -/
theorem Good.afterH {i : Nat} {a : Addr} {s s' : Sl} (g : Good F env σ T H O) (hi : env[i]? = some s) (tn : Turn s s' h) (ha : (σ[i]?).getD none = some (.ref a)) (l : Left F.K F.cls (some a) H O H' O' v r h) : Good F (env.set i s') σ ((v, unMe i r) :: T) H' O' := by
  have g' := g.afterH0 hi tn ha l
  by_cases hr : r = .me
  · subst hr
    obtain ⟨b, e1, e2⟩ := l.res
    cases e1
    subst e2
    exact g'.pushB (getD_get ha)
  · have e : unMe i r = r := by cases r <;> first | rfl | exact absurd rfl hr
    rw [e]
    refine g'.pushR l hr (fun a => g.free0) (fun j u b hj hu hσ => ?_) g.own_in.2
    rcases set_get hj with ⟨rfl, rfl, _⟩ | ⟨hn, hj⟩
    · have hk : isO s = true := by cases tn <;> exact hu
      exact g.own_in.1 j s b hi hk hσ
    · exact g.own_in.1 j u b hj hu hσ
end
theorem len_of : ∀ {es : List Expr} {ps : Ps} {sc : Scope}, chkEs G N L ps sc es = true → ps.len = es.length
  | [], ps, sc, h => by
    cases ps with
    | nil => rfl
    | cons p ps => simp [chkEs] at h
  | e :: es, ps, sc, h => by
    cases ps with
    | nil => simp [chkEs] at h
    | cons p ps =>
      simp only [chkEs, Bool.and_eq_true] at h
      show ps.len + 1 = es.length + 1
      rw [len_of h.2]
/-- the wish of a call for exceptions -/
theorem exc_of {E : EX} {σ : St} {T : List (V × R)} {H : Hp} {O : List Addr} {env : Env} {hv : Hdv} {ds : List PyData} {s : FSpec} (g : Good F env σ T H O) (ex : ExOk F mg W E σ T) (w : ∀ x p h, s.exc hv ds x p h → E x p env) :
    ∀ x p h C d H' O', s.exc hv ds x p h → mg x = some (.ref C) → PayOk H' p d → Left F.K F.cls none H O H' O' .non (.v .none) h → WE W σ (.ref C) d H' := fun x p h C d H' O' he hm hp l => ex x p C d env H' O' hm hp (g.after0 l) (w x p h he)
/-- f(e, ..) without a head -/
theorem snd_call (C : Ctx G F N L sc W X) {k : Nat} {fi : FnI} {p pos : Pos} {e : Expr} {es : List Expr} {ps : Ps} (hk : G.fni k = some fi) (hd : fi.hd = .no) (hl : fi.lev ≤ L) (hn : (e :: es).length = fi.pars.length) (hg : glB sc fi.name = true)
    (h1 : notStar e = true) (h2 : (backTo pos (starEach es X.env)).any (·.1) = false) (hps : ps.len = (e :: es).length) (ha : PA X (e :: es) (rdEs G F X.mg W ps)) :
    PE X (.Call (.Name fi.name p) (e :: es) [] pos) (rdE G F X.mg W (.call k ps)) := by
  obtain ⟨f, fd, m, kp, bd, ok⟩ := C.kn.fn k fi hk hl
  obtain ⟨g1, g2⟩ := gl_of C hg
  have K := C.K
  refine (pe_callS ok (C.room.mono hl) g1 m kp bd (fun σ => passAt C.tk σ) ha g2 (star_cons h1) h2).imp fun σ H Q ⟨env, T, O, Qd, E, g, w, q, ex⟩ => ?_
  simp only [wpE] at w
  refine ⟨env, T, O, _, E, g, w, fun ds vs env' H' O' l' g' r' w' => ?_, ex⟩
  obtain ⟨w1, w2, w3⟩ := w'
  rw [K]
  refine ⟨.no, ds, O', none, vs, by rw [hd]; rfl, by rw [r'.length, l', hps, hn], ⟨rfl, rfl⟩, r', g'.oin, g'.sep.self, g'.tb, w1, fun r h v H2 O2 hp l => ?_, exc_of g' ex w3⟩
  exact q _ _ _ _ _ (g'.after l) (w2 r h hp)
theorem io_of {s : Option Sl} {Q : List PyData → (List PyData → Sl) → Prop} (h : ioSlot s Q) : (∃ xs, s = some (.o xs) ∧ Q xs .o) ∨ ∃ xs, s = some (.io xs) ∧ Q xs .io := by
  unfold ioSlot at h
  split at h
  · exact .inl ⟨_, rfl, h⟩
  · exact .inr ⟨_, rfl, h⟩
  · exact h.elim
theorem sc_of {s : Option Sl} {Q : List Int → Prop} (h : scSlot s Q) : ∃ xs, s = some (.sc xs) ∧ Q xs := by
  unfold scSlot at h
  split at h
  · exact ⟨_, rfl, h⟩
  · exact h.elim
/-- f(source, e, ..) -/
theorem snd_callIo (C : Ctx G F N L sc W X) {k i : Nat} {fi : FnI} {p p2 pos : Pos} {x : Str} {es : List Expr} {ps : Ps} (hk : G.fni k = some fi) (hd : fi.hd = .io) (hl : fi.lev ≤ L) (hn : es.length + 1 = fi.pars.length) (hg : glB sc fi.name = true)
    (hx : varB N sc i x = true) (h2 : (backTo pos (starEach es X.env)).any (·.1) = false) (hps : ps.len = es.length) (ha : PA X es (rdEs G F X.mg W ps)) :
    PE X (.Call (.Name fi.name p) (.Name x p2 :: es) [] pos) (rdE G F X.mg W (.callIo k i ps)) := by
  obtain ⟨f, fd, m, kp, bd, ok⟩ := C.kn.fn k fi hk hl
  obtain ⟨g1, g2⟩ := gl_of C hg
  have K := C.K
  refine (pe_callS ok (C.room.mono hl) g1 m kp bd (fun σ => passAt C.tk σ) (pa_cons (snd_var (pos := p2) C hx) ha rfl) g2 rfl h2).imp fun σ H Q ⟨env, T, O, Qd, E, g, w, q, ex⟩ => ?_
  simp only [wpE] at w
  refine ⟨env, T, O, fun r env1 => r = .b i ∧ env1 = env, E, g, ?_, fun r v env' H' O' g' w' => ?_, ex⟩
  · simp only [wpE]
    rcases io_of w with ⟨xs, e, _⟩ | ⟨xs, e, _⟩
    · rw [e]; exact ⟨by trivial, by trivial⟩
    · rw [e]; exact ⟨by trivial, by trivial⟩
  · obtain ⟨rfl, rfl⟩ := w'
    have w2 : wpEs G ps env' (fun ds env1 => ioSlot env1[i]? fun xs mk =>
        (G.fns k).pre (.io xs) ds ∧ (∀ r h, (G.fns k).post (.io xs) ds r h → ∃ ys, h = .io ys ∧ Qd (unMe i r) (env1.set i (mk ys))) ∧ ∀ x p h, (G.fns k).exc (.io xs) ds x p h → ∃ ys, h = .io ys ∧ E x p (env1.set i (mk ys))) E := by
      rcases io_of w with ⟨xs, e, w⟩ | ⟨xs, e, w⟩ <;> exact w
    refine ⟨env', _, O', _, E, g', w2, fun ds vs env2 H2 O2 l2 g2 r2 w3 => ?_, ex.pop⟩
    have t : σ[i]? = some (some v) := g2.tm _ List.mem_cons_self
    rw [K]
    rcases io_of w3 with ⟨xs, e, w3⟩ | ⟨xs, e, w3⟩
    · have z := g2.sl i _ e
      rw [get_getD t] at z
      obtain ⟨a, ws, z1, z2, z3, z4, z5⟩ := z
      cases z1
      obtain ⟨w4, w5, w6⟩ := w3
      refine ⟨.io xs, ds, O2, some a, vs, by rw [hd]; rfl, by rw [List.length_cons, r2.length, l2, hps]; exact hn, ⟨a, ws, rfl, rfl, z2, z3, z5, fun b hb k => g2.sep.sl i _ e rfl b hb a k (get_getD t)⟩, r2, g2.oin, g2.sep.self, g2.tb, w4, fun r h v H3 O3 hp l => ?_, fun x p h C d H3 O3 he hm hpk l => ?_⟩
      · obtain ⟨ys, rfl, w7⟩ := w5 r h hp
        exact q _ _ _ _ _ (g2.afterH e .o (get_getD t) l).pop2 w7
      · obtain ⟨ys, rfl, w7⟩ := w6 x p h he
        exact ex x p C d _ H3 O3 hm hpk (g2.pop.afterH0 e .o (get_getD t) l) w7
    · have z := g2.sl i _ e
      rw [get_getD t] at z
      obtain ⟨a, ws, z1, z0, z2, z3, z5⟩ := z
      cases z1
      obtain ⟨w4, w5, w6⟩ := w3
      refine ⟨.io xs, ds, O2, some a, vs, by rw [hd]; rfl, by rw [List.length_cons, r2.length, l2, hps]; exact hn, ⟨a, ws, rfl, rfl, z2, z3, z5, fun b hb k => g2.sep.sl i _ e rfl b hb a k (get_getD t)⟩, r2, g2.oin, g2.sep.self, g2.tb, w4, fun r h v H3 O3 hp l => ?_, fun x p h C d H3 O3 he hm hpk l => ?_⟩
      · obtain ⟨ys, rfl, w7⟩ := w5 r h hp
        exact q _ _ _ _ _ (g2.afterH e .io (get_getD t) l).pop2 w7
      · obtain ⟨ys, rfl, w7⟩ := w6 x p h he
        exact ex x p C d _ H3 O3 hm hpk (g2.pop.afterH0 e .io (get_getD t) l) w7
/-- f(script, e, ..) -/
theorem snd_callSc (C : Ctx G F N L sc W X) {k i : Nat} {fi : FnI} {p p2 pos : Pos} {x : Str} {es : List Expr} {ps : Ps} (hk : G.fni k = some fi) (hd : fi.hd = .sc) (hl : fi.lev ≤ L) (hn : es.length + 1 = fi.pars.length) (hg : glB sc fi.name = true)
    (hx : varB N sc i x = true) (h2 : (backTo pos (starEach es X.env)).any (·.1) = false) (hps : ps.len = es.length) (ha : PA X es (rdEs G F X.mg W ps)) :
    PE X (.Call (.Name fi.name p) (.Name x p2 :: es) [] pos) (rdE G F X.mg W (.callSc k i ps)) := by
  obtain ⟨f, fd, m, kp, bd, ok⟩ := C.kn.fn k fi hk hl
  obtain ⟨g1, g2⟩ := gl_of C hg
  have K := C.K
  refine (pe_callS ok (C.room.mono hl) g1 m kp bd (fun σ => passAt C.tk σ) (pa_cons (snd_var (pos := p2) C hx) ha rfl) g2 rfl h2).imp fun σ H Q ⟨env, T, O, Qd, E, g, w, q, ex⟩ => ?_
  simp only [wpE] at w
  obtain ⟨ns0, e0, w⟩ := sc_of w
  refine ⟨env, T, O, fun r env1 => r = .b i ∧ env1 = env, E, g, ?_, fun r v env' H' O' g' w' => ?_, ex⟩
  · simp only [wpE, e0]; exact ⟨by trivial, by trivial⟩
  · obtain ⟨rfl, rfl⟩ := w'
    refine ⟨env', _, O', _, E, g', w, fun ds vs env2 H2 O2 l2 g2 r2 w3 => ?_, ex.pop⟩
    have t : σ[i]? = some (some v) := g2.tm _ List.mem_cons_self
    rw [K]
    obtain ⟨ns, e, w4, w5, w6⟩ := sc_of w3
    have z := g2.sl i _ e
    rw [get_getD t] at z
    obtain ⟨a, z1, z2⟩ := z
    cases z1
    refine ⟨.sc ns, ds, O2, none, vs, by rw [hd]; rfl, by rw [List.length_cons, r2.length, l2, hps]; exact hn, ⟨a, rfl, rfl, z2⟩, r2, g2.oin, g2.sep.self, g2.tb, w4, fun r h v H3 O3 hp l => ?_, exc_of g2.pop ex w6⟩
    exact q _ _ _ _ _ (g2.after l).pop2 (w5 r h hp)
/-- name.pop() -/
theorem snd_pop (C : Ctx G F N L sc W X) {i : Nat} {x : Str} {p apos cpos : Pos} (hx : varB N sc i x = true) (hline : (apos.endLine == cpos.line) = true) : PE X (.Call (.Attribute (.Name x p) "pop" apos) [] [] cpos) (rdE G F X.mg W (.pop i)) := by
  refine (pe_bm0 PySem.F.plainAttrs_list PySem.F.slot_list_pop PySem.F.type_list_pop mt_pop (snd_var C hx) rfl hline).imp fun σ H Q ⟨env, T, O, Qd, E, g, w, q, ex⟩ => ?_
  simp only [wpE] at w
  obtain ⟨ds, d, e, el, w⟩ : ∃ ds d, env[i]? = some (.o ds) ∧ ds.getLast? = some d ∧ Qd (.v d) (env.set i (.o ds.dropLast)) := by
    cases e : env[i]? with
    | none => rw [e] at w; exact w.elim
    | some s =>
      rw [e] at w
      cases s with
      | o ds =>
        simp only at w
        cases e2 : ds.getLast? with
        | none => rw [e2] at w; exact w.elim
        | some d => rw [e2] at w; exact ⟨ds, d, rfl, e2, w⟩
      | _ => exact w.elim
  refine ⟨env, T, O, fun r env1 => r = .b i ∧ env1 = env, E, g, ?_, fun r v env' H' O' g' w' => ?_, ex⟩
  · simp only [wpE, e]; exact ⟨by trivial, by trivial⟩
  · obtain ⟨rfl, rfl⟩ := w'
    have t : σ[i]? = some (some v) := g'.tm _ List.mem_cons_self
    have z := g'.sl i _ e
    rw [get_getD t] at z
    obtain ⟨a, ws, z1, z2, z3, z4, z5⟩ := z
    cases z1
    refine ⟨.inl ⟨rfl, ws, SqL.of z2⟩, ?_⟩
    have hl := z5.length
    have gl : ds[ds.length - 1]? = some d := by rw [← el, List.getLast?_eq_getElem?]
    obtain ⟨y, y1, y2⟩ := z5.get gl
    have g2 := (g'.pop.pushV y2).change (s' := .o ds.dropLast) e (.inl ⟨rfl, rfl⟩) (get_getD t) z5.dropLast
    exact ⟨a, ws, y, rfl, rfl, z2, by rw [hl]; exact y1, q _ _ _ _ _ g2 w⟩
end
end Mp

set_option Elab.async false
set_option linter.all false
set_option maxRecDepth 100000
set_option maxHeartbeats 1000000
/-! Mp, part 3.5: objects. -/
namespace Mp
open PySem PySem.Spec PyProof.Rows L2
section
variable {K : PySem.W.Frag} {H H' : Hp} {O O' : List Addr} {N : Addr → Prop} {gs : List (Str × V)} {f : Str}
theorem FdsOk.get : ∀ {ns : List Str} {fs : List Fd} {j : Nat} {d : Fd}, FdsOk K H O N gs ns fs → ns[j]? = some f → fs[j]? = some d → FdOk K H O N gs f d
  | [], _, _, _, _, h, _ => by simp at h
  | _ :: _, [], _, _, k, _, _ => k.elim
  | g :: ns, e :: fs, 0, d, k, h1, h2 => by
    simp at h1 h2
    subst h1; subst h2
    exact k.1
  | g :: ns, e :: fs, j + 1, d, k, h1, h2 => FdsOk.get k.2 (by simpa using h1) (by simpa using h2)
theorem FdsOk.len : ∀ {ns : List Str} {fs : List Fd}, FdsOk K H O N gs ns fs → ns.length = fs.length
  | [], [], _ => rfl
  | [], _ :: _, k => k.elim
  | _ :: _, [], k => k.elim
  | _ :: _, _ :: _, k => by rw [List.length_cons, List.length_cons, FdsOk.len k.2]
/-- other attributes, the same values -/
theorem FdsOk.other {gs' : List (Str × V)} (e : Sub (hid O H) (hid O' H')) (k : ∀ l, l ∈ O → gs.lookup past = some (.ref l) → past ≠ f → H' l = H l ∧ l ∈ O') (hl : ∀ g, g ≠ f → gs'.lookup g = gs.lookup g) :
    ∀ {ns : List Str} {fs : List Fd}, f ∉ ns → FdsOk K H O N gs ns fs → FdsOk K H' O' N gs' ns fs
  | [], [], _, _ => True.intro
  | [], _ :: _, _, h => h.elim
  | _ :: _, [], _, h => h.elim
  | g :: ns, d :: ds, nf, h => by
    have ng : g ≠ f := fun z => nf (by rw [z]; exact List.mem_cons_self)
    refine ⟨?_, FdsOk.other e k hl (fun z => nf (List.mem_cons_of_mem _ z)) h.2⟩
    have h1 := h.1
    cases d with
    | no => show gs'.lookup g = none; rw [hl g ng]; exact h1
    | v d => obtain ⟨u, q1, q2, q3⟩ := h1; exact ⟨u, by rw [hl g ng]; exact q1, q2, q3.mono e⟩
    | o xs =>
      obtain ⟨l, ws, rfl, q0, q1, q2, q3, q4⟩ := h1
      obtain ⟨z1, z2⟩ := k l q2 q0 ng
      exact ⟨l, ws, rfl, by rw [hl _ ng]; exact q0, by rw [z1]; exact q1, z2, q3, q4.mono e⟩
/-- one attribute is set -/
theorem FdsOk.put {gs' : List (Str × V)} {d' : Fd} (e : Sub (hid O H) (hid O' H')) (k : ∀ l, l ∈ O → gs.lookup past = some (.ref l) → past ≠ f → H' l = H l ∧ l ∈ O') (hl : ∀ g, g ≠ f → gs'.lookup g = gs.lookup g) (new : FdOk K H' O' N gs' f d') :
    ∀ {ns : List Str} {fs : List Fd} {j : Nat}, ns.Nodup → ns[j]? = some f → FdsOk K H O N gs ns fs → FdsOk K H' O' N gs' ns (fs.set j d')
  | [], _, _, _, h, _ => by simp at h
  | _ :: _, [], _, _, _, h => h.elim
  | g :: ns, d :: ds, 0, nd, h1, h => by
    simp at h1
    subst h1
    exact ⟨new, FdsOk.other e k hl (List.nodup_cons.mp nd).1 h.2⟩
  | g :: ns, d :: ds, j + 1, nd, h1, h => by
    have h1 : ns[j]? = some f := by simpa using h1
    have ng : g ≠ f := fun z => (List.nodup_cons.mp nd).1 (by rw [z]; exact List.mem_of_getElem? h1)
    have one : FdsOk K H O N gs [g] [d] := ⟨h.1, True.intro⟩
    exact ⟨(FdsOk.other (ns := [g]) (fs := [d]) e k hl (by simpa using Ne.symm ng) one).1, FdsOk.put e k hl new (List.nodup_cons.mp nd).2 h1 h.2⟩
theorem putF_nodup {y : V} : ∀ {gs : List (Str × V)}, (gs.map (·.1)).Nodup → ((putF f y gs).map (·.1)).Nodup
  | [], _ => by simp [putF]
  | (g, x) :: r, h => by
    unfold putF
    split
    · exact h
    · rename_i hg
      have h' := List.nodup_cons.mp h
      refine List.nodup_cons.mpr ⟨fun z => ?_, putF_nodup h'.2⟩
      have key : ∀ {r : List (Str × V)} {k : Str}, k ∈ (putF f y r).map (·.1) → k = f ∨ k ∈ r.map (·.1) := by
        intro r
        induction r with
        | nil => intro k hk; simp [putF] at hk; exact .inl hk
        | cons p r ih =>
          intro k hk
          obtain ⟨g', x'⟩ := p
          unfold putF at hk
          split at hk
          · exact .inr hk
          · rcases List.mem_cons.mp hk with e | hk
            · exact .inr (by rw [e]; exact List.mem_cons_self)
            · exact (ih hk).imp id fun z => List.mem_cons_of_mem _ z
      rcases key z with e | e
      · exact hg e
      · exact h'.1 e
end
section
variable {F : Cf} {env : Env} {σ : St} {T : List (V × R)} {H H' : Hp} {O O' : List Addr}
/-- an object's slot, and its slot with other fields -/
inductive ObSl : Sl → (List Fd → Sl) → Nat → List Fd → Prop
  | ob {c : Nat} {fs : List Fd} : ObSl (.ob c fs) (.ob c) c fs
  | ib {c : Nat} {fs : List Fd} : ObSl (.ib c fs) (.ib c) c fs
/-- what the object's lists are, as the frame has it -/
def NewOf (F : Cf) (s : Sl) (a : Addr) : Addr → Prop := match s with
  | .ob _ _ => fun l => F.H0 l = none
  | _ => F.old a
theorem Good.obj {i c : Nat} {s : Sl} {mk : List Fd → Sl} {fs : List Fd} (g : Good F env σ T H O) (hi : env[i]? = some s) (hs : ObSl s mk c fs) : ∃ a, (σ[i]?).getD none = some (.ref a) ∧ ObOk F.K F.cls H O (NewOf F s a) a c fs ∧ ((isO s = true ∧ F.H0 a = none) ∨ (isB s = true ∧ F.io = some a)) := by
  have z := g.sl i s hi
  cases hs with
  | ob => obtain ⟨a, q1, q2, q3⟩ := z; exact ⟨a, q1, q3, .inl ⟨rfl, q2⟩⟩
  | ib => obtain ⟨a, q1, q2, q3⟩ := z; exact ⟨a, q1, q3, .inr ⟨rfl, q2⟩⟩
/-- an attribute of an object is set -/
theorem Good.put {i c : Nat} {s : Sl} {mk : List Fd → Sl} {fs fs' : List Fd} {a C dx : Addr} {gs gs' : List (Str × V)} (g : Good F env σ T H O) (hi : env[i]? = some s) (hs : ObSl s mk c fs) (ha : (σ[i]?).getD none = some (.ref a)) (hH : H a = some (.ins C dx gs))
    (hn : ObOk F.K F.cls (upd H a (.ins C dx gs')) O (NewOf F s a) a c fs')
    (hp : ∀ l, gs'.lookup past = some (.ref l) → gs.lookup past = some (.ref l) ∨ (F.H0 l = none ∧ (∃ ws, H l = some (.lst ws)) ∧ (∀ b ∈ O, ¬ fld H b l) ∧ (∀ (j : Nat) u, env[j]? = some u → isL u = true → (σ[j]?).getD none ≠ some (.ref l)) ∧ ∀ t ∈ T, isRL t.2 = true → t.1 ≠ .ref l)) :
    Good F (env.set i (mk fs')) σ T (upd H a (.ins C dx gs')) O := by
  obtain ⟨a', e1, ok, hd⟩ := g.obj hi hs
  rw [ha] at e1
  cases e1
  have haO := ok.inO
  have same : isO (mk fs') = isO s ∧ isL (mk fs') = false ∧ isB (mk fs') = isB s ∧ isL s = false := by cases hs <;> exact ⟨rfl, rfl, rfl, rfl⟩
  have eq : hid O (upd H a (.ins C dx gs')) = hid O H := hid_upd haO
  have e : Sub (hid O H) (hid O (upd H a (.ins C dx gs'))) := by rw [eq]; exact Sub.refl _
  have nofld : ∀ b ∈ O, ¬ fld H b a := fun b hb k => by
    obtain ⟨ws, w⟩ := g.sep.wf b hb a k
    rw [hH] at w; cases w
  have foot : ∀ {x : Option V} {b : Addr}, x ≠ some (.ref a) → Foot H O x b → b ≠ a := fun {x b} n f z => by
    subst z
    rcases f with f | ⟨c, hc, f1, f2⟩
    · exact n f
    · exact nofld c hc f2
  have ne1 : ∀ (j : Nat) u, j ≠ i → env[j]? = some u → (isO u = true ∨ isB u = true) → (σ[j]?).getD none ≠ some (.ref a) := fun j u hj hu hk z => by
    have zz := g.sl j u hu
    rcases hd with ⟨h1, h2⟩ | ⟨h1, h2⟩
    · rcases hk with hk | hk
      · exact g.dss j i u s hj hu hk hi h1 (z.trans ha.symm)
      · cases u with
        | io ds => obtain ⟨b, vs, q1, q2, _⟩ := zz; rw [z] at q1; cases q1; exact g.io_ne h2 q2
        | ib c fs => obtain ⟨b, q1, q2, _⟩ := zz; rw [z] at q1; cases q1; exact g.io_ne h2 q2
        | _ => cases hk
    · rcases hk with hk | hk
      · cases u with
        | o ds => obtain ⟨b, vs, q1, _, _, q4, _⟩ := zz; rw [z] at q1; cases q1; exact g.io_ne q4 h2
        | ob c' fs => obtain ⟨b, q1, q2, _⟩ := zz; rw [z] at q1; cases q1; exact g.io_ne q2 h2
        | _ => cases hk
      · exact hj ((g.one j u hu hk).trans (g.one i s hi h1).symm)
  have ne2 : ∀ t ∈ T, isRO t.2 = true → some t.1 ≠ some (.ref a) := fun t ht ho z => by
    rcases hd with ⟨h1, h2⟩ | ⟨h1, h2⟩
    · exact g.dst i s hi h1 t ht ho (ha.trans z.symm)
    · have zz := g.tm t ht
      obtain ⟨v, r⟩ := t
      have z : v = .ref a := Option.some.inj z
      subst z
      cases r with
      | o ds => obtain ⟨b, vs, q1, _, _, q4, _⟩ := zz; cases q1; exact g.io_ne q4 h2
      | ob c' fs => obtain ⟨b, q1, q2, _⟩ := zz; cases q1; exact g.io_ne q2 h2
      | _ => cases ho
  -- the lists of the object behind the store
  have fl : ∀ l, fld (upd H a (.ins C dx gs')) a l → gs'.lookup past = some (.ref l) := fun l ⟨C', dx', gs2, k1, k2⟩ => by
    rw [upd_same] at k1
    cases k1
    exact k2
  have flo : ∀ {l}, gs.lookup past = some (.ref l) → fld H a l := fun {l} k => ⟨C, dx, gs, hH, k⟩
  have fln : ∀ b l, b ≠ a → fld (upd H a (.ins C dx gs')) b l → fld H b l := fun b l n k => (fld_cong (upd_ne n)).mp k
  have nl : ∀ {l ws}, H l = some (.lst ws) → l ≠ a := fun {l ws} q z => by rw [z, hH] at q; cases q
  refine ⟨by simpa using g.len, fun b hb => ?_, g.o0, g.h0, g.ion, fun b u h n => ?_, fun b h => ?_, g.new, fun j u hu => ?_, fun t ht => ?_, fun j k u1 u2 hjk hj h1 hk h2 => ?_, fun j u hj hu t ht h5 => ?_, g.dtt, fun j u hh hb => ?_,
    ⟨fun b hb l k => ?_, fun b hb l k => ?_, fun b hb b' hb' l hl k k' => ?_, fun j u h1 h2 b hb l k => ?_, fun t ht h2 b hb l k => ?_⟩, g.tb.ins hH fun _ h => h⟩
  · by_cases hb' : b = a
    · subst hb'; rw [upd_same]; simp
    · rw [upd_ne hb']; exact g.oin b hb
  · rw [upd_ne]
    · exact g.keep b u h n
    · rintro rfl
      rcases hd with ⟨_, h2⟩ | ⟨_, h2⟩
      · rw [h2] at h; cases h
      · exact n (.inl h2)
  · by_cases hb' : b = a
    · subst hb'; rw [upd_same]; simp
    · rw [upd_ne hb']; exact g.keep0 b h
  · rcases set_get hu with ⟨rfl, rfl, _⟩ | ⟨hj, hu⟩
    · cases hs with
      | ob =>
        rcases hd with ⟨_, h2⟩ | ⟨h1, _⟩
        · exact ⟨a, ha, h2, hn⟩
        · cases h1
      | ib =>
        rcases hd with ⟨h1, _⟩ | ⟨_, h2⟩
        · cases h1
        · exact ⟨a, ha, h2, hn⟩
    · have old := g.sl j u hu
      have key : (isO u = true ∨ isB u = true) → SlOk F (upd H a (.ins C dx gs')) O u ((σ[j]?).getD none) := fun hk => old.mono e fun b hb f c _ => ⟨upd_ne (foot (ne1 j u hj hu hk) f), hb⟩
      cases u with
      | no => trivial
      | v d => obtain ⟨v, q1, q2⟩ := old; exact ⟨v, q1, q2.mono e⟩
      | sc ns => obtain ⟨b, q1, q2⟩ := old; exact ⟨b, q1, e.sqL q2⟩
      | o ds => exact key (.inl rfl)
      | io ds => exact key (.inr rfl)
      | ob c fs => exact key (.inl rfl)
      | ib c fs => exact key (.inr rfl)
  · exact (g.tm t ht).mono e fun b hb f c _ => ⟨upd_ne (foot (ne2 t ht c) f), hb⟩
  · have back : ∀ (j : Nat) u, (env.set i (mk fs'))[j]? = some u → isO u = true → ∃ u', env[j]? = some u' ∧ isO u' = true := fun j u hu ho => by
      rcases set_get hu with ⟨rfl, rfl, _⟩ | ⟨hj, hu⟩
      · exact ⟨_, hi, by rw [← same.1]; exact ho⟩
      · exact ⟨u, hu, ho⟩
    obtain ⟨v1, a1, a2⟩ := back j u1 hj h1
    obtain ⟨v2, c1, c2⟩ := back k u2 hk h2
    exact g.dss j k v1 v2 hjk a1 a2 c1 c2
  · rcases set_get hj with ⟨rfl, rfl, _⟩ | ⟨hn, hj⟩
    · exact g.dst j s hi (by rw [← same.1]; exact hu) t ht h5
    · exact g.dst j u hj hu t ht h5
  · rcases set_get hh with ⟨rfl, rfl, _⟩ | ⟨_, hh⟩
    · exact g.one j s hi (by rw [← same.2.2.1]; exact hb)
    · exact g.one j u hh hb
  · by_cases hb' : b = a
    · subst hb'
      rcases hp l (fl l k) with q | ⟨q, _⟩
      · exact g.sep.nf b hb l (flo q)
      · exact .inr q
    · exact g.sep.nf b hb l (fln b l hb' k)
  · have q : ∃ ws, H l = some (.lst ws) := by
      by_cases hb' : b = a
      · subst hb'
        rcases hp l (fl l k) with q | ⟨_, q, _⟩
        · exact g.sep.wf b hb l (flo q)
        · exact q
      · exact g.sep.wf b hb l (fln b l hb' k)
    obtain ⟨ws, q⟩ := q
    exact ⟨ws, by rw [upd_ne (nl q)]; exact q⟩
  · by_cases h1 : b = a
    · by_cases h2 : b' = a
      · exact h1.trans h2.symm
      · subst h1
        rcases hp l (fl l k) with q | ⟨_, _, q, _⟩
        · exact g.sep.one b hb b' hb' l hl (flo q) (fln b' l h2 k')
        · exact absurd (fln b' l h2 k') (q b' hb')
    · by_cases h2 : b' = a
      · subst h2
        rcases hp l (fl l k') with q | ⟨_, _, q, _⟩
        · exact g.sep.one b hb b' hb' l hl (fln b l h1 k) (flo q)
        · exact absurd (fln b l h1 k) (q b hb)
      · exact g.sep.one b hb b' hb' l hl (fln b l h1 k) (fln b' l h2 k')
  · rcases set_get h1 with ⟨rfl, rfl, _⟩ | ⟨_, h1⟩
    · rw [same.2.1] at h2; cases h2
    · by_cases hb' : b = a
      · subst hb'
        rcases hp l (fl l k) with q | ⟨_, _, _, q, _⟩
        · exact g.sep.sl j u h1 h2 b hb l (flo q)
        · exact q j u h1 h2
      · exact g.sep.sl j u h1 h2 b hb l (fln b l hb' k)
  · by_cases hb' : b = a
    · subst hb'
      rcases hp l (fl l k) with q | ⟨_, _, _, _, q⟩
      · exact g.sep.tm t ht h2 b hb l (flo q)
      · exact q t ht h2
    · exact g.sep.tm t ht h2 b hb l (fln b l hb' k)
end
end Mp

set_option Elab.async false
set_option linter.all false
set_option maxRecDepth 100000
set_option maxHeartbeats 1000000
/-! Mp, part 3.6: objects: values and lists in their fields; new objects. -/
namespace Mp
open PySem PySem.Spec PyProof.Rows L2
theorem nodup_le {α : Type} [DecidableEq α] : ∀ {l m : List α}, l.Nodup → (∀ x ∈ l, x ∈ m) → l.length ≤ m.length
  | [], m, _, _ => Nat.zero_le _
  | x :: l, m, nd, s => by
    have hx := s x List.mem_cons_self
    have h := nodup_le (m := m.erase x) (List.nodup_cons.mp nd).2 fun y hy => by
      have ne : y ≠ x := fun z => (List.nodup_cons.mp nd).1 (by rw [← z]; exact hy)
      exact (List.mem_erase_of_ne ne).mpr (s y (List.mem_cons_of_mem _ hy))
    rw [List.length_erase_of_mem hx] at h
    have : 0 < m.length := List.length_pos_of_mem hx
    rw [List.length_cons]
    omega
theorem lookup_some {gs : List (Str × V)} {f : Str} : f ∈ gs.map (·.1) → ∃ u, gs.lookup f = some u := by
  induction gs with
  | nil => intro h; simp at h
  | cons p r ih =>
    obtain ⟨g, x⟩ := p
    intro h
    by_cases e : f = g
    · subst e; exact ⟨x, by simp [List.lookup]⟩
    · have hn : (f == g) = false := by simpa using e
      obtain ⟨u, hu⟩ := ih ((List.mem_cons.mp h).resolve_left e)
      exact ⟨u, by simp only [List.lookup, hn]; exact hu⟩
theorem keys_le {gs : List (Str × V)} {names : List Str} (h : (gs.map (·.1)).Nodup ∧ ∀ f u, gs.lookup f = some u → f ∈ names) : gs.length ≤ names.length := by
  have := nodup_le h.1 (m := names) fun f hf => by
    obtain ⟨u, hu⟩ := lookup_some hf
    exact h.2 f u hu
  simpa using this
theorem keys_put {gs : List (Str × V)} {names : List Str} {f : Str} {y : V} (h : (gs.map (·.1)).Nodup ∧ ∀ f u, gs.lookup f = some u → f ∈ names) (hf : f ∈ names) : ((putF f y gs).map (·.1)).Nodup ∧ ∀ g u, (putF f y gs).lookup g = some u → g ∈ names := by
  refine ⟨putF_nodup h.1, fun g u hg => ?_⟩
  rw [lookup_putF] at hg
  split at hg
  · rename_i e; rw [e]; exact hf
  · exact h.2 g u hg
theorem lookup_ne {gs : List (Str × V)} {f g : Str} {y : V} (h : g ≠ f) : (putF f y gs).lookup g = gs.lookup g := by rw [lookup_putF, if_neg h]
theorem lookup_eq {gs : List (Str × V)} {f : Str} {y : V} : (putF f y gs).lookup f = some y := by rw [lookup_putF, if_pos rfl]
section
variable {F : Cf} {env : Env} {σ : St} {T : List (V × R)} {H H' : Hp} {O O' : List Addr}
/-- a field is set to a value -/
theorem Good.setF {i j c : Nat} {s : Sl} {mk : List Fd → Sl} {fs : List Fd} {a C : Addr} {names : List Str} {f : Str} {y : V} {d : PyData} (g : Good F env σ T H O) (hi : env[i]? = some s) (hs : ObSl s mk c fs) (ha : (σ[i]?).getD none = some (.ref a))
    (hc : F.cls c = some (C, names)) (nd : names.Nodup) (hj : names[j]? = some f) (hf : f ≠ past) (r : Rep F.K (hid O H) y d) :
    ∃ dx gs, H a = some (.ins C dx gs) ∧ gs.length ≤ names.length ∧ Good F (env.set i (mk (fs.set j (.v d)))) σ T (upd H a (.ins C dx (putF f y gs))) O := by
  obtain ⟨a', e1, ok, hd⟩ := g.obj hi hs
  rw [ha] at e1; cases e1
  obtain ⟨C', dx, names', gs, h1, h2, h3, h4, h5, h6⟩ := ok
  rw [hc] at h1; cases h1
  have eq : hid O (upd H a (.ins C dx (putF f y gs))) = hid O H := hid_upd h4
  have e : Sub (hid O H) (hid O (upd H a (.ins C dx (putF f y gs)))) := by rw [eq]; exact Sub.refl _
  have lst : ∀ l, gs.lookup past = some (.ref l) → l ≠ a := fun l hl z => by
    obtain ⟨ws, w⟩ := g.sep.wf a h4 l ⟨C, dx, gs, h2, hl⟩
    rw [z, h2] at w; cases w
  refine ⟨dx, gs, h2, keys_le h5, g.put hi hs ha h2 ⟨C, dx, names, putF f y gs, hc, upd_same, by rw [eq]; exact h3, h4, keys_put h5 (List.mem_of_getElem? hj), ?_⟩ fun l hl => .inl ?_⟩
  · have new : FdOk F.K (upd H a (.ins C dx (putF f y gs))) O (NewOf F s a) (putF f y gs) f (.v d) := ⟨y, lookup_eq, hf, by rw [eq]; exact r⟩
    exact h6.put e (fun l hl k _ => ⟨upd_ne (lst l k), hl⟩) (fun g hg => lookup_ne hg) new nd hj
  · rw [lookup_ne (Ne.symm hf)] at hl; exact hl
/-- .. to a list that nothing else knows -/
theorem Good.setFO {i j c : Nat} {s : Sl} {mk : List Fd → Sl} {fs : List Fd} {a C : Addr} {names : List Str} {y : V} {ds : List PyData} (g : Good F env σ ((y, .o ds) :: T) H O) (hi : env[i]? = some s) (hs : ObSl s mk c fs) (ha : (σ[i]?).getD none = some (.ref a))
    (hc : F.cls c = some (C, names)) (nd : names.Nodup) (hj : names[j]? = some past) :
    ∃ dx gs, H a = some (.ins C dx gs) ∧ gs.length ≤ names.length ∧ Good F (env.set i (mk (fs.set j (.o ds)))) σ T (upd H a (.ins C dx (putF past y gs))) O := by
  obtain ⟨a', e1, ok, hd⟩ := g.obj hi hs
  rw [ha] at e1; cases e1
  obtain ⟨C', dx, names', gs, h1, h2, h3, h4, h5, h6⟩ := ok
  rw [hc] at h1; cases h1
  obtain ⟨l, ws, ey, q1, q2, q3, q4⟩ := g.tm _ List.mem_cons_self
  have ey : y = .ref l := ey
  subst ey
  have q1 : H l = some (.lst ws) := q1
  have q3 : F.H0 l = none := q3
  have eq : hid O (upd H a (.ins C dx (putF past (.ref l) gs))) = hid O H := hid_upd h4
  have e : Sub (hid O H) (hid O (upd H a (.ins C dx (putF past (.ref l) gs)))) := by rw [eq]; exact Sub.refl _
  have nla : l ≠ a := fun z => by rw [z, h2] at q1; cases q1
  have d := List.pairwise_cons.mp g.dtt
  refine ⟨dx, gs, h2, keys_le h5, g.pop.put hi hs ha h2 ⟨C, dx, names, putF past (.ref l) gs, hc, upd_same, by rw [eq]; exact h3, h4, keys_put h5 (List.mem_of_getElem? hj), ?_⟩ fun m hm => .inr ?_⟩
  · have nw : NewOf F s a l := by
      cases hs with
      | ob => exact q3
      | ib => exact .inl q3
    have new : FdOk F.K (upd H a (.ins C dx (putF past (.ref l) gs))) O (NewOf F s a) (putF past (.ref l) gs) past (.o ds) := ⟨l, ws, rfl, lookup_eq, by rw [upd_ne nla]; exact q1, q2, nw, by rw [eq]; exact q4⟩
    exact h6.put e (fun m hm k n => absurd rfl n) (fun g hg => lookup_ne hg) new nd hj
  · rw [lookup_eq] at hm
    cases hm
    refine ⟨q3, ⟨ws, q1⟩, fun b hb k => g.sep.tm _ List.mem_cons_self rfl b hb l k rfl, fun j u hu hL z => ?_, fun t ht hL z => ?_⟩
    · cases u with
      | o es => exact g.dst j _ hu rfl _ List.mem_cons_self rfl z
      | io es => obtain ⟨b, vs, k1, k2, _⟩ := g.sl j _ hu; rw [z] at k1; cases k1; exact g.io_ne q3 k2
      | _ => cases hL
    · have : isRO t.2 = true := by obtain ⟨v, r⟩ := t; cases r <;> first | rfl | cases hL
      exact d.1 t ht rfl this z.symm
/-- the list in an object's field is changed where it stands -/
theorem Good.changeF {i j c : Nat} {s : Sl} {mk : List Fd → Sl} {fs : List Fd} {a : Addr} {names : List Str} {C : Addr} {xs xs' : List PyData} (g : Good F env σ T H O) (hi : env[i]? = some s) (hs : ObSl s mk c fs) (ha : (σ[i]?).getD none = some (.ref a))
    (hc : F.cls c = some (C, names)) (nd : names.Nodup) (hj : names[j]? = some past) (hx : fs[j]? = some (.o xs)) :
    ∃ dx gs l ws, H a = some (.ins C dx gs) ∧ gs.lookup past = some (.ref l) ∧ H l = some (.lst ws) ∧ Reps F.K (hid O H) ws xs ∧
      ∀ ws', Reps F.K (hid O H) ws' xs' → Good F (env.set i (mk (fs.set j (.o xs')))) σ T (upd H l (.lst ws')) O := by
  obtain ⟨a', e1, ok, hd⟩ := g.obj hi hs
  rw [ha] at e1; cases e1
  have own := fun l h => ok.own (l := l) h
  obtain ⟨C', dx, names', gs, h1, h2, h3, h4, h5, h6⟩ := ok
  rw [hc] at h1; cases h1
  obtain ⟨l, ws, _, q0, q1, q2, q3, q4⟩ := h6.get hj hx
  have fla : fld H a l := ⟨C, dx, gs, h2, q0⟩
  refine ⟨dx, gs, l, ws, h2, q0, q1, q4, fun ws' r => ?_⟩
  have nla : a ≠ l := fun z => by rw [← z, h2] at q1; cases q1
  have eq : hid O (upd H l (.lst ws')) = hid O H := hid_upd q2
  have e : Sub (hid O H) (hid O (upd H l (.lst ws'))) := by rw [eq]; exact Sub.refl _
  have tn : Turn s (mk (fs.set j (.o xs'))) (.ob c (fs.set j (.o xs'))) := by cases hs <;> constructor
  have fl : ∀ b m, fld (upd H l (.lst ws')) b m → fld H b m := fun b m k => by
    by_cases hb : b = l
    · subst hb; exact absurd k (not_fld_lst upd_same)
    · exact (fld_cong (upd_ne hb)).mp k
  have new : FdOk F.K (upd H l (.lst ws')) O (NewOf F s a) gs past (.o xs') := ⟨l, ws', rfl, q0, upd_same, q2, q3, by rw [eq]; exact r⟩
  have fin := h6.put (f := past) (gs' := gs) (d' := .o xs') (H' := upd H l (.lst ws')) (O' := O) e (fun m hm k n => absurd rfl n) (fun g hg => rfl) new nd hj
  refine g.afterH0 (v := .non) (r := .v .none) hi tn ha ⟨fun b u hb n => ?_, fun b hb => ?_, fun b hb => hb, fun b hb => .inl hb, fun b hb => ?_, .non, ⟨fun b hb m k => .inl ⟨hb, fl b m k⟩, fun b hb m k => ?_, fun b hb b' hb' m hm k k' => g.sep.one b hb b' hb' m hm (fl b m k) (fl b' m k'), fun i u h => by simp at h, fun t ht h => by
      rcases List.mem_cons.mp ht with rfl | ht
      · cases h
      · cases ht⟩, (fun xs z => by cases z), (fun c' fs' z => ?_), g.tb.lst q1 fun _ h => h⟩
  · rw [upd_ne]
    · exact hb
    · rintro rfl
      exact n (.inr (.inl ⟨a, rfl, q2, fla⟩))
  · by_cases hb' : b = l
    · subst hb'; rw [upd_same]; simp
    · rw [upd_ne hb']; exact hb
  · by_cases hb' : b = l
    · subst hb'; rw [upd_same]; simp
    · rw [upd_ne hb']; exact g.oin b hb
  · obtain ⟨ws2, w⟩ := g.sep.wf b hb m (fl b m k)
    by_cases hm : m = l
    · subst hm; exact ⟨ws', upd_same⟩
    · exact ⟨ws2, by rw [upd_ne hm]; exact w⟩
  · cases z
    refine ⟨a, rfl, C, dx, names, gs, hc, by rw [upd_ne nla]; exact h2, by rw [eq]; exact h3, h4, h5, ?_⟩
    exact fin.impN fun m hm _ _ => .inr ⟨C, dx, gs, h2, hm⟩
end
end Mp

set_option Elab.async false
set_option linter.all false
set_option maxRecDepth 100000
set_option maxHeartbeats 1000000
/-! Mp, part 3.7: an object is made. -/
namespace Mp
open PySem PySem.Spec PyProof.Rows L2
/-- an instance without attributes -/
def mk0 (H : Hp) (x dx C : Addr) : Hp := upd (upd H dx (.own x)) x (.ins C dx [])
def noFs (n : Nat) : List Fd := List.replicate n .no
theorem FdsOk.none {K : PySem.W.Frag} {H : Hp} {O : List Addr} {N : Addr → Prop} : ∀ (names : List Str), FdsOk K H O N [] names (noFs names.length)
  | [] => True.intro
  | f :: r => ⟨rfl, FdsOk.none r⟩
section
variable {K : PySem.W.Frag} {cls : Cls} {H H' : Hp} {O O' : List Addr} {x dx C : Addr}
theorem mk0_old {b : Addr} (hx : H x = none) (hd : H dx = none) (h : H b ≠ none) : mk0 H x dx C b = H b := by
  unfold mk0
  rw [upd_ne (fun z => h (by rw [z]; exact hx)), upd_ne (fun z => h (by rw [z]; exact hd))]
theorem mk0_none {b : Addr} (h : mk0 H x dx C b = none) : H b = none := by
  unfold mk0 at h
  by_cases h1 : b = x
  · subst h1; rw [upd_same] at h; cases h
  · rw [upd_ne h1] at h
    by_cases h2 : b = dx
    · subst h2; rw [upd_same] at h; cases h
    · rw [upd_ne h2] at h; exact h
theorem mk0_fld {a l : Addr} (hx : H x = none) (hd : H dx = none) (h : fld (mk0 H x dx C) a l) : a ≠ x ∧ fld H a l := by
  have n1 : a ≠ x := fun z => by
    subst z
    obtain ⟨C', dx', gs, e1, e2⟩ := h
    unfold mk0 at e1
    rw [upd_same] at e1
    cases e1
    cases e2
  refine ⟨n1, ?_⟩
  have n2 : a ≠ dx := fun z => by
    subst z
    obtain ⟨C', dx', gs, e1, e2⟩ := h
    unfold mk0 at e1
    rw [upd_ne n1, upd_same] at e1
    cases e1
  refine (fld_cong ?_).mp h
  unfold mk0
  rw [upd_ne n1, upd_ne n2]
theorem mk0_sub (hx : H x = none) (hd : H dx = none) : Sub H (mk0 H x dx C) := fun b o h => by rw [mk0_old hx hd (by rw [h]; simp)]; exact h
theorem mk0_hid (hx : H x = none) (hd : H dx = none) : Sub (hid O H) (hid (x :: O) (mk0 H x dx C)) :=
  hid_mono (fun a ha => (List.mem_cons.mp ha).elim (fun z => .inr (by rw [z]; exact hx)) .inl) fun a o _ h => mk0_sub hx hd a o h
theorem mk0_sep {H0 : Hp} {O0 : List Addr} {env : Env} {σ : St} {T : List (V × R)} (hx : H x = none) (hd : H dx = none) (s : Sep H0 O0 env σ T H O) : Sep (mk0 H x dx C) (x :: O) [] [] [] (mk0 H x dx C) (x :: O) := by
  have old : ∀ a ∈ x :: O, ∀ l, fld (mk0 H x dx C) a l → a ∈ O ∧ fld H a l := fun a ha l h => by
    obtain ⟨n, k⟩ := mk0_fld hx hd h
    exact ⟨(List.mem_cons.mp ha).resolve_left n, k⟩
  refine ⟨fun a ha l h => .inl ⟨ha, h⟩, fun a ha l h => ?_, fun a ha b hb l hl h h' => ?_, fun i u h => by simp at h, fun t h => by cases h⟩
  · obtain ⟨q1, q2⟩ := old a ha l h
    obtain ⟨ws, w⟩ := s.wf a q1 l q2
    exact ⟨ws, mk0_sub hx hd _ _ w⟩
  · obtain ⟨q1, q2⟩ := old a ha l h
    obtain ⟨q3, q4⟩ := old b hb l h'
    rcases List.mem_cons.mp hl with rfl | hl
    · obtain ⟨ws, w⟩ := s.wf a q1 l q2
      rw [hx] at w; cases w
    · exact s.one a q1 b q3 l hl q2 q4
theorem mk0_ok {c : Nat} {names : List Str} (hx : H x = none) (hd : H dx = none) (hne : dx ≠ x) (oin : ∀ a ∈ O, H a ≠ none) (hc : cls c = some (C, names)) : ObOk K cls (mk0 H x dx C) (x :: O) (fun _ => True) x c (noFs names.length) := by
  refine ⟨C, dx, names, [], hc, by unfold mk0; rw [upd_same], ?_, List.mem_cons_self, ⟨List.nodup_nil, fun f u h => by cases h⟩, FdsOk.none names⟩
  have hn : dx ∉ x :: O := fun z => (List.mem_cons.mp z).elim hne fun z => oin _ z hd
  rw [hid_out hn]
  unfold mk0
  rw [upd_ne hne, upd_same]
/-- the making and the call of __init__ in one -/
theorem Left.made {v : V} {r : R} {h : Hdv} (hx : H x = none) (hd : H dx = none) (oin : ∀ a ∈ O, H a ≠ none) (l : Left K cls (some x) (mk0 H x dx C) (x :: O) H' O' v r h) {w : V} {q : R} (hr : resOk K cls none H H' O' w q) (hq : isRL q = false) : Left K cls none H O H' O' w q .no := by
  have nf : ∀ a ∈ O', ∀ m, fld H' a m → (a ∈ O ∧ fld H a m) ∨ H m = none := fun a ha m hm => by
    rcases l.sep.nf a ha m hm with ⟨q1, q2⟩ | q
    · obtain ⟨n, k⟩ := mk0_fld hx hd q2
      exact .inl ⟨(List.mem_cons.mp q1).resolve_left n, k⟩
    · exact .inr (mk0_none q)
  refine ⟨fun b u hb nb => l.keep b u (mk0_sub hx hd _ _ hb) fun z => ?_, fun b hb => l.keep0 b (by rw [mk0_old hx hd hb]; exact hb), fun a ha => l.sub a (List.mem_cons_of_mem _ ha), fun a ha => ?_, l.oin, hr,
    ⟨nf, l.sep.wf, l.sep.one, fun i u h => by simp at h, fun t ht h2 => ?_⟩, (fun xs z => by cases z), (fun c fs z => by cases z), l.tb⟩
  · rcases z with z | ⟨a, z1, _, z3⟩ | z
    · cases z; rw [hx] at hb; cases hb
    · cases z1
      exact (mk0_fld hx hd z3).1 rfl
    · exact nb (.inr (.inr z))
  · rcases l.new a ha with q | q
    · rcases List.mem_cons.mp q with rfl | q
      · exact .inr hx
      · exact .inl q
    · exact .inr (mk0_none q)
  · rcases List.mem_cons.mp ht with rfl | ht
    · have h2 : isRL q = true := h2
      rw [hq] at h2; cases h2
    · cases ht
theorem Left.madeOb {v : V} {r : R} {c : Nat} {fs : List Fd} (hx : H x = none) (hd : H dx = none) (oin : ∀ a ∈ O, H a ≠ none) (l : Left K cls (some x) (mk0 H x dx C) (x :: O) H' O' v r (.ob c fs)) : Left K cls none H O H' O' (.ref x) (.ob c fs) .no := by
  refine l.made hx hd oin ?_ rfl
  obtain ⟨a, e, ok⟩ := l.ob c fs rfl
  cases e
  refine ⟨x, rfl, hx, ok.impN fun m _ _ k => ?_⟩
  rcases k with k | k
  · exact mk0_none k
  · exact absurd rfl (mk0_fld hx hd k).1
theorem Left.madeX {v : V} {r : R} {h : Hdv} (hx : H x = none) (hd : H dx = none) (oin : ∀ a ∈ O, H a ≠ none) (l : Left K cls (some x) (mk0 H x dx C) (x :: O) H' O' v r h) : Left K cls none H O H' O' .non (.v .none) .no := l.made hx hd oin .non rfl
end
end Mp

set_option Elab.async false
set_option linter.all false
set_option maxRecDepth 100000
set_option maxHeartbeats 1000000
/-! Mp, part 7.5: the rules of objects. -/
namespace Mp
open PySem PySem.Spec PyProof.Rows L2
section
variable {X : Cx} {CX : CXT} {k : Nat} {f C : Addr} {fd : FuncData} {ps : List Str} {sp : Sp} {E : St → XK} {x m : Str} {p pos apos : Pos} {e o : Expr} {es : List Expr} {ta : TE} {t : TA}
theorem form_eq {l : List (Bool × Sem Value)} (h : l.any (·.1) = false) (n : Nat) (hn : n < 30) : methodCallForm n l (backToKw pos (keywordEach [] X.env)) = true := by
  unfold methodCallForm
  have e : l.all (fun q => !q.1) = true := by
    rw [List.all_eq_true]
    intro q hq
    have := List.any_eq_false.mp h q hq
    simpa using this
  rw [e]
  simp [keywordEach, backToKw, hn]
theorem mcall_eq {args : List Expr} (hb : attributeBase o m X.env (eval o X.env) = eval o X.env) (hf : (backTo pos (starEach args X.env)).any (·.1) = false) (hn : args.length < 30) (hl : (apos.endLine == pos.line) = true) :
    eval (.Call (.Attribute o m apos) args [] pos) X.env = (do
      let obj ← eval o X.env
      standAt apos.atName
      let (g, fst) ← holding [obj] (getMethod obj m (do return (← importBound o X.env).getD true))
      callWith pos g fst (backTo pos (starEach args X.env)) (backToKw pos (keywordEach [] X.env))) := by
  have e0 : eval (.Call (.Attribute o m apos) args [] pos) X.env = (do
      let obj ← attributeBase o m X.env (eval o X.env)
      standAt apos.atName
      methodCall o m apos pos X.env obj (args.length + ([] : List Keyword).length) (backTo pos (starEach args X.env)) (backToKw pos (keywordEach [] X.env))) := by first | rfl | (rw [eval]; rfl)
  rw [e0, hb]
  have hf' : methodCallForm (args.length + ([] : List Keyword).length) (backTo pos (starEach args X.env)) (backToKw pos (keywordEach [] X.env)) = true := form_eq hf _ (by simpa using hn)
  unfold methodCall calleeOf methodCallPos
  simp only [hf', hl, Bool.not_true, Bool.false_or, if_true, pure_bind]
def tMs (C : Addr) (m : Str) (sp : Sp) (E : St → XK) (ta : TE) (t : TA) : TE := fun σ H Q => ta σ H fun v H1 => ∃ a dx gs, v = .ref a ∧ H1 a = some (.ins C dx gs) ∧ gs.lookup m = none ∧ t σ H1 fun ws H2 => sp (v :: ws) H2 Q (E σ)
/-- o.m(e, ..), the errors told at the slots as they stand -/
theorem pe_ms {ql : Sem Bool} (hto : PE X o ta) (cl : L2.Cls X.K C) (mt : Meth X.K C m f) (Fn : FnOk X.prog X.w X.K X.mg X.base CX k f fd ps sp) (room : Room k X.A) (bd : Binds X.K fd ps []) (pass : ∀ σ, PassesAt CX X σ (E σ)) (hta : PA X (e :: es) t)
    (h1 : starEach (e :: es) X.env = (false, eval e X.env) :: starEach es X.env) (h2 : (backTo pos (starEach es X.env)).any (·.1) = false)
    (h3 : eval (.Call (.Attribute o m apos) (e :: es) [] pos) X.env = (do
      let obj ← eval o X.env
      standAt apos.atName
      let (g, fst) ← holding [obj] (getMethod obj m ql)
      callWith pos g fst (backTo pos (starEach (e :: es) X.env)) (backToKw pos (keywordEach [] X.env))) := by rfl) :
    PE X (.Call (.Attribute o m apos) (e :: es) [] pos) (tMs C m sp E ta t) := by
  refine ⟨fun pp st σ Hq Qq J hq => ?_⟩
  refine PySem.W.methodCall_KW (pl := ql) (thn (hto.run pp st σ Hq _ J hq) fun y st1 ⟨v, H1, J1, rv, a, dx, gs, ev, ea, hl, q1⟩ => ?_) h3
  subst ev
  obtain rfl : y = Value.ref a := rv
  refine getmeth_ok J1 ea cl mt hl ?_
  refine PySem.W.callWith_K (first := [.ref a]) (h₀ := X.base) J.ok.mod.kin mt.kp (thn (hta.run pos pp st1 σ H1 _ J1 q1) fun ys st2 ⟨ws, H2, J2, rw', q2⟩ => ⟨J2.kIn, ?_⟩) h1 h2
  exact run_fnS (us := .ref a :: ys) (vs := .ref a :: ws) Fn room bd (pass σ) J2 (.cons rfl rw') q2
theorem pe_ms0 {ql : Sem Bool} (hto : PE X o ta) (cl : L2.Cls X.K C) (mt : Meth X.K C m f) (Fn : FnOk X.prog X.w X.K X.mg X.base CX k f fd ps sp) (room : Room k X.A) (bd : Binds X.K fd ps []) (pass : ∀ σ, PassesAt CX X σ (E σ))
    (h3 : eval (.Call (.Attribute o m apos) [] [] pos) X.env = (do
      let obj ← eval o X.env
      standAt apos.atName
      let (g, fst) ← holding [obj] (getMethod obj m ql)
      callWith pos g fst (backTo pos (starEach [] X.env)) (backToKw pos (keywordEach [] X.env))) := by rfl) :
    PE X (.Call (.Attribute o m apos) [] [] pos) (tMs C m sp E ta tNil) := by
  refine ⟨fun pp st σ Hq Qq J hq => ?_⟩
  refine PySem.W.methodCall_KW (pl := ql) (thn (hto.run pp st σ Hq _ J hq) fun y st1 ⟨v, H1, J1, rv, a, dx, gs, ev, ea, hl, q1⟩ => ?_) h3
  subst ev
  obtain rfl : y = Value.ref a := rv
  refine getmeth_ok J1 ea cl mt hl ?_
  exact PySem.W.callWith_K0 (first := [.ref a]) J1.kIn mt.kp (run_fnS (us := [.ref a]) (vs := [.ref a]) Fn room bd (pass σ) J1 (.cons rfl .nil) q1)
/-- C(e, ..) -/
def tNw (C : Addr) (sp : Sp) (E : St → XK) (t : TA) : TE := fun σ H Q => t σ H fun ws H1 => ∀ a dx, H1 a = none → H1 dx = none → dx ≠ a → sp (.ref a :: ws) (mk0 H1 a dx C) (fun v H2 => v = .non ∧ Q (.ref a) H2) (E σ)
theorem pe_nw (M : Mk X.K C f) (Fn : FnOk X.prog X.w X.K X.mg X.base CX k f fd ps sp) (room : Room (k + 1) X.A) (hg : Gl X x) (hm : X.mg x = some (.ref C)) (bd : Binds X.K fd ps []) (pass : ∀ σ, PassesAt CX X σ (E σ))
    (hta : PA X (e :: es) t) (hdb : (x == ("__debug__" : Str)) = false) (h1 : starEach (e :: es) X.env = (false, eval e X.env) :: starEach es X.env) (h2 : (backTo pos (starEach es X.env)).any (·.1) = false) :
    PE X (.Call (.Name x p) (e :: es) [] pos) (tNw C sp E t) := by
  refine ⟨fun pp st σ Hq Qq J hq => ?_⟩
  refine wpAny_Call_Name_kw (ld_glob J hg hm ?_ hdb)
  refine PySem.W.callWith_K (h₀ := X.base) J.ok.mod.kin M.kp (thn (hta.run pos pp st σ Hq _ J hq) fun ys st1 ⟨ws, H1, J1, rw', q1⟩ => ⟨J1.kIn, ?_⟩) h1 h2
  have hq := q1 (st1.heap.objs.size + 1) st1.heap.objs.size (J1.hok.fresh (Nat.le_succ _)) (J1.hok.fresh (Nat.le_refl _)) (Nat.ne_of_lt (Nat.lt_succ_self _))
  have J2 := J1.made (C := C)
  have r2 : Vals (.ref (st1.heap.objs.size + 1) :: ws) (.ref (st1.heap.objs.size + 1) :: ys) := .cons rfl rw'
  have hl : (Value.ref (st1.heap.objs.size + 1) :: ys).length = ps.length := by
    rw [← r2.length]; exact Fn.len _ _ _ _ hq
  have b := bd _ (Value.ref (st1.heap.objs.size + 1) :: ys) J2.kIn (by rw [List.append_nil]; exact hl)
  rw [List.append_nil] at b
  refine wpAny_call (make_map (f := f) J1.kIn M.makes M.init (beq_iff_eq.mp M.fn) (codeAny_mono (Fn.run _ X.stack _ _ ⟨Value.ref (st1.heap.objs.size + 1) :: ys, []⟩ (Value.ref (st1.heap.objs.size + 1) :: ys) _ _ (E σ) (room.make C ys []) (J2.env0.make C ys []) b r2 hq) fun r s' hr => ?_))
  cases r with
  | error er => exact pass σ pp _ _ er s' J2 hr
  | ok fl =>
    cases fl with
    | ret u =>
      obtain ⟨v, H', J3, rv, ev, q3⟩ := J2.after hr
      subst ev
      exact ⟨rv, ⟨V.ref (st1.heap.objs.size + 1), H', J3, rfl, q3⟩⟩
    | next => exact False.elim hr
    | brk => exact False.elim hr
    | cont => exact False.elim hr
end
end Mp

set_option Elab.async false
set_option linter.all false
set_option maxRecDepth 100000
set_option maxHeartbeats 1000000
/-! Mp, part 7.6: the check is sound for objects. -/
namespace Mp
open PySem PySem.Spec PyProof.Rows L2
section
variable {G : GE} {F : Cf} {N : List Str} {L : Nat} {sc : Scope} {W : WX} {X : Cx}
variable {mg : Str → Option Value}
theorem obSlot_of {s : Option Sl} {Q : Nat → List Fd → (List Fd → Sl) → Prop} (h : obSlot s Q) : ∃ c fs mk u, s = some u ∧ ObSl u mk c fs ∧ Q c fs mk := by
  unfold obSlot at h
  split at h
  · exact ⟨_, _, _, _, rfl, .ob, h⟩
  · exact ⟨_, _, _, _, rfl, .ib, h⟩
  · exact h.elim
theorem obSlot_is {u : Sl} {mk : List Fd → Sl} {c : Nat} {fs : List Fd} {Q : Nat → List Fd → (List Fd → Sl) → Prop} (h : ObSl u mk c fs) (k : obSlot (some u) Q) : Q c fs mk := by cases h <;> exact k
theorem fdV_of {s : Option Fd} {Q : PyData → Prop} (h : fdV s Q) : ∃ d, s = some (.v d) ∧ Q d := by
  unfold fdV at h
  split at h
  · exact ⟨_, rfl, h⟩
  · exact h.elim
theorem fdO_of {s : Option Fd} {Q : List PyData → Prop} (h : fdO s Q) : ∃ d, s = some (.o d) ∧ Q d := by
  unfold fdO at h
  split at h
  · exact ⟨_, rfl, h⟩
  · exact h.elim
theorem lastD_of {s : Option PyData} {Q : PyData → Prop} (h : lastD s Q) : ∃ d, s = some d ∧ Q d := by
  unfold lastD at h
  split at h
  · exact ⟨_, rfl, h⟩
  · exact h.elim
theorem withM_of {s : Option MtI} {Q : MtI → Prop} (h : withM s Q) : ∃ d, s = some d ∧ Q d := by
  unfold withM at h
  split at h
  · exact ⟨_, rfl, h⟩
  · exact h.elim
theorem pv_of (C : Ctx G F N L sc W X) {i : Nat} {x : Str} {pos : Pos} (h : varB N sc i x = true) : PE X (.Name x pos) (tVar i) := by
  unfold varB at h
  simp only [Bool.and_eq_true, decide_eq_true_eq] at h
  obtain ⟨⟨⟨h1, h2⟩, h3⟩, h4⟩ := h
  exact pe_var (i := i) (by rw [C.N]; exact h1) (by rw [C.scE]; exact vis_of h2) (ne_of_bnot h3) (ne_of_bnot h4)
/-- what is known of the object in a slot -/
theorem ob_at (C : Ctx G F N L sc W X) {env : Env} {σ : St} {T : List (V × R)} {H : Hp} {O : List Addr} {i c : Nat} {u : Sl} {mk : List Fd → Sl} {fs : List Fd} (g : Good F env σ T H O) (hi : env[i]? = some u) (hs : ObSl u mk c fs) :
    ∃ (a K dx : Addr) (gs : List (Str × V)), σ[i]? = some (some (.ref a)) ∧ F.cls c = some (K, G.flds c) ∧ H a = some (.ins K dx gs) ∧ L2.Cls X.K K ∧ (G.flds c).Nodup ∧ (G.flds c).length < 900 ∧ (∀ f ∈ G.flds c, NoAttr X.K K f) ∧ (∀ f u, gs.lookup f = some u → f ∈ G.flds c) ∧ FdsOk F.K H O (NewOf F u a) gs (G.flds c) fs ∧
      ObOk F.K F.cls H O (NewOf F u a) a c fs := by
  obtain ⟨a, ha, ok, _⟩ := g.obj hi hs
  have ok0 := ok
  obtain ⟨K, dx, names, gs, hc, hH, h3, h4, h5, h6⟩ := ok
  obtain ⟨k1, k2, k3, k4, k5⟩ := C.kn.cl c K names hc
  subst k2
  exact ⟨a, K, dx, gs, getD_get ha, hc, hH, k1, k3, k4, k5, h5.2, h6, ok0⟩
/-- name.f -/
theorem snd_fld (C : Ctx G F N L sc W X) {i j : Nat} {x f : Str} {p pos : Pos} (hx : varB N sc i x = true) : PE X (.Attribute (.Name x p) f pos) (rdE G F X.mg W (.fld i j f)) :=
  (pe_fld (pv_of C hx) rfl).imp fun σ H Q ⟨env, T, O, Qd, E, g, w, q, ex⟩ => by
    simp only [wpE] at w
    obtain ⟨c, fs, mk, u, hi, hs, hf, w⟩ := obSlot_of w
    obtain ⟨d, hd, w⟩ := fdV_of w
    obtain ⟨a, K, dx, gs, ha, hc, hH, k1, _, _, k5, _, h6, _⟩ := ob_at C g hi hs
    obtain ⟨y, hl, _, ry⟩ := h6.get hf hd
    exact ⟨.ref a, ha, a, K, dx, gs, y, rfl, hH, k1, k5 f (List.mem_of_getElem? hf), hl, q _ _ _ _ _ (g.pushV ry) w⟩
/-- len(name.f) -/
theorem snd_flen (C : Ctx G F N L sc W X) {i j : Nat} {x f : Str} {p p0 p2 pos : Pos} (hg : glB sc ("len" : Str) = true) (hx : varB N sc i x = true) : PE X (.Call (.Name "len" p0) [.Attribute (.Name x p) f p2] [] pos) (rdE G F X.mg W (.flen i j f)) :=
  (pe_callB call_len (gl_of C hg).1 (C.kn.blt _ (by decide)) (by decide +kernel) (pa_cons (pe_fld (pos := p2) (pv_of (pos := p) C hx) rfl) pa_nil rfl) (by decide) (by decide) rfl rfl).imp fun σ H Q ⟨env, T, O, Qd, E, g, w, q, ex⟩ => by
    simp only [wpE] at w
    obtain ⟨c, fs, mk, u, hi, hs, hf, w⟩ := obSlot_of w
    obtain ⟨d, hd, w⟩ := fdO_of w
    obtain ⟨a, K, dx, gs, ha, hc, hH, k1, _, _, k5, _, h6, _⟩ := ob_at C g hi hs
    obtain ⟨l, ws, _, hl, q1, _, _, q4⟩ := h6.get hf.1 hd
    exact ⟨.ref a, ha, a, K, dx, gs, .ref l, rfl, hH, k1, k5 f (List.mem_of_getElem? hf.1), hl, _, _, rfl, .inl ⟨ws, .inl (.inl q1), rfl⟩, by rw [q4.length]; exact q _ _ _ _ _ (g.pushV (.int _)) w⟩
/-- name.m(..) -/
theorem call_head (C : Ctx G F N L sc W X) {env : Env} {σ : St} {T : List (V × R)} {H : Hp} {O : List Addr} {i c k n : Nat} {u : Sl} {mk : List Fd → Sl} {fs : List Fd} {ds : List PyData} {vs : List V} {Q : VK} {Qd : R → Env → Prop} {E : EX} (g : Good F env σ T H O) (hi : env[i]? = some u) (hs : ObSl u mk c fs)
    (r : Reps F.K (hid O H) vs ds) (hn : vs.length + 1 = n)
    (w1 : (G.fns k).pre (.ob c fs) ds) (w2 : ∀ r h, (G.fns k).post (.ob c fs) ds r h → ∃ gs, h = .ob c gs ∧ Qd (unMe i r) (env.set i (mk gs))) (w3 : ∀ x p h, (G.fns k).exc (.ob c fs) ds x p h → ∃ gs, h = .ob c gs ∧ E x p (env.set i (mk gs)))
    (q : ∀ r v env' H' O', Good F env' σ ((v, r) :: T) H' O' → Qd r env' → Q v H') (ex : ExOk F X.mg W E σ T) {a : Addr} (ha : σ[i]? = some (some (.ref a))) :
    prom F.K F.cls X.mg (.ob c) n (G.fns k) (.ref a :: vs) H Q (WE W σ) := by
  obtain ⟨a', e1, ok, hd⟩ := g.obj hi hs
  rw [get_getD ha] at e1
  cases e1
  have tn : ∀ gs, Turn u (mk gs) (.ob c gs) := fun gs => by cases hs <;> constructor
  refine ⟨.ob c fs, ds, O, some a, vs, rfl, hn, ⟨a, rfl, rfl, ok.impN fun _ _ _ _ => True.intro⟩, r, g.oin, g.sep.self, g.tb, w1, fun r h v H2 O2 hp l => ?_, fun x p h K d H2 O2 he hm hpk l => ?_⟩
  · obtain ⟨gs, rfl, w⟩ := w2 r h hp
    exact q _ _ _ _ _ (g.afterH hi (tn gs) (get_getD ha) l) w
  · obtain ⟨gs, rfl, w⟩ := w3 x p h he
    exact ex x p K d _ H2 O2 hm hpk (g.afterH0 hi (tn gs) (get_getD ha) l) w
theorem mtB_of {m : Option MtI} {k : MtK} {x : Str} {n : Nat} (h : mtB m k x L n = true) : ∃ mi, m = some mi ∧ mi.name = x ∧ mi.kind = k ∧ mi.lev ≤ L ∧ n = mi.pars.length := by
  unfold mtB at h
  split at h
  · simp only [Bool.and_eq_true, decide_eq_true_eq] at h
    exact ⟨_, rfl, h.1.1.1, h.1.1.2, h.1.2, h.2⟩
  · cases h
theorem lookup_out {gs : List (Str × V)} {names : List Str} {m : Str} (h : ∀ f u, gs.lookup f = some u → f ∈ names) (n : m ∉ names) : gs.lookup m = none := by
  cases e : gs.lookup m with
  | none => rfl
  | some u => exact absurd (h m u e) n
theorem snd_callM (C : Ctx G F N L sc W X) {k i : Nat} {x m : Str} {p apos pos : Pos} {e : Expr} {es : List Expr} {ps : Ps} (hx : varB N sc i x = true) (hm : mtB (G.mti k) .meth m L ((e :: es).length + 1) = true) (h1 : notStar e = true)
    (h2 : (backTo pos (starEach es X.env)).any (·.1) = false) (hps : ps.len = (e :: es).length) (hfew : (e :: es).length < 30) (hline : (apos.endLine == pos.line) = true) (ha : PA X (e :: es) (rdEs G F X.mg W ps)) : PE X (.Call (.Attribute (.Name x p) m apos) (e :: es) [] pos) (rdE G F X.mg W (.callM k i ps)) := by
  obtain ⟨mi, e0, rfl, e2, e3, e4⟩ := mtB_of hm
  obtain ⟨K, names, f, fd, k1, k2, k3, k4⟩ := C.kn.mt k mi e0 e3
  rw [e2] at k4
  obtain ⟨n1, n2, n3, n4, n5⟩ := C.kn.cl _ _ _ k1
  subst n2
  have hK := C.K
  refine (pe_ms (pv_of (pos := p) C hx) n1 k4.1 k3 (C.room.mono e3) k2 (fun σ => passAt C.tk σ) ha (star_cons h1) h2 (mcall_eq rfl (by rw [star_cons h1]; exact h2) hfew hline)).imp fun σ H Q ⟨env, T, O, Qd, E, g, w, q, ex⟩ => ?_
  simp only [wpE] at w
  obtain ⟨mi', z, w⟩ := withM_of w
  rw [e0] at z
  cases z
  obtain ⟨c, fs, mk, u, hi, hs, rfl, w⟩ := obSlot_of w
  obtain ⟨a, K', dx, gs, ha', hc, hH, _, _, _, _, hk, _, _⟩ := ob_at C g hi hs
  rw [k1] at hc
  cases hc
  refine ⟨.ref a, ha', a, dx, gs, rfl, hH, lookup_out hk k4.2, env, T, O, _, E, g, w, fun ds vs env' H' O' l' g' r' w' => ?_, ex⟩
  obtain ⟨c, fs, mk, u, hi, hs, rfl, w1, w2, w3⟩ := obSlot_of w'
  rw [hK]
  exact call_head C g' hi hs r' (by rw [r'.length, l', hps]; exact e4) w1 w2 w3 q ex ha'
theorem snd_callM0 (C : Ctx G F N L sc W X) {k i : Nat} {x m : Str} {p apos pos : Pos} (hline : (apos.endLine == pos.line) = true) (hx : varB N sc i x = true) (hm : mtB (G.mti k) .meth m L 1 = true) : PE X (.Call (.Attribute (.Name x p) m apos) [] [] pos) (rdE G F X.mg W (.callM k i .nil)) := by
  obtain ⟨mi, e0, rfl, e2, e3, e4⟩ := mtB_of hm
  obtain ⟨K, names, f, fd, k1, k2, k3, k4⟩ := C.kn.mt k mi e0 e3
  rw [e2] at k4
  obtain ⟨n1, n2, n3, n4, n5⟩ := C.kn.cl _ _ _ k1
  subst n2
  have hK := C.K
  refine (pe_ms0 (pv_of (pos := p) C hx) n1 k4.1 k3 (C.room.mono e3) k2 (fun σ => passAt C.tk σ) (mcall_eq rfl rfl (by decide) hline)).imp fun σ H Q ⟨env, T, O, Qd, E, g, w, q, ex⟩ => ?_
  simp only [wpE, wpEs] at w
  obtain ⟨mi', z, w⟩ := withM_of w
  rw [e0] at z
  cases z
  obtain ⟨c, fs, mk, u, hi, hs, rfl, w⟩ := obSlot_of w
  obtain ⟨a, K', dx, gs, ha', hc, hH, _, _, _, _, hk, _, _⟩ := ob_at C g hi hs
  rw [k1] at hc
  cases hc
  refine ⟨.ref a, ha', a, dx, gs, rfl, hH, lookup_out hk k4.2, ?_⟩
  rw [hi] at w
  obtain ⟨_, w1, w2, w3⟩ := obSlot_is hs w
  show prom _ _ _ _ _ _ _ _ _ _
  rw [hK]
  exact call_head C g hi hs .nil e4 w1 w2 w3 q ex ha'
/-- name.m, a property -/
theorem snd_prop (C : Ctx G F N L sc W X) {k i : Nat} {x m : Str} {p pos : Pos} {L' : Nat} (hL : L' + 1 ≤ L) (hx : varB N sc i x = true) (hm : mtB (G.mti k) .prop m L' 1 = true) : PE X (.Attribute (.Name x p) m pos) (rdE G F X.mg W (.prop k i)) := by
  obtain ⟨mi, e0, rfl, e2, e3, e4⟩ := mtB_of hm
  obtain ⟨K, names, f, fd, k1, k2, k3, k4⟩ := C.kn.mt k mi e0 (by omega)
  rw [e2] at k4
  obtain ⟨pa, k4⟩ := k4
  obtain ⟨n1, n2, n3, n4, n5⟩ := C.kn.cl _ _ _ k1
  subst n2
  have hK := C.K
  refine (pe_prop (E := fun _ _ _ => False) (pv_of (pos := p) C hx) n1 k4 k3 (C.room.mono (by omega)) k2 .nil (fun _ _ _ _ _ _ _ h => by obtain ⟨_, _, _, _, _, _, _, _, _, _, _, _, z⟩ := h; exact z.elim) rfl).imp fun σ H Q ⟨env, T, O, Qd, E, g, w, q, ex⟩ => ?_
  simp only [wpE] at w
  obtain ⟨mi', z, w⟩ := withM_of w
  rw [e0] at z
  cases z
  obtain ⟨c, fs, mk, u, hi, hs, rfl, w1, w2, w3⟩ := obSlot_of w
  obtain ⟨a, K', dx, gs, ha', hc, hH, _, _, _, _, hk, _, _⟩ := ob_at C g hi hs
  rw [k1] at hc
  cases hc
  refine ⟨.ref a, ha', a, dx, gs, rfl, hH, ?_⟩
  rw [hK]
  obtain ⟨a', e1, ok, hd⟩ := g.obj hi hs
  rw [get_getD ha'] at e1
  cases e1
  have tn : ∀ gs, Turn u (mk gs) (.ob mi.cls gs) := fun gs => by cases hs <;> constructor
  refine ⟨.ob _ fs, [], O, some a, [], rfl, e4, ⟨a, rfl, rfl, ok.impN fun _ _ _ _ => True.intro⟩, .nil, g.oin, g.sep.self, g.tb, w1, fun r h v H2 O2 hp l => ?_, fun x p h K d H2 O2 he _ _ _ => absurd he (w3 x p h)⟩
  obtain ⟨gs, rfl, w⟩ := w2 r h hp
  exact q _ _ _ _ _ (g.afterH hi (tn gs) (get_getD ha') l) w
/-- C(..) -/
theorem snd_new (C : Ctx G F N L sc W X) {k : Nat} {x : Str} {p pos : Pos} {e : Expr} {es : List Expr} {ps : Ps} {L' : Nat} (hL : L' + 1 ≤ L) (hg : glB sc x = true) (hm : mtB (G.mti k) .init x L' ((e :: es).length + 1) = true) (h1 : notStar e = true)
    (h2 : (backTo pos (starEach es X.env)).any (·.1) = false) (hps : ps.len = (e :: es).length) (ha : PA X (e :: es) (rdEs G F X.mg W ps)) : PE X (.Call (.Name x p) (e :: es) [] pos) (rdE G F X.mg W (.new k ps)) := by
  obtain ⟨mi, e0, rfl, e2, e3, e4⟩ := mtB_of hm
  obtain ⟨K, names, f, fd, k1, k2, k3, k4⟩ := C.kn.mt k mi e0 (by omega)
  rw [e2] at k4
  obtain ⟨n1, n2, n3, n4, n5⟩ := C.kn.cl _ _ _ k1
  subst n2
  have hK := C.K
  obtain ⟨g1, g2⟩ := gl_of C hg
  refine (pe_nw k4.1 k3 (C.room.mono (by omega)) g1 k4.2 k2 (fun σ => passAt C.tk σ) ha g2 (star_cons h1) h2).imp fun σ H Q ⟨env, T, O, Qd, E, g, w, q, ex⟩ => ?_
  simp only [wpE] at w
  obtain ⟨mi', z, w⟩ := withM_of w
  rw [e0] at z
  cases z
  refine ⟨env, T, O, _, E, g, w, fun ds vs env' H' O' l' g' r' w' => fun a dx ha' hd' hne => ?_, ex⟩
  obtain ⟨w1, w2, w3⟩ := w'
  rw [hK]
  refine ⟨.ob mi.cls _, ds, a :: O', some a, vs, rfl, by rw [List.length_cons, r'.length, l', hps]; exact e4, ⟨a, rfl, rfl, mk0_ok ha' hd' hne g'.oin k1⟩, r'.mono (mk0_hid ha' hd'), fun b hb => ?_, mk0_sep ha' hd' g'.sep, g'.tb.sub (mk0_sub ha' hd') (fun _ h => List.mem_cons_of_mem _ h), w1, fun r h v H2 O2 hp l => ?_, fun x p h K' d H2 O2 he hm hpk l => ?_⟩
  · rcases List.mem_cons.mp hb with rfl | hb
    · unfold mk0; rw [upd_same]; simp
    · rw [mk0_old ha' hd' (g'.oin b hb)]; exact g'.oin b hb
  · obtain ⟨gs, rfl, rfl, w⟩ := w2 r h hp
    have hv : v = .non := Rep.non_inv l.res
    exact ⟨hv, q _ _ _ _ _ (g'.after (l.madeOb ha' hd' g'.oin)) w⟩
  · exact ex x p K' d _ H2 O2 hm hpk (g'.after0 (l.madeX ha' hd' g'.oin)) (w3 x p h he)
end
end Mp

set_option Elab.async false
set_option linter.all false
set_option maxRecDepth 100000
set_option maxHeartbeats 1000000
/-! Mp, part 7.7: lists of objects; objects handed on. -/
namespace Mp
open PySem PySem.Spec PyProof.Rows L2
section
variable {G : GE} {F : Cf} {N : List Str} {L : Nat} {sc : Scope} {W : WX} {X : Cx}
theorem hu64' (C : Ctx G F N L sc W X) : X.A.units < cLine := by have := C.room.units; omega
/-- name.f.pop() -/
theorem snd_fpop (C : Ctx G F N L sc W X) {i j : Nat} {x f : Str} {p p2 apos cpos : Pos} (hx : varB N sc i x = true) (hline : (apos.endLine == cpos.line) = true) : PE X (.Call (.Attribute (.Attribute (.Name x p) f p2) "pop" apos) [] [] cpos) (rdE G F X.mg W (.fpop i j f)) := by
  refine (pe_bm0 PySem.F.plainAttrs_list PySem.F.slot_list_pop PySem.F.type_list_pop mt_pop (pe_fld (pos := p2) (pv_of (pos := p) C hx) rfl) rfl hline).imp fun σ H Q ⟨env, T, O, Qd, E, g, w, q, ex⟩ => ?_
  simp only [wpE] at w
  obtain ⟨c, fs, mk, u, hi, hs, ⟨hf, hp⟩, w0⟩ := obSlot_of w
  obtain ⟨d, hd, w1⟩ := fdO_of w0
  obtain ⟨y, hy, w2⟩ := lastD_of w1
  clear w0 w1 w
  have w := w2
  subst hp
  obtain ⟨a, K, dx, gs, ha, hc, hH, k1, nd, _, k5, _, h6, _⟩ := ob_at C g hi hs
  obtain ⟨dx', gs', l, ws, e1, q0, q1, q4, put⟩ := g.changeF (xs' := d.dropLast) hi hs (get_getD ha) hc nd hf hd
  rw [hH] at e1
  cases e1
  refine ⟨.ref a, ha, a, K, dx, gs, .ref l, rfl, hH, k1, k5 _ (List.mem_of_getElem? hf), q0, .inl ⟨rfl, ws, SqL.of q1⟩, ?_⟩
  have gl : d[d.length - 1]? = some y := by rw [← hy, List.getLast?_eq_getElem?]
  obtain ⟨v, v1, v2⟩ := q4.get gl
  obtain ⟨dx2, gs2, l2, ws2, f1, f2, f3, _, put2⟩ := (g.pushV v2).changeF (xs' := d.dropLast) hi hs (get_getD ha) hc nd hf hd
  rw [hH] at f1
  cases f1
  rw [q0] at f2
  cases f2
  refine ⟨l, ws, v, rfl, rfl, q1, by rw [q4.length]; exact v1, q _ _ _ _ _ (put2 ws.dropLast q4.dropLast) w⟩
theorem eqv_nil (d : List PyData) : PyData.eqv (.list d) (.list []) = d.isEmpty := by cases d <;> simp [PyData.eqv, PyData.eqvAll]
theorem femp_of (C : Ctx G F N L sc W X) {i j : Nat} {f : Str} {σ : St} {H : Hp} {Q : VK} {env : Env} {T : List (V × R)} {O : List Addr} {Qd : R → Env → Prop} {E : EX} (g : Good F env σ T H O) (w : wpE G (.femp i j f) env Qd E)
    (q : ∀ r v env' H' O', Good F env' σ ((v, r) :: T) H' O' → Qd r env' → Q v H') : tOp (rEqD X.K) (tFld X.K (tVar i) f) (tLst tNil) σ H Q := by
  simp only [wpE] at w
  obtain ⟨c, fs, mk, u, hi, hs, ⟨hf, hp⟩, w0⟩ := obSlot_of w
  obtain ⟨d, hd, w1, w2⟩ := fdO_of w0
  clear w0 w
  have w := w2
  subst hp
  obtain ⟨a, K, dx, gs, ha, hc, hH, k1, nd, _, k5, _, h6, _⟩ := ob_at C g hi hs
  obtain ⟨l, ws, _, q0, q1, _, _, q4⟩ := h6.get hf hd
  refine ⟨.ref a, ha, a, K, dx, gs, .ref l, rfl, hH, k1, k5 _ (List.mem_of_getElem? hf), q0, by decide, fun r hr => ?_⟩
  have sb : Sub H (upd H r (.lst [])) := Sub.upd hr
  have hK := C.K
  refine ⟨.list d, .list [], .lst (.inl (.inl (sb _ _ q1))) (by rw [hK]; exact (q4.mono ((hid_sub O H).trans sb)).dp), .lst (.inl (.inl upd_same)) .nil, w1, by decide, ?_⟩
  rw [eqv_nil]
  exact q _ _ _ _ _ ((g.grow sb).pushV (.bl _)) w
/-- name.f == [] -/
theorem snd_femp (C : Ctx G F N L sc W X) {i j : Nat} {x f : Str} {k : Nat} {p p2 p3 pos : Pos} (hx : varB N sc i x = true) : PE X (.Compare (.Attribute (.Name x p) f p2) [.Eq] [.List [] p3] pos) (rdE G F X.mg W (.femp i j f)) :=
  (pe_cmpR (op_eqD (hu64 C)) (pe_fld (pos := p2) (pv_of (pos := p) C hx) rfl) (pe_lst pa_nil) rfl).imp fun σ H Q ⟨env, T, O, Qd, E, g, w, q, ex⟩ => femp_of C g w q
theorem snd_fempT (C : Ctx G F N L sc W X) {i j : Nat} {x f : Str} {k : Nat} {p p2 p3 pos : Pos} (hx : varB N sc i x = true) : PT X (.Compare (.Attribute (.Name x p) f p2) [.Eq] [.List [] p3] pos) (rdT G F X.mg W (.femp i j f)) :=
  (pt_cmpR (op_eqD (hu64 C)) (pe_fld (pos := p2) (pv_of (pos := p) C hx) rfl) (pe_lst pa_nil) rfl).imp fun σ H Q ⟨env, T, O, Qd, E, g, w, q, ex⟩ => femp_of C (Qd := fun r e => asB r fun b => Qd b e) g w fun r v env' H' O' g' w' => by
    obtain ⟨b, rfl, w'⟩ := asB_of w'
    exact ⟨b, g'.topB, q _ _ _ _ g'.pop w'⟩
/-- f(name, ..), name an object -/
theorem snd_callOb (C : Ctx G F N L sc W X) {k i c : Nat} {fi : FnI} {p p2 pos : Pos} {x : Str} {es : List Expr} {ps : Ps} (hk : G.fni k = some fi) (hd : fi.hd = .ob c) (hl : fi.lev ≤ L) (hn : es.length + 1 = fi.pars.length) (hg : glB sc fi.name = true)
    (hx : varB N sc i x = true) (h2 : (backTo pos (starEach es X.env)).any (·.1) = false) (hps : ps.len = es.length) (ha : PA X es (rdEs G F X.mg W ps)) :
    PE X (.Call (.Name fi.name p) (.Name x p2 :: es) [] pos) (rdE G F X.mg W (.callOb k c i ps)) := by
  obtain ⟨f, fd, m, kp, bd, ok⟩ := C.kn.fn k fi hk hl
  obtain ⟨g1, g2⟩ := gl_of C hg
  have K := C.K
  refine (pe_callS ok (C.room.mono hl) g1 m kp bd (fun σ => passAt C.tk σ) (pa_cons (pv_of (pos := p2) C hx) ha rfl) g2 rfl h2).imp fun σ H Q ⟨env, T, O, Qd, E, g, w, q, ex⟩ => ?_
  simp only [wpE] at w
  obtain ⟨c0, fs, mk, u, hi, hs, w⟩ := obSlot_of w
  obtain ⟨a, K', dx, gs, ha', _⟩ := ob_at C g hi hs
  refine ⟨.ref a, ha', env, T, O, _, E, g, w, fun ds vs env2 H2 O2 l2 g2 r2 w3 => ?_, ex⟩
  obtain ⟨c1, fs, mk, u, hi, hs, rfl, w1, w2, w3⟩ := obSlot_of w3
  rw [K, hd]
  exact call_head C g2 hi hs r2 (by rw [r2.length, l2, hps]; exact hn) w1 w2 w3 q ex ha'
/-- name == name -/
def rEqOb (K : PySem.W.Frag) (C : Addr) (sp : Sp) : R2 := fun x y H Q => ∃ a b dx gs dx' gs', x = .ref a ∧ y = .ref b ∧ H a = some (.ins C dx gs) ∧ H b = some (.ins C dx' gs') ∧ sp [x, y] H (fun z H2 => (∃ k, z = .bl k) ∧ Q z H2) (fun _ _ _ => False)
theorem op_eqOb {CX : CXT} {k : Nat} {f K : Addr} {fd : FuncData} {ps : List Str} {sp : Sp} (hu : X.A.units < cLine) (h2 : PySem.W.findIn X.K (.ref K) "__eq__" = some (some (.ref f))) (h3 : PySem.W.isFn X.K (.ref f) = true)
    (Fn : FnOk X.prog X.w X.K X.mg X.base CX k f fd ps sp) (room : Room k X.A) (bd : Binds X.K fd ps []) (pass : ∀ σ, PassesAt CX X σ (fun _ _ _ => False)) : OpR X (compareOp .Eq) (rEqOb X.K K sp) := by
  intro pp st σ Hq x y v u Q J rx ry hq
  obtain ⟨a, b, dx, gs, dx', gs', rfl, rfl, ha, hb, q⟩ := hq
  obtain rfl : v = Value.ref a := rx
  obtain rfl : u = Value.ref b := ry
  obtain ⟨mA, OA, _, _, _, _⟩ := ins_get J.hok ha
  obtain ⟨oa, IA, _⟩ := OA.look
  obtain ⟨mB, OB, _, _, _, _⟩ := ins_get J.hok hb
  obtain ⟨ob, IB, _⟩ := OB.look
  obtain ⟨m', fr⟩ := J.fr
  show wpAny _ _ (richCompare .Eq (.ref a) (.ref b)) _ _ _
  refine PySem.W.cmp_K hu fr J.ok.mod.kin IA IB.type (by unfold PySem.W.notFirst; simp) h2 h3 (wpAny_mono (run_fnS (E := fun _ _ _ _ => False) (us := [.ref a, .ref b]) (vs := [.ref a, .ref b]) Fn room bd (pass σ) J (.cons rfl (.cons rfl .nil)) q) (fun z t hz => ?_) fun _ _ h => h)
  obtain ⟨zv, H2, J2, rz, ⟨k, rfl⟩, q2⟩ := hz
  obtain ⟨⟩ : z = Value.bool k := rz
  exact ⟨.bl k, H2, J2, rfl, q2⟩
theorem eqOb_of (C : Ctx G F N L sc W X) {c i j : Nat} {K f : Addr} {names : List Str} (hc : F.cls c = some (K, names)) {σ : St} {H : Hp} {Q : VK} {env : Env} {T : List (V × R)} {O : List Addr} {Qd : R → Env → Prop} {E : EX} (g : Good F env σ T H O) (w : wpE G (.eqOb c i j) env Qd E)
    (q : ∀ r v env' H' O', Good F env' σ ((v, r) :: T) H' O' → Qd r env' → Q v H') : tOp (rEqOb X.K K (eqSp X.K F.cls c (G.eqp c) (G.eqf c))) (tVar i) (tVar j) σ H Q := by
  simp only [wpE] at w
  obtain ⟨c1, fs, mk, u, hi, hs, w⟩ := obSlot_of w
  obtain ⟨c2, fs2, mk2, u2, hi2, hs2, ⟨e1, e2, hp⟩, w⟩ := obSlot_of w
  subst e1
  subst e2
  obtain ⟨a, K1, dx, gs, ha, hc1, hH, _, _, _, _, _, _, ok⟩ := ob_at C g hi hs
  obtain ⟨b, K2, dx2, gs2, hb, hc2, hH2, _, _, _, _, _, _, ok2⟩ := ob_at C g hi2 hs2
  rw [hc] at hc1 hc2
  cases hc1
  cases hc2
  refine ⟨.ref a, ha, .ref b, hb, a, b, dx, gs, dx2, gs2, rfl, rfl, hH, hH2, ?_⟩
  rw [C.K]
  exact ⟨a, b, fs, fs2, O, _, _, rfl, ok, ok2, hp, fun H' sb => ⟨⟨_, rfl⟩, q _ _ _ _ _ ((g.grow sb).pushV (.bl _)) w⟩⟩
theorem snd_eqOb (C : Ctx G F N L sc W X) {c i j l : Nat} {x y : Str} {p p2 pos : Pos} (hx : varB N sc i x = true) (hy : varB N sc j y = true) (he : G.eqs c = some l) (hl : l ≤ L) :
    PE X (.Compare (.Name x p) [.Eq] [.Name y p2] pos) (rdE G F X.mg W (.eqOb c i j)) ∧ PT X (.Compare (.Name x p) [.Eq] [.Name y p2] pos) (rdT G F X.mg W (.eqOb c i j)) := by
  obtain ⟨K, names, f, fd, ps, k1, k2, k3, k4, k5⟩ := C.kn.eq c l he hl
  have pass : ∀ σ, PassesAt (L2.CX X.prog X.w) X σ (fun _ _ _ => False) := fun σ _ _ _ _ _ _ h => by obtain ⟨_, _, _, _, _, _, _, _, _, _, _, _, z⟩ := h; exact z.elim
  have op := op_eqOb (hu64' C) k2 k3 k5 (C.room.mono hl) k4 pass
  exact ⟨(pe_cmpR op (pv_of (pos := p) C hx) (pv_of (pos := p2) C hy) rfl).imp fun σ H Q ⟨env, T, O, Qd, E, g, w, q, ex⟩ => eqOb_of C (f := f) k1 g w q,
    (pt_cmpR op (pv_of (pos := p) C hx) (pv_of (pos := p2) C hy) rfl).imp fun σ H Q ⟨env, T, O, Qd, E, g, w, q, ex⟩ => eqOb_of C (f := f) k1 (Qd := fun r e => asB r fun b => Qd b e) g w fun r v env' H' O' g' w' => by
      obtain ⟨b, rfl, w'⟩ := asB_of w'
      exact ⟨b, g'.topB, q _ _ _ _ g'.pop w'⟩⟩
end
end Mp

set_option Elab.async false
set_option linter.all false
set_option maxRecDepth 100000
set_option maxHeartbeats 1000000
/-! Mp, part 8: walks, targets, comprehensions. -/
namespace Mp
open PySem PySem.Spec PyProof.Rows L2
section
variable {G : GE} {F : Cf} {N : List Str} {L : Nat} {sc : Scope} {W : WX} {X : Cx}
variable {mg : Str → Option Value}
/-! ### walks -/
def WalkD (F : Cf) (ts : List (V × R)) (J : It) (items : List PyData) : Prop := ∀ env σ T H O, (∀ t ∈ ts, t ∈ T) → Good F env σ T H O →
  (∀ i, i < items.length → J.go i H) ∧ J.stop items.length H ∧ ∀ i x H', i < items.length → J.yld i H x H' → Good F env σ T H' O ∧ ∃ d, items[i]? = some d ∧ Rep F.K (hid O H') x d
section
variable (G : GE) (F : Cf) (mg : Str → Option Value) (W : WX)
def rdW (w : Wk) : TI := fun σ H Rq => ∃ (env : Env) (T : List (V × R)) (O : List Addr) (Qd : List PyData → Env → Prop) (E : EX), Good F env σ T H O ∧ wpW G w env Qd E ∧
  (∀ items ts env' H' O' J, WalkD F ts J items → NoB ts → Good F env' σ (ts ++ T) H' O' → Qd items env' → Rq J H') ∧ ExOk F mg W E σ T
end
theorem noB1 {v : V} {d : PyData} : NoB [(v, R.v d)] := NoB.cons (fun i z => by cases z) NoB.nil
theorem walk_lst {a : Addr} {ds : List PyData} : WalkD F [(.ref a, .v (.list ds))] (Itl F.K a) ds := fun env σ T H O hs g => by
  have t := g.tm _ (hs _ List.mem_cons_self)
  obtain ⟨a', vs, e, h1, h2⟩ := Rep.lst_inv t
  cases e
  have h1' := hid_sub O H _ _ h1
  have hl := h2.length
  refine ⟨fun i hi => ?_, ⟨vs, SqL.of h1', by omega⟩, fun i x H' hi hy => ?_⟩
  · exact ⟨vs, vs[i]'(by omega), SqL.of h1', List.getElem?_eq_getElem (by omega)⟩
  · obtain ⟨rfl, hx⟩ := hy
    have hx := hx vs (SqL.of h1')
    exact ⟨g, ds[i], List.getElem?_eq_getElem hi, h2.at hx (List.getElem?_eq_getElem hi)⟩
theorem walk_tpl {a : Addr} {ds : List PyData} : WalkD F [(.ref a, .v (.tuple ds))] (Itt F.K a) ds := fun env σ T H O hs g => by
  have t := g.tm _ (hs _ List.mem_cons_self)
  obtain ⟨a', vs, e, h1, h2⟩ := Rep.tup_inv t
  cases e
  have h1' := (hid_sub O H).sqT h1
  have hl := h2.length
  refine ⟨fun i hi => ?_, ⟨vs, h1', by omega⟩, fun i x H' hi hy => ?_⟩
  · exact ⟨vs, vs[i]'(by omega), h1', List.getElem?_eq_getElem (by omega)⟩
  · obtain ⟨rfl, hx⟩ := hy
    have hx := hx vs h1'
    exact ⟨g, ds[i], List.getElem?_eq_getElem hi, h2.at hx (List.getElem?_eq_getElem hi)⟩
theorem rngD_get {lo : Int} {n i : Nat} (h : i < n) : (rngD lo n)[i]? = some (.int (lo + (i : Nat))) := by
  unfold rngD
  rw [List.getElem?_map, List.getElem?_range h]
  rfl
theorem rngD_len {lo : Int} {n : Nat} : (rngD lo n).length = n := by simp [rngD]
theorem walk_rng {lo : Int} {n : Nat} : WalkD F [] (Itr lo n) (rngD lo n) := fun env σ T H O hs g => by
  rw [rngD_len]
  refine ⟨fun i hi => hi, Nat.le_refl _, fun i x H' hi hy => ?_⟩
  obtain ⟨rfl, rfl⟩ := hy
  exact ⟨g, _, rngD_get hi, .int _⟩
theorem enumD_get : ∀ {ds : List PyData} {k i : Nat} {d : PyData}, ds[i]? = some d → (enumD k ds)[i]? = some (.tuple [.int ((k + i : Nat) : Int), d])
  | [], k, i, d, h => by simp at h
  | x :: ds, k, 0, d, h => by simp at h; subst h; rfl
  | x :: ds, k, i + 1, d, h => by
    have ih := enumD_get (ds := ds) (k := k + 1) (i := i) (d := d) (by simpa using h)
    show (enumD (k + 1) ds)[i]? = _
    rw [ih]
    have e : k + 1 + i = k + (i + 1) := by omega
    rw [e]
theorem enumD_len : ∀ {ds : List PyData} {k : Nat}, (enumD k ds).length = ds.length
  | [], _ => rfl
  | x :: ds, k => by show (enumD (k + 1) ds).length + 1 = ds.length + 1; rw [enumD_len]
theorem pair_new {env : Env} {σ : St} {T : List (V × R)} {H : Hp} {O : List Addr} {p : Addr} {x y : V} {d e : PyData} (g : Good F env σ T H O) (hp : H p = none) (hx : Rep F.K (hid O H) x d) (hy : Rep F.K (hid O H) y e) :
    Good F env σ T (upd H p (.tup [x, y])) O ∧ Rep F.K (hid O (upd H p (.tup [x, y]))) (.ref p) (.tuple [d, e]) := by
  have z := g.pushT hp (.cons hx (.cons hy .nil))
  exact ⟨z.pop, z.tm _ List.mem_cons_self⟩
theorem walk_enl {a : Addr} {ds : List PyData} : WalkD F [(.ref a, .v (.list ds))] (Ite F.K a) (enumD 0 ds) := fun env σ T H O hs g => by
  have t := g.tm _ (hs _ List.mem_cons_self)
  obtain ⟨a', vs, e, h1, h2⟩ := Rep.lst_inv t
  cases e
  have h1' := hid_sub O H _ _ h1
  have hl := h2.length
  rw [enumD_len]
  refine ⟨fun i hi => ?_, ⟨vs, SqL.of h1', by omega⟩, fun i x H' hi hy => ?_⟩
  · exact ⟨vs, vs[i]'(by omega), SqL.of h1', List.getElem?_eq_getElem (by omega)⟩
  · obtain ⟨p, y, rfl, hp, rfl, hx⟩ := hy
    have hx := hx vs (SqL.of h1')
    obtain ⟨g2, r2⟩ := pair_new g hp (.int (i : Nat)) (h2.at hx (List.getElem?_eq_getElem hi))
    exact ⟨g2, _, by rw [enumD_get (List.getElem?_eq_getElem hi), Nat.zero_add], r2⟩
theorem walk_ent {a : Addr} {ds : List PyData} : WalkD F [(.ref a, .v (.tuple ds))] (MpW.IteT F.K a) (enumD 0 ds) := fun env σ T H O hs g => by
  have t := g.tm _ (hs _ List.mem_cons_self)
  obtain ⟨a', vs, e, h1, h2⟩ := Rep.tup_inv t
  cases e
  have h1' := (hid_sub O H).sqT h1
  have hl := h2.length
  rw [enumD_len]
  refine ⟨fun i hi => ?_, ⟨vs, h1', by omega⟩, fun i x H' hi hy => ?_⟩
  · exact ⟨vs, vs[i]'(by omega), h1', List.getElem?_eq_getElem (by omega)⟩
  · obtain ⟨p, y, rfl, hp, rfl, hx⟩ := hy
    have hx := hx vs h1'
    obtain ⟨g2, r2⟩ := pair_new g hp (.int (i : Nat)) (h2.at hx (List.getElem?_eq_getElem hi))
    exact ⟨g2, _, by rw [enumD_get (List.getElem?_eq_getElem hi), Nat.zero_add], r2⟩
theorem zipD_get : ∀ {ds es : List PyData} {i : Nat} {d e : PyData}, ds[i]? = some d → es[i]? = some e → (zipD ds es)[i]? = some (.tuple [d, e])
  | [], _, i, d, e, h, _ => by simp at h
  | _ :: _, [], i, d, e, _, h => by simp at h
  | x :: ds, y :: es, 0, d, e, h, h' => by simp at h h'; subst h; subst h'; rfl
  | x :: ds, y :: es, i + 1, d, e, h, h' => by
    show (zipD ds es)[i]? = _
    exact zipD_get (by simpa using h) (by simpa using h')
theorem zipD_len : ∀ {ds es : List PyData}, (zipD ds es).length = min ds.length es.length
  | [], es => by simp [zipD]
  | _ :: _, [] => by simp [zipD]
  | x :: ds, y :: es => by
    show (zipD ds es).length + 1 = min (ds.length + 1) (es.length + 1)
    rw [zipD_len]; omega
theorem walk_zpl {a b : Addr} {ds es : List PyData} : WalkD F [(.ref b, .v (.list es)), (.ref a, .v (.list ds))] (Itz F.K a b) (zipD ds es) := fun env σ T H O hs g => by
  obtain ⟨a', vs, e, h1, h2⟩ := Rep.lst_inv (g.tm _ (hs _ (List.mem_cons_of_mem _ List.mem_cons_self)))
  cases e
  obtain ⟨b', ws, e, h3, h4⟩ := Rep.lst_inv (g.tm _ (hs _ List.mem_cons_self))
  cases e
  have h1' := hid_sub O H _ _ h1
  have h3' := hid_sub O H _ _ h3
  have hl := h2.length
  have hl' := h4.length
  rw [zipD_len]
  refine ⟨fun i hi => ?_, ⟨vs, ws, SqL.of h1', SqL.of h3', by omega⟩, fun i x H' hi hy => ?_⟩
  · exact ⟨vs, ws, vs[i]'(by omega), ws[i]'(by omega), SqL.of h1', SqL.of h3', List.getElem?_eq_getElem (by omega), List.getElem?_eq_getElem (by omega)⟩
  · obtain ⟨p, x1, x2, rfl, hp, rfl, f1, f2⟩ := hy
    have f1 := f1 vs (SqL.of h1')
    have f2 := f2 ws (SqL.of h3')
    have d1 : ds[i]? = some (ds[i]'(by omega)) := List.getElem?_eq_getElem (by omega)
    have d2 : es[i]? = some (es[i]'(by omega)) := List.getElem?_eq_getElem (by omega)
    obtain ⟨g2, r2⟩ := pair_new g hp (h2.at f1 d1) (h4.at f2 d2)
    exact ⟨g2, _, zipD_get d1 d2, r2⟩
theorem walk_zpt {a b : Addr} {ds es : List PyData} : WalkD F [(.ref b, .v (.tuple es)), (.ref a, .v (.tuple ds))] (RZ.ItzT F.K a b) (zipD ds es) := fun env σ T H O hs g => by
  obtain ⟨a', vs, e, h1, h2⟩ := Rep.tup_inv (g.tm _ (hs _ (List.mem_cons_of_mem _ List.mem_cons_self)))
  cases e
  obtain ⟨b', ws, e, h3, h4⟩ := Rep.tup_inv (g.tm _ (hs _ List.mem_cons_self))
  cases e
  have h1' := (hid_sub O H).sqT h1
  have h3' := (hid_sub O H).sqT h3
  have hl := h2.length
  have hl' := h4.length
  rw [zipD_len]
  refine ⟨fun i hi => ?_, ⟨vs, ws, h1', h3', by omega⟩, fun i x H' hi hy => ?_⟩
  · exact ⟨vs, ws, vs[i]'(by omega), ws[i]'(by omega), h1', h3', List.getElem?_eq_getElem (by omega), List.getElem?_eq_getElem (by omega)⟩
  · obtain ⟨p, x1, x2, rfl, hp, rfl, f1, f2⟩ := hy
    have f1 := f1 vs h1'
    have f2 := f2 ws h3'
    have d1 : ds[i]? = some (ds[i]'(by omega)) := List.getElem?_eq_getElem (by omega)
    have d2 : es[i]? = some (es[i]'(by omega)) := List.getElem?_eq_getElem (by omega)
    obtain ⟨g2, r2⟩ := pair_new g hp (h2.at f1 d1) (h4.at f2 d2)
    exact ⟨g2, _, zipD_get d1 d2, r2⟩
theorem seq_of {x : Option (PyData × Env)} {Q : List PyData → Env → Prop} (h : seqOf x Q) : (∃ ds e, x = some (.list ds, e) ∧ Q ds e) ∨ ∃ ds e, x = some (.tuple ds, e) ∧ Q ds e := by
  unfold seqOf at h
  split at h
  · exact .inl ⟨_, _, rfl, h⟩
  · exact .inr ⟨_, _, rfl, h⟩
  · exact h.elim
section
variable {a b tg : Expr} {p p' : P} {pos pos2 tpos : Pos} {elts : List Expr} {kk : Nat}
theorem wk_seq (C : Ctx G F N L sc W X) (ha : PE X a (rdE G F X.mg W p)) : PI X tg a (rdW G F X.mg W (.seq p)) :=
  (MpW.pi_seqA ha).imp fun σ H R' ⟨env, T, O, Qd, E, g, w, q, ex⟩ => by
    simp only [wpW] at w
    refine ⟨env, T, O, _, E, g, w, fun r v env' H' O' g' w' => ?_, ex⟩
    rw [C.K]
    rcases seq_of w' with ⟨ds, e2, he, w2⟩ | ⟨ds, e2, he, w2⟩
    · obtain ⟨O2, g2⟩ := g'.share he
      obtain ⟨a, vs, rfl, h1, h2⟩ := Rep.lst_inv (g2.tm _ List.mem_cons_self)
      exact ⟨a, rfl, .inl ⟨⟨vs, SqL.of (hid_sub O2 H' _ _ h1)⟩, q _ _ _ _ _ _ walk_lst noB1 g2 w2⟩⟩
    · obtain ⟨O2, g2⟩ := g'.share he
      obtain ⟨a, vs, rfl, h1, h2⟩ := Rep.tup_inv (g2.tm _ List.mem_cons_self)
      exact ⟨a, rfl, .inr ⟨⟨vs, (hid_sub O2 H').sqT h1⟩, q _ _ _ _ _ _ walk_tpl noB1 g2 w2⟩⟩
theorem wk_rng1 (C : Ctx G F N L sc W X) (hg : glB sc ("range" : Str) = true) (h1 : notStar a = true) (ha : PE X a (rdE G F X.mg W p)) : PI X tg (.Call (.Name "range" pos2) [a] [] pos) (rdW G F X.mg W (.rng1 p)) :=
  (pi_range1 (gl_of C hg).1 (C.kn.blt _ (by decide)) (pa_cons ha pa_nil (star_cons h1)) (star_cons h1)).imp fun σ H R' ⟨env, T, O, Qd, E, g, w, q, ex⟩ => by
    simp only [wpW] at w
    refine ⟨env, T, O, _, E, g, w, fun r v env' H' O' g' w' => ?_, ex⟩
    obtain ⟨n, hn, ⟨b1, b2⟩, w2⟩ := asI_of w'
    obtain rfl := (g'.rd List.mem_cons_self hn).int
    exact ⟨n, rfl, b1, b2, q _ _ _ _ _ _ walk_rng NoB.nil g'.pop w2⟩
theorem wk_rng2 (C : Ctx G F N L sc W X) (hg : glB sc ("range" : Str) = true) (h1 : notStar a = true) (h2 : notStar b = true) (ha : PE X a (rdE G F X.mg W p)) (hb : PE X b (rdE G F X.mg W p')) : PI X tg (.Call (.Name "range" pos2) [a, b] [] pos) (rdW G F X.mg W (.rng2 p p')) :=
  (pi_range2 (gl_of C hg).1 (C.kn.blt _ (by decide)) (pa_cons ha (pa_cons hb pa_nil (star_cons h2)) (star_cons h1)) (by rw [star_cons h1, star_cons h2]; rfl) (star_cons h2)).imp fun σ H R' ⟨env, T, O, Qd, E, g, w, q, ex⟩ => by
    simp only [wpW] at w
    refine ⟨env, T, O, _, E, g, w, fun r v env' H' O' g' w' => ?_, ex⟩
    refine ⟨env', _, O', _, E, g', w', fun r2 v2 env2 H2 O2 g2 w2 => ?_, ex.pop⟩
    obtain ⟨m, hm, w3⟩ := asI_of w2
    obtain ⟨n, hn, w4, w5⟩ := asI_of w3
    obtain rfl := (g2.rd (List.mem_cons_of_mem _ List.mem_cons_self) hm).int
    obtain rfl := (g2.rd List.mem_cons_self hn).int
    exact ⟨m, n, rfl, w4, q _ _ _ _ _ _ walk_rng NoB.nil g2.pop.pop w5⟩
theorem wk_enum (C : Ctx G F N L sc W X) (hg : glB sc ("enumerate" : Str) = true) (h1 : notStar a = true) (ha : PE X a (rdE G F X.mg W p)) : PI X (.Tuple elts kk tpos) (.Call (.Name "enumerate" pos2) [a] [] pos) (rdW G F X.mg W (.enum p)) :=
  (MpW.pi_enumA (gl_of C hg).1 (C.kn.blt _ (by decide)) (pa_cons ha pa_nil (star_cons h1)) (star_cons h1)).imp fun σ H R' ⟨env, T, O, Qd, E, g, w, q, ex⟩ => by
    simp only [wpW] at w
    refine ⟨env, T, O, _, E, g, w, fun r v env' H' O' g' w' => ?_, ex⟩
    rw [C.K]
    rcases seq_of w' with ⟨ds, e2, he, w2⟩ | ⟨ds, e2, he, w2⟩
    · obtain ⟨O2, g2⟩ := g'.share he
      obtain ⟨a, vs, rfl, h1, h2⟩ := Rep.lst_inv (g2.tm _ List.mem_cons_self)
      exact ⟨a, vs, rfl, .inl ⟨SqL.of (hid_sub O2 H' _ _ h1), q _ _ _ _ _ _ walk_enl noB1 g2 w2⟩⟩
    · obtain ⟨O2, g2⟩ := g'.share he
      obtain ⟨a, vs, rfl, h1, h2⟩ := Rep.tup_inv (g2.tm _ List.mem_cons_self)
      exact ⟨a, vs, rfl, .inr ⟨(hid_sub O2 H').sqT h1, q _ _ _ _ _ _ walk_ent noB1 g2 w2⟩⟩
theorem wk_zip (C : Ctx G F N L sc W X) (hg : glB sc ("zip" : Str) = true) (h1 : notStar a = true) (h2 : notStar b = true) (ha : PE X a (rdE G F X.mg W p)) (hb : PE X b (rdE G F X.mg W p')) : PI X (.Tuple elts kk tpos) (.Call (.Name "zip" pos2) [a, b] [] pos) (rdW G F X.mg W (.zip p p')) :=
  (RZ.pi_zipA (gl_of C hg).1 (C.kn.blt _ (by decide)) (pa_cons ha (pa_cons hb pa_nil (star_cons h2)) (star_cons h1)) (by rw [star_cons h1]) (by rw [star_cons h2]; rfl)).imp fun σ H R' ⟨env, T, O, Qd, E, g, w, q, ex⟩ => by
    simp only [wpW] at w
    refine ⟨env, T, O, _, E, g, w, fun r v env' H' O' g' w' => ?_, ex⟩
    obtain ⟨d, e1, hd, w2⟩ := withS_of w'
    obtain ⟨O1, g1⟩ := g'.share hd
    refine ⟨e1, _, O1, _, E, g1, w2, fun r2 v2 env2 H2 O2 g2 w3 => ?_, ex.pop⟩
    obtain ⟨e, e2, he, w4⟩ := withS_of w3
    obtain ⟨O3, g3⟩ := g2.share he
    rw [C.K]
    have nb : NoB [(v2, R.v e), (v, R.v d)] := NoB.cons (fun i z => by cases z) noB1
    split at w4
    · obtain ⟨a, vs, rfl, h1, h2⟩ := Rep.lst_inv (g3.tm _ (List.mem_cons_of_mem _ List.mem_cons_self))
      obtain ⟨b, ws, rfl, h3, h4⟩ := Rep.lst_inv (g3.tm _ List.mem_cons_self)
      exact ⟨a, b, vs, ws, rfl, .inl ⟨SqL.of (hid_sub O3 H2 _ _ h1), SqL.of (hid_sub O3 H2 _ _ h3), q _ _ _ _ _ _ walk_zpl nb g3 w4⟩⟩
    · obtain ⟨a, vs, rfl, h1, h2⟩ := Rep.tup_inv (g3.tm _ (List.mem_cons_of_mem _ List.mem_cons_self))
      obtain ⟨b, ws, rfl, h3, h4⟩ := Rep.tup_inv (g3.tm _ List.mem_cons_self)
      exact ⟨a, b, vs, ws, rfl, .inr ⟨(hid_sub O3 H2).sqT h1, (hid_sub O3 H2).sqT h3, q _ _ _ _ _ _ walk_zpt nb g3 w4⟩⟩
    · exact w4.elim
end
end
end Mp

set_option Elab.async false
set_option linter.all false
set_option maxRecDepth 100000
set_option maxHeartbeats 1000000
/-! Mp, part 9: targets, comprehensions; the check is sound for expressions. -/
namespace Mp
open PySem PySem.Spec PyProof.Rows L2
section
variable {G : GE} {F : Cf} {N : List Str} {L : Nat} {sc : Scope} {W : WX} {X : Cx}
variable {mg : Str → Option Value}
/-! ### targets -/
def setMs : List Nat → List V → St → St
  | i :: is, v :: vs, σ => setMs is vs (σ.set i (some v))
  | _, _, σ => σ
theorem setMs_len : ∀ (is : List Nat) (vs : List V) (σ : St), (setMs is vs σ).length = σ.length
  | [], _, _ => rfl
  | _ :: _, [], _ => rfl
  | i :: is, v :: vs, σ => by show (setMs is vs (σ.set i (some v))).length = _; rw [setMs_len]; simp
theorem Good.setMany : ∀ (is : List Nat) {vs : List V} {ds : List PyData} {env : Env} {σ : St} {T : List (V × R)} {H : Hp} {O : List Addr}, Good F env σ T H O → NoB T → Reps F.K (hid O H) vs ds → Good F (setMany is ds env) (setMs is vs σ) T H O
  | [], _, _, _, _, _, _, _, g, _, _ => g
  | i :: is, vs, ds, env, σ, T, H, O, g, n, r => by
    cases r with
    | nil => exact g
    | cons r1 r2 => exact Good.setMany is (g.setV n r1) n r2
def gMany (is : List Nat) : TGs := fun vs σ H Q => vs.length = is.length ∧ Q (setMs is vs σ) H
/-- names that a target may have: told for the scope that runs -/
def OkName (X : Cx) (x : Str) : Prop := Loc X.env.scope x ∧ (X.fn x = true ∨ X.env.scope.names.lookup x = some .local)
inductive OkNames (X : Cx) : List Nat → List Expr → Prop
  | nil : OkNames X [] []
  | cons {i : Nat} {x : Str} {p : Pos} {is : List Nat} {es : List Expr} : X.N[i]? = some x → OkName X x → OkNames X is es → OkNames X (i :: is) (.Name x p :: es)
theorem assignEach_name {x : Str} {p : Pos} {es : List Expr} {env : PySem.Env} : assignEach (.Name x p :: es) env = (false, assign (.Name x p) env) :: assignEach es env := rfl
theorem pgs_many (hN : X.N.Nodup) : ∀ {is : List Nat} {es : List Expr}, OkNames X is es → PGs X es (gMany is)
  | _, _, .nil => ⟨fun pins s σ H vs us Q I r h => by
    obtain ⟨h1, h2⟩ := h
    cases r with
    | nil => exact pgs_nil.run pins s σ H [] [] Q I .nil ⟨rfl, h2⟩
    | cons => cases h1⟩
  | _, _, .cons (i := i) (x := x) (p := p) (is := is) (es := es) h1 h2 h3 => ⟨fun pins s σ H vs us Q I r h => by
    obtain ⟨k1, k2⟩ := h
    cases vs with
    | nil => cases k1
    | cons v vs =>
      refine (pgs_cons (pg_name hN h1 h2.1 h2.2) (pgs_many hN h3) rfl).run pins s σ H (v :: vs) us Q I r ⟨v, vs, rfl, ?_⟩
      exact ⟨Nat.succ.inj k1, k2⟩⟩
theorem ok_len {is : List Nat} {es : List Expr} {env : PySem.Env} (h : OkNames X is es) : (assignEach es env).length = is.length := by
  induction h with
  | nil => rfl
  | cons _ _ _ ih => show (assignEach _ env).length + 1 = _ + 1; rw [ih]
theorem ok_star {is : List Nat} {es : List Expr} {env : PySem.Env} (h : OkNames X is es) : (assignEach es env).findIdx? (·.1) = none := by
  induction h with
  | nil => rfl
  | cons _ _ _ ih => rw [assignEach_name, List.findIdx?_cons, ih]; rfl
section
variable (F : Cf)
def rdTg (tg : Tg) : TG := fun v σ H Q => ∃ (env : Env) (T : List (V × R)) (O : List Addr) (d : PyData) (Qd : Env → Prop), NoB T ∧ Good F env σ T H O ∧ Rep F.K (hid O H) v d ∧ setTg tg d env Qd ∧
  ∀ env' vs, vs.length = tg.ix.length → Good F env' (setMs tg.ix vs σ) T H O → Qd env' → Q (setMs tg.ix vs σ) H
end
theorem snd_tgN (C : Ctx G F N L sc W X) {i : Nat} {x : Str} {p : Pos} (h1 : X.N[i]? = some x) (h2 : OkName X x) : PG X (.Name x p) (rdTg F (.nm i)) :=
  (pg_name C.nd h1 h2.1 h2.2).imp fun v σ H Q ⟨env, T, O, d, Qd, n, g, r, w, q⟩ => q (env.set i (.v d)) [v] rfl (g.setV n r) w
theorem _root_.L2.PG.or {tg : Expr} {g g' : TG} (h : PG X tg g) (h' : PG X tg g') : PG X tg (fun v σ H Q => g v σ H Q ∨ g' v σ H Q) :=
  ⟨fun pins s σ H v u Q I r q => q.elim (h.run pins s σ H v u Q I r) (h'.run pins s σ H v u Q I r)⟩
theorem snd_tgT (C : Ctx G F N L sc W X) {is : List Nat} {es : List Expr} {k : Nat} {p : Pos} (h : OkNames X is es) : PG X (.Tuple es k p) (rdTg F (.tp is)) :=
  (pg_tup C.calm (pgs_many C.nd h) (ok_len h) (ok_star h)).imp fun v σ H Q ⟨env, T, O, d, Qd, n, g, r, w, q⟩ => by
    cases d with
    | tuple ds =>
      obtain ⟨w1, w2⟩ := w
      obtain ⟨a, vs, rfl, h1, h2⟩ := r.tup_inv
      refine ⟨a, vs, rfl, by rw [C.K]; exact (hid_sub O H).sqT h1, by rw [h2.length, w1], by rw [h2.length, w1], ?_⟩
      exact q (setMany is ds env) vs (by rw [h2.length, w1]; rfl) (g.setMany is n h2) w2
    | _ => exact w.elim

/-! ### comprehensions -/
def nb (t : V × R) : Bool := match t.2 with
  | .b _ => false
  | _ => true
theorem nb_filter (T : List (V × R)) : NoB (T.filter nb) := fun t ht i z => by
  have := (List.mem_filter.mp ht).2
  unfold nb at this
  rw [z] at this
  cases this
theorem isRO_nb {t : V × R} (h : isRO t.2 = true) : nb t = true := by
  obtain ⟨v, r⟩ := t
  cases r with
  | b i => cases h
  | _ => rfl
section
variable {env : Env} {σ σ' : St} {T : List (V × R)} {H H' : Hp} {O O' : List Addr}
theorem Good.noB (g : Good F env σ T H O) : Good F env σ (T.filter nb) H O :=
  ⟨g.len, g.oin, g.o0, g.h0, g.ion, g.keep, g.keep0, g.new, g.sl, fun t ht => g.tm t (List.mem_filter.mp ht).1, g.dss, fun i s h1 h2 t ht h3 => g.dst i s h1 h2 t (List.mem_filter.mp ht).1 h3, g.dtt.filter _, g.one, g.sep.same (fun _ h => h) (fun i u e1 e2 => .sl e1 e2) (fun t ht k => .tm (List.mem_filter.mp ht).1 k), g.tb⟩
theorem Good.reB (g : Good F env σ (T.filter nb) H O) (h : ∀ t ∈ T, ∀ i, t.2 = .b i → σ[i]? = some (some t.1)) : Good F env σ T H O := by
  refine ⟨g.len, g.oin, g.o0, g.h0, g.ion, g.keep, g.keep0, g.new, g.sl, fun t ht => ?_, g.dss, fun i s h1 h2 t ht h3 => g.dst i s h1 h2 t (List.mem_filter.mpr ⟨ht, isRO_nb h3⟩) h3, ?_, g.one, g.sep.same (fun _ h => h) (fun i u e1 e2 => .sl e1 e2) fun t ht k => .tm (List.mem_filter.mpr ⟨ht, isRO_nb (by obtain ⟨v, r⟩ := t; cases r <;> first | rfl | cases k)⟩) k, g.tb⟩
  · by_cases hn : nb t = true
    · exact g.tm t (List.mem_filter.mpr ⟨ht, hn⟩)
    · have := h t ht
      obtain ⟨v, r⟩ := t
      cases r with
      | b i => exact this i rfl
      | v d => exact absurd rfl hn
      | o d => exact absurd rfl hn
      | ob c d => exact absurd rfl hn
      | me => exact absurd rfl hn
  · exact (List.pairwise_filter.mp g.dtt).imp fun {t u} h h1 h2 => h (isRO_nb h1) (isRO_nb h2) h1 h2
/-- other values where the slots are forgotten -/
theorem Good.resig (g : Good F env σ T H O) (n : NoB T) (hl : σ'.length = σ.length) (h : ∀ (j : Nat) s, env[j]? = some s → s ≠ .no → (σ'[j]?).getD none = (σ[j]?).getD none) : Good F env σ' T H O := by
  have no : ∀ {s : Sl}, isO s = true → s ≠ .no := fun {s} h z => by subst z; cases h
  refine ⟨g.len.trans hl.symm, g.oin, g.o0, g.h0, g.ion, g.keep, g.keep0, g.new, fun j s hs => ?_, fun t ht => (g.tm t ht).sig (n t ht), fun j k s u hjk hj hs hk hu => ?_, fun j s hj hs t ht h3 => ?_, g.dtt, g.one, g.sep.same (fun _ h => h) (fun j u e1 e2 => by rw [h j u e1 (by rintro rfl; cases e2)]; exact .sl e1 e2) (fun t ht k => .tm ht k), g.tb⟩
  · cases s with
    | no => trivial
    | v d => rw [h j _ hs (by simp)]; exact g.sl j _ hs
    | o d => rw [h j _ hs (by simp)]; exact g.sl j _ hs
    | io d => rw [h j _ hs (by simp)]; exact g.sl j _ hs
    | sc d => rw [h j _ hs (by simp)]; exact g.sl j _ hs
    | ob c d => rw [h j _ hs (by simp)]; exact g.sl j _ hs
    | ib c d => rw [h j _ hs (by simp)]; exact g.sl j _ hs
  · rw [h j s hj (no hs), h k u hk (no hu)]; exact g.dss j k s u hjk hj hs hk hu
  · rw [h j s hj (no hs)]; exact g.dst j s hj hs t ht h3
theorem Good.wipe (n : NoB T) : ∀ (own : List Nat), Good F env σ T H O → Good F (wipeE env own) (L2.wipe σ own) T H O
  | [], g => g
  | i :: own, g => (Good.wipe n own g).forget n
theorem wipeE_len (env : Env) : ∀ own : List Nat, (wipeE env own).length = env.length
  | [] => rfl
  | i :: own => by show ((wipeE env own).set i .no).length = _; rw [List.length_set, wipeE_len]
theorem wipeE_in : ∀ {own : List Nat} {j : Nat} {s : Sl}, j ∈ own → (wipeE env own)[j]? = some s → s = .no
  | [], j, s, h, _ => by cases h
  | i :: own, j, s, h, e => by
    rcases set_get e with ⟨_, z, _⟩ | ⟨hj, e⟩
    · exact z
    · rcases List.mem_cons.mp h with z | h
      · exact absurd z hj
      · exact wipeE_in h e
theorem wipe_get {j : Nat} : ∀ {own : List Nat}, j ∉ own → (L2.wipe σ own)[j]? = σ[j]?
  | [], _ => rfl
  | i :: own, h => by
    show ((L2.wipe σ own).set i none)[j]? = _
    rw [List.getElem?_set_ne fun z => h (by rw [z]; exact List.mem_cons_self)]
    exact wipe_get fun z => h (List.mem_cons_of_mem _ z)
theorem wipe_set {i : Nat} {x : Option V} : ∀ {own : List Nat}, i ∈ own → L2.wipe (σ.set i x) own = L2.wipe σ own
  | [], h => by cases h
  | j :: own, h => by
    show (L2.wipe (σ.set i x) own).set j none = (L2.wipe σ own).set j none
    by_cases hm : i ∈ own
    · rw [wipe_set hm]
    · have e : i = j := (List.mem_cons.mp h).resolve_right hm
      subst e
      apply List.ext_getElem?
      intro k
      by_cases hk : i = k
      · subst hk
        by_cases hl : i < σ.length
        · rw [List.getElem?_set_self (by rw [L2.wipe_length, List.length_set]; exact hl), List.getElem?_set_self (by rw [L2.wipe_length]; exact hl)]
        · rw [List.getElem?_eq_none (by rw [List.length_set, L2.wipe_length, List.length_set]; omega), List.getElem?_eq_none (by rw [List.length_set, L2.wipe_length]; omega)]
      · rw [List.getElem?_set_ne hk, List.getElem?_set_ne hk]
        by_cases hk2 : k ∈ own
        · have z : ∀ τ : St, (L2.wipe τ own)[k]? = if k < τ.length then some none else none := fun τ => by
            split
            · rename_i hl
              have hl' : k < (L2.wipe τ own).length := by rw [L2.wipe_length]; exact hl
              cases q : (L2.wipe τ own)[k]? with
              | none => rw [List.getElem?_eq_none_iff] at q; omega
              | some y =>
                cases y with
                | none => rfl
                | some y => exact absurd hk2 (wipe_some q).2
            · rename_i hl
              exact List.getElem?_eq_none (by rw [L2.wipe_length]; omega)
          rw [z, z, List.length_set]
        · rw [wipe_get hk2, wipe_get hk2, List.getElem?_set_ne hk]
theorem wipe_ms {own : List Nat} : ∀ {is : List Nat} {vs : List V} {σ : St}, (∀ i ∈ is, i ∈ own) → L2.wipe (setMs is vs σ) own = L2.wipe σ own
  | [], _, _, _ => rfl
  | _ :: _, [], _, _ => rfl
  | i :: is, v :: vs, σ, h => by
    show L2.wipe (setMs is vs (σ.set i (some v))) own = _
    rw [wipe_ms fun j hj => h j (List.mem_cons_of_mem _ hj), wipe_set (h i List.mem_cons_self)]
theorem wipe_wipe {own : List Nat} : L2.wipe (L2.wipe σ own) own = L2.wipe σ own := by
  apply List.ext_getElem?
  intro k
  by_cases hk : k ∈ own
  · have z : ∀ τ : St, (L2.wipe τ own)[k]? = if k < τ.length then some none else none := fun τ => by
      split
      · rename_i hl
        have hl' : k < (L2.wipe τ own).length := by rw [L2.wipe_length]; exact hl
        cases q : (L2.wipe τ own)[k]? with
        | none => rw [List.getElem?_eq_none_iff] at q; omega
        | some y =>
          cases y with
          | none => rfl
          | some y => exact absurd hk (wipe_some q).2
      · rename_i hl
        exact List.getElem?_eq_none (by rw [L2.wipe_length]; omega)
    rw [z, z, L2.wipe_length]
  · rw [wipe_get hk]
/-- the list that is being made grows -/
theorem Good.changeT {a : Addr} {ds ds' : List PyData} {vs' : List V} (g : Good F env σ ((.ref a, .o ds) :: T) H O) (r : Reps F.K (hid O H) vs' ds') : Good F env σ ((.ref a, .o ds') :: T) (upd H a (.lst vs')) O := by
  obtain ⟨b, vs, e1, h2, h3, h4, h5⟩ := g.tm _ List.mem_cons_self
  cases e1
  have d := List.pairwise_cons.mp g.dtt
  have h2 : H a = some (.lst vs) := h2
  have h3 : a ∈ O := h3
  have h4 : F.H0 a = none := h4
  have eq : hid O (upd H a (.lst vs')) = hid O H := hid_upd h3
  have e : Sub (hid O H) (hid O (upd H a (.lst vs'))) := by rw [eq]; exact Sub.refl _
  have fr : From env σ ((V.ref a, R.o ds) :: T) H (some (.ref a)) := .tm List.mem_cons_self rfl
  refine ⟨g.len, fun b hb => ?_, g.o0, g.h0, g.ion, fun b u h n => ?_, fun b h => ?_, g.new, fun j u hu => (g.sl j u hu).mono e fun b hb f c _ => ⟨upd_ne (g.foot_ne fr rfl (g.cond_ne h4 rfl (fun k => g.dst j u hu k _ List.mem_cons_self rfl) c) f), hb⟩, fun t ht => ?_, g.dss, fun j u hj hu t ht h5 => ?_, List.pairwise_cons.mpr ⟨d.1, d.2⟩, g.one,
    g.sep.step (fun b hb => ?_) (fun b ws h => ?_) (fun l hl => .inl hl) (fun j u e1 e2 => .sl e1 e2) (fun t ht k => ?_), g.tb.lst h2 fun _ h => h⟩
  · by_cases hb' : b = a
    · subst hb'; rw [upd_same]; simp
    · rw [upd_ne hb']; exact g.oin b hb
  · rw [upd_ne]
    · exact g.keep b u h n
    · rintro rfl
      rw [h4] at h; cases h
  · by_cases hb' : b = a
    · subst hb'; rw [upd_same]; simp
    · rw [upd_ne hb']; exact g.keep0 b h
  · rcases List.mem_cons.mp ht with rfl | ht2
    · exact ⟨a, vs', rfl, upd_same, h3, h4, by rw [eq]; exact r⟩
    · exact (g.tm t (List.mem_cons_of_mem _ ht2)).mono e fun b hb f c _ => ⟨upd_ne (g.foot_ne fr rfl (fun z => d.1 t ht2 rfl c (Option.some.inj z).symm) f), hb⟩
  · rcases List.mem_cons.mp ht with rfl | ht
    · show _ ≠ some (V.ref a)
      exact g.dst j u hj hu (.ref a, .o ds) List.mem_cons_self rfl
    · exact g.dst j u hj hu t (List.mem_cons_of_mem _ ht) h5
  · by_cases hb' : b = a
    · subst hb'
      exact .inr fun l => not_fld_lst upd_same
    · exact .inl ⟨hb, upd_ne hb'⟩
  · by_cases hb' : b = a
    · subst hb'; exact ⟨vs', upd_same⟩
    · exact ⟨ws, by rw [upd_ne hb']; exact h⟩
  · rcases List.mem_cons.mp ht with rfl | ht
    · exact fr
    · exact .tm (List.mem_cons_of_mem _ ht) k
end
theorem NoB.append {S T : List (V × R)} (a : NoB S) (b : NoB T) : NoB (S ++ T) := fun t ht => (List.mem_append.mp ht).elim (a t) (b t)
/-- the turn of a comprehension -/
abbrev cturn (G : GE) (own : List Nat) (tg : Tg) (c : Po) (elt : P) : PyData → Env → (Option PyData → Env → Prop) → Prop := fun d env2 K => setTg tg d env2 fun env3 => wpPc G c env3 (fun b env4 => if b = true then wpE G elt env4 (fun r env5 => withS (r.sh env5) fun y env6 => K (some y) (wipeE env6 own)) noEx else K none (wipeE env4 own)) noEx
theorem noEx_ok {σ : St} {T : List (V × R)} : ExOk F mg W noEx σ T := fun _ _ _ _ _ _ _ _ _ _ h => h.elim
theorem snd_lc {elt tge iter : Expr} {ifs : List Expr} {scope : Scope} {own : List Nat} {pos : Pos} {w : Wk} {tg : Tg} {c : Po} {pe : P} {nm : Nat → Str} (C : Ctx G F N L sc W X) (hi : PI X tge iter (rdW G F X.mg W w)) (hsub : ∀ i ∈ tg.ix, i ∈ own)
    (ok : BlkOk X.N X.env.scope scope (own.map fun i => (nm i, i)))
    (hg : ∀ (s : Shared) (H : Hp) (C : Addr) (cl : List (Str × Addr)) (fp : List Addr), PG (X.blk s H scope (compEnvC scope cl C X.env) fp) tge (rdTg F tg))
    (ht : ∀ (s : Shared) (H : Hp) (C : Addr) (cl : List (Str × Addr)) (fp : List Addr), PTs (X.blk s H scope (compEnvC scope cl C X.env) fp) ifs (rdPc G F X.mg (fun _ _ _ _ => False) c))
    (he : ∀ (s : Shared) (H : Hp) (C : Addr) (cl : List (Str × Addr)) (fp : List Addr), PE (X.blk s H scope (compEnvC scope cl C X.env) fp) elt (rdE G F X.mg (fun _ _ _ _ => False) pe)) :
    ∀ σ H Q, rdE G F X.mg W (.comp own w tg c pe) σ H Q → tLc (rdW G F X.mg W w) (rdTg F tg) (rdPc G F X.mg (fun _ _ _ _ => False) c) (rdE G F X.mg (fun _ _ _ _ => False) pe) own σ H Q := by
  intro σ H Q ⟨env, T, O, Qd, E, g, wp, q, ex⟩
  simp only [wpE] at wp
  refine ⟨env, T, O, _, E, g, wp, fun items ts env1 H1 O1 J wk nts g1 w1 => ?_, ex⟩
  intro D hD
  -- the ground of the loop: values alone on the stack
  have tb : ∀ t ∈ T, ∀ i, t.2 = .b i → σ[i]? = some (some t.1) := fun t ht i z => by
    have := g.tm t ht
    obtain ⟨v, r⟩ := t
    cases z
    exact this
  have ets : (ts ++ T).filter nb = ts ++ T.filter nb := by
    rw [List.filter_append]
    congr 1
    refine List.filter_eq_self.mpr fun t ht => ?_
    obtain ⟨v, r⟩ := t
    cases r with
    | b i => exact absurd rfl (nts _ ht i)
    | _ => rfl
  have g2 : Good F env1 σ (ts ++ T.filter nb) H1 O1 := by rw [← ets]; exact g1.noB
  have n2 : NoB (ts ++ T.filter nb) := nts.append (nb_filter T)
  have g3 := g2.pushO (vs := []) hD .nil
  have n3 : ∀ acc, NoB ((V.ref D, R.o acc) :: (ts ++ T.filter nb)) := fun acc => NoB.cons (fun i z => by cases z) n2
  have g4 := Good.wipe (n3 []) own g3
  have wk' : WalkD F ts J items := wk
  refine ⟨fun i m H => m = items.length - i ∧ i ≤ items.length ∧ ∃ e acc O, Good F e (L2.wipe σ own) ((.ref D, .o acc) :: (ts ++ T.filter nb)) H O ∧ (∀ j ∈ own, ∀ s, e[j]? = some s → s = .no) ∧
    compL (cturn G own tg c pe) (items.drop i) acc e (fun ds env' => Qd (.o ds) env'), ⟨items.length, by omega, Nat.zero_le _, wipeE env1 own, [], D :: O1, g4, fun j hj s hs => wipeE_in hj hs, w1⟩, ?_⟩
  rintro i m H2 ⟨rfl, hle, e, acc, O2, g5, hno, w2⟩
  obtain ⟨go, stop, yld⟩ := wk' e _ _ H2 O2 (fun t ht => List.mem_cons_of_mem _ (List.mem_append_left _ ht)) g5
  by_cases hlt : i < items.length
  · refine .inr ⟨go i hlt, fun H3 => ∃ e acc O, Good F e (L2.wipe σ own) ((.ref D, .o acc) :: (ts ++ T.filter nb)) H3 O ∧ (∀ j ∈ own, ∀ s, e[j]? = some s → s = .no) ∧
      compL (cturn G own tg c pe) (items.drop (i + 1)) acc e (fun ds env' => Qd (.o ds) env'), fun H3 h3 => ⟨items.length - (i + 1), by omega, rfl, by omega, h3⟩, fun x H3 hy => ?_⟩
    obtain ⟨g6, d, hd, rd⟩ := yld i x H3 hlt hy
    have hdrop : items.drop i = d :: items.drop (i + 1) := by
      rw [List.drop_eq_getElem_cons hlt]
      rw [List.getElem?_eq_getElem hlt] at hd
      rw [Option.some.inj hd]
    rw [hdrop] at w2
    simp only [compL, cturn] at w2
    refine ⟨e, _, O2, d, _, n3 acc, g6, rd, w2, fun e3 vs hvs g7 w3 => ⟨by rw [wipe_ms hsub, wipe_wipe], ?_⟩⟩
    have ww : L2.wipe (setMs tg.ix vs (L2.wipe σ own)) own = L2.wipe σ own := by rw [wipe_ms hsub, wipe_wipe]
    refine ⟨e3, _, O2, _, noEx, g7, w3, fun b e4 H4 O4 g8 w4 => ?_, noEx_ok⟩
    cases b with
    | false =>
      simp only [Bool.false_eq_true, if_false] at w4 ⊢
      have g9 := Good.wipe (n3 acc) own g8
      rw [ww] at g9
      exact ⟨_, acc, O4, g9, fun j hj s hs => wipeE_in hj hs, w4⟩
    | true =>
      simp only [if_true] at w4 ⊢
      refine ⟨e4, _, O4, _, noEx, g8, w4, fun r v e5 H5 O5 g9 w5 => ?_, noEx_ok⟩
      obtain ⟨y, e6, hy6, w6⟩ := withS_of w5
      obtain ⟨O6, g10⟩ := g9.share hy6
      have ry : Rep F.K (hid O6 H5) v y := g10.tm _ List.mem_cons_self
      have g11 := g10.pop
      obtain ⟨a, ws, ea, h2, h3, h4, h5⟩ := g11.tm _ List.mem_cons_self
      cases ea
      obtain ⟨w7, w8⟩ := w6
      refine ⟨ws, h2, by rw [h5.length, ← line_eq]; exact w7, ?_⟩
      have g12 := g11.changeT (h5.append (Reps.one ry))
      have g13 := Good.wipe (n3 _) own g12
      rw [ww] at g13
      exact ⟨_, _, O6, g13, fun j hj s hs => wipeE_in hj hs, w8⟩
  · have ei : i = items.length := by omega
    subst ei
    rw [List.drop_length] at w2
    refine .inl ⟨stop, ?_⟩
    have g6 : Good F e σ ((.ref D, .o acc) :: (ts ++ T.filter nb)) H2 O2 := g5.resig (n3 acc) (by rw [L2.wipe_length]) fun j s hs hn => by
      rw [wipe_get fun hj => hn (hno j hj s hs)]
    have g7 : ∀ S, Good F e σ ((.ref D, .o acc) :: (S ++ T.filter nb)) H2 O2 → Good F e σ ((.ref D, .o acc) :: T.filter nb) H2 O2 := fun S => by
      induction S with
      | nil => exact fun h => h
      | cons s S ih => exact fun h => ih h.pop2
    have g8 : Good F e σ (((V.ref D, R.o acc) :: T).filter nb) H2 O2 := g7 ts g6
    refine q _ _ _ _ _ (g8.reB fun t ht i z => ?_) w2
    rcases List.mem_cons.mp ht with rfl | ht
    · cases z
    · exact tb t ht i z
end
end Mp

set_option Elab.async false
set_option linter.all false
set_option maxRecDepth 100000
set_option maxHeartbeats 2000000
/-! Mp, part 10: the check is sound for expressions. -/
namespace Mp
open PySem PySem.Spec PyProof.Rows L2
section
variable {G : GE} {F : Cf} {N : List Str} {L : Nat}
theorem _root_.L2.PTs.imp {X : Cx} {ifs : List Expr} {t t' : TT} (h : PTs X ifs t) (i : ∀ σ H Q, t' σ H Q → t σ H Q) : PTs X ifs t' := ⟨fun pins s σ H Q I q => h.run pins s σ H Q I (i σ H Q q)⟩
section
variable {sc : Scope} {W : WX} {X : Cx}
theorem snd_pcN : PTs X [] (rdPc G F X.mg W .none) := pts_nil.imp fun σ H Q ⟨env, T, O, Qd, E, g, w, q, ex⟩ => q _ _ _ _ g (by simpa only [wpPc] using w)
theorem snd_pcS {x : Expr} {p : P} (h : PT X x (rdT G F X.mg W p)) : PTs X [x] (rdPc G F X.mg W (.some p)) := (pts_one h).imp fun σ H Q ⟨env, T, O, Qd, E, g, w, q, ex⟩ => ⟨env, T, O, Qd, E, g, by simpa only [wpPc] using w, q, ex⟩
theorem relabel_eq {scope : Scope} {env : PySem.Env} : relabel scope env = L2.relS scope env.scope := rfl
theorem Ctx.blk (C : Ctx G F N L sc W X) {s : Shared} {H : Hp} {scope : Scope} {cl : List (Str × Addr)} {A : Addr} {fp : List Addr} : Ctx G F N L (blkSc scope sc) (fun _ _ _ _ => False) (X.blk s H scope (compEnvC scope cl A X.env) fp) :=
  ⟨C.N, C.K, by show relabel scope X.env = _; rw [relabel_eq, C.scE]; rfl, C.calm, C.nd, C.room, takes0, C.kn⟩
theorem tgB_ok (C : Ctx G F N L sc W X) {tg : Tg} {e : Expr} (h : tgB N sc tg e = true) : PG X e (rdTg F tg) := by
  have nm : ∀ {i : Nat} {x : Str}, N[i]? = some x → sc.names.lookup x = some .local → X.N[i]? = some x ∧ OkName X x := fun h1 h2 => by
    refine ⟨by rw [C.N]; exact h1, .inl ?_, .inr ?_⟩ <;> rw [C.scE] <;> exact h2
  cases tg with
  | nm i =>
    simp only [tgB] at h
    split at h
    · simp only [Bool.and_eq_true, decide_eq_true_eq] at h
      obtain ⟨a, b⟩ := nm h.1 h.2
      exact snd_tgN C a b
    · cases h
  | tp is =>
    simp only [tgB] at h
    split at h
    · rename_i es k p
      refine snd_tgT C ?_
      have all : ∀ (is : List Nat) (es : List Expr), tgB.namesB N sc is es = true → OkNames X is es := fun is => by
        induction is with
        | nil =>
          intro es h
          cases es with
          | nil => exact .nil
          | cons => simp [tgB.namesB] at h
        | cons i is ih =>
          intro es h
          cases es with
          | nil => simp [tgB.namesB] at h
          | cons e es =>
            simp only [tgB.namesB, Bool.and_eq_true] at h
            obtain ⟨h1, h2⟩ := h
            split at h1
            · simp only [Bool.and_eq_true, decide_eq_true_eq] at h1
              obtain ⟨a, b⟩ := nm h1.1 h1.2
              exact .cons a b (ih es h2)
            · cases h1
      exact all is es h
    · cases h
theorem fnB_of {f : Option FnI} {k : HdK} {x : Str} {n : Nat} (h : fnB f k x L n = true) : ∃ fi, f = some fi ∧ fi.name = x ∧ fi.hd = k ∧ fi.lev ≤ L ∧ n = fi.pars.length := by
  unfold fnB at h
  split at h
  · simp only [Bool.and_eq_true, decide_eq_true_eq] at h
    exact ⟨_, rfl, h.1.1.1, h.1.1.2, h.1.2, h.2⟩
  · cases h
theorem own_map {own : List Nat} : (ownB N own).map (·.2) = own := by
  unfold ownB
  rw [List.map_map]
  exact List.map_id _
theorem plainIx_of {q : P} {e : Expr} (h : chkE G N L q sc e = true) : PlainIx e := by
  intro o i
  cases e with
  | Slice lo hi st pos => cases q <;> exact absurd h Bool.false_ne_true
  | _ => rfl
theorem notSet_ok {e : Expr} (h : notSet e = true) (op : CmpOp) : behindInMarks op e = false := by
  cases e with
  | Set elts k pos => cases h
  | _ => rfl
theorem both {e : Expr} {p : P} (h : PE X e (rdE G F X.mg W p)) (hp : ∀ whole, isTrue e X.env whole = (do let v ← whole; standAt e.pos; holding [v] (truthy v))) : PE X e (rdE G F X.mg W p) ∧ (okT p = true → PT X e (rdT G F X.mg W p)) := ⟨h, fun _ => snd_val h hp⟩
theorem foldSet_of {w : Wk} {tg : Tg} {tge e : Expr} {env : PySem.Env} (h : chkW G N L w sc tg tge e = true) : ∀ x, foldedSetIterable e env x = pure x := by
  intro x
  cases e with
  | Set elts k pos =>
    cases w with
    | seq a => cases a <;> exact absurd h Bool.false_ne_true
    | rng1 a => exact absurd h Bool.false_ne_true
    | rng2 a b => exact absurd h Bool.false_ne_true
    | enum a => cases tg <;> cases tge <;> exact absurd h Bool.false_ne_true
    | zip a b => cases tg <;> cases tge <;> exact absurd h Bool.false_ne_true
  | _ => rfl
theorem snd_call0 (C : Ctx G F N L sc W X) {k : Nat} {fi : FnI} {p pos : Pos} (hk : G.fni k = some fi) (hd : fi.hd = .no) (hl : fi.lev ≤ L) (hn : ([] : List Expr).length = fi.pars.length) (hg : glB sc fi.name = true) :
    PE X (.Call (.Name fi.name p) [] [] pos) (rdE G F X.mg W (.call k .nil)) := by
  obtain ⟨f, fd, m, kp, bd, ok⟩ := C.kn.fn k fi hk hl
  obtain ⟨g1, g2⟩ := gl_of C hg
  have K := C.K
  refine ⟨fun pins s σ H Q I ⟨env, T, O, Qd, E, g, w, q, ex⟩ => ?_⟩
  simp only [wpE, wpEs] at w
  obtain ⟨w1, w2, w3⟩ := w
  refine wpAny_Call_Name_kw (ld_glob I g1 m ?_ g2)
  refine PySem.W.callWith_K0 I.kIn kp (run_fnS (E := WE W) (us := []) ok (C.room.mono hl) bd (passAt C.tk σ) I .nil ?_)
  rw [K]
  refine ⟨.no, [], O, none, [], by rw [hd]; rfl, hn, ⟨rfl, rfl⟩, .nil, g.oin, g.sep.self, g.tb, w1, fun r h v H2 O2 hp l => ?_, exc_of g ex w3⟩
  exact q _ _ _ _ _ (g.after l) (w2 r h hp)
end
mutual
theorem sndE : ∀ (p : P) {sc : Scope} {W : WX} {X : Cx} (C : Ctx G F N L sc W X) {e : Expr}, chkE G N L p sc e = true → PE X e (rdE G F X.mg W p) ∧ (okT p = true → PT X e (rdT G F X.mg W p))
  | .var i, sc, W, X, C, e, h => by
    unfold chkE at h
    split at h
    · exact both (snd_var C h) fun _ => rfl
    · cases h
  | .int i, sc, W, X, C, e, h => by
    unfold chkE at h
    split at h
    · obtain rfl := of_decide_eq_true h; exact both (snd_int C) fun _ => rfl
    · cases h
  | .bl i, sc, W, X, C, e, h => by
    unfold chkE at h
    split at h
    · obtain rfl := of_decide_eq_true h; exact both (snd_bl C) fun _ => rfl
    · cases h
  | .non, sc, W, X, C, e, h => by
    unfold chkE at h
    split at h
    · exact both (snd_non C) fun _ => rfl
    · cases h
  | .str i, sc, W, X, C, e, h => by
    unfold chkE at h
    split at h
    · obtain rfl := of_decide_eq_true h; exact both (snd_str C) fun _ => rfl
    · cases h
  | .con k, sc, W, X, C, e, h => by
    unfold chkE at h
    split at h
    · obtain ⟨h1, h2⟩ := Bool.and_eq_true_iff.mp h
      split at h2
      · rename_i y d hk
        obtain rfl := of_decide_eq_true h2
        exact both (snd_con C hk h1) fun _ => rfl
      · cases h2
    · cases h
  | .bin op a b, sc, W, X, C, e, h => by
    unfold chkE at h
    split at h
    · simp only [Bool.and_eq_true, decide_eq_true_eq] at h
      obtain ⟨⟨rfl, h1⟩, h2⟩ := h
      exact both (snd_bin C (sndE a C h1).1 (sndE b C h2).1) fun _ => rfl
    · cases h
  | .neg a, sc, W, X, C, e, h => by
    unfold chkE at h
    split at h
    · exact both (snd_neg C (sndE a C h).1) fun _ => rfl
    · cases h
  | .cmp op a b, sc, W, X, C, e, h => by
    unfold chkE at h
    split at h
    · simp only [Bool.and_eq_true, decide_eq_true_eq] at h
      obtain ⟨⟨⟨rfl, h1⟩, h2⟩, h3⟩ := h
      exact ⟨snd_cmp C (sndE a C h1).1 (sndE b C h2).1 (notSet_ok h3 _), fun _ => snd_cmpT C (sndE a C h1).1 (sndE b C h2).1 (notSet_ok h3 _)⟩
    · cases h
  | .chn op op' a b c, sc, W, X, C, e, h => by
    unfold chkE at h
    split at h
    · simp only [Bool.and_eq_true, decide_eq_true_eq] at h
      obtain ⟨⟨⟨⟨⟨⟨rfl, rfl⟩, h1⟩, h2⟩, h3⟩, h4⟩, h5⟩ := h
      exact ⟨snd_chn C (sndE a C h1).1 (sndE b C h2).1 (sndE c C h3).1 (notSet_ok h5 _), fun _ => snd_chnT C (sndE a C h1).1 (sndE b C h2).1 (sndE c C h3).1 (notSet_ok h5 _)⟩
    · cases h
  | .bop k es, sc, W, X, C, e, h => by
    unfold chkE at h
    split at h
    · simp only [Bool.and_eq_true, decide_eq_true_eq] at h
      obtain ⟨rfl, h1⟩ := h
      cases k with
      | true => exact ⟨(sndBA es C h1).1.imp fun σ H Q ⟨env, T, O, Qd, E, g, w, q, ex⟩ => ⟨env, T, O, Qd, E, g, by simpa only [wpE] using w, q, ex⟩,
        fun ho => ((sndBA es C h1).2 ho).pt.imp fun σ H Q ⟨env, T, O, Qd, E, g, w, q, ex⟩ => ⟨env, T, O, Qd, E, g, by simpa only [wpE] using w, q, ex⟩⟩
      | false => exact ⟨(sndBO es C h1).1.imp fun σ H Q ⟨env, T, O, Qd, E, g, w, q, ex⟩ => ⟨env, T, O, Qd, E, g, by simpa only [wpE] using w, q, ex⟩,
        fun ho => ((sndBO es C h1).2 ho).pt.imp fun σ H Q ⟨env, T, O, Qd, E, g, w, q, ex⟩ => ⟨env, T, O, Qd, E, g, by simpa only [wpE] using w, q, ex⟩⟩
    · cases h
  | .not a, sc, W, X, C, e, h => by
    unfold chkE at h
    split at h
    · exact ⟨snd_not (sndE a C h).1, fun ho => snd_notT ((sndE a C h).2 ho)⟩
    · cases h
  | .ife t a b, sc, W, X, C, e, h => by
    unfold chkE at h
    split at h
    · simp only [Bool.and_eq_true] at h
      obtain ⟨⟨⟨h0, h1⟩, h2⟩, h3⟩ := h
      exact ⟨snd_ife ((sndE t C h1).2 h0) (sndE a C h2).1 (sndE b C h3).1, fun ho => by cases ho⟩
    · cases h
  | .tup es, sc, W, X, C, e, h => by
    unfold chkE at h
    split at h
    · exact both (snd_tup (sndEs es C h)) fun _ => rfl
    · cases h
  | .lst es, sc, W, X, C, e, h => by
    unfold chkE at h
    split at h
    · exact both (snd_lst (sndEs es C h)) fun _ => rfl
    · cases h
  | .ix a i, sc, W, X, C, e, h => by
    unfold chkE at h
    split at h
    · simp only [Bool.and_eq_true] at h
      exact both (snd_ix C (sndE a C h.1).1 (sndE i C h.2).1 (plainIx_of h.2)) fun _ => rfl
    · cases h
  | .sl a lo hi, sc, W, X, C, e, h => by
    unfold chkE at h
    split at h
    · simp only [Bool.and_eq_true] at h
      exact both (snd_sl C (sndE a C h.1.1).1 (sndPo lo C h.1.2) (sndPo hi C h.2)) fun _ => rfl
    · cases h
  | .rev a, sc, W, X, C, e, h => by
    unfold chkE at h
    split at h
    · exact both (snd_rev C (sndE a C h).1) fun _ => rfl
    · cases h
  | .call k es, sc, W, X, C, e, h => by
    unfold chkE at h
    split at h
    · rename_i x p args pos
      simp only [Bool.and_eq_true] at h
      obtain ⟨⟨h1, h2⟩, h3⟩ := h
      obtain ⟨fi, hk, rfl, hd, hl, hn⟩ := fnB_of h3
      cases args with
      | nil =>
        cases es with
        | cons a r => simp [chkEs] at h2
        | nil =>
          exact both (snd_call0 C hk hd hl hn h1) fun _ => rfl
      | cons e es' =>
        have hlen := len_of h2
        cases es with
        | nil => simp [chkEs] at h2
        | cons a r =>
          have h2' := h2
          simp only [chkEs, Bool.and_eq_true] at h2'
          exact both (snd_call C hk hd hl hn h1 h2'.1.1 (plain_of h2'.2) hlen (sndEs (.cons a r) C h2)) fun _ => rfl
    · cases h
  | .callIo k i es, sc, W, X, C, e, h => by
    unfold chkE at h
    split at h
    · simp only [Bool.and_eq_true] at h
      obtain ⟨⟨⟨h1, h2⟩, h3⟩, h4⟩ := h
      obtain ⟨fi, hk, rfl, hd, hl, hn⟩ := fnB_of h4
      exact both (snd_callIo C hk hd hl hn h1 h2 (plain_of h3) (len_of h3) (sndEs es C h3)) fun _ => rfl
    · cases h
  | .callSc k i es, sc, W, X, C, e, h => by
    unfold chkE at h
    split at h
    · simp only [Bool.and_eq_true] at h
      obtain ⟨⟨⟨h1, h2⟩, h3⟩, h4⟩ := h
      obtain ⟨fi, hk, rfl, hd, hl, hn⟩ := fnB_of h4
      exact both (snd_callSc C hk hd hl hn h1 h2 (plain_of h3) (len_of h3) (sndEs es C h3)) fun _ => rfl
    · cases h
  | .blt f es, sc, W, X, C, e, h => by
    unfold chkE at h
    split at h
    · rename_i x p args pos
      simp only [Bool.and_eq_true, decide_eq_true_eq] at h
      obtain ⟨⟨⟨h1, rfl⟩, h3⟩, h4⟩ := h
      cases args with
      | nil => cases f <;> cases h3
      | cons e es' =>
        cases es with
        | nil => simp [chkEs] at h4
        | cons a r =>
          have h4' := h4
          simp only [chkEs, Bool.and_eq_true] at h4'
          exact both (snd_blt C h1 h4'.1.1 (plain_of h4'.2) (sndBs (.cons a r) C h4)) fun _ => rfl
    · cases h
  | .len a, sc, W, X, C, e, h => by
    unfold chkE at h
    split at h
    · simp only [Bool.and_eq_true, decide_eq_true_eq] at h
      obtain ⟨⟨⟨h1, rfl⟩, h3⟩, h4⟩ := h
      exact both (snd_len C h1 h3 (sndE a C h4).1) fun _ => rfl
    · cases h
  | .isin a t, sc, W, X, C, e, h => by
    unfold chkE at h
    split at h
    · simp only [Bool.and_eq_true, decide_eq_true_eq] at h
      obtain ⟨⟨⟨⟨⟨⟨h1, rfl⟩, h3⟩, h4⟩, h5⟩, rfl⟩, h7⟩ := h
      exact both (snd_isin C h1 h5 h7 h3 (sndE a C h4).1) fun _ => rfl
    · cases h
  | .comp own w tg c elt, sc, W, X, C, e, h => by
    unfold chkE at h
    split at h
    · rename_i el tge iter ifs scope pos
      simp only [Bool.and_eq_true] at h
      obtain ⟨⟨⟨⟨⟨⟨h1, h2⟩, h3⟩, h4⟩, h5⟩, h6⟩, h7⟩ := h
      have hsub : ∀ i ∈ tg.ix, i ∈ own := fun i hi => by
        have := List.all_eq_true.mp h7 i hi
        simpa using this
      have bo : BlkOk X.N X.env.scope scope (ownB N own) := blkOk_by (by rw [C.N, C.scE]; exact h5)
      have hpc : ∀ (s : Shared) (H : Hp) (A : Addr) (cl : List (Str × Addr)) (fp : List Addr), PTs (X.blk s H scope (compEnvC scope cl A X.env) fp) ifs (rdPc G F X.mg (fun _ _ _ _ => False) c) := fun s H A cl fp => by
        cases c with
        | none =>
          split at h3
          · exact snd_pcN
          · simp [chkPo] at h3
          · cases h3
        | some p =>
          split at h3
          · simp [chkPo] at h3
          · exact snd_pcS ((sndE p C.blk (by simpa only [chkPo] using h3)).2 h6)
          · cases h3
      refine both (?_ : PE X _ _) fun _ => rfl
      refine (pe_lc (wi := rdW G F X.mg W w) (g := rdTg F tg) (tt := rdPc G F X.mg (fun _ _ _ _ => False) c) (te := rdE G F X.mg (fun _ _ _ _ => False) elt) C.calm C.nd (sndW w C h1) bo (fun s H A cl fp => tgB_ok (X := X.blk s H scope (compEnvC scope cl A X.env) fp) C.blk h2) hpc (fun s H A cl fp => (sndE elt (X := X.blk s H scope (compEnvC scope cl A X.env) fp) C.blk h4).1) (foldSet_of h1)).imp fun σ H Q r => ?_
      rw [own_map]
      exact snd_lc (pos := pos) (nm := fun i => N.getD i Str.empty) C (sndW w C h1) hsub bo (fun s H A cl fp => tgB_ok (X := X.blk s H scope (compEnvC scope cl A X.env) fp) C.blk h2) hpc (fun s H A cl fp => (sndE elt (X := X.blk s H scope (compEnvC scope cl A X.env) fp) C.blk h4).1) σ H Q r
    · cases h
  | .pop i, sc, W, X, C, e, h => by
    unfold chkE at h
    split at h
    · simp only [Bool.and_eq_true, decide_eq_true_eq] at h
      obtain ⟨⟨h1, rfl⟩, h3⟩ := h
      exact both (snd_pop C h1 h3) fun _ => rfl
    · cases h
  | .fld i j f, sc, W, X, C, e, h => by
    unfold chkE at h
    split at h
    · simp only [Bool.and_eq_true, decide_eq_true_eq] at h
      obtain ⟨h1, rfl⟩ := h
      exact both (snd_fld C h1) fun _ => rfl
    · cases h
  | .flen i j f, sc, W, X, C, e, h => by
    unfold chkE at h
    split at h
    · simp only [Bool.and_eq_true, decide_eq_true_eq] at h
      obtain ⟨⟨⟨h1, rfl⟩, h3⟩, rfl⟩ := h
      exact both (snd_flen C h1 h3) fun _ => rfl
    · cases h
  | .femp i j f, sc, W, X, C, e, h => by
    unfold chkE at h
    split at h
    · simp only [Bool.and_eq_true, decide_eq_true_eq] at h
      obtain ⟨h1, rfl⟩ := h
      exact ⟨snd_femp (k := 0) C h1, fun _ => snd_fempT (k := 0) C h1⟩
    · cases h
  | .fpop i j f, sc, W, X, C, e, h => by
    unfold chkE at h
    split at h
    · simp only [Bool.and_eq_true, decide_eq_true_eq] at h
      obtain ⟨⟨⟨h1, rfl⟩, rfl⟩, h4⟩ := h
      exact both (snd_fpop C h1 h4) fun _ => rfl
    · cases h
  | .callM k i es, sc, W, X, C, e, h => by
    unfold chkE at h
    split at h
    · rename_i x p m apos args cpos
      simp only [Bool.and_eq_true, decide_eq_true_eq] at h
      obtain ⟨⟨⟨⟨h1, h2⟩, h3⟩, h4⟩, h5⟩ := h
      cases args with
      | nil =>
        cases es with
        | cons a r => simp [chkEs] at h2
        | nil => exact both (snd_callM0 C h5 h1 h3) fun _ => rfl
      | cons e es' =>
        have hlen := len_of h2
        cases es with
        | nil => simp [chkEs] at h2
        | cons a r =>
          have h2' := h2
          simp only [chkEs, Bool.and_eq_true] at h2'
          exact both (snd_callM C h1 h3 h2'.1.1 (plain_of h2'.2) hlen h4 h5 (sndEs (.cons a r) C h2)) fun _ => rfl
    · cases h
  | .prop k i, sc, W, X, C, e, h => by
    unfold chkE at h
    split at h
    · simp only [Bool.and_eq_true, decide_eq_true_eq] at h
      obtain ⟨⟨h1, h2⟩, h3⟩ := h
      exact both (snd_prop C (L' := L - 1) (by omega) h1 h2) fun _ => rfl
    · cases h
  | .callOb k c i es, sc, W, X, C, e, h => by
    unfold chkE at h
    split at h
    · simp only [Bool.and_eq_true] at h
      obtain ⟨⟨⟨h1, h2⟩, h3⟩, h4⟩ := h
      obtain ⟨fi, hk, rfl, hd, hl, hn⟩ := fnB_of h4
      exact both (snd_callOb C hk hd hl hn h1 h2 (plain_of h3) (len_of h3) (sndEs es C h3)) fun _ => rfl
    · cases h
  | .new k es, sc, W, X, C, e, h => by
    unfold chkE at h
    split at h
    · rename_i x p e0 args pos
      simp only [Bool.and_eq_true, decide_eq_true_eq] at h
      obtain ⟨⟨⟨h1, h2⟩, h3⟩, h4⟩ := h
      have hlen := len_of h2
      cases es with
      | nil => simp [chkEs] at h2
      | cons a r =>
        have h2' := h2
        simp only [chkEs, Bool.and_eq_true] at h2'
        exact both (snd_new C (L' := L - 1) (by omega) h1 h3 h2'.1.1 (plain_of h2'.2) hlen (sndEs (.cons a r) C h2)) fun _ => rfl
    · cases h
  | .eqOb c i j, sc, W, X, C, e, h => by
    unfold chkE at h
    split at h
    · simp only [Bool.and_eq_true] at h
      obtain ⟨⟨h1, h2⟩, h3⟩ := h
      split at h3
      · rename_i l hl
        exact ⟨(snd_eqOb C h1 h2 hl (of_decide_eq_true h3)).1, fun _ => (snd_eqOb C h1 h2 hl (of_decide_eq_true h3)).2⟩
      · cases h3
    · cases h
  | .dead, sc, W, X, C, e, h => ⟨⟨fun pins s σ H Q I ⟨env, T, O, Qd, E, g, w, q, ex⟩ => by simp only [wpE] at w⟩, fun _ => ⟨fun pins s σ H Q I ⟨env, T, O, Qd, E, g, w, q, ex⟩ => by simp only [wpE] at w⟩⟩
theorem sndEs : ∀ (p : Ps) {sc : Scope} {W : WX} {X : Cx} (C : Ctx G F N L sc W X) {es : List Expr}, chkEs G N L p sc es = true → PA X es (rdEs G F X.mg W p)
  | .nil, sc, W, X, C, es, h => by
    cases es with
    | nil => exact snd_nil
    | cons e es => simp [chkEs] at h
  | .cons a r, sc, W, X, C, es, h => by
    cases es with
    | nil => simp [chkEs] at h
    | cons e es =>
      simp only [chkEs, Bool.and_eq_true] at h
      exact snd_cons h.1.1 (sndE a C h.1.2).1 (sndEs r C h.2)
theorem sndBs : ∀ (p : Ps) {sc : Scope} {W : WX} {X : Cx} (C : Ctx G F N L sc W X) {es : List Expr}, chkEs G N L p sc es = true → PA X es (rdBs G F X.mg W p)
  | .nil, sc, W, X, C, es, h => by
    cases es with
    | nil => exact snd_bnil
    | cons e es => simp [chkEs] at h
  | .cons a r, sc, W, X, C, es, h => by
    cases es with
    | nil => simp [chkEs] at h
    | cons e es =>
      simp only [chkEs, Bool.and_eq_true] at h
      exact snd_bcons h.1.1 (sndE a C h.1.2).1 (sndBs r C h.2)
theorem sndBA : ∀ (p : Ps) {sc : Scope} {W : WX} {X : Cx} (C : Ctx G F N L sc W X) {es : List Expr} {pos : Pos}, chkEs G N L p sc es = true →
    PE X (.BoolOp .And es pos) (rdBop G F X.mg W true p) ∧ (okTs p = true → PW X (.BoolOp .And es pos) (rdBopT G F X.mg W true p))
  | .nil, sc, W, X, C, es, pos, h => ⟨⟨fun pins s σ H Q I ⟨env, T, O, Qd, E, g, w, q, ex⟩ => by simp only [wpBop] at w⟩, fun _ => ⟨fun wh pins s σ H Q I ⟨env, T, O, Qd, E, g, w, q, ex⟩ => by simp only [wpBop] at w⟩⟩
  | .cons a .nil, sc, W, X, C, es, pos, h => by
    cases es with
    | nil => simp [chkEs] at h
    | cons e es =>
      simp only [chkEs, Bool.and_eq_true] at h
      cases es with
      | cons e' es => simp [chkEs] at h
      | nil => exact ⟨snd_bop1 (sndE a C h.1.2).1, fun ho => by
          simp only [okTs, Bool.and_eq_true] at ho
          exact snd_bop1AT ((sndE a C h.1.2).2 ho.1)⟩
  | .cons a (.cons b r), sc, W, X, C, es, pos, h => by
    cases es with
    | nil => simp [chkEs] at h
    | cons e es =>
      have h' := h
      unfold chkEs at h
      have h1 := Bool.and_eq_true_iff.mp h
      have h2 := Bool.and_eq_true_iff.mp h1.1
      cases es with
      | nil => simp [chkEs] at h'
      | cons e' es =>
        have ih := sndBA (.cons b r) C (pos := pos) h1.2
        exact ⟨snd_bopA (sndE a C h2.2).1 ih.1, fun ho => by
          have ho' := ho
          unfold okTs at ho'
          have ho2 := Bool.and_eq_true_iff.mp ho'
          exact snd_bopAT ((sndE a C h2.2).2 ho2.1) (ih.2 ho2.2)⟩
theorem sndBO : ∀ (p : Ps) {sc : Scope} {W : WX} {X : Cx} (C : Ctx G F N L sc W X) {es : List Expr} {pos : Pos}, chkEs G N L p sc es = true →
    PE X (.BoolOp .Or es pos) (rdBop G F X.mg W false p) ∧ (okTs p = true → PW X (.BoolOp .Or es pos) (rdBopT G F X.mg W false p))
  | .nil, sc, W, X, C, es, pos, h => ⟨⟨fun pins s σ H Q I ⟨env, T, O, Qd, E, g, w, q, ex⟩ => by simp only [wpBop] at w⟩, fun _ => ⟨fun wh pins s σ H Q I ⟨env, T, O, Qd, E, g, w, q, ex⟩ => by simp only [wpBop] at w⟩⟩
  | .cons a .nil, sc, W, X, C, es, pos, h => by
    cases es with
    | nil => simp [chkEs] at h
    | cons e es =>
      simp only [chkEs, Bool.and_eq_true] at h
      cases es with
      | cons e' es => simp [chkEs] at h
      | nil => exact ⟨snd_bop1 (sndE a C h.1.2).1, fun ho => by
          simp only [okTs, Bool.and_eq_true] at ho
          exact snd_bop1OT ((sndE a C h.1.2).2 ho.1)⟩
  | .cons a (.cons b r), sc, W, X, C, es, pos, h => by
    cases es with
    | nil => simp [chkEs] at h
    | cons e es =>
      have h' := h
      unfold chkEs at h
      have h1 := Bool.and_eq_true_iff.mp h
      have h2 := Bool.and_eq_true_iff.mp h1.1
      cases es with
      | nil => simp [chkEs] at h'
      | cons e' es =>
        have ih := sndBO (.cons b r) C (pos := pos) h1.2
        exact ⟨snd_bopO (sndE a C h2.2).1 ih.1, fun ho => by
          have ho' := ho
          unfold okTs at ho'
          have ho2 := Bool.and_eq_true_iff.mp ho'
          exact snd_bopOT ((sndE a C h2.2).2 ho2.1) (ih.2 ho2.2)⟩
theorem sndPo : ∀ (p : Po) {sc : Scope} {W : WX} {X : Cx} (C : Ctx G F N L sc W X) {e : Option Expr}, chkPo G N L p sc e = true → PO X e (rdPo G F X.mg W p)
  | .none, sc, W, X, C, e, h => by
    cases e with
    | none => exact snd_poN
    | some e => simp [chkPo] at h
  | .some a, sc, W, X, C, e, h => by
    cases e with
    | none => simp [chkPo] at h
    | some e =>
      simp only [chkPo] at h
      exact snd_poS (sndE a C h).1
theorem sndW : ∀ (p : Wk) {sc : Scope} {W : WX} {X : Cx} (C : Ctx G F N L sc W X) {tg : Tg} {tge e : Expr}, chkW G N L p sc tg tge e = true → PI X tge e (rdW G F X.mg W p)
  | .seq a, sc, W, X, C, tg, tge, e, h => by
    simp only [chkW] at h
    exact wk_seq C (sndE a C h).1
  | .rng1 a, sc, W, X, C, tg, tge, e, h => by
    simp only [chkW] at h
    split at h
    · simp only [Bool.and_eq_true, decide_eq_true_eq] at h
      obtain ⟨⟨⟨h1, rfl⟩, h3⟩, h4⟩ := h
      exact wk_rng1 C h1 h3 (sndE a C h4).1
    · cases h
  | .rng2 a b, sc, W, X, C, tg, tge, e, h => by
    simp only [chkW] at h
    split at h
    · simp only [Bool.and_eq_true, decide_eq_true_eq] at h
      obtain ⟨⟨⟨⟨⟨h1, rfl⟩, h3⟩, h4⟩, h5⟩, h6⟩ := h
      exact wk_rng2 C h1 h3 h4 (sndE a C h5).1 (sndE b C h6).1
    · cases h
  | .enum a, sc, W, X, C, tg, tge, e, h => by
    simp only [chkW] at h
    split at h
    · simp only [Bool.and_eq_true, decide_eq_true_eq] at h
      obtain ⟨⟨⟨h1, rfl⟩, h3⟩, h4⟩ := h
      exact wk_enum C h1 h3 (sndE a C h4).1
    · cases h
  | .zip a b, sc, W, X, C, tg, tge, e, h => by
    simp only [chkW] at h
    split at h
    · simp only [Bool.and_eq_true, decide_eq_true_eq] at h
      obtain ⟨⟨⟨⟨⟨h1, rfl⟩, h3⟩, h4⟩, h5⟩, h6⟩ := h
      exact wk_zip C h1 h3 h4 (sndE a C h5).1 (sndE b C h6).1
    · cases h
end
end
end Mp

set_option Elab.async false
set_option linter.all false
set_option maxRecDepth 100000
set_option maxHeartbeats 1000000
/-! Mp, part 11: statements. -/
namespace Mp
open PySem PySem.Spec PyProof.Rows L2
section
variable {G : GE} {F : Cf} {N : List Str} {L : Nat} {sc : Scope} {W : WX} {X : Cx}
variable {mg : Str → Option Value}
structure CtxS (G : GE) (F : Cf) (N : List Str) (L : Nat) (sc : Scope) (W : WX) (X : Cx) : Prop where
  c : Ctx G F N L sc W X
  hs : X.stack = X.env :: X.outer
  hf : X.env.frame = some X.env.locals
  po : PassesOwn (model X.prog X.w) X.A X.env X.xe
  fnc : ∀ x, X.fn x = true
  kind : sc.kind = .function
structure EndsOk (F : Cf) (mg : Str → Option Value) (W : WX) (D : Ends) (D' : Pst) (T : List (V × R)) : Prop where
  nx : ∀ env σ H O, Good F env σ T H O → D'.nx env → D.nx σ H
  bk : ∀ env σ H O, Good F env σ T H O → D'.bk env → D.bk σ H
  ct : ∀ env σ H O, Good F env σ T H O → D'.ct env → D.ct σ H
  rt : ∀ r v env σ H O, (∀ i, r ≠ .b i) → Good F env σ ((v, r) :: T) H O → D'.rt r env → D.rt v H
  ex : ∀ x p C d env σ H O, mg x = some (.ref C) → PayOk H p d → Good F env σ T H O → D'.ex x p env → W (.ref C) d σ H
section
variable (G : GE) (F : Cf) (mg : Str → Option Value) (W : WX)
def rdS (p : S) : TS := fun D σ H => ∃ (env : Env) (T : List (V × R)) (O : List Addr) (D' : Pst), NoB T ∧ Good F env σ T H O ∧ wpS G p env D' ∧ EndsOk F mg W D D' T
def rdSs (p : Ss) : TS := fun D σ H => ∃ (env : Env) (T : List (V × R)) (O : List Addr) (D' : Pst), NoB T ∧ Good F env σ T H O ∧ wpSs G p env D' ∧ EndsOk F mg W D D' T
end
theorem EndsOk.exOk {D : Ends} {D' : Pst} {T : List (V × R)} (e : EndsOk F mg W D D' T) (σ : St) : ExOk F mg W D'.ex σ T := fun x p C d env' H' O' m pk g w => e.ex x p C d env' σ H' O' m pk g w
theorem EndsOk.setNx {D : Ends} {D' : Pst} {T : List (V × R)} {q : Env → Prop} {q' : St → Hp → Prop} (e : EndsOk F mg W D D' T) (h : ∀ env σ H O, Good F env σ T H O → q env → q' σ H) : EndsOk F mg W { D with nx := q' } { D' with nx := q } T :=
  ⟨h, e.bk, e.ct, e.rt, e.ex⟩
/-- an owned list goes from its slot to the stack -/
theorem Good.moveS {env : Env} {σ : St} {T : List (V × R)} {H : Hp} {O : List Addr} {j : Nat} {ds : List PyData} {v : V} (g : Good F env σ T H O) (hj : env[j]? = some (.o ds)) (hv : σ[j]? = some (some v)) : Good F (env.set j .no) σ ((v, .o ds) :: T) H O := by
  have g2 : Good F (env.set j .no) σ T H O := g.no
  have sl := g.sl j _ hj
  rw [get_getD hv] at sl
  refine ⟨g2.len, g2.oin, g2.o0, g2.h0, g2.ion, g2.keep, g2.keep0, g2.new, g2.sl, fun t ht => ?_, g2.dss, fun i s h1 h2 t ht h3 => ?_, List.Pairwise.cons (fun t ht h1 h2 => ?_) g2.dtt, g2.one, g.sep.same (fun _ h => h) (fun i u e1 e2 => ?_) (fun t ht k => ?_), g2.tb⟩
  · rcases List.mem_cons.mp ht with rfl | ht
    · obtain ⟨a, vs, z1, z2, z3, z4, z5⟩ := sl
      exact ⟨a, vs, Option.some.inj z1, z2, z3, z4, z5⟩
    · exact g2.tm t ht
  · rcases List.mem_cons.mp ht with rfl | ht
    · rcases set_get h1 with ⟨_, e, _⟩ | ⟨nj, e⟩
      · subst e; cases h2
      · intro z
        exact g.dss i j s _ nj e h2 hj rfl (z.trans (get_getD hv).symm)
    · exact g2.dst i s h1 h2 t ht h3
  · intro z
    have := g.dst j _ hj rfl t ht h2
    rw [get_getD hv] at this
    exact this (congrArg some z)
  · rcases set_get e1 with ⟨_, rfl, _⟩ | ⟨_, e1⟩
    · cases e2
    · exact .sl e1 e2
  · rcases List.mem_cons.mp ht with rfl | ht
    · have z : From env σ T H ((σ[j]?).getD none) := .sl hj rfl
      rw [get_getD hv] at z
      exact z
    · exact .tm ht k
theorem store_ok {D : Ends} {D' : Pst} {T : List (V × R)} {env : Env} {σ : St} {H : Hp} {O : List Addr} {i : Nat} {r : R} {v : V} (n : NoB T) (e : EndsOk F mg W D D' T) (g : Good F env σ ((v, r) :: T) H O) (w : store i r env D'.nx) : D.nx (σ.set i (some v)) H := by
  cases r with
  | v d => exact e.nx _ _ _ _ (g.pop.setV n (g.tm _ List.mem_cons_self)) w
  | o ds => exact e.nx _ _ _ _ (g.setO n) w
  | ob c fs => exact e.nx _ _ _ _ (g.setOb n) w
  | me => exact w.elim
  | b j =>
    obtain ⟨d, env1, h, w⟩ := withS_of w
    obtain ⟨O', g2⟩ := g.share h
    exact e.nx _ _ _ _ (g2.pop.setV n (g2.tm _ List.mem_cons_self)) w
theorem give_ok {D : Ends} {D' : Pst} {T : List (V × R)} {env : Env} {σ : St} {H : Hp} {O : List Addr} {r : R} {v : V} (e : EndsOk F mg W D D' T) (g : Good F env σ ((v, r) :: T) H O) (w : give r env D'.rt) : D.rt v H := by
  cases r with
  | v d => exact e.rt _ _ _ _ _ _ (fun i z => by cases z) g w
  | o ds => exact e.rt _ _ _ _ _ _ (fun i z => by cases z) g w
  | ob c fs => exact e.rt _ _ _ _ _ _ (fun i z => by cases z) g w
  | me => exact e.rt _ _ _ _ _ _ (fun i z => by cases z) g w
  | b j =>
    have t : σ[j]? = some (some v) := g.tm _ List.mem_cons_self
    simp only [give] at w
    cases h : env[j]? with
    | none => rw [h] at w; exact w.elim
    | some s =>
      rw [h] at w
      have z := g.sl j _ h
      rw [get_getD t] at z
      cases s with
      | v d =>
        obtain ⟨v', e1, q⟩ := z
        cases e1
        exact e.rt _ _ _ _ _ _ (fun i z => by cases z) (g.pop.pushV q) w
      | o ds => exact e.rt _ _ _ _ _ _ (fun i z => by cases z) (g.pop.moveS h t) w
      | _ => exact w.elim
theorem loc_of (C : CtxS G F N L sc W X) {x : Str} (h : locB sc x = true) : OkName X x := by
  refine ⟨?_, .inl (C.fnc x)⟩
  show Loc X.env.scope x
  rw [C.c.scE]
  unfold locB at h
  split at h
  · exact .inl ‹_›
  · exact .inr ‹_›
  · cases h
theorem names_of (C : CtxS G F N L sc W X) : ∀ {is : List Nat} {es : List Expr}, namesB N sc is es = true → OkNames X is es
  | [], [], _ => .nil
  | [], _ :: _, h => by simp [namesB] at h
  | _ :: _, [], h => by simp [namesB] at h
  | i :: is, e :: es, h => by
    simp only [namesB, Bool.and_eq_true] at h
    obtain ⟨h1, h2⟩ := h
    cases e with
    | Name x p =>
      simp only [nameB, Bool.and_eq_true, decide_eq_true_eq] at h1
      exact .cons (by rw [C.c.N]; exact h1.1) (loc_of C h1.2) (names_of C h2)
    | _ => simp [nameB] at h1
theorem block_fn (C : CtxS G F N L sc W X) : X.env.blockKind = .function := by unfold Env.blockKind; rw [C.c.scE, C.kind]; rfl
theorem swp_pure {ts vs : List Expr} {k k2 : Nat} {p p2 : Pos} {env : PySem.Env} {o : Option (List Str)} (hb : env.blockKind = .function) (h : swpD env.scope ts vs = some o) : swappedStores [.Tuple ts k p] (.Tuple vs k2 p2) env = pure o := by
  unfold swpD at h
  unfold swappedStores
  simp only [hb, Env.kindOf, bne_self_eq_false, Bool.or_false] at h ⊢
  split at h
  · rename_i c1; cases h; exact if_pos c1
  rename_i c1; refine (if_neg c1).trans ?_
  split at h
  · rename_i c2; cases h; exact if_pos c2
  rename_i c2; refine (if_neg c2).trans ?_
  split at h
  · rename_i c3; cases h; exact if_pos c3
  rename_i c3; refine (if_neg c3).trans ?_
  split at h
  · rename_i c4; cases h; exact if_pos c4
  rename_i c4; refine (if_neg c4).trans ?_
  split at h
  · cases h
  rename_i c5; refine (if_neg c5).trans ?_
  cases h; rfl
theorem sw_none {v : Expr} {t : Expr} {l : Nat} {env : PySem.Env} (h : isLc v = false) : swapsWith v (some t) l env = pure false := by
  cases v <;> first
    | rfl
    | cases h
theorem sw_tgt {v t : Expr} {l : Nat} {env : PySem.Env} (h : ∀ x p, t ≠ .Name x p) : swapsWith v (some t) l env = pure false := by
  cases t <;> first
    | exact absurd rfl (h _ _)
    | (cases v <;> rfl)

/-! ### small statements -/
theorem snd_asg (C : CtxS G F N L sc W X) {i : Nat} {x : Str} {px pos : Pos} {v : Expr} {e : P} (h1 : N[i]? = some x) (hx : OkName X x) (hv : chkE G N L e sc v = true) (hs : swapsWith v (some (.Name x px)) pos.line X.env = pure false) :
    PS X (.Assign [.Name x px] v pos) (rdS G F X.mg W (.asg i e)) :=
  (ps_set (by exact C.c.nd) (by rw [C.c.N]; exact h1) hx.1 (sndE e C.c hv).1 hs hx.2).imp fun D σ H ⟨env, T, O, D', n, g, w, ok⟩ => by
    simp only [wpS] at w
    exact ⟨env, T, O, _, _, g, w, fun r v env' H' O' g' w' => store_ok n ok g' w', ok.exOk σ⟩
theorem snd_asgLc (C : CtxS G F N L sc W X) {i : Nat} {x : Str} {px pos lpos : Pos} {el : Expr} {gs : List Comprehension} {scope : Scope} {e : P} (h1 : N[i]? = some x) (hx : sc.names.lookup x = some .local) (hl : (px.line == lpos.line) = true)
    (hn : (scope.names.any fun (n, k) => n == x && (k == .local || k == .cell)) = false) (hv : chkE G N L e sc (.ListComp el gs scope lpos) = true) :
    PS X (.Assign [.Name x px] (.ListComp el gs scope lpos) pos) (rdS G F X.mg W (.asg i e)) := by
  have C' := C.c
  have hyl : X.env.scope.names.lookup x = some .local := by rw [C'.scE]; exact hx
  have hk : X.env.scope.kind = .function := by rw [C'.scE]; exact C.kind
  cases e with
  | comp own w tg c elt =>
    have h := hv
    unfold chkE at h
    split at h
    · rename_i el tge iter ifs scope pos' heq
      cases heq
      simp only [Bool.and_eq_true] at h
      obtain ⟨⟨⟨⟨⟨⟨h1', h2⟩, h3⟩, h4⟩, h5⟩, h6⟩, h7⟩ := h
      have hsub : ∀ i ∈ tg.ix, i ∈ own := fun i hi => by
        have := List.all_eq_true.mp h7 i hi
        simpa using this
      have bo : BlkOk X.N X.env.scope scope (ownB N own) := blkOk_by (by rw [C'.N, C'.scE]; exact h5)
      have hpc : ∀ (s : Shared) (H : Hp) (A : Addr) (cl : List (Str × Addr)) (fp : List Addr), PTs (X.blk s H scope (compEnvC scope cl A X.env) fp) ifs (rdPc G F X.mg (fun _ _ _ _ => False) c) := fun s H A cl fp => by
        cases c with
        | none =>
          split at h3
          · exact snd_pcN
          · simp [chkPo] at h3
          · cases h3
        | some p =>
          split at h3
          · simp [chkPo] at h3
          · exact snd_pcS ((sndE p C'.blk (by simpa only [chkPo] using h3)).2 h6)
          · cases h3
      refine (ps_setLc (wi := rdW G F X.mg W w) (g := rdTg F tg) (tt := rdPc G F X.mg (fun _ _ _ _ => False) c) (te := rdE G F X.mg (fun _ _ _ _ => False) elt) C'.calm C'.nd (by rw [C'.N]; exact h1) hyl (sw_true hk hyl hl hn) (sndW w C' h1') bo (fun s H A cl fp => tgB_ok (X := X.blk s H scope (compEnvC scope cl A X.env) fp) C'.blk h2) hpc (fun s H A cl fp => (sndE elt (X := X.blk s H scope (compEnvC scope cl A X.env) fp) C'.blk h4).1) (foldSet_of h1')).imp fun D σ H ⟨env, T, O, D', n, g, w', ok⟩ => ?_
      simp only [wpS] at w'
      show tLc _ _ _ _ _ σ H _
      rw [own_map]
      refine snd_lc (pos := lpos) (nm := fun i => N.getD i Str.empty) C' (sndW w C' h1') hsub bo (fun s H A cl fp => tgB_ok (X := X.blk s H scope (compEnvC scope cl A X.env) fp) C'.blk h2) hpc (fun s H A cl fp => (sndE elt (X := X.blk s H scope (compEnvC scope cl A X.env) fp) C'.blk h4).1) σ H _ ?_
      exact ⟨env, T, O, _, _, g, w', fun r v env' H' O' g' w' => store_ok n ok g' w', ok.exOk σ⟩
    · cases h
  | dead => exact ⟨fun pins s σ H D I ⟨env, T, O, D', n, g, w, ok⟩ => by simp only [wpS, wpE] at w⟩
  | _ => unfold chkE at hv; simp at hv
theorem snd_asgT (C : CtxS G F N L sc W X) {is : List Nat} {ts : List Expr} {k : Nat} {p pos : Pos} {v : Expr} {e : P} (h1 : namesB N sc is ts = true) (hv : chkE G N L e sc v = true) (hw : swappedStores [.Tuple ts k p] v X.env = pure none) :
    PS X (.Assign [.Tuple ts k p] v pos) (rdS G F X.mg W (.asgT is e)) := by
  have K := C.c.K
  have on := names_of C h1
  refine (ps_asg (sndE e C.c hv).1 (L2.PG.or (pg_tup (k := k) (pos := p) C.c.calm (pgs_many C.c.nd on) (ok_len on) (ok_star on)) (pg_lst (k := k) (pos := p) C.c.calm (pgs_many C.c.nd on) (ok_len on) (ok_star on))) (show swapsWith v (some (.Tuple ts k p)) pos.line X.env = pure false from sw_tgt (fun x p z => Expr.noConfusion z)) hw rfl).imp fun D σ H ⟨env, T, O, D', n, g, w, ok⟩ => ?_
  simp only [wpS] at w
  refine ⟨env, T, O, _, _, g, w, fun r v env' H' O' g' w' => ?_, ok.exOk σ⟩
  obtain ⟨d, env1, h, w'⟩ := withS_of w'
  obtain ⟨O2, g2⟩ := g'.share h
  have rp := g2.tm _ List.mem_cons_self
  cases d with
  | tuple ds =>
    obtain ⟨a, vs, rfl, q1, q2⟩ := Rep.tup_inv rp
    refine .inl ⟨a, vs, rfl, by rw [K]; exact (hid_sub _ _).sqT q1, by rw [q2.length, w'.1], by rw [q2.length, w'.1], ?_⟩
    exact ok.nx _ _ _ _ (g2.pop.setMany is n q2) w'.2
  | list ds =>
    obtain ⟨a, vs, rfl, q1, q2⟩ := Rep.lst_inv rp
    refine .inr ⟨a, vs, rfl, by rw [K]; exact SqL.of (hid_sub _ _ _ _ q1), by rw [q2.length, w'.1], by rw [q2.length, w'.1], ?_⟩
    exact ok.nx _ _ _ _ (g2.pop.setMany is n q2) w'.2
  | _ => exact w'.elim
theorem snd_ret (C : CtxS G F N L sc W X) {v : Expr} {pos : Pos} {e : P} (hv : chkE G N L e sc v = true) : PS X (.Return (some v) pos) (rdS G F X.mg W (.ret e)) :=
  (ps_ret (sndE e C.c hv).1).imp fun D σ H ⟨env, T, O, D', n, g, w, ok⟩ => by
    simp only [wpS] at w
    exact ⟨env, T, O, _, _, g, w, fun r v env' H' O' g' w' => give_ok ok g' w', ok.exOk σ⟩
theorem snd_app (C : CtxS G F N L sc W X) {i : Nat} {x : Str} {a : Expr} {p apos cpos pos : Pos} {e : P} (hx : varB N sc i x = true) (ha : notStar a = true) (hv : chkE G N L e sc a = true) (hline : (apos.endLine == cpos.line) = true) :
    PS X (.Expr (.Call (.Attribute (.Name x p) "append" apos) [a] [] cpos) pos) (rdS G F X.mg W (.app i e)) := by
  have pa : PA X [a] (rdEs G F X.mg W (.cons e .nil)) := snd_cons ha (sndE e C.c hv).1 snd_nil
  refine (ps_expr (pe_bm PySem.F.plainAttrs_list PySem.F.slot_list_append PySem.F.type_list_append mt_append (snd_var (pos := p) C.c hx) pa rfl (by rw [star_cons ha]; rfl) hline (star_cons ha) rfl) rfl).imp fun D σ H ⟨env, T, O, D', n, g, w, ok⟩ => ?_
  simp only [wpS] at w
  have e0 : ∃ xs, env[i]? = some (.o xs) ∨ env[i]? = some (.io xs) := by
    rcases io_of w with ⟨xs, e, _⟩ | ⟨xs, e, _⟩
    · exact ⟨xs, .inl e⟩
    · exact ⟨xs, .inr e⟩
  have w : wpE G e env (fun r env1 => withS (r.sh env1) fun d env2 => ioSlot env2[i]? fun ds mk => ds.length < line ∧ D'.nx (env2.set i (mk (ds ++ [d])))) D'.ex := by
    rcases io_of w with ⟨xs, e, w⟩ | ⟨xs, e, w⟩ <;> exact w
  refine ⟨env, T, O, fun r env1 => r = .b i ∧ env1 = env, D'.ex, g, ?_, fun r v env' H' O' g' w' => ?_, ok.exOk σ⟩
  · obtain ⟨xs, e | e⟩ := e0
    · simp only [wpE, e]; exact ⟨by trivial, by trivial⟩
    · simp only [wpE, e]; exact ⟨by trivial, by trivial⟩
  · obtain ⟨rfl, rfl⟩ := w'
    have t : σ[i]? = some (some v) := g'.tm _ List.mem_cons_self
    have ty : tyV X.K "list" v H' := by
      obtain ⟨xs, e | e⟩ := e0
      · have z := g'.sl i _ e
        rw [get_getD t] at z
        obtain ⟨a, ws, z1, z2, _⟩ := z
        cases z1
        exact .inl ⟨rfl, ws, SqL.of z2⟩
      · have z := g'.sl i _ e
        rw [get_getD t] at z
        obtain ⟨a, ws, z1, _, z2, _⟩ := z
        cases z1
        exact .inl ⟨rfl, ws, SqL.of z2⟩
    refine ⟨ty, env', _, O', fun ds env1 => match ds with
      | [d] => ioSlot env1[i]? fun xs mk => xs.length < line ∧ D'.nx (env1.set i (mk (xs ++ [d])))
      | _ => False, D'.ex, g', ?_, fun ds vs env2 H2 O2 l2 g2 r2 w3 => ?_, (ok.exOk σ).pop⟩
    · simp only [wpEs]; exact w
    · obtain ⟨d, rfl⟩ : ∃ d, ds = [d] := by
        cases ds with
        | nil => exact w3.elim
        | cons d ds =>
          cases ds with
          | nil => exact ⟨d, rfl⟩
          | cons => exact w3.elim
      have t2 : σ[i]? = some (some v) := g2.tm _ List.mem_cons_self
      obtain ⟨u, rfl, ru⟩ : ∃ u, vs = [u] ∧ Rep F.K (hid O2 H2) u d := by
        cases r2 with
        | cons r1 r2 => cases r2; exact ⟨_, rfl, r1⟩
      rcases io_of w3 with ⟨xs, e, w3⟩ | ⟨xs, e, w3⟩
      · have z := g2.sl i _ e
        rw [get_getD t2] at z
        obtain ⟨a, ws, z1, z2, z3, z4, z5⟩ := z
        cases z1
        refine ⟨a, ws, u, rfl, rfl, z2, by rw [z5.length, ← line_eq]; exact w3.1, ?_⟩
        exact ok.nx _ _ _ _ (g2.pop.change (s' := .o (xs ++ [d])) e (.inl ⟨rfl, rfl⟩) (get_getD t2) (z5.append (Reps.one ru))) w3.2
      · have z := g2.sl i _ e
        rw [get_getD t2] at z
        obtain ⟨a, ws, z1, z0, z2, z3, z5⟩ := z
        cases z1
        refine ⟨a, ws, u, rfl, rfl, z2, by rw [z5.length, ← line_eq]; exact w3.1, ?_⟩
        exact ok.nx _ _ _ _ (g2.pop.change (s' := .io (xs ++ [d])) e (.inr ⟨rfl, rfl⟩) (get_getD t2) (z5.append (Reps.one ru))) w3.2
end
end Mp

set_option Elab.async false
set_option linter.all false
set_option maxRecDepth 100000
set_option maxHeartbeats 1000000
/-! Mp, part 11.7: statements about objects. -/
namespace Mp
open PySem PySem.Spec PyProof.Rows L2
section
variable {G : GE} {F : Cf} {N : List Str} {L : Nat} {sc : Scope} {W : WX} {X : Cx}
theorem Good.pushMe {env : Env} {σ : St} {T : List (V × R)} {H : Hp} {O : List Addr} {a : Addr} (g : Good F env σ T H O) (h : F.io = some a) : Good F env σ ((.ref a, .me) :: T) H O :=
  ⟨g.len, g.oin, g.o0, g.h0, g.ion, g.keep, g.keep0, g.new, g.sl, fun t ht => by
    rcases List.mem_cons.mp ht with rfl | ht
    · exact ⟨a, h, rfl⟩
    · exact g.tm t ht, g.dss, fun i s h1 h2 t ht h3 => by
    rcases List.mem_cons.mp ht with rfl | ht
    · cases h3
    · exact g.dst i s h1 h2 t ht h3, List.Pairwise.cons (fun t _ h => by cases h) g.dtt, g.one, g.sep.same (fun _ h => h) (fun i u e1 e2 => .sl e1 e2) fun t ht h => by
    rcases List.mem_cons.mp ht with rfl | ht
    · cases h
    · exact .tm ht h, g.tb⟩
/-- name.f = e -/
theorem snd_stF (C : CtxS G F N L sc W X) {i j : Nat} {x f : Str} {p p' pos : Pos} {v : Expr} {e : P} (hx : varB N sc i x = true) (hv : chkE G N L e sc v = true) : PS X (.Assign [.Attribute (.Name x p) f p'] v pos) (rdS G F X.mg W (.stF i j f e)) := by
  refine (ps_fld (pv_of (pos := p) C.c hx) (sndE e C.c hv).1 (sw_tgt (t := .Attribute (.Name x p) f p') (fun x p z => Expr.noConfusion z))).imp fun D σ H ⟨env, T, O, D', n, g, w, ok⟩ => ?_
  simp only [wpS] at w
  refine ⟨env, T, O, _, _, g, w, fun r y env' H' O' g' w' => ?_, ok.exOk σ⟩
  obtain ⟨d, env2, hsh, w2⟩ := withS_of w'
  obtain ⟨O2, g2⟩ := g'.share hsh
  have ry : Rep F.K (hid O2 H') y d := g2.tm _ List.mem_cons_self
  obtain ⟨c, fs, mk, u, hi, hs, ⟨hf, hp⟩, w3⟩ := obSlot_of w2
  have g3 := g2.pop
  obtain ⟨a, K, dx, gs, ha, hc, hH, k1, nd, k4, k5, _, _, _⟩ := ob_at C.c g3 hi hs
  obtain ⟨dx', gs', e1, le, g4⟩ := g3.setF (d := d) hi hs (get_getD ha) hc nd hf hp ry
  rw [hH] at e1
  cases e1
  exact ⟨.ref a, ha, a, K, dx, gs, rfl, hH, k1, k5 f (List.mem_of_getElem? hf), by omega, ok.nx _ _ _ _ g4 w3⟩
/-- .. a list that nothing else knows -/
theorem snd_stL (C : CtxS G F N L sc W X) {i j : Nat} {x : Str} {p p' pos : Pos} {v : Expr} {e : P} (hx : varB N sc i x = true) (hv : chkE G N L e sc v = true) : PS X (.Assign [.Attribute (.Name x p) past p'] v pos) (rdS G F X.mg W (.stL i j e)) := by
  refine (ps_fld (pv_of (pos := p) C.c hx) (sndE e C.c hv).1 (sw_tgt (t := .Attribute (.Name x p) past p') (fun x p z => Expr.noConfusion z))).imp fun D σ H ⟨env, T, O, D', n, g, w, ok⟩ => ?_
  simp only [wpS] at w
  refine ⟨env, T, O, _, _, g, w, fun r y env' H' O' g' w' => ?_, ok.exOk σ⟩
  obtain ⟨d, rfl, w2⟩ : ∃ d, r = .o d ∧ obSlot env'[i]? (fun c fs mk => (G.flds c)[j]? = some past ∧ D'.nx (env'.set i (mk (fs.set j (.o d))))) := by
    unfold asO at w'
    split at w'
    · exact ⟨_, rfl, w'⟩
    · exact w'.elim
  obtain ⟨c, fs, mk, u, hi, hs, hf, w3⟩ := obSlot_of w2
  obtain ⟨a, K, dx, gs, ha, hc, hH, k1, nd, k4, k5, _, _, _⟩ := ob_at C.c g' hi hs
  obtain ⟨dx', gs', e1, le, g4⟩ := g'.setFO hi hs (get_getD ha) hc nd hf
  rw [hH] at e1
  cases e1
  exact ⟨.ref a, ha, a, K, dx, gs, rfl, hH, k1, k5 _ (List.mem_of_getElem? hf), by omega, ok.nx _ _ _ _ g4 w3⟩
/-- name.f.append(name.g) -/
theorem snd_appF (C : CtxS G F N L sc W X) {i j j2 : Nat} {x x2 f f2 : Str} {p p2 q q2 apos cpos pos : Pos} (hx : varB N sc i x = true) (hx2 : varB N sc i x2 = true) (hline : (apos.endLine == cpos.line) = true) :
    PS X (.Expr (.Call (.Attribute (.Attribute (.Name x p) f p2) "append" apos) [.Attribute (.Name x2 q) f2 q2] [] cpos) pos) (rdS G F X.mg W (.appF i j f j2 f2)) := by
  refine (ps_expr (pe_bm PySem.F.plainAttrs_list PySem.F.slot_list_append PySem.F.type_list_append mt_append (pe_fld (pos := p2) (pv_of (pos := p) C.c hx) rfl) (pa_cons (pe_fld (pos := q2) (pv_of (pos := q) C.c hx2) rfl) pa_nil) rfl rfl hline rfl rfl) rfl).imp fun D σ H ⟨env, T, O, D', n, g, w, ok⟩ => ?_
  simp only [wpS] at w
  obtain ⟨c, fs, mk, u, hi, hs, ⟨hf, hp, hf2⟩, w0⟩ := obSlot_of w
  obtain ⟨xs, hd, w1⟩ := fdO_of w0
  obtain ⟨d, hd2, w2, w3⟩ := fdV_of w1
  clear w0 w1 w
  subst hp
  obtain ⟨a, K, dx, gs, ha, hc, hH, k1, nd, _, k5, _, h6, _⟩ := ob_at C.c g hi hs
  obtain ⟨y, hl, _, ry⟩ := h6.get hf2 hd2
  obtain ⟨dx', gs', l, ws, e1, q0, q1, q4, put⟩ := g.changeF (xs' := xs ++ [d]) hi hs (get_getD ha) hc nd hf hd
  rw [hH] at e1
  cases e1
  refine ⟨.ref a, ha, a, K, dx, gs, .ref l, rfl, hH, k1, k5 _ (List.mem_of_getElem? hf), q0, .inl ⟨rfl, ws, SqL.of q1⟩, .ref a, ha, a, K, dx, gs, y, rfl, hH, k1, k5 _ (List.mem_of_getElem? hf2), hl, l, ws, y, rfl, rfl, q1, by rw [q4.length, ← line_eq]; exact w2, ?_⟩
  exact ok.nx _ _ _ _ (put (ws ++ [y]) (q4.append (Reps.one ry))) w3
/-- what was handed in is handed back -/
theorem snd_retMe (C : CtxS G F N L sc W X) {x : Str} {p pos : Pos} (hx : varB N sc 0 x = true) : PS X (.Return (some (.Name x p)) pos) (rdS G F X.mg W .retMe) :=
  (ps_ret (pv_of (pos := p) C.c hx)).imp fun D σ H ⟨env, T, O, D', n, g, w, ok⟩ => by
    simp only [wpS] at w
    split at w
    · rename_i c fs e
      obtain ⟨a, q1, q2, q3⟩ := g.sl 0 _ e
      exact ⟨.ref a, getD_get q1, ok.rt .me _ env σ H O (fun i z => by cases z) (g.pushMe q2) w⟩
    · exact w.elim
section
variable {CX : CXT} {k : Nat} {f K : Addr} {fd : FuncData} {ps : List Str} {sp : Sp} {E : St → XK}
def tIadd (K : Addr) (i : Nat) (sp : Sp) (E : St → XK) (te : TE) : TS := fun D σ H => ∃ a, σ[i]? = some (some (.ref a)) ∧ te σ H fun y H1 => ∃ dx gs, H1 a = some (.ins K dx gs) ∧ sp [.ref a, y] H1 (fun z H2 => (∃ b, z = .ref b) ∧ D.nx (σ.set i (some z)) H2) (E σ)
theorem ps_iadd {i : Nat} {x : Str} {e : Expr} {te : TE} {p pos : Pos} (nd : X.N.Nodup) (hi : X.N[i]? = some x) (hx : OkName X x) (he : PE X e te) (h1 : PySem.W.selfFirst X.K K = true) (h2 : PySem.W.findIn X.K (.ref K) "__iadd__" = some (some (.ref f)))
    (h3 : PySem.W.isFn X.K (.ref f) = true) (Fn : FnOk X.prog X.w X.K X.mg X.base CX k f fd ps sp) (room : Room k X.A) (bd : Binds X.K fd ps []) (pass : ∀ σ, PassesAt CX X σ (E σ)) : PS X (.AugAssign (.Name x p) .Add e pos) (tIadd K i sp E te) := by
  refine ⟨fun pp st σ Hq Dq J hq => ?_⟩
  obtain ⟨a, ea, hq⟩ := hq
  obtain ⟨mm, hns, look⟩ := J.loc
  have vis : Vis X.env.scope x := hx.1.elim .inl fun z => .inr (.inl z)
  obtain ⟨uu, ru, lk⟩ := look i x _ hi ea vis
  obtain rfl : uu = Value.ref a := ru
  refine wpAny_AugAssign_Name ?_
  have body : wpAny (model X.prog X.w) X.A (eval e X.env) (fun w t2 => wpAny (model X.prog X.w) X.A (inplaceOp .Add (.ref a) w) (fun r t3 => wpAny (model X.prog X.w) X.A (storeName X.env x r) (fun _ => SP X pp Dq .next) X.xe t3) X.xe t2) X.xe st := by
    refine thn (he.run pp st σ Hq _ J hq) fun w t2 ⟨y, H1, J1, ry, dx, gs, hH, q1⟩ => ?_
    obtain ⟨mA, OO, _, _, _, _⟩ := ins_get J1.hok hH
    obtain ⟨od, IA, _⟩ := OO.look
    obtain ⟨m', fr⟩ := J1.fr
    refine PySem.W.ksp_inplace fr J1.ok.mod.kin IA h1 h2 h3 (wpAny_mono (run_fnS (us := [.ref a, w]) (vs := [.ref a, y]) Fn room bd (pass σ) J1 (.cons rfl (.cons ry .nil)) q1) (fun z t3 hz => ?_) fun _ _ h => h)
    obtain ⟨zv, H2, J2, rz, ⟨b, rfl⟩, q2⟩ := hz
    obtain rfl : z = Value.ref b := rz
    exact L2.store_ok (v := .ref b) J2 nd hi hx.1 (show L2.RelV (.ref b) (Value.ref b) from rfl) (fun t4 J3 => ⟨_, H2, J3, q2⟩) hx.2
  rcases lk with ⟨k1, k2⟩ | ⟨k1, c, k2, k3⟩
  · exact wpAny_loadName_local J.ok.kind k1 hns k2 body
  · rcases k1 with k1 | k1
    · exact wpAny_loadName_cell J.ok.kind k1 k2 k3 body
    · have k1 : X.env.scope.names.lookup x = some .free := k1
      rcases hx.1 with z | z <;> (rw [k1] at z; cases z)
end
theorem set_self {σ : St} {i : Nat} {v : Option V} (h : σ[i]? = some v) : σ.set i v = σ := by
  apply List.ext_getElem?
  intro n
  by_cases hn : i = n
  · subst hn
    rw [List.getElem?_set_self (List.getElem?_eq_some_iff.mp h).1, h]
  · rw [List.getElem?_set_ne hn]
/-- name += e -/
theorem snd_iadd (C : CtxS G F N L sc W X) {k i : Nat} {x : Str} {p pos : Pos} {v : Expr} {e : P} (hi : N[i]? = some x) (hx : locB sc x = true) (hv : chkE G N L e sc v = true) (hm : mtB (G.mti k) .iadd "__iadd__" L 2 = true) : PS X (.AugAssign (.Name x p) .Add v pos) (rdS G F X.mg W (.iadd k i e)) := by
  obtain ⟨mi, e0, e1, e2, e3, e4⟩ := mtB_of hm
  obtain ⟨K, names, f, fd, k1, k2, k3, k4⟩ := C.c.kn.mt k mi e0 e3
  rw [e2] at k4
  obtain ⟨n1, n2, n3, n4, n5⟩ := C.c.kn.cl _ _ _ k1
  subst n2
  have hK := C.c.K
  refine (ps_iadd C.c.nd (by rw [C.c.N]; exact hi) (loc_of C hx) (sndE e C.c hv).1 k4.1 k4.2.1 k4.2.2 k3 (C.c.room.mono e3) k2 (fun σ => passAt C.c.tk σ)).imp fun D σ H ⟨env, T, O, D', n, g, w, ok⟩ => ?_
  simp only [wpS] at w
  obtain ⟨mi', z, w⟩ := withM_of w
  rw [e0] at z
  cases z
  obtain ⟨c, fs, mk, u, h1, hs, w⟩ := obSlot_of w
  obtain ⟨a, K', dx, gs, ha, _⟩ := ob_at C.c g h1 hs
  refine ⟨a, ha, env, T, O, _, _, g, w, fun r y env' H' O' g' w' => ?_, ok.exOk σ⟩
  obtain ⟨d, env2, hsh, w2⟩ := withS_of w'
  obtain ⟨O2, g2⟩ := g'.share hsh
  have ry : Rep F.K (hid O2 H') y d := g2.tm _ List.mem_cons_self
  have g3 := g2.pop
  obtain ⟨c, fs, mk, u, h1, hs, rfl, w1, w3, w4⟩ := obSlot_of w2
  obtain ⟨a', K', dx, gs, ha', hc, hH, _⟩ := ob_at C.c g3 h1 hs
  rw [ha] at ha'
  cases ha'
  rw [k1] at hc
  cases hc
  refine ⟨dx, gs, hH, ?_⟩
  obtain ⟨a2, e5, okk, hd⟩ := g3.obj h1 hs
  rw [get_getD ha] at e5
  cases e5
  have tn : ∀ gs, Turn u (mk gs) (.ob mi.cls gs) := fun gs => by cases hs <;> constructor
  rw [hK]
  refine ⟨.ob _ fs, [d], O2, some a, [y], rfl, e4, ⟨a, rfl, rfl, okk.impN fun _ _ _ _ => True.intro⟩, .one ry, g3.oin, g3.sep.self, g3.tb, w1, fun r h v H2 O3 hp l => ?_, fun x p h K d H2 O3 he hm hpk l => ?_⟩
  · obtain ⟨gs, rfl, rfl, w⟩ := w3 r h hp
    obtain ⟨b, q1, q2⟩ := l.res
    cases q1
    subst q2
    refine ⟨⟨a, rfl⟩, ?_⟩
    rw [set_self ha]
    exact ok.nx _ _ _ _ (g3.afterH0 h1 (tn gs) (get_getD ha) l) w
  · obtain ⟨gs, rfl, w⟩ := w4 x p h he
    exact ok.ex x p K d _ σ H2 O3 hm hpk (g3.afterH0 h1 (tn gs) (get_getD ha) l) w
end
end Mp

set_option Elab.async false
set_option linter.all false
set_option maxRecDepth 100000
set_option maxHeartbeats 1000000
/-! Mp, part 12: the check is sound for statements. -/
namespace Mp
open PySem PySem.Spec PyProof.Rows L2
section
variable {G : GE} {F : Cf} {N : List Str} {L : Nat} {sc : Scope} {W : WX} {X : Cx}
variable {mg : Str → Option Value}
theorem snd_setIx (C : CtxS G F N L sc W X) {i : Nat} {x : Str} {j v : Expr} {p tp pos : Pos} {ix e : P} (hx : varB N sc i x = true) (hj : chkE G N L ix sc j = true) (hv : chkE G N L e sc v = true) (hn : isLc v = false) (hsl : ∀ a b c d, j ≠ .Slice a b c d) :
    PS X (.Assign [.Subscript (.Name x p) j tp] v pos) (rdS G F X.mg W (.setIx i ix e)) := by
  refine (ps_asg (sndE e C.c hv).1 (pg_sub (pos := tp) (snd_var (pos := p) C.c hx) (sndE ix C.c hj).1 set_list (fun u => by
      cases j with
      | Slice lo hi st pos => exact absurd rfl (hsl _ _ _ _)
      | _ => rfl)) (show swapsWith v (some (.Subscript (.Name x p) j tp)) pos.line X.env = pure false from sw_none hn) (by cases v <;> rfl) rfl).imp fun D σ H ⟨env, T, O, D', n, g, w, ok⟩ => ?_
  simp only [wpS] at w
  refine ⟨env, T, O, _, _, g, w, fun r v env' H' O' g' w' => ?_, ok.exOk σ⟩
  obtain ⟨d, env1, h, w'⟩ := withS_of w'
  obtain ⟨O2, g2⟩ := g'.share h
  have e0 : ∃ xs, env1[i]? = some (.o xs) ∨ env1[i]? = some (.io xs) := by
    rcases io_of w' with ⟨xs, e, _⟩ | ⟨xs, e, _⟩
    · exact ⟨xs, .inl e⟩
    · exact ⟨xs, .inr e⟩
  have w2 : wpE G ix env1 (fun k env3 => asI (k.d env3) fun n => ioSlot env3[i]? fun ds mk => ixSet ds n fun j => D'.nx (env3.set i (mk (ds.set j d)))) D'.ex := by
    rcases io_of w' with ⟨xs, e, w⟩ | ⟨xs, e, w⟩ <;> exact w
  refine ⟨env1, _, O2, fun r env1' => r = .b i ∧ env1' = env1, D'.ex, g2, ?_, fun r o env2 H2 O3 g3 w' => ?_, (ok.exOk σ).pop⟩
  · obtain ⟨xs, e | e⟩ := e0
    · simp only [wpE, e]; exact ⟨by trivial, by trivial⟩
    · simp only [wpE, e]; exact ⟨by trivial, by trivial⟩
  obtain ⟨rfl, rfl⟩ := w'
  refine ⟨_, _, O3, _, D'.ex, g3, w2, fun r kk env3 H3 O3 g3 w3 => ?_, (ok.exOk σ).pop.pop⟩
  have to : σ[i]? = some (some o) := g3.tm _ (List.mem_cons_of_mem _ List.mem_cons_self)
  obtain ⟨m, hm, w3⟩ := asI_of w3
  obtain rfl := (g3.rd List.mem_cons_self hm).int
  have rv : Rep F.K (hid O3 H3) v d := g3.tm _ (List.mem_cons_of_mem _ (List.mem_cons_of_mem _ List.mem_cons_self))
  have g4 := g3.pop.pop.pop
  have fin : ∀ {ds : List PyData}, ixSet ds m (fun j => D'.nx (env3.set i (.o (ds.set j d)))) ∨ ixSet ds m (fun j => D'.nx (env3.set i (.io (ds.set j d)))) → ∃ j, L2.ixN ds.length m = some j := fun {ds} h => by
    unfold ixSet at h
    split at h
    · exact ⟨_, ‹_›⟩
    · exact (h.elim id id).elim
  rcases io_of w3 with ⟨xs, e, w3⟩ | ⟨xs, e, w3⟩
  · have z := g3.sl i _ e
    rw [get_getD to] at z
    obtain ⟨a, ws, z1, z2, z3, z4, z5⟩ := z
    cases z1
    obtain ⟨q, hq⟩ := fin (.inl w3)
    simp only [ixSet, hq] at w3
    refine ⟨a, ws, m, q, rfl, rfl, z2, by rw [z5.length]; exact hq, ?_⟩
    exact ok.nx _ _ _ _ (g4.change (s' := .o (xs.set q d)) e (.inl ⟨rfl, rfl⟩) (get_getD to) (z5.set q rv)) w3
  · have z := g3.sl i _ e
    rw [get_getD to] at z
    obtain ⟨a, ws, z1, z0, z2, z3, z5⟩ := z
    cases z1
    obtain ⟨q, hq⟩ := fin (.inr w3)
    simp only [ixSet, hq] at w3
    refine ⟨a, ws, m, q, rfl, rfl, z2, by rw [z5.length]; exact hq, ?_⟩
    exact ok.nx _ _ _ _ (g4.change (s' := .io (xs.set q d)) e (.inr ⟨rfl, rfl⟩) (get_getD to) (z5.set q rv)) w3
theorem nd2 {l : List Nat} {i j : Nat} (h : [i, j].Nodup) : i ≠ j := by simpa using h
theorem swp_inv {sc : Scope} {ts vs : List Expr} {names : List Str} (h : swpD sc ts vs = some (some names)) : vs.length = ts.length ∧ names.length = ts.length ∧ names = ts.filterMap fun
    | .Name id pos => if sc.names.lookup id == some .local && pos.line == (ts.head?.map (·.pos.line)).getD 0 then some id else none
    | _ => none := by
  unfold swpD at h
  dsimp only at h
  split at h
  · cases h
  rename_i c1
  split at h
  · cases h
  split at h
  · cases h
  rename_i c3
  split at h
  · cases h
  split at h
  · cases h
  simp only [Option.some.injEq] at h
  subst h
  simp only [Bool.or_eq_true, bne_iff_ne, ne_eq, not_or, Decidable.not_not] at c1 c3
  exact ⟨c1.2, c3.1, rfl⟩
theorem sw_drop {v : Expr} {l : Nat} {env : PySem.Env} (h : isLc v = false) : swapsWith v none l env = pure false := by
  cases v <;> first
    | rfl
    | cases h
theorem snd_xp (C : CtxS G F N L sc W X) {v : Expr} {pos : Pos} {e : P} (hl : isLc v = false) (hv : chkE G N L e sc v = true) : PS X (.Expr v pos) (rdS G F X.mg W (.xp e)) :=
  (ps_expr (sndE e C.c hv).1 (sw_drop hl)).imp fun D σ H ⟨env, T, O, D', n, g, w, ok⟩ => by
    simp only [wpS] at w
    exact ⟨env, T, O, _, _, g, w, fun r v env' H' O' g' w' => ok.nx _ _ _ _ g'.pop w', ok.exOk σ⟩
theorem nameB_inv {i : Nat} {e : Expr} (h : nameB N sc i e = true) : ∃ x p, e = .Name x p ∧ N[i]? = some x := by
  cases e with
  | Name x p =>
    simp only [nameB, Bool.and_eq_true, decide_eq_true_eq] at h
    exact ⟨x, p, rfl, h.1⟩
  | _ => simp [nameB] at h
theorem namesB_cons {i : Nat} {is : List Nat} {ts : List Expr} (h : namesB N sc (i :: is) ts = true) : ∃ x p r, ts = .Name x p :: r ∧ N[i]? = some x ∧ namesB N sc is r = true := by
  cases ts with
  | nil => simp [namesB] at h
  | cons e r =>
    simp only [namesB, Bool.and_eq_true] at h
    obtain ⟨x, p, rfl, q⟩ := nameB_inv h.1
    exact ⟨x, p, r, rfl, q, h.2⟩
theorem namesB_nil {ts : List Expr} (h : namesB N sc [] ts = true) : ts = [] := by
  cases ts with
  | nil => rfl
  | cons => simp [namesB] at h
theorem snd_par2 (C : CtxS G F N L sc W X) {i j : Nat} {x y : Str} {a b : Expr} {px py p p2 pos : Pos} {k k2 : Nat} {es : Ps} (hx : N[i]? = some x) (hy : N[j]? = some y) (lx : sc.names.lookup x = some .local) (ly : sc.names.lookup y = some .local) (hij : i ≠ j)
    (hv : chkEs G N L es sc [a, b] = true) (hw : swappedStores [.Tuple [.Name x px, .Name y py] k p] (.Tuple [a, b] k2 p2) X.env = pure (some [x, y])) :
    PS X (.Assign [.Tuple [.Name x px, .Name y py] k p] (.Tuple [a, b] k2 p2) pos) (rdS G F X.mg W (.par [i, j] es)) := by
  refine (ps_par C.c.calm C.c.nd (by rw [C.c.N]; exact hx) (by rw [C.c.N]; exact hy) hij (by rw [C.c.scE]; exact lx) (by rw [C.c.scE]; exact ly) (sndEs es C.c hv) hw rfl).imp fun D σ H ⟨env, T, O, D', n, g, w, ok⟩ => ?_
  simp only [wpS] at w
  refine ⟨env, T, O, _, _, g, w, fun ds vs env' H' O' l g' r w' => ?_, ok.exOk σ⟩
  obtain ⟨d, e, rfl⟩ : ∃ d e, ds = [d, e] := by
    match ds, w'.1 with
    | [d, e], _ => exact ⟨d, e, rfl⟩
  obtain ⟨v, u, rfl⟩ : ∃ v u, vs = [v, u] := by
    match vs, r.length with
    | [v, u], _ => exact ⟨v, u, rfl⟩
  exact ⟨v, u, rfl, ok.nx _ _ _ _ (g'.setMany [i, j] n r) w'.2⟩
theorem snd_par3 (C : CtxS G F N L sc W X) {i j l : Nat} {x y z : Str} {a b c : Expr} {px py pz p p2 pos : Pos} {k k2 : Nat} {es : Ps} (hx : N[i]? = some x) (hy : N[j]? = some y) (hz : N[l]? = some z) (lx : sc.names.lookup x = some .local) (ly : sc.names.lookup y = some .local) (lz : sc.names.lookup z = some .local)
    (hij : i ≠ j) (hil : i ≠ l) (hjl : j ≠ l)
    (hv : chkEs G N L es sc [a, b, c] = true) (hw : swappedStores [.Tuple [.Name x px, .Name y py, .Name z pz] k p] (.Tuple [a, b, c] k2 p2) X.env = pure (some [x, y, z])) :
    PS X (.Assign [.Tuple [.Name x px, .Name y py, .Name z pz] k p] (.Tuple [a, b, c] k2 p2) pos) (rdS G F X.mg W (.par [i, j, l] es)) := by
  refine (ps_par3 C.c.calm C.c.nd (by rw [C.c.N]; exact hx) (by rw [C.c.N]; exact hy) (by rw [C.c.N]; exact hz) hij hil hjl (by rw [C.c.scE]; exact lx) (by rw [C.c.scE]; exact ly) (by rw [C.c.scE]; exact lz) (sndEs es C.c hv) hw rfl).imp fun D σ H ⟨env, T, O, D', n, g, w, ok⟩ => ?_
  simp only [wpS] at w
  refine ⟨env, T, O, _, _, g, w, fun ds vs env' H' O' l g' r w' => ?_, ok.exOk σ⟩
  obtain ⟨d, e, f, rfl⟩ : ∃ d e f, ds = [d, e, f] := by
    match ds, w'.1 with
    | [d, e, f], _ => exact ⟨d, e, f, rfl⟩
  obtain ⟨v, u, t, rfl⟩ : ∃ v u t, vs = [v, u, t] := by
    match vs, r.length with
    | [v, u, t], _ => exact ⟨v, u, t, rfl⟩
  exact ⟨v, u, t, rfl, ok.nx _ _ _ _ (g'.setMany _ n r) w'.2⟩
theorem snd_par2Ob (C : CtxS G F N L sc W X) {i j : Nat} {x y : Str} {a b : Expr} {px py p p2 pos : Pos} {k k2 : Nat} {pa pb : P} (hx : N[i]? = some x) (hy : N[j]? = some y) (lx : sc.names.lookup x = some .local) (ly : sc.names.lookup y = some .local) (hij : i ≠ j)
    (hv : chkEs G N L (.cons pa (.cons pb .nil)) sc [a, b] = true) (hw : swappedStores [.Tuple [.Name x px, .Name y py] k p] (.Tuple [a, b] k2 p2) X.env = pure (some [x, y])) :
    PS X (.Assign [.Tuple [.Name x px, .Name y py] k p] (.Tuple [a, b] k2 p2) pos) (rdS G F X.mg W (.par2 i j pa pb)) := by
  simp only [chkEs, Bool.and_eq_true] at hv
  refine (ps_par C.c.calm C.c.nd (by rw [C.c.N]; exact hx) (by rw [C.c.N]; exact hy) hij (by rw [C.c.scE]; exact lx) (by rw [C.c.scE]; exact ly) (pa_cons (sndE pa C.c hv.1.2).1 (pa_cons (sndE pb C.c hv.2.1.2).1 pa_nil (star_cons hv.2.1.1)) (star_cons hv.1.1)) hw rfl).imp fun D σ H ⟨env, T, O, D', n, g, w, ok⟩ => ?_
  simp only [wpS] at w
  refine ⟨env, T, O, _, _, g, w, fun r u env' H' O' g' w' => ?_, ok.exOk σ⟩
  refine ⟨env', _, O', _, _, g', w', fun r2 v env2 H2 O2 g2 w2 => ?_, (ok.exOk σ).pop⟩
  unfold stOb at w2
  cases r with
  | ob c fs =>
    cases r2 with
    | ob c2 fs2 =>
      have g3 := (g2.setOb (i := j) (n.cons (t := (u, R.ob c fs)) (fun i z => by cases z))).setOb (i := i) n
      rw [List.set_comm _ _ (Ne.symm hij), List.set_comm _ _ (Ne.symm hij)] at g3
      exact ⟨u, v, rfl, ok.nx _ _ _ _ g3 w2⟩
    | _ => exact w2.elim
  | _ => exact w2.elim
theorem Good.popTs {env : Env} {σ : St} {T : List (V × R)} {H : Hp} {O : List Addr} : ∀ (ts : List (V × R)), Good F env σ (ts ++ T) H O → Good F env σ T H O
  | [], g => g
  | t :: ts, g => Good.popTs ts g.pop
theorem Good.popTs1 {env : Env} {σ : St} {T : List (V × R)} {H : Hp} {O : List Addr} {u : V × R} : ∀ (ts : List (V × R)), Good F env σ (u :: (ts ++ T)) H O → Good F env σ (u :: T) H O
  | [], g => g
  | t :: ts, g => Good.popTs1 ts g.pop2
theorem EndsOk.under {D : Ends} {D' : Pst} {T : List (V × R)} (e : EndsOk F mg W D D' T) (ts : List (V × R)) : EndsOk F mg W D D' (ts ++ T) :=
  ⟨fun env σ H O g => e.nx env σ H O (g.popTs ts), fun env σ H O g => e.bk env σ H O (g.popTs ts), fun env σ H O g => e.ct env σ H O (g.popTs ts), fun r v env σ H O n g => e.rt r v env σ H O n (g.popTs1 ts), fun x p C d env σ H O m pk g => e.ex x p C d env σ H O m pk (g.popTs ts)⟩
theorem snd_for (C : CtxS G F N L sc W X) {tge iter : Expr} {body : List Stmt} {w : Wk} {tg : Tg} {b : Ss} {pos : Pos} (hi : PI X tge iter (rdW G F X.mg W w)) (hg : PG X tge (rdTg F tg)) (hb : PSs X body (rdSs G F X.mg W b)) (hf : ∀ x, foldedSetIterable iter X.env x = pure x) :
    PS X (.For tge iter body [] pos) (rdS G F X.mg W (.for_ tg w b)) := by
  refine (ps_for C.po C.c.calm hi hg hb hf).imp fun D σ H ⟨env, T, O, D', n, g, w, ok⟩ => ?_
  simp only [wpS] at w
  refine ⟨env, T, O, _, _, g, w, fun items ts env1 H1 O1 J wk nts g1 w1 => ?_, ok.exOk σ⟩
  have nT : NoB (ts ++ T) := nts.append n
  refine ⟨fun i m σ H => m = items.length - i ∧ i ≤ items.length ∧ ∃ env O, Good F env σ (ts ++ T) H O ∧ forL (fun d e K => setTg tg d e fun e1 => wpSs G b e1 { D' with nx := K, ct := K, bk := D'.nx }) (items.drop i) env D'.nx,
    ⟨items.length, by omega, Nat.zero_le _, env1, O1, g1, w1⟩, ?_⟩
  rintro i m σ2 H2 ⟨rfl, hle, e, O2, g2, w2⟩
  obtain ⟨go, stop, yld⟩ := wk e _ _ H2 O2 (fun t ht => List.mem_append_left _ ht) g2
  by_cases hlt : i < items.length
  · refine .inr ⟨go i hlt, fun σ3 H3 => ∃ env O, Good F env σ3 (ts ++ T) H3 O ∧ forL (fun d e K => setTg tg d e fun e1 => wpSs G b e1 { D' with nx := K, ct := K, bk := D'.nx }) (items.drop (i + 1)) env D'.nx,
      fun σ3 H3 ⟨env, O, q1, q2⟩ => ⟨items.length - (i + 1), by omega, rfl, by omega, env, O, q1, q2⟩, fun x H3 hy => ?_⟩
    obtain ⟨g6, d, hd, rd⟩ := yld i x H3 hlt hy
    have hdrop : items.drop i = d :: items.drop (i + 1) := by
      rw [List.drop_eq_getElem_cons hlt]
      rw [List.getElem?_eq_getElem hlt] at hd
      rw [Option.some.inj hd]
    rw [hdrop] at w2
    simp only [forL] at w2
    refine ⟨e, _, O2, d, _, nT, g6, rd, w2, fun e3 vs hvs g7 w3 => ?_⟩
    refine ⟨e3, _, O2, _, nT, g7, w3, ?_⟩
    have ok' := ok.under ts
    exact ⟨fun env σ H O g w => ⟨env, O, g, w⟩, ok'.nx, fun env σ H O g w => ⟨env, O, g, w⟩, ok'.rt, ok'.ex⟩
  · have ei : i = items.length := by omega
    subst ei
    rw [List.drop_length] at w2
    exact .inl ⟨stop, ok.nx _ _ _ _ (g2.popTs ts) w2⟩
theorem snd_whl (C : CtxS G F N L sc W X) {c : Expr} {body : List Stmt} {t : P} {b : Ss} {pos : Pos} (hc : PT X c (rdT G F X.mg W t)) (hb : PSs X body (rdSs G F X.mg W b)) :
    PS X (.While c body [] pos) (rdS G F X.mg W (.whl t b)) := by
  refine (ps_while C.po hc hb).imp fun D σ H ⟨env, T, O, D', n, g, w, ok⟩ => ?_
  simp only [wpS] at w
  obtain ⟨Wd, ⟨m0, w0⟩, turn⟩ := w
  refine ⟨fun m σ H => ∃ env O, Good F env σ T H O ∧ Wd m env, ⟨m0, env, O, g, w0⟩, ?_⟩
  rintro m σ1 H1 ⟨e1, O1, g1, w1⟩
  refine ⟨e1, T, O1, fun k e1 => if k = true then wpSs G b e1 { D' with nx := fun e2 => ∃ m', m' < m ∧ Wd m' e2, ct := fun e2 => ∃ m', m' < m ∧ Wd m' e2, bk := D'.nx } else D'.nx e1, _, g1, turn m e1 w1, fun k e2 H2 O2 g2 w2 => ?_, ok.exOk σ1⟩
  cases k with
  | false => simp only [Bool.false_eq_true, if_false] at w2 ⊢; exact ok.nx _ _ _ _ g2 w2
  | true =>
    simp only [if_true] at w2 ⊢
    refine ⟨fun σ3 H3 => ∃ m', m' < m ∧ ∃ env O, Good F env σ3 T H3 O ∧ Wd m' env, fun σ3 H3 h => h, e2, T, O2, _, n, g2, w2, ?_⟩
    exact ⟨fun env σ H O g ⟨m', l, w⟩ => ⟨m', l, env, O, g, w⟩, ok.nx, fun env σ H O g ⟨m', l, w⟩ => ⟨m', l, env, O, g, w⟩, ok.rt, ok.ex⟩
theorem snd_ite (C : CtxS G F N L sc W X) {c : Expr} {x y : List Stmt} {t : P} {a b : Ss} {pos : Pos} (hc : PT X c (rdT G F X.mg W t)) (ha : PSs X x (rdSs G F X.mg W a)) (hb : PSs X y (rdSs G F X.mg W b)) :
    PS X (.If c x y pos) (rdS G F X.mg W (.ite t a b)) := by
  refine (ps_if hc ha hb).imp fun D σ H ⟨env, T, O, D', n, g, w, ok⟩ => ?_
  simp only [wpS] at w
  refine ⟨env, T, O, fun k e1 => if k = true then wpSs G a e1 D' else wpSs G b e1 D', _, g, w, fun k e2 H2 O2 g2 w2 => ?_, ok.exOk σ⟩
  cases k with
  | false => simp only [Bool.false_eq_true, if_false] at w2 ⊢; exact ⟨e2, T, O2, D', n, g2, w2, ok⟩
  | true => simp only [if_true] at w2 ⊢; exact ⟨e2, T, O2, D', n, g2, w2, ok⟩
theorem snd_raise (C : CtxS G F N L sc W X) {x m : Str} {j : Nat} {p p2 pos pos' : Pos} (hg : glB sc x = true) (hx : G.excs.contains x = true) : PS X (.Raise (some (.Call (.Name x p) [.Constant (.str m) j p2] [] pos)) none pos') (rdS G F X.mg W (.raise x)) := by
  obtain ⟨Cl, bmB, B, newId, initId, e1, e2, e3, e4, e5, e6⟩ := C.c.kn.exc x hx
  obtain ⟨g1, g2⟩ := gl_of C.c hg
  refine (ps_raise C.c.calm C.c.tk (pmk_own e2 e3 e1 e4 (raises_own e5 e6) g1 g2)).imp fun D σ H ⟨env, T, O, D', n, g, w, ok⟩ => ?_
  simp only [wpS] at w
  exact ok.ex _ .none _ none _ _ _ _ e1 rfl g w
/-- a suite's answer -/
def suE : Su → TE
  | .bl b => tC (.bl b)
  | .int i => tC (.int i)
  | .str s => tC (.str s)
  | .non => tC .non
  | .var i => tVar i
def hsT : List (Str × Su × Value) → List (Value × (Addr → Value → Option Addr → TS))
  | [] => []
  | (_, s, c) :: r => (c, fun _ _ _ D σ H => suE s σ H D.rt) :: hsT r
theorem su_pe {X : Cx} {s : Su} {e : Expr} (hN : X.N = N) (hs : X.env.scope = sc) (h : suB N sc s e = true) : PE X e (suE s) := by
  unfold suB at h
  split at h
  · unfold varB at h
    simp only [Bool.and_eq_true, decide_eq_true_eq] at h
    obtain ⟨⟨⟨h1, h2⟩, h3⟩, h4⟩ := h
    exact pe_var (by rw [hN]; exact h1) (by rw [hs]; exact vis_of h2) (ne_of_bnot h3) (ne_of_bnot h4)
  · obtain rfl := of_decide_eq_true h; exact pe_bl
  · obtain rfl := of_decide_eq_true h; exact pe_int
  · obtain rfl := of_decide_eq_true h; exact pe_str
  · exact pe_non
  · cases h
theorem hds_ok (C : CtxS G F N L sc W X) : ∀ {hs : List (Str × Su)} {hds : List ExceptHandler}, hsB N sc hs hds = true → hs.all (fun h => G.excs.contains h.1) = true →
    ∃ l : List (Str × Su × Value), HdsOk X hds (hsT l) ∧ l.map (fun t => (t.1, t.2.1)) = hs ∧ ∀ t ∈ l, X.mg t.1 = some t.2.2
  | [], [], _, _ => ⟨[], .nil, rfl, fun _ h => by cases h⟩
  | [], _ :: _, h, _ => by simp [hsB] at h
  | _ :: _, [], h, _ => by simp [hsB] at h
  | (x, s) :: hs, hd :: hds, h, hx => by
    rw [List.all_cons, Bool.and_eq_true] at hx
    unfold hsB at h
    split at h
    · cases ‹_ :: _ = []›
    · rename_i e1 e2
      cases e1
      cases e2
      simp only [Bool.and_eq_true, decide_eq_true_eq] at h
      obtain ⟨⟨⟨rfl, h2⟩, h3⟩, h4⟩ := h
      obtain ⟨l, q1, q2, q3⟩ := hds_ok C h4 hx.2
      obtain ⟨Cl, bmB, B, newId, initId, m1, _⟩ := C.c.kn.exc _ hx.1
      obtain ⟨g1, g2⟩ := gl_of C.c h2
      refine ⟨(_, _, .ref Cl) :: l, .cons ⟨g1, g2, .inl m1⟩ (fun a oe cls d pn _ _ => (pss_one (ps_ret (su_pe (X := X.suite a ((a, oe) :: pn)) (N := N) (sc := sc) C.c.N C.c.scE h3))).imp fun D σ H q => q) q1, by rw [List.map_cons, q2], fun t ht => ?_⟩
      rcases List.mem_cons.mp ht with rfl | ht
      · exact m1
      · exact q3 t ht
    · cases h
theorem handle_ok {P : Program} {w : World} {K : PySem.W.Frag} {base : Heap} (kn : Kn G F.cls L P w K mg base) {D : Ends} {D' : Pst} {T : List (V × R)} (ok : EndsOk F mg W D D' T) {x : Str} {Cl : Addr} {env : Env} {σ : St} {H : Hp} {O : List Addr} {p : PyData} {d : Option Addr} (hm : mg x = some (.ref Cl)) (pk : PayOk H p d) (g : Good F env σ T H O) :
    ∀ (l : List (Str × Su × Value)), (∀ t ∈ l, mg t.1 = some t.2.2) → handle G D' x p env (l.map fun t => (t.1, t.2.1)) → wMany K W D (hsT l) (.ref Cl) d σ H
  | [], _, w => ok.ex x p Cl d env σ H O hm pk g w
  | (y, s, c) :: l, hl, w => by
    have w2 : (match G.exm x y with
      | some true => suD s env fun d => D'.rt (.v d) env
      | some false => handle G D' x p env (l.map fun t => (t.1, t.2.1))
      | none => False) := w
    have my := hl _ List.mem_cons_self
    cases e : G.exm x y with
    | none => rw [e] at w2; exact w2.elim
    | some b =>
      obtain ⟨C1, C2, k1, k2, k3⟩ := kn.exm x y b e
      rw [hm] at k1; cases k1
      have my : mg y = some c := my
      rw [my] at k2; cases k2
      rw [e] at w2
      refine ⟨b, k3, fun z a ha => ?_, fun z => ?_⟩
      · subst z
        have fin : ∀ {v : V} {d : PyData}, Rep F.K (hid O H) v d → D'.rt (.v d) env → D.rt v H := fun {v d} rv w => ok.rt (.v d) v env σ H O (fun i z => by cases z) (g.pushV rv) w
        cases s with
        | bl b => exact fin (.bl b) w2
        | int i => exact fin (.int i) w2
        | str i => exact fin (.str i) w2
        | non => exact fin .non w2
        | var i =>
          have w2 : (match env[i]? with
            | some (.v d) => D'.rt (.v d) env
            | _ => False) := w2
          cases e : env[i]? with
          | none => rw [e] at w2; exact w2.elim
          | some u =>
            rw [e] at w2
            cases u with
            | v d =>
              obtain ⟨v, h1, rv⟩ := g.sl i _ e
              exact ⟨v, getD_get h1, fin rv w2⟩
            | _ => exact w2.elim
      · subst z
        exact handle_ok kn ok hm pk g l (fun t ht => hl t (List.mem_cons_of_mem _ ht)) w2
theorem snd_try (C : CtxS G F N L sc W X) {body : List Stmt} {hds : List ExceptHandler} {b : Ss} {hs : List (Str × Su)} {pos : Pos} (hh : hsB N sc hs hds = true) (hx : hs.all (fun h => G.excs.contains h.1) = true) (hne : hs.isEmpty = false)
    (hb : ∀ (W' : WX) (X' : Cx), CtxS G F N L sc W' X' → X'.mg = X.mg → PSs X' body (rdSs G F X'.mg W' b)) :
    PS X (.Try body hds [] [] pos) (rdS G F X.mg W (.try_ b hs)) := by
  obtain ⟨l, q1, q2, q3⟩ := hds_ok C hh hx
  cases hds with
  | nil =>
    cases hs with
    | nil => cases hne
    | cons => simp [hsB] at hh
  | cons h0 hds =>
    have C' := C.c
    refine (ps_try_many C.hs C.hf C'.tk (tb := fun W' => rdSs G F X.mg W' b) (fun W' pn xe tk po => hb W' (X.tr pn xe) ⟨⟨C'.N, C'.K, C'.scE, C'.calm, C'.nd, C'.room, tk, C'.kn⟩, C.hs, C.hf, po, C.fnc, C.kind⟩ rfl) q1).imp fun D σ H ⟨env, T, O, D', n, g, w, ok⟩ => ?_
    simp only [wpS] at w
    refine ⟨env, T, O, _, n, g, w, ok.nx, ok.bk, ok.ct, ok.rt, fun x p Cl d env σ H O m pk g w => ?_⟩
    rw [← q2] at w
    exact handle_ok C'.kn ok m pk g l q3 w
end
mutual
theorem sndS : ∀ (p : S) {W : WX} {X : Cx} (C : CtxS G F N L sc W X) {st : Stmt}, chkS G N L sc p st = true → PS X st (rdS G F X.mg W p)
  | .asg i e, W, X, C, st, h => by
    unfold chkS at h
    split at h
    · rename_i x px v pos
      simp only [Bool.and_eq_true, decide_eq_true_eq] at h
      obtain ⟨⟨h1, h2⟩, h3⟩ := h
      split at h2
      · split at h2
        · simp only [Bool.and_eq_true, decide_eq_true_eq, Bool.not_eq_true'] at h2
          exact snd_asgLc C h1 h2.1.1 h2.1.2 h2.2 h3
        · cases h2
      · exact snd_asg C h1 (loc_of C h2) h3 (sw_none (by rename_i hl; exact (Bool.not_eq_true _).mp hl))
    · cases h
  | .asgT is e, W, X, C, st, h => by
    unfold chkS at h
    split at h
    · rename_i ts k p v pos
      simp only [Bool.and_eq_true] at h
      obtain ⟨⟨h1, h2⟩, h3⟩ := h
      refine snd_asgT C h1 h2 ?_
      split at h3
      · exact swp_pure (block_fn C) (by rw [C.c.scE]; simpa using h3)
      · cases h3
      · rename_i n1 n2
        cases v <;> first
          | exact absurd rfl (n1 _ _ _)
          | rfl
    · cases h
  | .par is es, W, X, C, st, h => by
    unfold chkS at h
    split at h
    · rename_i ts k p vs k2 p2 pos
      simp only [Bool.and_eq_true, decide_eq_true_eq] at h
      obtain ⟨⟨⟨h1, h2⟩, h3⟩, h4⟩ := h
      split at h4
      · rename_i names hsw
        obtain ⟨q1, q2, q3⟩ := swp_inv hsw
        have hw := swp_pure (k := k) (k2 := k2) (p := p) (p2 := p2) (block_fn C) (by rw [C.c.scE]; exact hsw)
        split at h4
        · rename_i i j
          obtain ⟨x, px, ts, rfl, a1, h1⟩ := namesB_cons h1
          obtain ⟨y, py, ts, rfl, b1, h1⟩ := namesB_cons h1
          obtain rfl := namesB_nil h1
          · have h4 := of_decide_eq_true h4
            rw [a1, b1] at h4
            obtain rfl : names = [x, y] := by
              match names, h4 with
              | [u, v], h4 => simp only [List.map_cons, List.map_nil, List.cons.injEq, Option.some.injEq] at h4; rw [h4.1, h4.2.1]
            match vs, q1 with
            | [a, b], _ =>
              have z : ∀ u ∈ [x, y], sc.names.lookup u = some .local := fun u hu => by
                rw [q3] at hu
                obtain ⟨e, he, hf⟩ := List.mem_filterMap.mp hu
                split at hf
                · split at hf
                  · rename_i hc
                    cases hf
                    simp only [Bool.and_eq_true, beq_iff_eq] at hc
                    exact hc.1
                  · cases hf
                · cases hf
              exact snd_par2 C a1 b1 (z x (by simp)) (z y (by simp)) (by simpa using h3) h2 hw
        · rename_i i j l
          obtain ⟨x, px, ts, rfl, a1, h1⟩ := namesB_cons h1
          obtain ⟨y, py, ts, rfl, b1, h1⟩ := namesB_cons h1
          obtain ⟨w, pw, ts, rfl, c1, h1⟩ := namesB_cons h1
          obtain rfl := namesB_nil h1
          · have h4 := of_decide_eq_true h4
            rw [a1, b1, c1] at h4
            obtain rfl : names = [x, y, w] := by
              match names, h4 with
              | [u, v, t], h4 => simp only [List.map_cons, List.map_nil, List.cons.injEq, Option.some.injEq] at h4; rw [h4.1, h4.2.1, h4.2.2.1]
            match vs, q1 with
            | [a, b, c], _ =>
              have z : ∀ u ∈ [x, y, w], sc.names.lookup u = some .local := fun u hu => by
                rw [q3] at hu
                obtain ⟨e, he, hf⟩ := List.mem_filterMap.mp hu
                split at hf
                · split at hf
                  · rename_i hc
                    cases hf
                    simp only [Bool.and_eq_true, beq_iff_eq] at hc
                    exact hc.1
                  · cases hf
                · cases hf
              have nd : i ≠ j ∧ i ≠ l ∧ j ≠ l := by
                simp only [List.nodup_cons, List.mem_cons, List.not_mem_nil, or_false, not_or] at h3
                exact ⟨h3.1.1, h3.1.2, h3.2.1⟩
              exact snd_par3 C a1 b1 c1 (z x (by simp)) (z y (by simp)) (z w (by simp)) nd.1 nd.2.1 nd.2.2 h2 hw
        · cases h4
      · cases h4
    · cases h
  | .par2 i j pa pb, W, X, C, st, h => by
    unfold chkS at h
    split at h
    · rename_i ts k p vs k2 p2 pos
      simp only [Bool.and_eq_true, decide_eq_true_eq] at h
      obtain ⟨⟨⟨h1, h2⟩, h3⟩, h4⟩ := h
      split at h4
      · rename_i names hsw
        obtain ⟨q1, q2, q3⟩ := swp_inv hsw
        have hw := swp_pure (k := k) (k2 := k2) (p := p) (p2 := p2) (block_fn C) (by rw [C.c.scE]; exact hsw)
        obtain ⟨x, px, ts, rfl, a1, h1⟩ := namesB_cons h1
        obtain ⟨y, py, ts, rfl, b1, h1⟩ := namesB_cons h1
        obtain rfl := namesB_nil h1
        have h4 := of_decide_eq_true h4
        rw [a1, b1] at h4
        obtain rfl : names = [x, y] := by
          match names, h4 with
          | [u, v], h4 => simp only [List.map_cons, List.map_nil, List.cons.injEq, Option.some.injEq] at h4; rw [h4.1, h4.2.1]
        match vs, q1 with
        | [a, b], _ =>
          have z : ∀ u ∈ [x, y], sc.names.lookup u = some .local := fun u hu => by
            rw [q3] at hu
            obtain ⟨e, he, hf⟩ := List.mem_filterMap.mp hu
            split at hf
            · split at hf
              · rename_i hc
                cases hf
                simp only [Bool.and_eq_true, beq_iff_eq] at hc
                exact hc.1
              · cases hf
            · cases hf
          exact snd_par2Ob C a1 b1 (z x (by simp)) (z y (by simp)) h3 h2 hw
      · cases h4
    · cases h
  | .setIx i ix e, W, X, C, st, h => by
    unfold chkS at h
    split at h
    · rename_i x p j tp v pos
      simp only [Bool.and_eq_true, Bool.not_eq_true'] at h
      obtain ⟨⟨⟨⟨h1, h2⟩, h3⟩, h4⟩, h5⟩ := h
      refine snd_setIx C h1 h2 h3 h4 fun a b c d z => ?_
      subst z
      cases h5
    · cases h
  | .app i e, W, X, C, st, h => by
    unfold chkS at h
    split at h
    · simp only [Bool.and_eq_true, decide_eq_true_eq] at h
      obtain ⟨⟨⟨⟨h1, rfl⟩, h3⟩, h4⟩, h5⟩ := h
      exact snd_app C h1 h3 h4 h5
    · cases h
  | .ite t a b, W, X, C, st, h => by
    unfold chkS at h
    split at h
    · simp only [Bool.and_eq_true] at h
      obtain ⟨⟨⟨h1, h2⟩, h3⟩, h4⟩ := h
      exact snd_ite C ((sndE t C.c h2).2 h1) (sndSs a C h3) (sndSs b C h4)
    · cases h
  | .whl t b, W, X, C, st, h => by
    unfold chkS at h
    split at h
    · simp only [Bool.and_eq_true] at h
      obtain ⟨⟨h1, h2⟩, h3⟩ := h
      exact snd_whl C ((sndE t C.c h2).2 h1) (sndSs b C h3)
    · cases h
  | .for_ tg w b, W, X, C, st, h => by
    unfold chkS at h
    split at h
    · rename_i tge iter x pos
      simp only [Bool.and_eq_true] at h
      obtain ⟨⟨h1, h2⟩, h3⟩ := h
      refine snd_for C (sndW w C.c h1) ?_ (sndSs b C h3) (foldSet_of h1)
      cases tg with
      | nm i =>
        cases tge with
        | Name x p =>
          simp only [nameB, Bool.and_eq_true, decide_eq_true_eq] at h2
          exact snd_tgN C.c (by rw [C.c.N]; exact h2.1) (loc_of C h2.2)
        | _ => simp [nameB] at h2
      | tp is =>
        simp only at h2
        split at h2
        · exact snd_tgT C.c (names_of C h2)
        · cases h2
    · cases h
  | .ret e, W, X, C, st, h => by
    unfold chkS at h
    split at h
    · exact snd_ret C h
    · cases h
  | .raise x, W, X, C, st, h => by
    unfold chkS at h
    split at h
    · simp only [Bool.and_eq_true, decide_eq_true_eq] at h
      obtain ⟨⟨rfl, h2⟩, h3⟩ := h
      exact snd_raise C h2 h3
    · cases h
  | .brk, W, X, C, st, h => by
    unfold chkS at h
    split at h
    · exact ps_break.imp fun D σ H ⟨env, T, O, D', n, g, w, ok⟩ => ok.bk _ _ _ _ g (by simpa only [wpS] using w)
    · cases h
  | .cont, W, X, C, st, h => by
    unfold chkS at h
    split at h
    · exact ps_continue.imp fun D σ H ⟨env, T, O, D', n, g, w, ok⟩ => ok.ct _ _ _ _ g (by simpa only [wpS] using w)
    · cases h
  | .pass, W, X, C, st, h => by
    unfold chkS at h
    split at h
    · exact ps_pass.imp fun D σ H ⟨env, T, O, D', n, g, w, ok⟩ => ok.nx _ _ _ _ g (by simpa only [wpS] using w)
    · cases h
  | .try_ b hs, W, X, C, st, h => by
    unfold chkS at h
    split at h
    · simp only [Bool.and_eq_true, Bool.not_eq_true'] at h
      obtain ⟨⟨⟨h1, h2⟩, h3⟩, h4⟩ := h
      exact snd_try C h2 h4 h3 fun W' X' C' _ => sndSs b C' h1
    · cases h
  | .xp e, W, X, C, st, h => by
    unfold chkS at h
    split at h
    · simp only [Bool.and_eq_true, Bool.not_eq_true'] at h
      exact snd_xp C h.1 h.2
    · cases h
  | .stF i j f e, W, X, C, st, h => by
    unfold chkS at h
    split at h
    · simp only [Bool.and_eq_true, decide_eq_true_eq] at h
      obtain ⟨⟨⟨h1, rfl⟩, h3⟩, h4⟩ := h
      exact snd_stF C h1 h4
    · cases h
  | .stL i j e, W, X, C, st, h => by
    unfold chkS at h
    split at h
    · simp only [Bool.and_eq_true, decide_eq_true_eq] at h
      obtain ⟨⟨⟨h1, rfl⟩, h3⟩, h4⟩ := h
      exact snd_stL C h1 h4
    · cases h
  | .appF i j f j2 f2, W, X, C, st, h => by
    unfold chkS at h
    split at h
    · simp only [Bool.and_eq_true, decide_eq_true_eq] at h
      obtain ⟨⟨⟨⟨⟨h1, h2⟩, rfl⟩, rfl⟩, rfl⟩, h6⟩ := h
      exact snd_appF C h1 h2 h6
    · cases h
  | .dead, W, X, C, st, h => ⟨fun pins s σ H D I ⟨env, T, O, D', n, g, w, ok⟩ => by simp only [wpS] at w⟩
  | .iadd k i e, W, X, C, st, h => by
    unfold chkS at h
    split at h
    · simp only [Bool.and_eq_true, decide_eq_true_eq] at h
      obtain ⟨⟨⟨h1, h2⟩, h3⟩, h4⟩ := h
      exact snd_iadd C h1 h2 h3 h4
    · cases h
  | .retMe, W, X, C, st, h => by
    unfold chkS at h
    split at h
    · exact snd_retMe C h
    · cases h
theorem sndSs : ∀ (p : Ss) {W : WX} {X : Cx} (C : CtxS G F N L sc W X) {st : List Stmt}, chkSs G N L sc p st = true → PSs X st (rdSs G F X.mg W p)
  | .nil, W, X, C, st, h => by
    cases st with
    | nil => exact pss_nil.imp fun D σ H ⟨env, T, O, D', n, g, w, ok⟩ => ok.nx _ _ _ _ g (by simpa only [wpSs] using w)
    | cons => simp [chkSs] at h
  | .cons a r, W, X, C, st, h => by
    cases st with
    | nil => simp [chkSs] at h
    | cons s ss =>
      simp only [chkSs, Bool.and_eq_true] at h
      refine (pss_cons (sndS a C h.1) (sndSs r C h.2)).imp fun D σ H ⟨env, T, O, D', n, g, w, ok⟩ => ?_
      simp only [wpSs] at w
      exact ⟨env, T, O, _, n, g, w, ok.setNx fun env σ H O g w => ⟨env, T, O, D', n, g, w, ok⟩⟩
end
end Mp

set_option Elab.async false
set_option linter.all false
set_option maxRecDepth 100000
set_option maxHeartbeats 1000000
/-! Mp, part 13: a def keeps its promise. -/
namespace Mp
open PySem PySem.Spec PyProof.Rows L2
def hdSl : Hdv → List Sl
  | .no => []
  | .io xs => [.io xs]
  | .sc ns => [.sc ns]
  | .ob c fs => [.ib c fs]
/-- the slots at the entry -/
def env0 (n : Nat) (hv : Hdv) (ds : List PyData) : Mp.Env := hdSl hv ++ ds.map Sl.v ++ List.replicate (n - (hdSl hv).length - ds.length) Sl.no
/-- the list handed in, at the end -/
def endH (hv : Hdv) (e : Mp.Env) (Q : Hdv → Prop) : Prop := match hv with
  | .no => Q .no
  | .sc ns => Q (.sc ns)
  | .io _ => match (e[0]? : Option Sl) with
    | some (Sl.io ys) => Q (.io ys)
    | _ => False
  | .ob c _ => match (e[0]? : Option Sl) with
    | some (Sl.ib c' gs) => c' = c ∧ Q (.ob c gs)
    | _ => False
def endP (s : FSpec) (hv : Hdv) (ds : List PyData) : Pst where
  nx := fun e => endH hv e (s.post hv ds (.v .none))
  rt := fun r e => endH hv e (s.post hv ds r)
  bk := fun _ => False
  ct := fun _ => False
  ex := fun x p e => endH hv e (s.exc hv ds x p)
/-- the plain statement about a body -/
def Keeps (G : GE) (n : Nat) (k : HdK) (m : Nat) (s : FSpec) (p : Ss) : Prop := ∀ hv ds, hv.k = k → (hdSl hv).length + ds.length = m → s.pre hv ds → wpSs G p (env0 n hv ds) (endP s hv ds)
section
variable {K : PySem.W.Frag} {H : Hp} {O : List Addr}
theorem hdSl_len {cls : Cls} {hv : Hdv} {vs rest : List V} {io : Option Addr} (h : headOk K cls H O hv vs io rest) : vs.length = (hdSl hv).length + rest.length := by
  cases hv with
  | no => obtain ⟨rfl, _⟩ := h; simp [hdSl]
  | io xs => obtain ⟨a, ws, rfl, _⟩ := h; simp [hdSl]; omega
  | sc ns => obtain ⟨a, rfl, _⟩ := h; simp [hdSl]; omega
  | ob c fs => obtain ⟨a, rfl, _⟩ := h; simp [hdSl]; omega
theorem start_get {N : List Str} {vs : List V} {i : Nat} (h : i < vs.length) : ((L2.start N vs)[i]?).getD none = some vs[i] := by
  unfold L2.start
  rw [List.getElem?_append_left (by simpa using h), List.getElem?_map, List.getElem?_eq_getElem h]
  rfl
theorem good_start {cls : Cls} {N : List Str} {hv : Hdv} {vs rest : List V} {ds : List PyData} {io : Option Addr} (hd : headOk K cls H O hv vs io rest) (r : Reps K (hid O H) rest ds) (oin : ∀ a ∈ O, H a ≠ none) (sp : Sep H O [] [] [] H O) (tb : Tb cls.T H O) (hn : vs.length ≤ N.length) :
    Good ⟨K, H, O, io, cls⟩ (env0 N.length hv ds) (L2.start N vs) [] H O := by
  have hl := hdSl_len hd
  have rl := r.length
  have len : (env0 N.length hv ds).length = (L2.start N vs).length := by
    unfold env0 L2.start
    simp only [List.length_append, List.length_map, List.length_replicate]
    omega
  have slot : ∀ (i : Nat) s, (env0 N.length hv ds)[i]? = some s → SlOk ⟨K, H, O, io, cls⟩ H O s (((L2.start N vs)[i]?).getD none) ∧ isO s = false ∧ (isB s = true → i = 0) ∧ (isL s = true → ∀ b ∈ O, ∀ l, fld H b l → ((L2.start N vs)[i]?).getD none ≠ some (.ref l)) := by
    intro i s h
    unfold env0 at h
    by_cases h1 : i < (hdSl hv ++ ds.map Sl.v).length
    · rw [List.getElem?_append_left h1] at h
      have hi : i < vs.length := by rw [List.length_append, List.length_map] at h1; omega
      by_cases h2 : i < (hdSl hv).length
      · rw [List.getElem?_append_left h2] at h
        rw [start_get hi]
        cases hv with
        | no => simp [hdSl] at h2
        | io xs =>
          obtain rfl : i = 0 := by simp [hdSl] at h2; exact h2
          simp only [hdSl, List.getElem?_cons_zero, Option.some.injEq] at h
          subst h
          obtain ⟨a, ws, rfl, q1, q2, q3, q4, q5⟩ := hd
          exact ⟨⟨a, ws, rfl, q1, q2, q3, q4⟩, rfl, fun _ => rfl, fun _ b hb l hl z => by
            have z : some (V.ref a) = some (V.ref l) := z
            cases z
            exact q5 b hb hl⟩
        | sc ns =>
          obtain rfl : i = 0 := by simp [hdSl] at h2; exact h2
          simp only [hdSl, List.getElem?_cons_zero, Option.some.injEq] at h
          subst h
          obtain ⟨a, rfl, q1, q2⟩ := hd
          exact ⟨⟨a, rfl, q2⟩, rfl, (fun z => by cases z), fun z => by cases z⟩
        | ob c fs =>
          obtain rfl : i = 0 := by simp [hdSl] at h2; exact h2
          simp only [hdSl, List.getElem?_cons_zero, Option.some.injEq] at h
          subst h
          obtain ⟨a, rfl, q1, q2⟩ := hd
          exact ⟨⟨a, rfl, q1, q2.impN fun l hl _ _ => .inr hl⟩, rfl, fun _ => rfl, fun z => by cases z⟩
      · rw [List.getElem?_append_right (by omega), List.getElem?_map] at h
        rw [start_get hi]
        cases e : ds[i - (hdSl hv).length]? with
        | none => rw [e] at h; cases h
        | some d =>
          rw [e] at h
          cases h
          obtain ⟨v, e2, rv⟩ := r.get e
          have : vs[i] = v := by
            have : vs[i]? = some v := by
              cases hv with
              | no => obtain ⟨rfl, _⟩ := hd; simpa [hdSl] using e2
              | io xs => obtain ⟨a, ws, rfl, _⟩ := hd; cases i with
                | zero => simp [hdSl] at h2
                | succ i => simpa [hdSl] using e2
              | sc ns => obtain ⟨a, rfl, _⟩ := hd; cases i with
                | zero => simp [hdSl] at h2
                | succ i => simpa [hdSl] using e2
              | ob c fs => obtain ⟨a, rfl, _⟩ := hd; cases i with
                | zero => simp [hdSl] at h2
                | succ i => simpa [hdSl] using e2
            rw [List.getElem?_eq_getElem hi] at this
            exact Option.some.inj this
          rw [this]
          exact ⟨⟨v, rfl, rv⟩, rfl, (fun z => by cases z), fun z => by cases z⟩
    · rw [List.getElem?_append_right (by omega), List.getElem?_replicate] at h
      split at h
      · cases h
        exact ⟨trivial, rfl, (fun z => by cases z), fun z => by cases z⟩
      · cases h
  refine ⟨len, oin, fun a h => h, oin, fun a h => ?_, fun b u h _ => h, fun b h => h, fun a h => .inl h, fun i s h => (slot i s h).1, fun t ht => absurd ht List.not_mem_nil, fun i j s u _ h1 h2 => ?_, fun i s h1 h2 => ?_, .nil, fun i s h => (slot i s h).2.2.1,
    ⟨sp.nf, sp.wf, sp.one, fun i s h k => (slot i s h).2.2.2 k, fun t ht => absurd ht List.not_mem_nil⟩, tb⟩
  · have h : io = some a := h
    cases hv with
    | no => obtain ⟨_, rfl⟩ := hd; cases h
    | io xs => obtain ⟨a', ws, _, q1, _, q3, _⟩ := hd; rw [q1] at h; cases h; exact q3
    | sc ns => obtain ⟨a', _, rfl, _⟩ := hd; cases h
    | ob c fs => obtain ⟨a', _, q1, q2⟩ := hd; rw [q1] at h; cases h; exact q2.inO
  · rw [(slot i s h1).2.1] at h2; cases h2
  · rw [(slot i s h1).2.1] at h2; cases h2
end
section
variable {G : GE} {L : Nat} {P : Program} {w : World} {K : PySem.W.Frag} {mg : Str → Option Value} {base : Heap}
theorem body_ok {cls : Cls} {N : List Str} {hv : Hdv} {vs rest : List V} {ds : List PyData} {io : Option Addr} {O : List Addr} {H : Hp} {k : HdK} {s : FSpec} {p : Ss} {Q : VK} {E : XK} {m : Nat} (keeps : Keeps G N.length k m s p) (hk : hv.k = k) (hm : vs.length = m) (hn : m ≤ N.length)
    (hd : headOk K cls H O hv vs io rest) (r : Reps K (hid O H) rest ds) (oin : ∀ a ∈ O, H a ≠ none) (sp : Sep H O [] [] [] H O) (tb : Tb cls.T H O) (pre : s.pre hv ds) (post : ∀ r h v H' O', s.post hv ds r h → Left K cls io H O H' O' v r h → Q v H')
    (exc : ∀ x p h C d H' O', s.exc hv ds x p h → mg x = some (.ref C) → PayOk H' p d → Left K cls io H O H' O' .non (.v .none) h → E (.ref C) d H') :
    rdSs G ⟨K, H, O, io, cls⟩ mg (fun cls d _ H' => E cls d H') p { nx := fun _ H' => Q .non H', rt := Q } (L2.start N vs) H := by
  have hl := hdSl_len hd
  have rl := r.length
  refine ⟨env0 N.length hv ds, [], O, endP s hv ds, NoB.nil, good_start hd r oin sp tb (by omega), keeps hv ds hk (by omega) pre, ?_⟩
  have leave : ∀ (r : R) (v : V) (env : Mp.Env) (σ : St) (H' : Hp) (O' : List Addr) (P : Hdv → Prop), (∀ i, r ≠ .b i) → Good ⟨K, H, O, io, cls⟩ env σ [(v, r)] H' O' → endH hv env P → ∃ h, P h ∧ Left K cls io H O H' O' v r h := by
    intro r v env σ H' O' P nb g w
    have res : resOk K cls io H H' O' v r := by
      have t := g.tm _ List.mem_cons_self
      cases r with
      | v d => exact t
      | o xs => obtain ⟨a, ws, q1, q2, q3, q4, q5⟩ := t; exact ⟨a, ws, q1, q2, q3, q4, q5⟩
      | ob c fs => obtain ⟨a, q1, q2, q3⟩ := t; exact ⟨a, q1, q2, q3⟩
      | me => exact t
      | b i => exact absurd rfl (nb i)
    have sp' : Sep H O [] [] [(v, r)] H' O' := ⟨g.sep.nf, g.sep.wf, g.sep.one, fun i u h => by simp at h, g.sep.tm⟩
    have left : ∀ h : Hdv, (∀ xs, h = .io xs → ∃ a ws, io = some a ∧ H' a = some (.lst ws) ∧ Reps K (hid O' H') ws xs ∧ ∀ b ∈ O', ¬ fld H' b a) → (∀ c fs, h = .ob c fs → ∃ a, io = some a ∧ ObOk K cls H' O' (fun l => H l = none ∨ fld H a l) a c fs) → Left K cls io H O H' O' v r h :=
      fun h hh ho => ⟨g.keep, g.keep0, g.o0, g.new, g.oin, res, sp', hh, ho, g.tb⟩
    cases hv with
    | no => exact ⟨_, w, left _ (fun xs z => by cases z) fun c fs z => by cases z⟩
    | sc ns => exact ⟨_, w, left _ (fun xs z => by cases z) fun c fs z => by cases z⟩
    | io xs =>
      simp only [endH] at w
      cases e : env[0]? with
      | none => rw [e] at w; exact w.elim
      | some sl =>
        rw [e] at w
        cases sl with
        | io ys =>
          refine ⟨_, w, left _ (fun xs z => ?_) fun c fs z => by cases z⟩
          cases z
          obtain ⟨a, ws, q1, q2, q3, q4, q5⟩ := g.sl 0 _ e
          exact ⟨a, ws, q2, q3, q5, fun b hb k => g.sep.sl 0 _ e rfl b hb a k q1⟩
        | _ => exact w.elim
    | ob c fs =>
      simp only [endH] at w
      cases e : env[0]? with
      | none => rw [e] at w; exact w.elim
      | some sl =>
        rw [e] at w
        cases sl with
        | ib c' gs =>
          obtain ⟨rfl, w⟩ := w
          refine ⟨_, w, left _ (fun xs z => by cases z) fun c fs z => ?_⟩
          cases z
          obtain ⟨a, q1, q2, q3⟩ := g.sl 0 _ e
          exact ⟨a, q2, q3⟩
        | _ => exact w.elim
  have fin : ∀ (r : R) (v : V) (env : Mp.Env) (σ : St) (H' : Hp) (O' : List Addr), (∀ i, r ≠ .b i) → Good ⟨K, H, O, io, cls⟩ env σ [(v, r)] H' O' → endH hv env (s.post hv ds r) → Q v H' := fun r v env σ H' O' nb g w => by
    obtain ⟨h, w, l⟩ := leave r v env σ H' O' _ nb g w
    exact post _ _ _ _ _ w l
  refine ⟨fun env σ H' O' g w => ?_, fun env σ H' O' g w => w.elim, fun env σ H' O' g w => w.elim, fun r v env σ H' O' nb g w => fin r v env σ H' O' nb g w, fun x p C d env σ H' O' m pk g w => ?_⟩
  · exact fin (.v .none) .non env σ H' O' (fun i z => by cases z) (g.pushV .non) w
  · obtain ⟨h, w, l⟩ := leave (.v .none) .non env σ H' O' _ (fun i z => by cases z) (g.pushV .non) w
    exact exc x p h C d H' O' w m pk l
/-- THE RULE for a def -/
theorem def_ok {cls : Cls} {x qual : Str} {st : Stmt} {f : Addr} {fd : FuncData} {N ps : List Str} {k : HdK} {s : FSpec} {p : Ss} (F : Fun K x qual st f fd) (S : FnScope N ps (defScope st)) (kn : Kn G cls L P w K mg base) (chk : chkSs G N L (defScope st) p (defBody st) = true)
    (keeps : Keeps G N.length k ps.length s p) : FnOk P w K mg base (L2.CX P w) (L + 1) f fd ps (prom K cls mg k ps.length s) := by
  refine Fun.okX F S (fun vs H Q E ⟨hv, ds, O, io, rest, h1, h2, _⟩ => h2) fun cdv A outer s0 H vs Q E room ⟨hv, ds, O, io, rest, h1, h2, h3, h4, h5, hsp, htb, h6, h7, h8⟩ => ?_
  have hpl : ps.length ≤ N.length := by have := congrArg List.length S.pre; rw [List.length_take] at this; omega
  refine ⟨_, sndSs (F := ⟨K, H, O, io, cls⟩) (W := fun cls d _ H' => E cls d H') p ⟨⟨rfl, rfl, rfl, rfl, S.nd, room, takes_of rfl rfl rfl rfl, kn⟩, rfl, rfl, passes_of rfl, fun _ => rfl, S.kind⟩ chk, ?_⟩
  exact body_ok keeps h1 h2 hpl h3 h4 h5 hsp htb h6 h7 h8
end
end Mp

set_option Elab.async false
set_option linter.all false
set_option maxRecDepth 100000
set_option maxHeartbeats 1000000
/-! Mp, part 14: reading a body: rewriting rules, loops. -/
namespace Mp
open PySem PySem.Spec PyProof.Rows L2

def unpk (is : List Nat) (d : PyData) (env : Env) (Q : Env → Prop) : Prop := match d with
  | .tuple ds => ds.length = is.length ∧ Q (setMany is ds env)
  | .list ds => ds.length = is.length ∧ Q (setMany is ds env)
  | _ => False
def revR (x : Option PyData) (Q : List PyData → Prop) : Prop := match x with
  | some (.list ds) => Q ds.reverse
  | _ => False
def hdR (x : Option Bool) (a b : Prop) : Prop := match x with
  | some true => a
  | some false => b
  | none => False
def varR (x : Option Sl) (i : Nat) (Q : R → Prop) : Prop := match x with
  | some (.v d) => Q (.v d)
  | some (.o _) => Q (.b i)
  | some (.io _) => Q (.b i)
  | some (.sc _) => Q (.b i)
  | _ => False
def bD (x : Option Sl) : Option PyData := match x with
  | some s => s.d
  | none => none
def bQ (x : Option Sl) : Option PyData := match x with
  | some (.sc ns) => some (.list (ns.map .int))
  | some s => s.d
  | none => none
def bSh (x : Option Sl) (j : Nat) (env : Env) : Option (PyData × Env) := match x with
  | some (.v d) => some (d, env)
  | some (.o ds) => some (.list ds, env.set j (.v (.list ds)))
  | _ => none
def bGive (x : Option Sl) (j : Nat) (env : Env) (Q : R → Env → Prop) : Prop := match x with
  | some (.v d) => Q (.v d) env
  | some (.o ds) => Q (.o ds) (env.set j .no)
  | _ => False
def isR2 (x : Option Bool) (Q : Bool → Prop) : Prop := match x with
  | some b => Q b
  | none => False
def zipR (d e : PyData) (Q : List PyData → Prop) : Prop := match d, e with
  | .list ds, .list es => Q (zipD ds es)
  | .tuple ds, .tuple es => Q (zipD ds es)
  | _, _ => False

@[simp] theorem line_val : line = 16777216 := rfl
instance : Inhabited Hdv := ⟨.no⟩
instance : Inhabited R := ⟨.v .none⟩
/-! ### reading goes on only at slots that are written out -/
def seqK (G : GE) (r : Ss) (D : Pst) : Env → Prop := fun e => wpSs G r e D
def forR (G : GE) (tg : Tg) (b : Ss) (items : List PyData) (env : Env) (D : Pst) : Prop := forL (fun d e K => setTg tg d e fun e1 => wpSs G b e1 { D with nx := K, ct := K, bk := D.nx }) items env D.nx
def whlR (G : GE) (t : P) (b : Ss) (env : Env) (D : Pst) : Prop := wpS G (.whl t b) env D
def cmpR (G : GE) (own : List Nat) (tg : Tg) (c : Po) (elt : P) (items : List PyData) (env : Env) (Q : R → Env → Prop) : Prop :=
  compL (cturn G own tg c elt) items [] (wipeE env own) fun ds env' => Q (.o ds) env'
section
variable {G : GE} {s : Sl} {z : Env} {D : Pst} {Q : R → Env → Prop} {E : EX}
@[simp ↓] theorem seqK_at {r : Ss} : seqK G r D (s :: z) = wpSs G r (s :: z) D := rfl
@[simp ↓] theorem w_nil : wpSs G .nil (s :: z) D = D.nx (s :: z) := rfl
@[simp ↓] theorem w_cons {a : S} {r : Ss} : wpSs G (.cons a r) (s :: z) D = wpS G a (s :: z) { D with nx := seqK G r D } := rfl
@[simp ↓] theorem s_asg {i : Nat} {e : P} : wpS G (.asg i e) (s :: z) D = (wpE G e (s :: z) (fun r env1 => store i r env1 D.nx) D.ex) := rfl
@[simp ↓] theorem s_asgT {is : List Nat} {e : P} : wpS G (.asgT is e) (s :: z) D = (wpE G e (s :: z) (fun r env1 => withS (r.sh env1) fun d env2 => unpk is d env2 D.nx) D.ex) := rfl
@[simp ↓] theorem s_par {is : List Nat} {es : Ps} : wpS G (.par is es) (s :: z) D = (wpEs G es (s :: z) (fun ds env1 => ds.length = is.length ∧ D.nx (setMany is ds env1)) D.ex) := rfl
@[simp ↓] theorem s_setIx {i : Nat} {ix e : P} : wpS G (.setIx i ix e) (s :: z) D = (wpE G e (s :: z) (fun r env1 => withS (r.sh env1) fun d env2 => ioSlot env2[i]? fun _ _ => wpE G ix env2 (fun k env3 => asI (k.d env3) fun n => ioSlot env3[i]? fun ds mk => ixSet ds n fun j => D.nx (env3.set i (mk (ds.set j d)))) D.ex) D.ex) := rfl
@[simp ↓] theorem s_app {i : Nat} {e : P} : wpS G (.app i e) (s :: z) D = (ioSlot (s :: z)[i]? fun _ _ => wpE G e (s :: z) (fun r env1 => withS (r.sh env1) fun d env2 => ioSlot env2[i]? fun ds mk => ds.length < line ∧ D.nx (env2.set i (mk (ds ++ [d])))) D.ex) := rfl
@[simp ↓] theorem s_ite {t : P} {a b : Ss} : wpS G (.ite t a b) (s :: z) D = (wpE G t (s :: z) (fun x env1 => asB x fun k => if k = true then wpSs G a env1 D else wpSs G b env1 D) D.ex) := rfl
@[simp ↓] theorem s_whl {t : P} {b : Ss} : wpS G (.whl t b) (s :: z) D = (whlR G t b (s :: z) D) := rfl
@[simp ↓] theorem s_for {tg : Tg} {w : Wk} {b : Ss} : wpS G (.for_ tg w b) (s :: z) D = (wpW G w (s :: z) (fun items env1 => forR G tg b items env1 D) D.ex) := rfl
@[simp ↓] theorem s_ret {e : P} : wpS G (.ret e) (s :: z) D = (wpE G e (s :: z) (fun r env1 => give r env1 D.rt) D.ex) := rfl
@[simp ↓] theorem s_raise {x : Str} : wpS G (.raise x) (s :: z) D = (D.ex x .none (s :: z)) := rfl
@[simp ↓] theorem s_brk : wpS G (.brk) (s :: z) D = (D.bk (s :: z)) := rfl
@[simp ↓] theorem s_cont : wpS G (.cont) (s :: z) D = (D.ct (s :: z)) := rfl
@[simp ↓] theorem s_pass : wpS G (.pass) (s :: z) D = (D.nx (s :: z)) := rfl
@[simp ↓] theorem s_try {b : Ss} {hs : List (Str × Su)} : wpS G (.try_ b hs) (s :: z) D = (wpSs G b (s :: z) { D with ex := fun x p e => handle G D x p e hs }) := rfl
@[simp ↓] theorem s_xp {e : P} : wpS G (.xp e) (s :: z) D = (wpE G e (s :: z) (fun _ env1 => D.nx env1) D.ex) := rfl
@[simp ↓] theorem e_var {i : Nat} : wpE G (.var i) (s :: z) Q E = varR (s :: z)[i]? i (fun r => Q r (s :: z)) := rfl
@[simp ↓] theorem e_int {i : Int} : wpE G (.int i) (s :: z) Q E = (Q (.v (.int i)) (s :: z)) := rfl
@[simp ↓] theorem e_bl {i : Bool} : wpE G (.bl i) (s :: z) Q E = (Q (.v (.bool i)) (s :: z)) := rfl
@[simp ↓] theorem e_non : wpE G (.non) (s :: z) Q E = (Q (.v .none) (s :: z)) := rfl
@[simp ↓] theorem e_str {i : Str} : wpE G (.str i) (s :: z) Q E = (Q (.v (.str i)) (s :: z)) := rfl
@[simp ↓] theorem e_con {k : Nat} : wpE G (.con k) (s :: z) Q E = (match G.con k with
  | some (_, d) => Q (.v d) (s :: z)
  | none => False) := rfl
@[simp ↓] theorem e_bin {op : Operator} {a b : P} : wpE G (.bin op a b) (s :: z) Q E = (wpE G a (s :: z) (fun x env1 => wpE G b env1 (fun y env2 => withD (x.d env2) fun d => withD (y.d env2) fun e => opB op d e fun r => Q r env2) E) E) := rfl
@[simp ↓] theorem e_neg {a : P} : wpE G (.neg a) (s :: z) Q E = (wpE G a (s :: z) (fun x env1 => asI (x.d env1) fun i => Q (.v (.int (-i))) env1) E) := rfl
@[simp ↓] theorem e_cmp {op : CmpOp} {a b : P} : wpE G (.cmp op a b) (s :: z) Q E = (wpE G a (s :: z) (fun x env1 => wpE G b env1 (fun y env2 => withD (x.d env2) fun d => withD (y.d env2) fun e => opC op d e fun r => Q (.v (.bool r)) env2) E) E) := rfl
@[simp ↓] theorem e_chn {op op' : CmpOp} {a b c : P} : wpE G (.chn op op' a b c) (s :: z) Q E = (wpE G a (s :: z) (fun x env1 => wpE G b env1 (fun y env2 => withD (x.d env2) fun d => withD (y.d env2) fun e => opC op d e fun r => if r = true then wpE G c env2 (fun u env3 => withD (y.d env3) fun e' => withD (u.d env3) fun g => opC op' e' g fun r' => Q (.v (.bool r')) env3) E else Q (.v (.bool false)) env2) E) E) := rfl
@[simp ↓] theorem e_bop {k : Bool} {es : Ps} : wpE G (.bop k es) (s :: z) Q E = (wpBop G k es (s :: z) Q E) := rfl
@[simp ↓] theorem e_not {a : P} : wpE G (.not a) (s :: z) Q E = (wpE G a (s :: z) (fun x env1 => asB x fun b => Q (.v (.bool (!b))) env1) E) := rfl
@[simp ↓] theorem e_ife {t a b : P} : wpE G (.ife t a b) (s :: z) Q E = (wpE G t (s :: z) (fun x env1 => asB x fun k => if k = true then wpE G a env1 Q E else wpE G b env1 Q E) E) := rfl
@[simp ↓] theorem e_tup {es : Ps} : wpE G (.tup es) (s :: z) Q E = (wpEs G es (s :: z) (fun ds env1 => ds.length ≤ line ∧ Q (.v (.tuple ds)) env1) E) := rfl
@[simp ↓] theorem e_lst {es : Ps} : wpE G (.lst es) (s :: z) Q E = (wpEs G es (s :: z) (fun ds env1 => ds.length ≤ line ∧ Q (.o ds) env1) E) := rfl
@[simp ↓] theorem e_ix {a i : P} : wpE G (.ix a i) (s :: z) Q E = (wpE G a (s :: z) (fun x env1 => wpE G i env1 (fun y env2 => withD (x.q env2) fun d => withD (y.d env2) fun e => opI d e fun r => Q r env2) E) E) := rfl
@[simp ↓] theorem e_sl {a : P} {lo hi : Po} : wpE G (.sl a lo hi) (s :: z) Q E = (wpE G a (s :: z) (fun x env1 => wpPo G lo env1 (fun l env2 => wpPo G hi env2 (fun u env3 => withD (x.d env3) fun d => opS d l u fun r => Q r env3) E) E) E) := rfl
@[simp ↓] theorem e_rev {a : P} : wpE G (.rev a) (s :: z) Q E = (wpE G a (s :: z) (fun x env1 => revR (x.d env1) fun ds => Q (.o ds) env1) E) := rfl
@[simp ↓] theorem e_call {k : Nat} {es : Ps} : wpE G (.call k es) (s :: z) Q E = (wpEs G es (s :: z) (fun ds env1 => (G.fns k).pre .no ds ∧ (∀ r h, (G.fns k).post .no ds r h → Q r env1) ∧ ∀ x p h, (G.fns k).exc .no ds x p h → E x p env1) E) := rfl
@[simp ↓] theorem e_callIo {k i : Nat} {es : Ps} : wpE G (.callIo k i es) (s :: z) Q E = (ioSlot (s :: z)[i]? (fun _ _ => wpEs G es (s :: z) (fun ds env1 => ioSlot env1[i]? fun xs mk => (G.fns k).pre (.io xs) ds ∧ (∀ r h, (G.fns k).post (.io xs) ds r h → ∃ ys, h = .io ys ∧ Q (unMe i r) (env1.set i (mk ys))) ∧ ∀ x p h, (G.fns k).exc (.io xs) ds x p h → ∃ ys, h = .io ys ∧ E x p (env1.set i (mk ys))) E)) := rfl
@[simp ↓] theorem e_callSc {k i : Nat} {es : Ps} : wpE G (.callSc k i es) (s :: z) Q E = (scSlot (s :: z)[i]? (fun _ => wpEs G es (s :: z) (fun ds env1 => scSlot env1[i]? fun ns => (G.fns k).pre (.sc ns) ds ∧ (∀ r h, (G.fns k).post (.sc ns) ds r h → Q r env1) ∧ ∀ x p h, (G.fns k).exc (.sc ns) ds x p h → E x p env1) E)) := rfl
@[simp ↓] theorem e_len {a : P} : wpE G (.len a) (s :: z) Q E = (wpE G a (s :: z) (fun x env1 => withD (x.q env1) fun d => opLen d fun n => Q (.v (.int n)) env1) E) := rfl
@[simp ↓] theorem e_blt {f : Bf} {es : Ps} : wpE G (.blt f es) (s :: z) Q E = (wpBs G es (s :: z) (fun ds env1 => opF f ds fun r => Q r env1) E) := rfl
@[simp ↓] theorem e_isin {a : P} {t : String} : wpE G (.isin a t) (s :: z) Q E = (wpE G a (s :: z) (fun x env1 => withD (x.d env1) fun d => isR2 (isTy d t) fun b => Q (.v (.bool b)) env1) E) := rfl
@[simp ↓] theorem e_comp {own : List Nat} {w : Wk} {tg : Tg} {c : Po} {elt : P} : wpE G (.comp own w tg c elt) (s :: z) Q E = (wpW G w (s :: z) (fun items env1 => cmpR G own tg c elt items env1 Q) E) := rfl
@[simp ↓] theorem e_dead : wpE G (.dead) (s :: z) Q E = (False) := rfl

@[simp ↓] theorem es_nil {Q : List PyData → Env → Prop} : wpEs G .nil (s :: z) Q E = Q [] (s :: z) := rfl
@[simp ↓] theorem es_cons {Q : List PyData → Env → Prop} {a : P} {r : Ps} : wpEs G (.cons a r) (s :: z) Q E = wpE G a (s :: z) (fun x env1 => withS (x.sh env1) fun d env2 => wpEs G r env2 (fun ds env3 => Q (d :: ds) env3) E) E := rfl
@[simp ↓] theorem bs_nil {Q : List PyData → Env → Prop} : wpBs G .nil (s :: z) Q E = Q [] (s :: z) := rfl
@[simp ↓] theorem bs_cons {Q : List PyData → Env → Prop} {a : P} {r : Ps} : wpBs G (.cons a r) (s :: z) Q E = wpE G a (s :: z) (fun x env1 => wpBs G r env1 (fun ds env2 => withD (x.d env2) fun d => Q (d :: ds) env2) E) E := rfl
@[simp ↓] theorem bop_one {k : Bool} {a : P} : wpBop G k (.cons a .nil) (s :: z) Q E = wpE G a (s :: z) Q E := rfl
@[simp ↓] theorem bop_two {k : Bool} {a b : P} {r : Ps} : wpBop G k (.cons a (.cons b r)) (s :: z) Q E = wpE G a (s :: z) (fun x env1 => asB x fun c => if c = k then wpBop G k (.cons b r) env1 Q E else Q (.v (.bool c)) env1) E := rfl
@[simp ↓] theorem po_n {Q : Option Int → Env → Prop} : wpPo G .none (s :: z) Q E = Q none (s :: z) := rfl
@[simp ↓] theorem po_s {Q : Option Int → Env → Prop} {a : P} : wpPo G (.some a) (s :: z) Q E = wpE G a (s :: z) (fun x env1 => asI (x.d env1) fun i => Q (some i) env1) E := rfl
@[simp ↓] theorem pc_n {Q : Bool → Env → Prop} : wpPc G .none (s :: z) Q E = Q true (s :: z) := rfl
@[simp ↓] theorem pc_s {Q : Bool → Env → Prop} {a : P} : wpPc G (.some a) (s :: z) Q E = wpE G a (s :: z) (fun x env1 => asB x fun b => Q b env1) E := rfl
@[simp ↓] theorem wk_seq' {Q : List PyData → Env → Prop} {a : P} : wpW G (.seq a) (s :: z) Q E = wpE G a (s :: z) (fun x env1 => seqOf (x.sh env1) Q) E := rfl
@[simp ↓] theorem wk_r1' {Q : List PyData → Env → Prop} {a : P} : wpW G (.rng1 a) (s :: z) Q E = wpE G a (s :: z) (fun x env1 => asI (x.d env1) fun n => (-(2 ^ 62) ≤ n ∧ n < 2 ^ 62) ∧ Q (rngD 0 n.toNat) env1) E := rfl
@[simp ↓] theorem wk_r2' {Q : List PyData → Env → Prop} {a b : P} : wpW G (.rng2 a b) (s :: z) Q E = wpE G a (s :: z) (fun x env1 => wpE G b env1 (fun y env2 => asI (x.d env2) fun m => asI (y.d env2) fun n => (-(2 ^ 62) ≤ m ∧ m < 2 ^ 62 ∧ -(2 ^ 62) ≤ n ∧ n < 2 ^ 62) ∧ Q (rngD m (n - m).toNat) env2) E) E := rfl
@[simp ↓] theorem wk_en' {Q : List PyData → Env → Prop} {a : P} : wpW G (.enum a) (s :: z) Q E = wpE G a (s :: z) (fun x env1 => seqOf (x.sh env1) fun ds env2 => Q (enumD 0 ds) env2) E := rfl
@[simp ↓] theorem wk_zip' {Q : List PyData → Env → Prop} {a b : P} : wpW G (.zip a b) (s :: z) Q E = wpE G a (s :: z) (fun x env1 => withS (x.sh env1) fun d env2 => wpE G b env2 (fun y env3 => withS (y.sh env3) fun e env4 => zipR d e fun l => Q l env4) E) E := rfl
end
@[simp ↓] theorem q_dv {d : PyData} {env : Env} {Q : PyData → Prop} : withD (R.d env (.v d)) Q = Q d := rfl
@[simp ↓] theorem q_do {d : List PyData} {env : Env} {Q : PyData → Prop} : withD (R.d env (.o d)) Q = Q (.list d) := rfl
@[simp ↓] theorem q_qv {d : PyData} {env : Env} {Q : PyData → Prop} : withD (R.q env (.v d)) Q = Q d := rfl
@[simp ↓] theorem q_qo {d : List PyData} {env : Env} {Q : PyData → Prop} : withD (R.q env (.o d)) Q = Q (.list d) := rfl
@[simp ↓] theorem q_sv {d : PyData} {env : Env} {Q : PyData → Env → Prop} : withS (R.sh env (.v d)) Q = Q d env := rfl
@[simp ↓] theorem q_so {d : List PyData} {env : Env} {Q : PyData → Env → Prop} : withS (R.sh env (.o d)) Q = Q (.list d) env := rfl
@[simp ↓] theorem q_ai {i : Int} {env : Env} {Q : Int → Prop} : asI (R.d env (.v (.int i))) Q = Q i := rfl
@[simp ↓] theorem q_ab {b : Bool} {Q : Bool → Prop} : asB (.v (.bool b)) Q = Q b := rfl
@[simp] theorem r_withD {d : PyData} {Q : PyData → Prop} : withD (some d) Q = (Q d) := rfl
@[simp] theorem r_withS {d : PyData} {e : Env} {Q : PyData → Env → Prop} : withS (some (d, e)) Q = (Q d e) := rfl
@[simp] theorem r_asB {b : Bool} {Q : Bool → Prop} : asB (.v (.bool b)) Q = (Q b) := rfl
@[simp] theorem r_asI {b : Int} {Q : Int → Prop} : asI (some (.int b)) Q = (Q b) := rfl
@[simp] theorem r_seqL {ds : List PyData} {e : Env} {Q : List PyData → Env → Prop} : seqOf (some (.list ds, e)) Q = (Q ds e) := rfl
@[simp] theorem r_seqT {ds : List PyData} {e : Env} {Q : List PyData → Env → Prop} : seqOf (some (.tuple ds, e)) Q = (Q ds e) := rfl
@[simp] theorem r_ioO {xs : List PyData} {Q : List PyData → (List PyData → Sl) → Prop} : ioSlot (some (.o xs)) Q = (Q xs Sl.o) := rfl
@[simp] theorem r_ioI {xs : List PyData} {Q : List PyData → (List PyData → Sl) → Prop} : ioSlot (some (.io xs)) Q = (Q xs Sl.io) := rfl
@[simp] theorem r_sc {xs : List Int} {Q : List Int → Prop} : scSlot (some (.sc xs)) Q = (Q xs) := rfl
@[simp] theorem r_is2 {b : Bool} {Q : Bool → Prop} : isR2 (some b) Q = (Q b) := rfl
@[simp] theorem r_zL {ds es : List PyData} {Q : List PyData → Prop} : zipR (.list ds) (.list es) Q = (Q (zipD ds es)) := rfl
@[simp] theorem r_zT {ds es : List PyData} {Q : List PyData → Prop} : zipR (.tuple ds) (.tuple es) Q = (Q (zipD ds es)) := rfl
@[simp] theorem r_unT {is : List Nat} {ds : List PyData} {env : Env} {Q : Env → Prop} : unpk is (.tuple ds) env Q = (ds.length = is.length ∧ Q (setMany is ds env)) := rfl
@[simp] theorem r_unL {is : List Nat} {ds : List PyData} {env : Env} {Q : Env → Prop} : unpk is (.list ds) env Q = (ds.length = is.length ∧ Q (setMany is ds env)) := rfl
@[simp] theorem r_rev {ds : List PyData} {Q : List PyData → Prop} : revR (some (.list ds)) Q = (Q ds.reverse) := rfl
@[simp] theorem r_vV {d : PyData} {i : Nat} {Q : R → Prop} : varR (some (.v d)) i Q = (Q (.v d)) := rfl
@[simp] theorem r_vO {d : List PyData} {i : Nat} {Q : R → Prop} : varR (some (.o d)) i Q = (Q (.b i)) := rfl
@[simp] theorem r_vI {d : List PyData} {i : Nat} {Q : R → Prop} : varR (some (.io d)) i Q = (Q (.b i)) := rfl
@[simp] theorem r_vS {d : List Int} {i : Nat} {Q : R → Prop} : varR (some (.sc d)) i Q = (Q (.b i)) := rfl
@[simp] theorem r_Rd_v {d : PyData} {env : Env} : R.d env (.v d) = (some d) := rfl
@[simp] theorem r_Rd_o {d : List PyData} {env : Env} : R.d env (.o d) = (some (.list d)) := rfl
@[simp] theorem r_Rq_v {d : PyData} {env : Env} : R.q env (.v d) = (some d) := rfl
@[simp] theorem r_Rq_o {d : List PyData} {env : Env} : R.q env (.o d) = (some (.list d)) := rfl
@[simp] theorem r_Rsh_v {d : PyData} {env : Env} : R.sh env (.v d) = (some (d, env)) := rfl
@[simp] theorem r_Rsh_o {d : List PyData} {env : Env} : R.sh env (.o d) = (some (.list d, env)) := rfl
@[simp] theorem r_Rd_b {i : Nat} {s : Sl} {z : Env} : R.d (s :: z) (.b i) = (bD (s :: z)[i]?) := rfl
@[simp] theorem r_Rq_b {i : Nat} {s : Sl} {z : Env} : R.q (s :: z) (.b i) = (bQ (s :: z)[i]?) := rfl
@[simp] theorem r_Rs_b {i : Nat} {s : Sl} {z : Env} : R.sh (s :: z) (.b i) = (bSh (s :: z)[i]? i (s :: z)) := rfl
@[simp] theorem r_bD_v {d : PyData} : bD (some (.v d)) = (some d) := rfl
@[simp] theorem r_bD_o {d : List PyData} : bD (some (.o d)) = (some (.list d)) := rfl
@[simp] theorem r_bD_i {d : List PyData} : bD (some (.io d)) = (some (.list d)) := rfl
@[simp] theorem r_bQ_v {d : PyData} : bQ (some (.v d)) = (some d) := rfl
@[simp] theorem r_bQ_o {d : List PyData} : bQ (some (.o d)) = (some (.list d)) := rfl
@[simp] theorem r_bQ_i {d : List PyData} : bQ (some (.io d)) = (some (.list d)) := rfl
@[simp] theorem r_bQ_s {d : List Int} : bQ (some (.sc d)) = (some (.list (d.map .int))) := rfl
@[simp] theorem r_bS_v {d : PyData} {j : Nat} {env : Env} : bSh (some (.v d)) j env = (some (d, env)) := rfl
@[simp] theorem r_bS_o {d : List PyData} {j : Nat} {env : Env} : bSh (some (.o d)) j env = (some (.list d, env.set j (.v (.list d)))) := rfl
@[simp] theorem r_bG_v {d : PyData} {j : Nat} {env : Env} {Q : R → Env → Prop} : bGive (some (.v d)) j env Q = (Q (.v d) env) := rfl
@[simp] theorem r_bG_o {d : List PyData} {j : Nat} {env : Env} {Q : R → Env → Prop} : bGive (some (.o d)) j env Q = (Q (.o d) (env.set j .no)) := rfl
@[simp] theorem r_st_v {d : PyData} {i : Nat} {env : Env} {Q : Env → Prop} : store i (.v d) env Q = (Q (env.set i (.v d))) := rfl
@[simp] theorem r_st_o {d : List PyData} {i : Nat} {env : Env} {Q : Env → Prop} : store i (.o d) env Q = (Q (env.set i (.o d))) := rfl
@[simp] theorem r_st_b {j i : Nat} {s : Sl} {z : Env} {Q : Env → Prop} : store i (.b j) (s :: z) Q = (withS (R.sh (s :: z) (.b j)) fun d env1 => Q (env1.set i (.v d))) := rfl
@[simp] theorem r_gi_v {d : PyData} {env : Env} {Q : R → Env → Prop} : give (.v d) env Q = (Q (.v d) env) := rfl
@[simp] theorem r_gi_o {d : List PyData} {env : Env} {Q : R → Env → Prop} : give (.o d) env Q = (Q (.o d) env) := rfl
@[simp] theorem r_gi_b {j : Nat} {s : Sl} {z : Env} {Q : R → Env → Prop} : give (.b j) (s :: z) Q = (bGive (s :: z)[j]? j (s :: z) Q) := rfl
@[simp] theorem r_opAdd {i j : Int} {Q : R → Prop} : opB .Add (.int i) (.int j) Q = (Q (.v (.int (i + j)))) := rfl
@[simp] theorem r_opSub {i j : Int} {Q : R → Prop} : opB .Sub (.int i) (.int j) Q = (Q (.v (.int (i - j)))) := rfl
@[simp] theorem r_opMult {i j : Int} {Q : R → Prop} : opB .Mult (.int i) (.int j) Q = (MulOk i j ∧ Q (.v (.int (i * j)))) := rfl
@[simp] theorem r_opFloorDiv {i j : Int} {Q : R → Prop} : opB .FloorDiv (.int i) (.int j) Q = ((0 < j ∧ j.natAbs.log2 < 9000) ∧ Q (.v (.int (i / j)))) := rfl
@[simp] theorem r_opMod {i j : Int} {Q : R → Prop} : opB .Mod (.int i) (.int j) Q = (0 < j ∧ Q (.v (.int (i % j)))) := rfl
@[simp] theorem r_opPow {i j : Int} {Q : R → Prop} : opB .Pow (.int i) (.int j) Q = ((0 ≤ j ∧ j ≤ 1000000 ∧ i.natAbs < 2 ^ 64) ∧ Q (.v (.int (i ^ j.toNat)))) := rfl
@[simp] theorem r_opAddL {xs ys : List PyData} {Q : R → Prop} : opB .Add (.list xs) (.list ys) Q = (xs.length + ys.length ≤ line ∧ Q (.o (xs ++ ys))) := rfl
@[simp] theorem r_opAddT {xs ys : List PyData} {Q : R → Prop} : opB .Add (.tuple xs) (.tuple ys) Q = (xs.length + ys.length ≤ line ∧ Q (.v (.tuple (xs ++ ys)))) := rfl
@[simp] theorem r_opAddS {a b : Str} {Q : R → Prop} : opB .Add (.str a) (.str b) Q = (a.length + b.length ≤ line ∧ Q (.v (.str (a ++ b)))) := rfl
@[simp] theorem r_opMulL {xs : List PyData} {k : Int} {Q : R → Prop} : opB .Mult (.list xs) (.int k) Q = ((-(2 ^ 63) ≤ k ∧ k < 2 ^ 63 ∧ xs.length * k.toNat ≤ line) ∧ Q (.o (List.replicate k.toNat xs).flatten)) := rfl
@[simp] theorem r_opMulT {xs : List PyData} {k : Int} {Q : R → Prop} : opB .Mult (.tuple xs) (.int k) Q = ((xs ≠ [] ∧ 2 ≤ k ∧ k ≤ 1000 ∧ xs.length ≤ 1000) ∧ Q (.v (.tuple (List.replicate k.toNat xs).flatten))) := rfl
@[simp] theorem r_cEq {x y : PyData} {Q : Bool → Prop} : opC .Eq x y Q = (eqOk x y = true ∧ Q (PyData.eqv x y)) := rfl
@[simp] theorem r_cNe {x y : PyData} {Q : Bool → Prop} : opC .NotEq x y Q = (eqOk x y = true ∧ Q (!PyData.eqv x y)) := rfl
@[simp] theorem r_cLt {i j : Int} {Q : Bool → Prop} : opC .Lt (.int i) (.int j) Q = (Q (decide (i < j))) := rfl
@[simp] theorem r_cLtE {i j : Int} {Q : Bool → Prop} : opC .LtE (.int i) (.int j) Q = (Q (decide (i ≤ j))) := rfl
@[simp] theorem r_cGt {i j : Int} {Q : Bool → Prop} : opC .Gt (.int i) (.int j) Q = (Q (decide (j < i))) := rfl
@[simp] theorem r_cGtE {i j : Int} {Q : Bool → Prop} : opC .GtE (.int i) (.int j) Q = (Q (decide (j ≤ i))) := rfl
@[simp] theorem r_cIs {x : PyData} {Q : Bool → Prop} : opC .Is x .none Q = (Q (isNone x)) := rfl
@[simp] theorem r_cNs {x : PyData} {Q : Bool → Prop} : opC .IsNot x .none Q = (Q (!isNone x)) := rfl
@[simp] theorem r_cInlist {x : PyData} {ds : List PyData} {Q : Bool → Prop} : opC .In x (.list ds) Q = ((SeqAt.shaped x = true ∧ SeqAt.shaped (.list ds) = true) ∧ Q (ds.any fun z => PyData.eqv z x)) := rfl
@[simp] theorem r_cNilist {x : PyData} {ds : List PyData} {Q : Bool → Prop} : opC .NotIn x (.list ds) Q = ((SeqAt.shaped x = true ∧ SeqAt.shaped (.list ds) = true) ∧ Q (!ds.any fun z => PyData.eqv z x)) := rfl
@[simp] theorem r_cIntuple {x : PyData} {ds : List PyData} {Q : Bool → Prop} : opC .In x (.tuple ds) Q = ((SeqAt.shaped x = true ∧ SeqAt.shaped (.tuple ds) = true) ∧ Q (ds.any fun z => PyData.eqv z x)) := rfl
@[simp] theorem r_cNituple {x : PyData} {ds : List PyData} {Q : Bool → Prop} : opC .NotIn x (.tuple ds) Q = ((SeqAt.shaped x = true ∧ SeqAt.shaped (.tuple ds) = true) ∧ Q (!ds.any fun z => PyData.eqv z x)) := rfl
@[simp] theorem r_iL {ds : List PyData} {k : Int} {Q : R → Prop} : opI (.list ds) (.int k) Q = (ixAt ds k fun d => Q (.v d)) := rfl
@[simp] theorem r_iT {ds : List PyData} {k : Int} {Q : R → Prop} : opI (.tuple ds) (.int k) Q = (ixAt ds k fun d => Q (.v d)) := rfl
@[simp] theorem r_sL {ds : List PyData} {lo hi : Option Int} {Q : R → Prop} : opS (.list ds) lo hi Q = (Q (.o (cutD ds lo hi))) := rfl
@[simp] theorem r_sT {ds : List PyData} {lo hi : Option Int} {Q : R → Prop} : opS (.tuple ds) lo hi Q = (Q (.v (.tuple (cutD ds lo hi)))) := rfl
@[simp] theorem r_lL {ds : List PyData} {Q : Int → Prop} : opLen (.list ds) Q = (Q ds.length) := rfl
@[simp] theorem r_lT {ds : List PyData} {Q : Int → Prop} : opLen (.tuple ds) Q = (Q ds.length) := rfl
@[simp] theorem r_lS {d : Str} {Q : Int → Prop} : opLen (.str d) Q = (d.length ≤ line ∧ Q d.length) := rfl
@[simp] theorem r_fabs {i : Int} {Q : R → Prop} : opF .abs [.int i] Q = (Q (.v (.int (if i < 0 then -i else i)))) := rfl
@[simp] theorem r_fint {i : Int} {Q : R → Prop} : opF .int [.int i] Q = (Q (.v (.int i))) := rfl
@[simp] theorem r_fintb {k : Bool} {Q : R → Prop} : opF .int [.bool k] Q = (Q (.v (.int (if k then 1 else 0)))) := rfl
@[simp] theorem r_fbool {i : Int} {Q : R → Prop} : opF .bool [.int i] Q = (Q (.v (.bool (i != 0)))) := rfl
@[simp] theorem r_fboolb {k : Bool} {Q : R → Prop} : opF .bool [.bool k] Q = (Q (.v (.bool k))) := rfl
@[simp] theorem r_fstr {i : Int} {Q : R → Prop} : opF .str [.int i] Q = (i.natAbs.log2 < 1920 ∧ Q (.v (.str (toString i)))) := rfl
@[simp] theorem r_fall {ds : List PyData} {Q : R → Prop} : opF .all [.list ds] Q = (withBs (bools? ds) fun bs => Q (.v (.bool (bs.all id)))) := rfl
@[simp] theorem r_fany {ds : List PyData} {Q : R → Prop} : opF .any [.list ds] Q = (withBs (bools? ds) fun bs => Q (.v (.bool (bs.any id)))) := rfl
@[simp] theorem r_ftl {ds : List PyData} {Q : R → Prop} : opF .tuple [.list ds] Q = (Q (.v (.tuple ds))) := rfl
@[simp] theorem r_ftt {ds : List PyData} {Q : R → Prop} : opF .tuple [.tuple ds] Q = (Q (.v (.tuple ds))) := rfl
@[simp] theorem r_fll {ds : List PyData} {Q : R → Prop} : opF .list [.list ds] Q = (Q (.o ds)) := rfl
@[simp] theorem r_flt {ds : List PyData} {Q : R → Prop} : opF .list [.tuple ds] Q = (Q (.o ds)) := rfl
@[simp] theorem r_fmax {i j : Int} {Q : R → Prop} : opF .max2 [.int i, .int j] Q = (Q (.v (.int (if j > i then j else i)))) := rfl
@[simp] theorem r_fmin {i j : Int} {Q : R → Prop} : opF .min2 [.int i, .int j] Q = (Q (.v (.int (if j < i then j else i)))) := rfl
@[simp] theorem r_wBs {bs : List Bool} {Q : List Bool → Prop} : withBs (some bs) Q = (Q bs) := rfl
@[simp] theorem r_b_nil : bools? [] = (some []) := rfl
@[simp] theorem r_bmap {bs : List Bool} : bools? (bs.map .bool) = (some bs) := by
  induction bs with
  | nil => rfl
  | cons b r ih => simp only [List.map_cons, bools?, ih]
@[simp] theorem r_b_cons {b : Bool} {r : List PyData} : bools? (.bool b :: r) = ((bools? r).map (b :: ·)) := by simp only [bools?]; cases bools? r <;> rfl
@[simp] theorem r_tgN {i : Nat} {d : PyData} {env : Env} {Q : Env → Prop} : setTg (.nm i) d env Q = (Q (env.set i (.v d))) := rfl
@[simp] theorem r_tgT {is : List Nat} {ds : List PyData} {env : Env} {Q : Env → Prop} : setTg (.tp is) (.tuple ds) env Q = (ds.length = is.length ∧ Q (setMany is ds env)) := rfl
@[simp] theorem r_sm_n {ds : List PyData} {env : Env} : setMany [] ds env = (env) := rfl
@[simp] theorem r_sm_c {i : Nat} {is : List Nat} {d : PyData} {ds : List PyData} {env : Env} : setMany (i :: is) (d :: ds) env = (setMany is ds (env.set i (.v d))) := rfl
@[simp] theorem r_wi_n {env : Env} : wipeE env [] = (env) := rfl
@[simp] theorem r_wi_c {env : Env} {i : Nat} {is : List Nat} : wipeE env (i :: is) = ((wipeE env is).set i .no) := rfl
@[simp] theorem r_en_no {e : Env} {Q : Hdv → Prop} : endH .no e Q = (Q .no) := rfl
@[simp] theorem r_en_sc {e : Env} {ns : List Int} {Q : Hdv → Prop} : endH (.sc ns) e Q = (Q (.sc ns)) := rfl
@[simp] theorem r_en_io {e : Env} {xs ys : List PyData} {Q : Hdv → Prop} : endH (.io xs) (.io ys :: e) Q = (Q (.io ys)) := rfl
@[simp] theorem r_ep_rt {s : FSpec} {hv : Hdv} {ds : List PyData} : (endP s hv ds).rt = (fun r e => endH hv e (s.post hv ds r)) := rfl
@[simp] theorem r_ep_nx {s : FSpec} {hv : Hdv} {ds : List PyData} : (endP s hv ds).nx = (fun e => endH hv e (s.post hv ds (.v .none))) := rfl
@[simp] theorem r_ep_ex {s : FSpec} {hv : Hdv} {ds : List PyData} : (endP s hv ds).ex = (fun x p e => endH hv e (s.exc hv ds x p)) := rfl
@[simp] theorem r_hk1 : Hdv.k .no = (HdK.no) := rfl
@[simp] theorem r_hk2 {xs : List PyData} : Hdv.k (.io xs) = (HdK.io) := rfl
@[simp] theorem r_hk3 {xs : List Int} : Hdv.k (.sc xs) = (HdK.sc) := rfl
@[simp] theorem r_hs1 : hdSl .no = ([]) := rfl
@[simp] theorem r_hs2 {xs : List PyData} : hdSl (.io xs) = ([Sl.io xs]) := rfl
@[simp] theorem r_hs3 {xs : List Int} : hdSl (.sc xs) = ([Sl.sc xs]) := rfl
@[simp] theorem r_hnil {G : GE} {D : Pst} {x : Str} {p : PyData} {e : Env} : handle G D x p e [] = (D.ex x p e) := rfl
@[simp] theorem r_hcons {G : GE} {D : Pst} {x y : Str} {p : PyData} {u : Su} {e : Env} {r : List (Str × Su)} : handle G D x p e ((y, u) :: r) = (hdR (G.exm x y) (suD u e fun d => D.rt (.v d) e) (handle G D x p e r)) := rfl
@[simp] theorem su_bl {b : Bool} {e : Env} {Q : PyData → Prop} : suD (.bl b) e Q = Q (.bool b) := rfl
@[simp] theorem su_int {b : Int} {e : Env} {Q : PyData → Prop} : suD (.int b) e Q = Q (.int b) := rfl
@[simp] theorem su_str {b : Str} {e : Env} {Q : PyData → Prop} : suD (.str b) e Q = Q (.str b) := rfl
@[simp] theorem su_non {e : Env} {Q : PyData → Prop} : suD .non e Q = Q .none := rfl
theorem su_var {e : Env} {i : Nat} {d : PyData} {Q : PyData → Prop} (h : e[i]? = some (.v d)) (q : Q d) : suD (.var i) e Q := by show (match e[i]? with | some (.v d) => Q d | _ => False); rw [h]; exact q
@[simp] theorem r_hdt {a b : Prop} : hdR (some true) a b = (a) := rfl
@[simp] theorem r_hdf {a b : Prop} : hdR (some false) a b = (b) := rfl
@[simp] theorem ty_NoneType_int : isTy (.none) "int" = some false := by show L2.kitB "NoneType" "int" = _; decide +kernel
@[simp] theorem ty_NoneType_bool : isTy (.none) "bool" = some false := by show L2.kitB "NoneType" "bool" = _; decide +kernel
@[simp] theorem ty_NoneType_str : isTy (.none) "str" = some false := by show L2.kitB "NoneType" "str" = _; decide +kernel
@[simp] theorem ty_NoneType_tuple : isTy (.none) "tuple" = some false := by show L2.kitB "NoneType" "tuple" = _; decide +kernel
@[simp] theorem ty_NoneType_list : isTy (.none) "list" = some false := by show L2.kitB "NoneType" "list" = _; decide +kernel
@[simp] theorem ty_bool_int {b : Bool} : isTy (.bool b) "int" = some true := by show L2.kitB "bool" "int" = _; decide +kernel
@[simp] theorem ty_bool_bool {b : Bool} : isTy (.bool b) "bool" = some true := by show L2.kitB "bool" "bool" = _; decide +kernel
@[simp] theorem ty_bool_str {b : Bool} : isTy (.bool b) "str" = some false := by show L2.kitB "bool" "str" = _; decide +kernel
@[simp] theorem ty_bool_tuple {b : Bool} : isTy (.bool b) "tuple" = some false := by show L2.kitB "bool" "tuple" = _; decide +kernel
@[simp] theorem ty_bool_list {b : Bool} : isTy (.bool b) "list" = some false := by show L2.kitB "bool" "list" = _; decide +kernel
@[simp] theorem ty_int_int {i : Int} : isTy (.int i) "int" = some true := by show L2.kitB "int" "int" = _; decide +kernel
@[simp] theorem ty_int_bool {i : Int} : isTy (.int i) "bool" = some false := by show L2.kitB "int" "bool" = _; decide +kernel
@[simp] theorem ty_int_str {i : Int} : isTy (.int i) "str" = some false := by show L2.kitB "int" "str" = _; decide +kernel
@[simp] theorem ty_int_tuple {i : Int} : isTy (.int i) "tuple" = some false := by show L2.kitB "int" "tuple" = _; decide +kernel
@[simp] theorem ty_int_list {i : Int} : isTy (.int i) "list" = some false := by show L2.kitB "int" "list" = _; decide +kernel
@[simp] theorem ty_str_int {s : Str} : isTy (.str s) "int" = some false := by show L2.kitB "str" "int" = _; decide +kernel
@[simp] theorem ty_str_bool {s : Str} : isTy (.str s) "bool" = some false := by show L2.kitB "str" "bool" = _; decide +kernel
@[simp] theorem ty_str_str {s : Str} : isTy (.str s) "str" = some true := by show L2.kitB "str" "str" = _; decide +kernel
@[simp] theorem ty_str_tuple {s : Str} : isTy (.str s) "tuple" = some false := by show L2.kitB "str" "tuple" = _; decide +kernel
@[simp] theorem ty_str_list {s : Str} : isTy (.str s) "list" = some false := by show L2.kitB "str" "list" = _; decide +kernel
@[simp] theorem ty_list_int {l : List PyData} : isTy (.list l) "int" = some false := by show L2.kitB "list" "int" = _; decide +kernel
@[simp] theorem ty_list_bool {l : List PyData} : isTy (.list l) "bool" = some false := by show L2.kitB "list" "bool" = _; decide +kernel
@[simp] theorem ty_list_str {l : List PyData} : isTy (.list l) "str" = some false := by show L2.kitB "list" "str" = _; decide +kernel
@[simp] theorem ty_list_tuple {l : List PyData} : isTy (.list l) "tuple" = some false := by show L2.kitB "list" "tuple" = _; decide +kernel
@[simp] theorem ty_list_list {l : List PyData} : isTy (.list l) "list" = some true := by show L2.kitB "list" "list" = _; decide +kernel
@[simp] theorem ty_tuple_int {l : List PyData} : isTy (.tuple l) "int" = some false := by show L2.kitB "tuple" "int" = _; decide +kernel
@[simp] theorem ty_tuple_bool {l : List PyData} : isTy (.tuple l) "bool" = some false := by show L2.kitB "tuple" "bool" = _; decide +kernel
@[simp] theorem ty_tuple_str {l : List PyData} : isTy (.tuple l) "str" = some false := by show L2.kitB "tuple" "str" = _; decide +kernel
@[simp] theorem ty_tuple_tuple {l : List PyData} : isTy (.tuple l) "tuple" = some true := by show L2.kitB "tuple" "tuple" = _; decide +kernel
@[simp] theorem ty_tuple_list {l : List PyData} : isTy (.tuple l) "list" = some false := by show L2.kitB "tuple" "list" = _; decide +kernel
def popR (x : Option Sl) (Q : PyData → List PyData → Prop) : Prop := match x with
  | some (.o ds) => (match ds.getLast? with
    | some d => Q d ds.dropLast
    | none => False)
  | _ => False
@[simp ↓] theorem e_pop {G : GE} {s : Sl} {z : Env} {i : Nat} {Q : R → Env → Prop} {E : EX} : wpE G (.pop i) (s :: z) Q E = popR (s :: z)[i]? (fun d ds => Q (.v d) ((s :: z).set i (.o ds))) := by
  simp only [wpE, popR] <;> rfl
@[simp] theorem r_pop {l : List PyData} {d : PyData} {Q : PyData → List PyData → Prop} : popR (some (.o (l ++ [d]))) Q = Q d l := by simp [popR]
@[simp] theorem r_pop1 {d : PyData} {Q : PyData → List PyData → Prop} : popR (some (.o [d])) Q = Q d [] := r_pop (l := [])
/-! ### objects -/
section
variable {G : GE} {s : Sl} {z : Env} {D : Pst} {Q : R → Env → Prop} {E : EX} {c : Nat} {fs : List Fd} {d : PyData} {xs : List PyData}
@[simp] theorem um_v {i : Nat} : unMe i (.v d) = .v d := rfl
@[simp] theorem um_o {i : Nat} : unMe i (.o xs) = .o xs := rfl
@[simp] theorem um_ob {i : Nat} : unMe i (.ob c fs) = .ob c fs := rfl
@[simp] theorem um_me {i : Nat} : unMe i .me = .b i := rfl
@[simp] theorem os_ob {P : Nat → List Fd → (List Fd → Sl) → Prop} : obSlot (some (.ob c fs)) P = P c fs (.ob c) := rfl
@[simp] theorem os_ib {P : Nat → List Fd → (List Fd → Sl) → Prop} : obSlot (some (.ib c fs)) P = P c fs (.ib c) := rfl
@[simp] theorem fv_v {P : PyData → Prop} : fdV (some (.v d)) P = P d := rfl
@[simp] theorem fo_o {P : List PyData → Prop} : fdO (some (.o xs)) P = P xs := rfl
@[simp] theorem ld_s {P : PyData → Prop} : lastD (some d) P = P d := rfl
@[simp] theorem ao_o {P : List PyData → Prop} : asO (.o xs) P = P xs := rfl
@[simp] theorem wm_s {P : MtI → Prop} {m : MtI} : withM (some m) P = P m := rfl
@[simp ↓] theorem e_fld {i j : Nat} {f : Str} : wpE G (.fld i j f) (s :: z) Q E = (obSlot (s :: z)[i]? fun c fs _ => (G.flds c)[j]? = some f ∧ fdV fs[j]? fun d => Q (.v d) (s :: z)) := by simp only [wpE]
@[simp ↓] theorem e_flen {i j : Nat} {f : Str} : wpE G (.flen i j f) (s :: z) Q E = (obSlot (s :: z)[i]? fun c fs _ => ((G.flds c)[j]? = some f ∧ f = past) ∧ fdO fs[j]? fun d => Q (.v (.int d.length)) (s :: z)) := by simp only [wpE]
@[simp ↓] theorem e_femp {i j : Nat} {f : Str} : wpE G (.femp i j f) (s :: z) Q E = (obSlot (s :: z)[i]? fun c fs _ => ((G.flds c)[j]? = some f ∧ f = past) ∧ fdO fs[j]? fun d => SeqAt.shaped (.list d) = true ∧ Q (.v (.bool d.isEmpty)) (s :: z)) := by simp only [wpE]
@[simp ↓] theorem e_fpop {i j : Nat} {f : Str} : wpE G (.fpop i j f) (s :: z) Q E = (obSlot (s :: z)[i]? fun c fs mk => ((G.flds c)[j]? = some f ∧ f = past) ∧ fdO fs[j]? fun d => lastD d.getLast? fun x => Q (.v x) ((s :: z).set i (mk (fs.set j (.o d.dropLast))))) := by simp only [wpE]
@[simp ↓] theorem e_callM {k i : Nat} {es : Ps} : wpE G (.callM k i es) (s :: z) Q E = (withM (G.mti k) fun m => obSlot (s :: z)[i]? fun c0 _ _ => m.cls = c0 ∧ wpEs G es (s :: z) (fun ds env1 => obSlot env1[i]? fun c fs mk => m.cls = c ∧
      (G.fns k).pre (.ob c fs) ds ∧ (∀ r h, (G.fns k).post (.ob c fs) ds r h → ∃ gs, h = .ob c gs ∧ Q (unMe i r) (env1.set i (mk gs))) ∧ ∀ x p h, (G.fns k).exc (.ob c fs) ds x p h → ∃ gs, h = .ob c gs ∧ E x p (env1.set i (mk gs))) E) := by simp only [wpE]
@[simp ↓] theorem e_prop {k i : Nat} : wpE G (.prop k i) (s :: z) Q E = (withM (G.mti k) fun m => obSlot (s :: z)[i]? fun c fs mk => m.cls = c ∧
      (G.fns k).pre (.ob c fs) [] ∧ (∀ r h, (G.fns k).post (.ob c fs) [] r h → ∃ gs, h = .ob c gs ∧ Q (unMe i r) ((s :: z).set i (mk gs))) ∧ ∀ x p h, ¬ (G.fns k).exc (.ob c fs) [] x p h) := by simp only [wpE]
@[simp ↓] theorem e_callOb {k c i : Nat} {es : Ps} : wpE G (.callOb k c i es) (s :: z) Q E = (obSlot (s :: z)[i]? fun _ _ _ => wpEs G es (s :: z) (fun ds env1 => obSlot env1[i]? fun c' fs mk => c' = c ∧
      (G.fns k).pre (.ob c' fs) ds ∧ (∀ r h, (G.fns k).post (.ob c' fs) ds r h → ∃ gs, h = .ob c' gs ∧ Q (unMe i r) (env1.set i (mk gs))) ∧ ∀ x p h, (G.fns k).exc (.ob c' fs) ds x p h → ∃ gs, h = .ob c' gs ∧ E x p (env1.set i (mk gs))) E) := by simp only [wpE]
@[simp ↓] theorem e_new {k : Nat} {es : Ps} : wpE G (.new k es) (s :: z) Q E = (withM (G.mti k) fun m => wpEs G es (s :: z) (fun ds env1 => (G.fns k).pre (.ob m.cls (nosF (G.flds m.cls).length)) ds ∧
      (∀ r h, (G.fns k).post (.ob m.cls (nosF (G.flds m.cls).length)) ds r h → ∃ gs, h = .ob m.cls gs ∧ r = .v .none ∧ Q (.ob m.cls gs) env1) ∧ ∀ x p h, (G.fns k).exc (.ob m.cls (nosF (G.flds m.cls).length)) ds x p h → E x p env1) E) := by simp only [wpE]
@[simp ↓] theorem e_eqOb {c i j : Nat} : wpE G (.eqOb c i j) (s :: z) Q E = (obSlot (s :: z)[i]? fun c1 fs _ => obSlot (s :: z)[j]? fun c2 gs _ => (c1 = c ∧ c2 = c ∧ G.eqp c fs gs) ∧ Q (.v (.bool (G.eqf c fs gs))) (s :: z)) := by simp only [wpE]
@[simp ↓] theorem s_iadd {k i : Nat} {e : P} : wpS G (.iadd k i e) (s :: z) D = (withM (G.mti k) fun m => obSlot (s :: z)[i]? fun _ _ _ => wpE G e (s :: z) (fun r env1 => withS (r.sh env1) fun d env2 => obSlot env2[i]? fun c fs mk => m.cls = c ∧ (G.fns k).pre (.ob c fs) [d] ∧
      (∀ r h, (G.fns k).post (.ob c fs) [d] r h → ∃ gs, h = .ob c gs ∧ r = .me ∧ D.nx (env2.set i (mk gs))) ∧ ∀ x p h, (G.fns k).exc (.ob c fs) [d] x p h → ∃ gs, h = .ob c gs ∧ D.ex x p (env2.set i (mk gs))) D.ex) := by simp only [wpS]
@[simp ↓] theorem s_stF {i j : Nat} {f : Str} {e : P} : wpS G (.stF i j f e) (s :: z) D = (wpE G e (s :: z) (fun r env1 => withS (r.sh env1) fun d env2 => obSlot env2[i]? fun c fs mk => ((G.flds c)[j]? = some f ∧ f ≠ past) ∧ D.nx (env2.set i (mk (fs.set j (.v d))))) D.ex) := by simp only [wpS]
@[simp ↓] theorem s_stL {i j : Nat} {e : P} : wpS G (.stL i j e) (s :: z) D = (wpE G e (s :: z) (fun r env1 => asO r fun d => obSlot env1[i]? fun c fs mk => (G.flds c)[j]? = some past ∧ D.nx (env1.set i (mk (fs.set j (.o d))))) D.ex) := by simp only [wpS]
@[simp ↓] theorem s_appF {i j j2 : Nat} {f f2 : Str} : wpS G (.appF i j f j2 f2) (s :: z) D = (obSlot (s :: z)[i]? fun c fs mk => ((G.flds c)[j]? = some f ∧ f = past ∧ (G.flds c)[j2]? = some f2) ∧ fdO fs[j]? fun xs => fdV fs[j2]? fun d => xs.length < line ∧ D.nx ((s :: z).set i (mk (fs.set j (.o (xs ++ [d])))))) := by simp only [wpS]
@[simp ↓] theorem s_par2 {i j : Nat} {a b : P} : wpS G (.par2 i j a b) (s :: z) D = (wpE G a (s :: z) (fun x env1 => wpE G b env1 (fun y env2 => stOb i x env2 fun env3 => stOb j y env3 D.nx) D.ex) D.ex) := by simp only [wpS]
@[simp] theorem stOb_ob {i c : Nat} {fs : List Fd} {env : Env} {Q : Env → Prop} : stOb i (.ob c fs) env Q = Q (env.set i (.ob c fs)) := rfl
@[simp ↓] theorem s_retMe : wpS G .retMe (.ib c fs :: z) D = D.rt .me (.ib c fs :: z) := by simp only [wpS]; rfl
end
/-! ### loops -/
section
variable {turn : PyData → Env → (Env → Prop) → Prop} {Q : Env → Prop}
theorem forL_rule (I : List PyData → Env → Prop) (hs : ∀ d r e (K : Env → Prop), I (d :: r) e → (∀ e', I r e' → K e') → turn d e K) (he : ∀ e, I [] e → Q e) : ∀ (items : List PyData) (e : Env), I items e → forL turn items e Q
  | [], e, h => he e h
  | d :: r, e, h => by
    show turn d e fun e' => forL turn r e' Q
    exact hs d r e _ h fun e' h' => forL_rule I hs he r e' h'
end
section
variable {turn : PyData → Env → (Option PyData → Env → Prop) → Prop} {Q : List PyData → Env → Prop}
/-- each item gives its own, the slots stand -/
theorem compL_map {e : Env} (f : PyData → PyData) : ∀ (items acc : List PyData), (∀ d ∈ items, ∀ K : Option PyData → Env → Prop, K (some (f d)) e → turn d e K) → acc.length + items.length ≤ line → Q (acc ++ items.map f) e → compL turn items acc e Q
  | [], acc, _, _, q => by rw [List.map_nil, List.append_nil] at q; exact q
  | d :: r, acc, h, l, q => by
    have l : acc.length + (r.length + 1) ≤ line := l
    show turn d e _
    refine h d List.mem_cons_self _ ⟨by omega, compL_map f r (acc ++ [f d]) (fun x hx => h x (List.mem_cons_of_mem _ hx)) (by rw [List.length_append, List.length_singleton]; omega) ?_⟩
    rw [List.append_assoc]
    exact q
theorem compL_inv (I : List PyData → List PyData → Env → Prop) (hs : ∀ d r acc e (K : Option PyData → Env → Prop), I (d :: r) acc e → (∀ y e', I r (acc ++ [y]) e' → K (some y) e') → (∀ e', I r acc e' → K none e') → turn d e K)
    (hl : ∀ d r acc e, I (d :: r) acc e → acc.length < line) (he : ∀ acc e, I [] acc e → Q acc e) : ∀ (items acc : List PyData) (e : Env), I items acc e → compL turn items acc e Q
  | [], acc, e, h => he acc e h
  | d :: r, acc, e, h => by
    show turn d e _
    exact hs d r acc e _ h (fun y e' h' => ⟨hl d r acc e h, compL_inv I hs hl he r (acc ++ [y]) e' h'⟩) fun e' h' => compL_inv I hs hl he r acc e' h'
/-- .. and some are left out -/
theorem compL_filter {e : Env} (f : PyData → Option PyData) : ∀ (items acc : List PyData), (∀ d ∈ items, ∀ K : Option PyData → Env → Prop, K (f d) e → turn d e K) → acc.length + items.length ≤ line → Q (acc ++ items.filterMap f) e → compL turn items acc e Q
  | [], acc, _, _, q => by rw [List.filterMap_nil, List.append_nil] at q; exact q
  | d :: r, acc, h, l, q => by
    have l : acc.length + (r.length + 1) ≤ line := l
    show turn d e _
    refine h d List.mem_cons_self _ ?_
    cases hf : f d with
    | none =>
      rw [List.filterMap_cons, hf] at q
      exact compL_filter f r acc (fun x hx => h x (List.mem_cons_of_mem _ hx)) (by omega) q
    | some y =>
      rw [List.filterMap_cons, hf] at q
      refine ⟨by omega, compL_filter f r (acc ++ [y]) (fun x hx => h x (List.mem_cons_of_mem _ hx)) (by rw [List.length_append, List.length_singleton]; omega) ?_⟩
      rw [List.append_assoc]
      exact q
end
/-- a def without changes: what it asks, what it tells -/
def pureS (pre : List PyData → Prop) (f : List PyData → PyData) : FSpec := ⟨fun _ ds => pre ds, fun _ ds r _ => r = .v (f ds), fun _ _ _ _ _ => False⟩
section
variable {pre : List PyData → Prop} {f : List PyData → PyData} {hv : Hdv} {ds : List PyData}
@[simp] theorem pu_pre : (pureS pre f).pre hv ds = pre ds := rfl
@[simp] theorem pu_post {r : R} {h : Hdv} : (pureS pre f).post hv ds r h = (r = .v (f ds)) := rfl
@[simp] theorem pu_exc {x : Str} {p : PyData} {h : Hdv} : (pureS pre f).exc hv ds x p h = False := rfl
end
@[simp] theorem eqok_i {i j : Int} : eqOk (.int i) (.int j) = true := rfl
@[simp] theorem eqok_s {i j : Str} : eqOk (.str i) (.str j) = true := rfl
@[simp] theorem eqok_b {i j : Bool} : eqOk (.bool i) (.bool j) = true := rfl
@[simp] theorem eqv_i {i j : Int} : PyData.eqv (.int i) (.int j) = decide (i = j) := by simp only [PyData.eqv]; rfl
@[simp] theorem eqv_s {i j : Str} : PyData.eqv (.str i) (.str j) = decide (i = j) := by simp only [PyData.eqv]; rfl
@[simp] theorem eqv_b {i j : Bool} : PyData.eqv (.bool i) (.bool j) = (i == j) := by simp only [PyData.eqv]
@[simp] theorem eqv_t {i j : List PyData} : PyData.eqv (.tuple i) (.tuple j) = PyData.eqvAll i j := by simp only [PyData.eqv]
@[simp] theorem eqv_l {i j : List PyData} : PyData.eqv (.list i) (.list j) = PyData.eqvAll i j := by simp only [PyData.eqv]
@[simp] theorem eqa_n : PyData.eqvAll [] [] = true := by simp only [PyData.eqvAll]
@[simp] theorem eqa_c {x y : PyData} {xs ys : List PyData} : PyData.eqvAll (x :: xs) (y :: ys) = (PyData.eqv x y && PyData.eqvAll xs ys) := by simp only [PyData.eqvAll]
@[simp] theorem eqa_1 {x : PyData} {xs : List PyData} : PyData.eqvAll (x :: xs) [] = false := by simp only [PyData.eqvAll]
@[simp] theorem eqa_2 {x : PyData} {xs : List PyData} : PyData.eqvAll [] (x :: xs) = false := by simp only [PyData.eqvAll]
theorem eqok_sh {d e : PyData} (h1 : SeqAt.shaped d = true) (h2 : SeqAt.shaped e = true) : eqOk d e = true := by simp [eqOk, h1, h2]
theorem ixAt_k {j : Nat} {ds : List PyData} {d : PyData} {Q : PyData → Prop} (h : ds[j]? = some d) : ixAt ds (j : Int) Q = Q d := by
  have e : atI ds (j : Int) = some d := atI_nat h
  simp only [ixAt, e]
@[simp] theorem ixAt_0 {d : PyData} {ds : List PyData} {Q : PyData → Prop} : ixAt (d :: ds) 0 Q = Q d := ixAt_k (j := 0) rfl
@[simp] theorem ixAt_1 {c d : PyData} {ds : List PyData} {Q : PyData → Prop} : ixAt (c :: d :: ds) 1 Q = Q d := ixAt_k (j := 1) rfl
@[simp] theorem ixAt_2 {b c d : PyData} {ds : List PyData} {Q : PyData → Prop} : ixAt (b :: c :: d :: ds) 2 Q = Q d := ixAt_k (j := 2) rfl
theorem ixAt_n {i : Int} {ds : List PyData} {Q : PyData → Prop} (h0 : 0 ≤ i) (h : i.toNat < ds.length) (q : Q ds[i.toNat]) : ixAt ds i Q := by
  have e : ixAt ds (i.toNat : Int) Q = Q ds[i.toNat] := ixAt_k (List.getElem?_eq_getElem h)
  rw [show (i.toNat : Int) = i by omega] at e
  rw [e]
  exact q
theorem ixSet_k {n j : Nat} {ds : List PyData} {Q : Nat → Prop} (h : j < ds.length) : ixSet ds (j : Int) Q = Q j := by
  have e : ixN ds.length (j : Int) = some j := by unfold ixN; simp; omega
  simp only [ixSet, e]
@[simp] theorem ixSet_0 {d : PyData} {ds : List PyData} {Q : Nat → Prop} : ixSet (d :: ds) 0 Q = Q 0 := ixSet_k (n := 0) (j := 0) (by simp)
@[simp] theorem ixSet_1 {c d : PyData} {ds : List PyData} {Q : Nat → Prop} : ixSet (c :: d :: ds) 1 Q = Q 1 := ixSet_k (n := 0) (j := 1) (by simp)
theorem ixSet_n {i : Int} {ds : List PyData} {Q : Nat → Prop} (h0 : 0 ≤ i) (h : i.toNat < ds.length) (q : Q i.toNat) : ixSet ds i Q := by
  have e : ixSet ds (i.toNat : Int) Q = Q i.toNat := ixSet_k (n := 0) h
  rw [show (i.toNat : Int) = i by omega] at e
  rw [e]
  exact q
@[simp] theorem r_bmapf {α : Type} {f : α → Bool} {l : List α} : bools? (l.map fun d => .bool (f d)) = some (l.map f) := by
  have := r_bmap (bs := l.map f)
  rw [List.map_map] at this
  exact this
/-! ### loops, as rules -/
section
variable {G : GE} {D : Pst} {env : Env}
theorem whl_of {t : P} {b : Ss} (W : Nat → Env → Prop) (m : Nat) (h0 : W m env) (hs : ∀ m e, W m e → wpE G t e (fun x e1 => asB x fun k => if k = true then wpSs G b e1 { D with nx := fun e2 => ∃ m', m' < m ∧ W m' e2, ct := fun e2 => ∃ m', m' < m ∧ W m' e2, bk := D.nx } else D.nx e1) D.ex) : whlR G t b env D := by
  show wpS G (.whl t b) env D
  simp only [wpS]
  exact ⟨W, ⟨m, h0⟩, hs⟩
theorem for_of {tg : Tg} {b : Ss} {items : List PyData} (I : List PyData → Env → Prop) (h0 : I items env)
    (hs : ∀ d r e (K : Env → Prop), d ∈ items → I (d :: r) e → (∀ e', I r e' → K e') → setTg tg d e fun e1 => wpSs G b e1 { D with nx := K, ct := K, bk := D.nx }) (he : ∀ e, I [] e → D.nx e) : forR G tg b items env D :=
  forL_rule (turn := fun d e K => setTg tg d e fun e1 => wpSs G b e1 { D with nx := K, ct := K, bk := D.nx }) (fun l e => (∀ d ∈ l, d ∈ items) ∧ I l e) (fun d r e K h hK => hs d r e K (h.1 d List.mem_cons_self) h.2 fun e' h' => hK e' ⟨fun x hx => h.1 x (List.mem_cons_of_mem _ hx), h'⟩) (fun e h => he e h.2) items env ⟨fun _ h => h, h0⟩
theorem cmp_map {own : List Nat} {tg : Tg} {c : Po} {elt : P} {items : List PyData} {Q : R → Env → Prop} (f : PyData → PyData) (hl : items.length ≤ line)
    (hs : ∀ d ∈ items, ∀ K : Option PyData → Env → Prop, K (some (f d)) (wipeE env own) → cturn G own tg c elt d (wipeE env own) K) (q : Q (.o (items.map f)) (wipeE env own)) : cmpR G own tg c elt items env Q :=
  compL_map f items [] hs (by simpa using hl) (by simpa using q)
theorem cmp_inv {own : List Nat} {tg : Tg} {c : Po} {elt : P} {items : List PyData} {Q : R → Env → Prop} (I : List PyData → List PyData → Env → Prop) (h0 : I items [] (wipeE env own))
    (hs : ∀ d r acc e (K : Option PyData → Env → Prop), I (d :: r) acc e → (∀ y e', I r (acc ++ [y]) e' → K (some y) e') → (∀ e', I r acc e' → K none e') → cturn G own tg c elt d e K)
    (hl : ∀ d r acc e, I (d :: r) acc e → acc.length < line) (he : ∀ acc e, I [] acc e → Q (.o acc) e) : cmpR G own tg c elt items env Q :=
  compL_inv I hs hl he items [] _ h0
theorem cmp_filter {own : List Nat} {tg : Tg} {c : Po} {elt : P} {items : List PyData} {Q : R → Env → Prop} (f : PyData → Option PyData) (hl : items.length ≤ line)
    (hs : ∀ d ∈ items, ∀ K : Option PyData → Env → Prop, K (f d) (wipeE env own) → cturn G own tg c elt d (wipeE env own) K) (q : Q (.o (items.filterMap f)) (wipeE env own)) : cmpR G own tg c elt items env Q :=
  compL_filter f items [] hs (by simpa using hl) (by simpa using q)
end
end Mp

set_option Elab.async false
set_option linter.all false
set_option maxRecDepth 100000
set_option maxHeartbeats 1000000
/-! with, left by an error -/
namespace Wx
open PySem PySem.Spec PyProof.Rows L2
open PySem.W (InstAt)
section
variable {P : Program} {w : World} {A : Around} {Ex : Value → Shared → Prop} {st : Shared} {ev : Env} {K : PySem.W.Frag} {x C gE gX : Addr} {pos : Pos}
/-- what is asked where the suite ended with the error u: it is noted, the exit runs while it is handled, it goes on -/
def LeftBy (P : Program) (w : World) (A : Around) (Ex : Value → Shared → Prop) (ev : Env) (x gX : Addr) (u : Value) (st : Shared) : Prop :=
  wpAny (model P w) A (noteFrame u ev) (fun _ s1 => wpAny (model P w) A (setFlight u none) (fun _ s2 => wpAny (model P w) A (typeOf u) (fun c s3 => wpAny (model P w) A (tracebackOf u) (fun tb s4 =>
    u ≠ byPass ∧ codeAny (model P w) (A.mark (some u)) (.call (.ref gX) ⟨[.ref x, c, u, tb], []⟩) (fun r s5 => match r with
      | .ok (.ret .none) => wpAny (model P w) A (passOn "with" u ev : Sem Flow) (fun _ _ => False) Ex s5
      | _ => False) s4) Ex s3) Ex s2) Ex s1) Ex st
theorem with_core {bind : Value → Sem Unit} {suite : Sem Flow} {Q : Flow → Shared → Prop} {ob : Obj} {od : Option Obj} (KX : K.In st.heap) (IA : InstAt st.heap x ob C od) (hE : PySem.W.findIn K (.ref C) "__enter__" = some (some (.ref gE))) (fE : PySem.W.isFn K (.ref gE) = true)
    (hX : PySem.W.findIn K (.ref C) "__exit__" = some (some (.ref gX))) (fX : PySem.W.isFn K (.ref gX) = true)
    (go : wpAny (model P w) A (call (.ref gE) [.ref x]) (fun v s2 => wpAny (model P w) A (bind v) (fun _ s3 => wpAny (model P w) A suite (fun fl s4 => wpAny (model P w) A (call (.ref gX) [.ref x, .none, .none, .none]) (fun _ s5 => Q fl s5) Ex s4) (LeftBy P w A Ex ev x gX) s3) (LeftBy P w A Ex ev x gX) s2) Ex st) :
    wpAny (model P w) A (withItem false pos ev (pure (.ref x)) (some bind) suite) Q Ex st := by
  obtain ⟨cd1, hcd1, al1⟩ := PySem.W.kw_along hE
  obtain ⟨cd2, hcd2, al2⟩ := PySem.W.kw_along hX
  cases hcd1.symm.trans hcd2
  obtain ⟨hp, gn, dr, tk, os⟩ := st
  have K1 : PySem.W.Looks (model P w) hp (specialOnItsLine (.ref x) "__enter__") (some (.ref gE), cd1.mro) := PySem.W.kw_special KX IA hcd1 al1
  have K2 : PySem.W.Looks (model P w) hp (specialOnItsLine (.ref x) "__exit__") (some (.ref gX), cd1.mro) := PySem.W.kw_special KX IA hcd1 al2
  have K3 : PySem.W.Looks (model P w) hp (bindSpecial (.ref gE) (.ref x)) (.ref gE, [.ref x]) := PySem.W.bind_fn KX _ (beq_iff_eq.mp fE)
  have K4 : PySem.W.Looks (model P w) hp (bindSpecial (.ref gX) (.ref x)) (.ref gX, [.ref x]) := PySem.W.bind_fn KX _ (beq_iff_eq.mp fX)
  have K5 : PySem.W.Looks (model P w) hp (aMethodOfAnotherBuiltinTypeStops (.ref gE) cd1.mro) () := PySem.W.Looks.of_pure rfl
  have K6 : PySem.W.Looks (model P w) hp (aMethodOfAnotherBuiltinTypeStops (.ref gX) cd1.mro) () := PySem.W.Looks.of_pure rfl
  unfold withItem
  refine wpAny_bind (wpAny_pure ?_)
  refine wpAny_bind (wpAny_standAt ?_)
  simp only [Bool.false_eq_true, if_false]
  repeat ((fail_if_success (with_reducible show wpAny _ _ (call _ _) _ _ _)); (fail_if_success (with_reducible show wpAny _ _ (Sem.attempt _) _ _ _)); first | with_reducible refine wpAny_standAt ?_ | lk)
  refine wpAny_mono go (fun v s2 go2 => ?_) fun _ _ z => z
  repeat ((fail_if_success (with_reducible show wpAny _ _ (call _ _) _ _ _)); (fail_if_success (with_reducible show wpAny _ _ (Sem.attempt _) _ _ _)); first | with_reducible refine wpAny_standAt ?_ | lk)
  refine wpAny_attempt (PySem.W.kw_held ?_)
  show wpAny _ _ (bind v >>= fun _ => suite) _ _ _
  have err : ∀ u s3, LeftBy P w A Ex ev x gX u s3 → wpAny (model P w) A (do
      noteFrame u ev
      setFlight u none
      standAt pos
      holding [u] do
      let c ← typeOf u
      let tb ← tracebackOf u
      let r ← withItem.marked u (Code.call (Value.ref gX) { pos := [Value.ref x] ++ [c, u, tb] })
      let r ← pure r
      match r with
        | Value.none => do
          let swallow ← pure false
          if swallow = true then do
              rule "with.exit-swallows"
              setFlight u none
              pure Flow.next
            else PySem.passOn "with" u ev
        | Value.bool b => do
          let swallow ← pure b
          if swallow = true then do
              rule "with.exit-swallows"
              setFlight u none
              pure Flow.next
            else PySem.passOn "with" u ev
        | y => do
          let t ← withItem.marked u (Code.call (Value.type "bool") { pos := [r] })
          let swallow ← pure (t == Value.bool true)
          if swallow = true then do
              rule "with.exit-swallows"
              setFlight u none
              pure Flow.next
            else PySem.passOn "with" u ev) Q Ex s3 := fun u s3 lb => by
    refine wpAny_bind (wpAny_mono lb (fun _ s4 l4 => ?_) fun _ _ z => z)
    refine wpAny_bind (wpAny_mono l4 (fun _ s5 l5 => ?_) fun _ _ z => z)
    refine wpAny_bind (wpAny_standAt (wpAny_holding ?_))
    refine wpAny_bind (wpAny_mono l5 (fun c s6 l6 => ?_) fun _ _ z => z)
    refine wpAny_bind (wpAny_mono l6 (fun tb s7 l7 => ?_) fun _ _ z => z)
    obtain ⟨nb, l7⟩ := l7
    unfold withItem.marked
    refine wpAny_bind (wpAny_bind (wpAny_run (codeAny_mono l7 fun r s8 l8 => ?_) fun z => nb (Option.some.inj z)))
    cases r with
    | error e => exact l8.elim
    | ok fl =>
      cases fl with
      | ret v =>
        cases v with
        | none =>
          refine wpAny_pure (wpAny_bind (wpAny_pure ?_))
          refine wpAny_bind (wpAny_pure ?_)
          exact wpAny_mono l8 (fun _ _ z => z.elim) fun _ _ z => z
        | _ => exact l8.elim
      | _ => exact l8.elim
  refine wpAny_bind (wpAny_mono go2 (fun _ s3 go3 => wpAny_mono go3 (fun fl s4 go4 => ?_) fun u s4 go4 => ?_) fun u s3 go3 => ?_)
  · repeat ((fail_if_success (with_reducible show wpAny _ _ (call _ _) _ _ _)); (fail_if_success (with_reducible show wpAny _ _ (Sem.attempt _) _ _ _)); first | with_reducible refine wpAny_standAt ?_ | lk)
    refine wpAny_mono go4 (fun _ s5 go5 => ?_) fun _ _ z => z
    repeat ((fail_if_success (with_reducible show wpAny _ _ (call _ _) _ _ _)); (fail_if_success (with_reducible show wpAny _ _ (Sem.attempt _) _ _ _)); first | with_reducible refine wpAny_standAt ?_ | lk)
    exact go5
  · exact err _ _ go4
  · exact err _ _ go3
end
end Wx

set_option Elab.async false
set_option linter.all false
set_option maxRecDepth 100000
set_option maxHeartbeats 1000000
/-! the with statement of an own class, both ways -/
namespace Wx
open PySem PySem.Spec PyProof.Rows L2
/-- the exit's promise while an error is handled -/
def ExitOk (X : Cx) (gX : Addr) (spH : L2.Sp) : Prop := ∀ (a : Addr) (oe : Obj) (pn : List (Addr × Obj)) (σ : L2.St) (H : Hp) (s : Shared) (us : List Value) (vs : List V) (Q : VK), Inv (X.suite a pn) [] σ H s → (a, oe) ∈ pn → Vals vs us → spH vs H Q C8.E0 →
  codeAny (model X.prog X.w) (X.A.mark (some (.ref a))) (.call (.ref gX) ⟨us, []⟩) (CR C8.CX0 X.stack X.prog X.w H s Q C8.E0) s
/-- what is wished of an error of the suite -/
def wLeft (spH : L2.Sp) (x : Addr) (Wout : WX) : WX := fun cls d σ H => ∃ c, cls = .ref c ∧ ∀ (u : Addr) (t : V), H u = none → spH [.ref x, .ref c, .ref u, t] H (fun v H3 => v = .non ∧ Wout cls d σ H3) C8.E0
section
variable {X : Cx} {Wout : WX} {x gX : Addr} {spH : L2.Sp}
theorem left_on (hs : X.stack = X.env :: X.outer) (hf : X.env.frame = some X.env.locals) (hex : X.ex = []) (ok : X.Ok) (tk : Takes X Wout) (hX : ExitOk X gX spH) {pins : List (Addr × Obj)} {u : Value} {s' : Shared}
    (air : XE (X.tr (X.pn ++ pins) (LeftBy X.prog X.w X.A X.xe X.env x gX)) (wLeft spH x Wout) u s') : LeftBy X.prog X.w X.A X.xe X.env x gX u s' := by
  have hfr : X.A.frames = some (X.env :: X.outer) := by rw [ok.frames, hs]
  obtain ⟨a, B, sI, pn2, σ1, H1, cls, dd, rfl, J0, ground, upto, sky0, na, eos, bare, ww⟩ := air
  have J : Inv X pins σ1 H1 sI := J0.ofTry ok
  have sky : Sky B (X.env :: X.outer) a (Zc cls dd) X.env.locals s'.heap := by rw [← hs]; exact sky0
  refine Sky.land (Z := Zc cls dd) Zc.steady hfr hf sky fun hB flB upB => ?_
  have JB : Inv X pins σ1 H1 { s' with heap := hB } := J.landed ground flB.1 (upto.trans upB) eos bare
  obtain ⟨m1, m2, m3, oe, fv, T, oT, tv, ge, hz, hd, hv1, gnT, hTe, gT, hdT, tv3⟩ := id flB
  have nT : H1 T = none := (J.inGround ground).gone gnT
  have noFr : ∀ (b : Addr) (o : Obj) (qv : Array Value), hB.get? b = some o → o.data = .fields qv → b ∉ frs (X.env :: X.outer) := fun b o qv e dq hm => by
    obtain ⟨_, o2, e2, nf⟩ := m3.mem hm
    cases e.symm.trans e2
    exact nf _ dq
  have locF : X.env.locals ∈ frs (X.env :: X.outer) := List.mem_filterMap.mpr ⟨X.env, List.mem_cons_self, hf⟩
  have outF : ∀ b, b ∈ X.fs → b ∈ frs (X.env :: X.outer) := fun b hm => by
    obtain ⟨e, he, q⟩ := List.mem_filterMap.mp hm
    exact List.mem_filterMap.mpr ⟨e, List.mem_cons_of_mem _ he, q⟩
  have fa := noFr a oe fv ge hd
  have fT := noFr T oT tv gT hdT
  have pinOf : ∀ (b : Addr) (o : Obj) (qv : Array Value), hB.get? b = some o → o.data = .fields qv → H1 b = none → b ∉ frs (X.env :: X.outer) → hB.get? b = some o ∧ H1 b = none ∧ b ≠ X.env.locals ∧ b ∉ X.fs ∧ ∀ v, o.data ≠ .cell v := fun b o qv e1 e2 e3 e4 =>
    ⟨e1, e3, fun z => e4 (by rw [z]; exact locF), fun z => e4 (outF _ z), fun v z => by rw [e2] at z; cases z⟩
  have S : Inv (X.suite a ((a, oe) :: (T, oT) :: (X.pn ++ pins))) [] σ1 H1 { s' with heap := hB } :=
    ⟨JB.ok.suite _ _, JB.os, JB.bare, JB.base, JB.loc, JB.cell, JB.free, JB.freeC, fun p hp => by
      rw [List.append_nil] at hp
      rcases List.mem_cons.mp hp with rfl | hp
      · exact pinOf a oe fv ge hd na fa
      · rcases List.mem_cons.mp hp with rfl | hp
        · exact pinOf T oT tv gT hdT nT fT
        · exact JB.pin p hp, JB.hok, JB.len⟩
  obtain ⟨c, rfl, ww⟩ := ww
  have zcls : oe.cls = .ref c := hz.1
  refine wpAny_typeOf_ref ge ?_
  rw [zcls]
  -- what is told of the traceback
  have tb : ∀ (R : Value → Shared → Prop), (∀ t : V, ∀ v, RelV t v → R v { s' with heap := hB }) → wpAny (model X.prog X.w) X.A (tracebackOf (.ref a)) R X.xe { s' with heap := hB } := fun R hR => by
    have l3 : 3 < tv.size := (Array.getElem?_eq_some_iff.mp tv3).1
    obtain ⟨w1, hw1⟩ : ∃ w1, tv[1]? = some w1 := ⟨tv[1], Array.getElem?_eq_getElem (by omega)⟩
    unfold tracebackOf
    refine wpAny_bind (wpAny_field ge hd hv1 ?_)
    refine wpAny_bind (wpAny_field gT hdT hw1 ?_)
    split
    · exact wpAny_pure (hR .non _ rfl)
    · exact wpAny_pure (hR (.ref T) _ rfl)
  refine tb _ fun t v rv => ⟨ref_ne_byPass a, ?_⟩
  have rc := hX a oe ((a, oe) :: (T, oT) :: (X.pn ++ pins)) σ1 H1 { s' with heap := hB } [.ref x, .ref c, .ref a, v] [.ref x, .ref c, .ref a, t] _ S List.mem_cons_self (.cons rfl (.cons rfl (.cons rfl (.cons rv .nil)))) (ww a t na)
  refine codeAny_mono rc fun r s6 hq => ?_
  cases r with
  | error e => exact (show False from hq).elim
  | ok fl =>
    cases fl with
    | next => exact False.elim hq
    | brk => exact False.elim hq
    | cont => exact False.elim hq
    | ret uu =>
      obtain ⟨y, H6, S6, ry, ey, q6⟩ := S.after hq
      subst ey
      obtain rfl : uu = Value.none := ry
      show wpAny _ _ _ _ _ _
      have J6 : Inv X pins σ1 H6 s6 := ⟨ok, S6.os, S6.bare, S6.base, S6.loc, S6.cell, S6.free, S6.freeC, fun p hp => S6.pin p (List.mem_append_left _ (List.mem_cons_of_mem _ (List.mem_cons_of_mem _ hp))), S6.hok, S6.len⟩
      obtain ⟨ga, na6, _⟩ := S6.pin (a, oe) (List.mem_append_left _ List.mem_cons_self)
      obtain ⟨gT6, nT6, _⟩ := S6.pin (T, oT) (List.mem_append_left _ (List.mem_cons_of_mem _ List.mem_cons_self))
      have ga : s6.heap.get? a = some oe := ga
      have gT6 : s6.heap.get? T = some oT := gT6
      have na6 : H6 a = none := na6
      have nT6 : H6 T = none := nT6
      -- the error's own objects are young
      have apart : ∀ b o, sI.heap.get? b = some o → b ≠ a ∧ b ≠ T := fun b o e => by
        by_cases hb : b ∈ frs X.stack
        · rw [hs] at hb
          exact ⟨fun z => fa (z ▸ hb), fun z => fT (z ▸ hb)⟩
        · have q := ground b o e hb
          exact ⟨(fun z => by rw [z, m2] at q; cases q), (fun z => by rw [z, gnT] at q; cases q)⟩
      have apart0 : ∀ b o, X.s_0.heap.get? b = some o → b ≠ a ∧ b ≠ T := fun b o e => by
        obtain ⟨o2, q⟩ := J.base.there b o e (by rw [hex]; simp)
        exact apart b o2 q
      have apartP : ∀ p ∈ X.pn ++ pins, p.1 ≠ a ∧ p.1 ≠ T := fun p hp => apart p.1 p.2 (J.pin p hp).1
      obtain ⟨Gd, gd1, gd2⟩ := restrict s6.heap fun b => !(decide (b = a) || decide (b = T))
      have gdIn : ∀ b o, Gd.get? b = some o → s6.heap.get? b = some o ∧ b ≠ a ∧ b ≠ T := fun b o e => by
        cases q : (!(decide (b = a) || decide (b = T))) with
        | false => rw [gd2 b q] at e; cases e
        | true =>
          rw [gd1 b q] at e
          have q2 : ¬ b = a ∧ ¬ b = T := by simpa using q
          exact ⟨e, q2.1, q2.2⟩
      have gdOf : ∀ b o, b ≠ a → b ≠ T → s6.heap.get? b = some o → Gd.get? b = some o := fun b o z1 z2 e => by rw [gd1 b (by simp [z1, z2])]; exact e
      have I6 : Inv X pins σ1 H6 { s6 with heap := Gd } := J6.less (fun b o e => (gdIn b o e).1) gdOf ⟨oe, fv, ga, hd⟩ ⟨oT, tv, gT6, hdT⟩ na6 nT6 apart0 apartP
      have nowhere : ∀ b, (b = a ∨ b = T) → (PySem.W.hideAll Gd (frs X.stack)).get? b = none := fun b hb => by
        cases q : (PySem.W.hideAll Gd (frs X.stack)).get? b with
        | none => rfl
        | some o =>
          obtain ⟨_, z1, z2⟩ := gdIn b o (PySem.W.of_hideAll _ q)
          exact (hb.elim z1 z2).elim
      have ff : s6.heap.FunFrames (PySem.W.hideAll Gd (frs X.stack)) (X.env :: X.outer) := by
        have z := funFrames_none (B := PySem.W.hideAll Gd (frs X.stack)) J6.stack fun b hb => PySem.W.hideAll_none _ hb
        rw [← hs]; exact z
      have fl6 : HandSPX.FlyingZ (PySem.W.hideAll Gd (frs X.stack)) (X.env :: X.outer) a (Zc (.ref c) dd) s6.heap :=
        ⟨fun b o e => (gdIn b o (PySem.W.of_hideAll _ e)).1, nowhere a (.inl rfl), ff, oe, fv, T, oT, tv, ga, hz, hd, hv1, nowhere T (.inr rfl), hTe, gT6, hdT, tv3⟩
      unfold PySem.passOn
      refine wpAny_bind (wpAny_field ga hd hv1 ?_)
      rw [if_neg (show ¬ ((Value.ref T == Value.none) = true) from by simp)]
      have on : wpAny (model X.prog X.w) X.A (setFlight (.ref a) X.env.frame) (fun _ s7 => wpAny (model X.prog X.w) X.A (throw (.ref a) : Sem Flow) (fun _ _ => False) X.xe s7) X.xe s6 := by
        rw [hf]
        refine HandSPX.setFlight_upZ fl6 fun h7 held7 up7 => wpAny_throw (tk _ _ ?_)
        exact ⟨a, PySem.W.hideAll Gd (frs X.stack), { s6 with heap := Gd }, pins, σ1, H6, .ref c, dd, rfl, I6, fun b o e hb => PySem.W.hideAll_get _ e hb, (Heap.UpToSlots.of_keeps fun b o e => (gdIn b o e).1).trans up7, .inr (.inr (by rw [← hs] at held7; exact held7)), na6, rfl, J6.bare, q6⟩
      first
        | exact wpAny_bind (wpAny_pure (wpAny_bind on))
        | exact wpAny_bind on
end
end Wx

set_option Elab.async false
set_option linter.all false
set_option maxRecDepth 100000
set_option maxHeartbeats 1000000
/-! the rule for with -/
namespace Wx
open PySem PySem.Spec PyProof.Rows L2
def tWith (C : Addr) (i : Nat) (spE spX spH : L2.Sp) (Wout : WX) (tm : TE) (tb : WX → TS) : TS := fun D σ H => tm σ H fun v H1 => ∃ x dx gs, v = .ref x ∧ H1 x = some (.ins C dx gs) ∧
  spE [.ref x] H1 (fun u H2 => tb (wLeft spH x Wout) { nx := fun σ3 H3 => spX [.ref x, .non, .non, .non] H3 (fun _ H4 => D.nx σ3 H4) C8.E0, rt := fun _ _ => False } (σ.set i (some u)) H2) C8.E0
theorem ps_with {X : Cx} {Wout : WX} {C gE gX : Addr} {k : Nat} {fE fX : FuncData} {pE pX : List Str} {spE spX spH : L2.Sp} {ctx : Expr} {y : Str} {py pos : Pos} {body : List Stmt} {tm : TE} {tb : WX → TS} {i : Nat}
    (hs : X.stack = X.env :: X.outer) (hf : X.env.frame = some X.env.locals) (hex : X.ex = []) (tk : Takes X Wout) (hm : PE X ctx tm)
    (hE : PySem.W.findIn X.K (.ref C) "__enter__" = some (some (.ref gE))) (iE : PySem.W.isFn X.K (.ref gE) = true) (hX : PySem.W.findIn X.K (.ref C) "__exit__" = some (some (.ref gX))) (iX : PySem.W.isFn X.K (.ref gX) = true)
    (FE : FnOk X.prog X.w X.K X.mg X.base (L2.CX X.prog X.w) k gE fE pE spE) (bE : Binds X.K fE pE []) (FX : FnOk X.prog X.w X.K X.mg X.base (L2.CX X.prog X.w) k gX fX pX spX) (bX : Binds X.K fX pX []) (FH : ExitOk X gX spH) (room : Room k X.A)
    (hN : X.N.Nodup) (hi : X.N[i]? = some y) (hl : Loc X.env.scope y) (hfn : X.fn y = true ∨ X.env.scope.names.lookup y = some .local)
    (hb : ∀ (W : WX) (pn : List (Addr × Obj)) (xe : Value → Shared → Prop), Takes (X.tr pn xe) W → PassesOwn (model X.prog X.w) X.A X.env xe → PSs (X.tr pn xe) body (tb W)) :
    PS X (.With [⟨ctx, some (.Name y py)⟩] body pos) (tWith C i spE spX spH Wout tm tb) := by
  refine ⟨fun pins s σ H D I h => ?_⟩
  have ok := I.ok
  have ps0 : ∀ (σ : L2.St) (E : XK), (∀ cls d H, E cls d H → False) → PassesAt (L2.CX X.prog X.w) X σ E := fun σ E hE pins H s e s' I c => by
    obtain ⟨_, _, _, _, _, _, _, _, _, _, _, _, z⟩ := c
    exact (hE _ _ _ z).elim
  refine PySem.W.kw_execN ?_
  refine wpAny_mono (hm.run pins s σ H _ I h) (fun u1 s1 ⟨v, H1, I1, r1, x, dx, gs, ev, e1, q1⟩ => ?_) fun _ _ z => z
  subst ev
  obtain rfl : u1 = Value.ref x := r1
  unfold PySem.W.KwIn
  obtain ⟨mA, OM, _⟩ := ins_get I1.hok e1
  obtain ⟨od, IA, _⟩ := OM.look
  refine with_core (K := X.K) I1.kIn IA hE iE hX iX ?_
  refine wpAny_mono (run_fnS (E := fun _ => C8.E0) (us := [.ref x]) (vs := [.ref x]) FE room bE (ps0 σ _ fun _ _ _ z => z) I1 (.cons rfl .nil) q1) (fun u2 s2 ⟨w2, H2, I2, r2, q2⟩ => ?_) fun _ _ z => z
  refine wpAny_assign_Name (store_ok I2 hN hi hl r2 (fun s3 I3 => ?_) hfn)
  have out := (hb (wLeft spH x Wout) (X.pn ++ pins) (LeftBy X.prog X.w X.A X.xe X.env x gX) (fun u s' air => left_on hs hf hex ok tk FH air) PassesOwn.looking).run [] s3 (σ.set i (some w2)) H2 _ (I3.toTry _) q2
  refine wpAny_mono out (fun fl s4 hq => ?_) fun u s4 hq => hq
  cases fl with
  | next =>
    obtain ⟨σ4, H4, J4, q4⟩ := hq
    have J4' : Inv X pins σ4 H4 s4 := J4.ofTry ok
    refine wpAny_mono (run_fnS (E := fun _ => C8.E0) (us := [.ref x, .none, .none, .none]) (vs := [.ref x, .non, .non, .non]) FX room bX (ps0 σ4 _ fun _ _ _ z => z) J4' (.cons rfl (.cons rfl (.cons rfl (.cons rfl .nil)))) q4) (fun u5 s5 ⟨w5, H5, I5, r5, q5⟩ => ⟨σ4, H5, I5, q5⟩) fun _ _ z => z
  | ret u => obtain ⟨_, _, _, _, _, q⟩ := hq; exact q.elim
  | brk => obtain ⟨_, _, _, q⟩ := hq; exact q.elim
  | cont => obtain ⟨_, _, _, q⟩ := hq; exact q.elim
/-- a def without errors, called while an error is handled -/
theorem exit_ok {X : Cx} {gX : Addr} {k : Nat} {name qual : Str} {params : Arguments} {body : List Stmt} {scope : Scope} {dV kV doc pm cdv ct oc : Value} {an od : Option Addr} {osl : Array (Option Value)} {N ps : List Str} {spH : L2.Sp}
    (lk : X.K.lookup gX = some ⟨oc, od, .func (PySem.W.fnOf name qual params body scope dV kV doc pm an cdv ct), osl⟩) (hcd : PySem.W.codeIn X.K cdv qual = true) (S : FnScope N ps scope) (room : Room (k + 1) X.A) (bd : Binds X.K (PySem.W.fnOf name qual params body scope dV kV doc pm an cdv ct) ps [])
    (len : ∀ vs H Q E, spH vs H Q E → vs.length = ps.length)
    (hbody : ∀ (A : Around) (outer : List Env) (s : Shared) (H : Hp) (vs : List V) (Q : VK) (p : Addr × Obj), spH vs H Q C8.E0 →
      ∃ t, PSs (L2H.cxH C8.CX0 X.prog X.w X.K X.mg X.base N qual scope gX cdv A outer s H C8.E0 p) body t ∧ t { nx := fun _ H' => Q .non H', rt := Q } (L2.start N vs) H) : ExitOk X gX spH := by
  intro a oe pn σ H s us vs Q I hp r hq
  have hl := len _ _ _ _ hq
  have e0 := I.env0
  have KX : X.K.In s.heap := e0.mod.kin.keeps fun b o e => (e0.bs b o e).1
  have lim : s.heap.NoLimit := e0.mod.nolimit.keeps fun b o e => (e0.bs b o e).1
  have hu : us.length = ps.length := by rw [← r.length]; exact hl
  have pin := I.pin (a, oe) (List.mem_append_left _ hp)
  have hpin : L2H.PinOk X.stack H s (a, oe) := ⟨pin.1, pin.2.1, fun hm => (List.mem_cons.mp (I.stkSub a hm)).elim pin.2.2.1 pin.2.2.2.1, pin.2.2.2.2⟩
  have b := bd s us KX (by rw [List.append_nil]; exact hu)
  rw [List.append_nil] at b
  have kinds : ∀ z ∈ ps.zip us, scope.names.lookup z.1 = some .local ∨ (scope.names.lookup z.1 = some .cell ∧ ((cellsFrom (s.heap.objs.size + 1) scope.names []).lookup z.1).isSome = true) := fun ⟨nm, v⟩ hz =>
    (S.par nm (List.of_mem_zip hz).1).imp id fun q => ⟨q, PySem.W.cellsFrom_some _ _ _ (.inl q)⟩
  refine codeAny_call_function (show X.A.depth < _ from room.depth) (KX _ _ lk) rfl S.co S.gen rfl (PySem.W.codeRec_of KX hcd) (b _ _ _ _ ?_)
  refine wpAny_newFunctionEnv_cells S.kind kinds fun env he s1 inC => ?_
  subst he
  refine ⟨lim.keeps inC.toInCall.keep, codeAny_func ?_⟩
  obtain ⟨t, ht, hQ⟩ := hbody (X.A.mark (some (.ref a))) X.stack s H vs Q (a, oe) hq
  have J : Inv (L2H.cxH C8.CX0 X.prog X.w X.K X.mg X.base N qual scope gX cdv (X.A.mark (some (.ref a))) X.stack s H C8.E0 (a, oe)) [] (L2.start N vs) H s1 := L2H.inv_startH S hpin e0 hl r inC
  refine wpAny_mono (ht.run [] s1 (L2.start N vs) H _ J hQ) (fun fl s2 hs => ?_) fun e s2 hs => hs
  have done : ∀ {σ2 : L2.St} {H2 : Hp} {v : V} {u : Value}, Inv (L2H.cxH C8.CX0 X.prog X.w X.K X.mg X.base N qual scope gX cdv (X.A.mark (some (.ref a))) X.stack s H C8.E0 (a, oe)) [] σ2 H2 s2 → L2.RelV v u → Q v H2 → CE X.stack X.prog X.w H s Q u s2 :=
    fun {σ2 H2 v u} J2 rv q => ⟨v, H2, J2.os, J2.bare, J2.base, J2.hok, rv, q⟩
  cases fl with
  | ret u => obtain ⟨v, σ2, H2, J2, rv, q⟩ := hs; exact done J2 rv q
  | next => obtain ⟨σ2, H2, J2, q⟩ := hs; exact done (v := V.non) (u := Value.none) J2 rfl q
  | brk => obtain ⟨_, _, _, q⟩ := hs; exact q.elim
  | cont => obtain ⟨_, _, _, q⟩ := hs; exact q.elim
end Wx

set_option Elab.async false
set_option linter.all false
set_option maxRecDepth 100000
set_option maxHeartbeats 1000000
/-! a lambda that is handed on -/
namespace Wx
open PySem PySem.Spec PyProof.Rows L2 LamX NdefX
/-- nothing else is changed: the table, a new code object -/
def LamStep (P : Addr) (q : Str) (H H1 : Hp) : Prop := H1 = H ∨ ∃ (ps more : Array Value) (c : Addr), H P = some (.tbl ps) ∧ H c = none ∧ H1 = upd (upd H P (.tbl (ps ++ more))) c (CodeO c q)
theorem LamStep.old {P : Addr} {q : Str} {H H1 : Hp} (l : LamStep P q H H1) {b : Addr} (n : b ≠ P) (h : H b ≠ none) : H1 b = H b := by
  rcases l with rfl | ⟨ps, more, c, e1, e2, rfl⟩
  · rfl
  · rw [upd_ne (fun z => h (by rw [z]; exact e2)), upd_ne n]
theorem LamStep.none {P : Addr} {q : Str} {H H1 : Hp} (l : LamStep P q H H1) {b : Addr} (h : H1 b = none) : H b = none := by
  rcases l with rfl | ⟨ps, more, c, e1, e2, rfl⟩
  · exact h
  · by_cases h1 : b = c
    · rw [h1]; exact e2
    · rw [upd_ne h1] at h
      by_cases h2 : b = P
      · rw [h2, upd_same] at h; cases h
      · rw [upd_ne h2] at h; exact h
theorem LamStep.ins {P : Addr} {q : Str} {H H1 : Hp} (l : LamStep P q H H1) {b C dx : Addr} {gs : List (Str × V)} : H1 b = some (.ins C dx gs) ↔ H b = some (.ins C dx gs) := by
  rcases l with rfl | ⟨ps, more, c, e1, e2, rfl⟩
  · exact Iff.rfl
  · by_cases h1 : b = c
    · rw [h1, upd_same, e2]
      exact ⟨fun z => (by unfold CodeO at z; cases z), fun z => by cases z⟩
    · rw [upd_ne h1]
      by_cases h2 : b = P
      · rw [h2, upd_same, e1]
        exact ⟨fun z => (by cases z), fun z => by cases z⟩
      · rw [upd_ne h2]
section
variable {X : Cx} {pins : List (Addr × Obj)} {σ : L2.St} {H : Hp} {s : Shared}
theorem lam_make {T : List (Addr × Str)} {c P : Addr} {pms : Arguments} {body : Expr} {sc : Scope} {lp : Pos} {E : Value → Shared → Prop} {Q : Value → Shared → Prop} (I : Inv X pins σ H s) (B : TabB X.base X.mg c P) (eC : X.env.code = .ref c)
    (mT : (P, X.env.qual ++ "<lambda>") ∈ T) (oT : ∀ p ∈ T, p.1 = P → p.2 = X.env.qual ++ "<lambda>") (tabs : Tabs T H) (nd : defaultsOf pms X.env = ([], [])) (fre : ∀ y ∈ sc.names, y.2 = .free → ∃ c, X.env.cells.lookup y.1 = some c)
    (go : ∀ (f c2 : Addr) (pm ctv : Value) (H1 : Hp) (s1 : Shared), Inv X pins σ H1 s1 → LamStep P (X.env.qual ++ "<lambda>") H H1 → Tabs T H1 →
      s1.heap.get? f = some (PySem.W.kla_obj "<lambda>" (X.env.qual ++ "<lambda>") pms body sc (cloFrom X.env.cells sc.names []) pm c2 ctv) → H1 f = none → f ∉ frs X.stack → H1 c2 = some (CodeO c2 (X.env.qual ++ "<lambda>")) → Q (.ref f) s1) :
    wpAny (model X.prog X.w) X.A (eval (.Lambda pms body sc lp) X.env) Q E s := by
  obtain ⟨ps, hP, tri, among⟩ := tabs _ mT
  refine PySem.W.kla_eval nd ?_
  have bAt : s.heap.BuiltinsAt X.mg P := B.bm.keeps I.bk
  have hP2 : s.heap.get? P = some { cls := .none, data := .fields ps } := I.hok P _ hP
  have young : ∀ f, s.heap.objs.size ≤ f → f ∉ frs X.stack := fun f hf z => by
    rcases List.mem_cons.mp (I.stkSub _ z) with e | e
    · have l1 := I.lt
      rw [← e] at l1
      exact Nat.lt_irrefl _ (Nat.lt_of_lt_of_le l1 hf)
    · exact I.nofs hf e
  cases hc : codeAmong lp ps.toList with
  | some cv =>
    obtain ⟨c2, rfl, co⟩ := among lp cv hc
    refine PySem.W.kla_makeFunctionHit (mg := X.mg) (c := c) (P := P) (ps := ps) (closure_ok fre) I.ok.glob (I.mod.glob.keeps I.bk) eC (B.code.keeps I.bk) hP2 tri hc bAt fun ctv h1 tk1 kp1 sz1 => ?_
    have I1 : Inv X pins σ H { s with heap := h1.push (PySem.W.kla_obj "<lambda>" (X.env.qual ++ "<lambda>") pms body sc (cloFrom X.env.cells sc.names []) ((X.mg "__name__").getD .none) c2 ctv), toks := tk1 } := I.kept fun b o e => Heap.get?_push_of_some _ (kp1 b o e)
    exact go h1.objs.size c2 ((X.mg "__name__").getD .none) ctv H _ I1 (.inl rfl) tabs (Heap.get?_push_size _ rfl) (I.hok.fresh sz1) (young _ sz1) co
  | none =>
    refine PySem.W.kla_makeFunction (mg := X.mg) (c := c) (P := P) (ps := ps) (closure_ok fre) I.ok.glob (I.mod.glob.keeps I.bk) eC (B.code.keeps I.bk) hP2 tri hc B.gP bAt fun c2 ctv h1 tk1 ext1 ge1 lt1 rec1 tab1 => ?_
    obtain ⟨c3, oc, fv, tq, e3, hoc, hdc, hvc⟩ := rec1
    cases e3
    have sz1 : s.heap.objs.size ≤ h1.objs.size := Nat.le_trans ge1 (Nat.le_of_lt lt1)
    have nC : H c2 = none := I.hok.fresh ge1
    have I1 := inv_table (t' := tk1) (more := #[rawInt lp.line, rawInt lp.col, .ref c2]) (h' := h1.push (PySem.W.kla_obj "<lambda>" (X.env.qual ++ "<lambda>") pms body sc (cloFrom X.env.cells sc.names []) ((X.mg "__name__").getD .none) c2 ctv)) I hP
      (fun b o hb e => Heap.get?_push_of_some _ (ext1 b o hb e)) (Heap.get?_push_of_some _ tab1) ge1 ⟨oc, fv, tq, Heap.get?_push_of_some _ hoc, hdc, hvc⟩
    have step : LamStep P (X.env.qual ++ "<lambda>") H (upd (upd H P (.tbl (ps ++ #[rawInt lp.line, rawInt lp.col, .ref c2]))) c2 (CodeO c2 (X.env.qual ++ "<lambda>"))) := .inr ⟨ps, _, c2, hP, nC, rfl⟩
    have app : (ps ++ #[rawInt lp.line, rawInt lp.col, Value.ref c2]).toList = ps.toList ++ [rawInt lp.line, rawInt lp.col, Value.ref c2] := by simp
    have stay : ∀ b q, H b = some (CodeO b q) → upd (upd H P (.tbl (ps ++ #[rawInt lp.line, rawInt lp.col, .ref c2]))) c2 (CodeO c2 (X.env.qual ++ "<lambda>")) b = some (CodeO b q) := fun b q e => by
      rw [step.old (b := b) (fun z => by rw [z, hP] at e; unfold CodeO at e; cases e) (by rw [e]; simp)]
      exact e
    refine go h1.objs.size c2 ((X.mg "__name__").getD .none) ctv _ _ I1 step (fun p hp => ?_) (Heap.get?_push_size _ rfl) ?_ (young _ sz1) upd_same
    · by_cases hb : p.1 = P
      · rw [oT p hp hb, hb]
        refine ⟨_, by rw [upd_ne (ne_of_none hP nC), upd_same], by rw [app]; exact PySem.TriplesOk_snoc _ _ _ _ tri, fun p2 cv hcv => ?_⟩
        rw [app] at hcv
        rcases among_app _ tri hcv with z | z
        · obtain ⟨c0, e1, e2⟩ := among p2 cv z
          exact ⟨c0, e1, stay _ _ e2⟩
        · exact ⟨c2, z, upd_same⟩
      · obtain ⟨qs, a1, a2, a3⟩ := tabs p hp
        refine ⟨qs, by rw [step.old hb (by rw [a1]; simp)]; exact a1, a2, fun p2 cv hcv => ?_⟩
        obtain ⟨c0, e1, e2⟩ := a3 p2 cv hcv
        exact ⟨c0, e1, stay _ _ e2⟩
    · cases q : upd (upd H P (.tbl (ps ++ #[rawInt lp.line, rawInt lp.col, Value.ref c2]))) c2 (CodeO c2 (X.env.qual ++ "<lambda>")) h1.objs.size with
      | none => rfl
      | some u =>
        exfalso
        have n1 : h1.objs.size ≠ c2 := Nat.ne_of_gt lt1
        have n2 : h1.objs.size ≠ P := Nat.ne_of_gt (Nat.lt_of_lt_of_le (Heap.lt_size hP2) sz1)
        rw [upd_ne n1, upd_ne n2, I.hok.fresh sz1] at q
        cases q
end
end Wx

set_option Elab.async false
set_option linter.all false
set_option maxRecDepth 100000
set_option maxHeartbeats 1000000
/-! the lambda called, in the def that got it -/
namespace Wx
open PySem PySem.Spec PyProof.Rows L2 LamX NdefX
section
variable {X : Cx} {σ : L2.St} {H : Hp} {s : Shared}
theorem pe_act1 {CXg : CXT} {Eg : XK} {Ng : List Str} {qg : Str} {sg : Scope} {g f : Addr} {cdg pm ctv : Value} {body : Expr} {k i : Nat} {a p1 : Str} {pn : List (Addr × Obj)} {xe : Value → Shared → Prop} {W : WX} {tb : XK → TE} {np cp : Pos} {e : Expr} {ta : TA}
    {F : NF} {N fr : List Str} {ws : List (Option V)}
    (hf : s.heap.get? f = some (PySem.W.kla_obj "<lambda>" F.qual F.params body F.scope F.cl pm F.c ctv)) (hfn : H f = none) (hfr : f ∉ frs X.stack) (C : CellsAt F.cl fr ws s.heap H) (S : NScope N [p1] fr F.scope)
    (hbind : ∀ u : Value, bindArgs (PySem.W.kla_fn "<lambda>" F.qual F.params body F.scope F.cl pm (.ref F.c) ctv) ⟨[u], []⟩ = pure [(p1, u)])
    (tk : Takes ((cxOf CXg X.prog X.w X.K X.mg X.base Ng qg sg g cdg X.A X.stack s H Eg).tr pn xe) W) (hr : Room (k + 1) (X.A.deeper (envOfC qg sg s.heap.objs.size g cdg)))
    (hbody : ∀ (A : Around) (outer : List Env) (s1 : Shared) (H1 : Hp) (E : XK), Room k (A.deeper (envF F f s1.heap.objs.size)) → PE (ncx (L2.CX X.prog X.w) X.prog X.w X.K X.mg X.base N F f A outer s1 H1 E) body (tb E))
    (ha : PA ((cxOf CXg X.prog X.w X.K X.mg X.base Ng qg sg g cdg X.A X.stack s H Eg).tr pn xe) [e] ta)
    (hN : Ng[i]? = some a) (hv : Vis sg a) (hd : (a == ("__debug__" : Str)) = false := by decide) (hcd : (a == ("__classdict__" : Str)) = false := by decide)
    (he : starEach [e] ((cxOf CXg X.prog X.w X.K X.mg X.base Ng qg sg g cdg X.A X.stack s H Eg).tr pn xe).env = (false, eval e ((cxOf CXg X.prog X.w X.K X.mg X.base Ng qg sg g cdg X.A X.stack s H Eg).tr pn xe).env) :: starEach [] ((cxOf CXg X.prog X.w X.K X.mg X.base Ng qg sg g cdg X.A X.stack s H Eg).tr pn xe).env := by rfl)
    (hpl : (backTo cp (starEach [] ((cxOf CXg X.prog X.w X.K X.mg X.base Ng qg sg g cdg X.A X.stack s H Eg).tr pn xe).env)).any (·.1) = false := by rfl) :
    PE ((cxOf CXg X.prog X.w X.K X.mg X.base Ng qg sg g cdg X.A X.stack s H Eg).tr pn xe) (.Call (.Name a np) [e] [] cp)
      (fun σZ HZ Q => σZ[i]? = some (some (.ref f)) ∧ ta σZ HZ fun vs H2 => ∃ v, vs = [v] ∧ H2 F.c = some (CodeO F.c F.qual) ∧ tb (WE W σZ) (startF N [v] ws) H2 Q) := by
  refine ⟨fun pz sz σZ HZ Q IZ h => ?_⟩
  obtain ⟨hs, ht⟩ := h
  refine wpAny_Call_Name_kw (thn ((pe_var (pos := np) (i := i) hN hv hd hcd).run pz sz σZ HZ (fun v H1 => v = .ref f ∧ H1 = HZ) IZ ⟨.ref f, hs, rfl, rfl⟩) fun u s1 ⟨v, H1, I1, r1, q1⟩ => ?_)
  obtain ⟨ev, eH⟩ := q1
  subst ev
  rw [eH] at I1
  obtain rfl : u = Value.ref f := r1
  have at_ : ∀ {pZ : List (Addr × Obj)} {σ2 : L2.St} {H2 : Hp} {s2 : Shared}, Inv ((cxOf CXg X.prog X.w X.K X.mg X.base Ng qg sg g cdg X.A X.stack s H Eg).tr pn xe) pZ σ2 H2 s2 → s2.heap.get? f = some (PySem.W.kla_obj "<lambda>" F.qual F.params body F.scope F.cl pm F.c ctv) :=
    fun J => J.base.keep f _ hf hfn hfr fun z => nomatch (show f ∈ ([] : List Addr) from z)
  refine PySem.W.callWith_F (first := []) ⟨_, _, _, _, at_ I1⟩ (thn (ha.run cp pz s1 σZ HZ _ I1 ht) fun us s2 ⟨vs, H2, I2, rv, v, ev, hc, q⟩ => ⟨⟨_, _, _, _, at_ I2⟩, ?_⟩) he hpl
  subst ev
  obtain ⟨u1, rfl, ru⟩ : ∃ u1, us = [u1] ∧ L2.RelV v u1 := by
    cases rv with
    | cons r rr => cases rr; exact ⟨_, rfl, r⟩
  show wpAny _ _ (call (.ref f) [u1]) _ _ _
  have of2 := at_ I2
  have none2 : ∀ c : Addr, c ∉ ((cxOf CXg X.prog X.w X.K X.mg X.base Ng qg sg g cdg X.A X.stack s H Eg).tr pn xe).ex := fun c z => nomatch (show c ∈ ([] : List Addr) from z)
  have keepC : ∀ {c : Addr} {y : Option Value}, H c = none → s.heap.IsCell c y → s2.heap.IsCell c y := fun {c y} n ⟨o, ho, hdo⟩ => by
    obtain ⟨sl, q⟩ := I2.base.any ho n (none2 c)
    exact ⟨_, q, hdo⟩
  have C2 : CellsAt F.cl fr ws s2.heap H2 := ⟨C.len, fun y c e => by
      obtain ⟨n, v, z⟩ := C.all y c e
      obtain ⟨o, ho, _⟩ := id z
      exact ⟨I2.base.free c o ho n (none2 c), v, keepC n z⟩, C.inj, fun j y hy => by
      obtain ⟨c, e, z⟩ := C.has j y hy
      refine ⟨c, e, fun v hv => ?_⟩
      obtain ⟨u, ru, zc⟩ := z v hv
      exact ⟨u, ru, keepC (C.all y c e).1 zc⟩⟩
  obtain ⟨⟨oc, fv, tq, hoc, hdc, hvc⟩, _, _⟩ := I2.hok F.c _ hc
  have pass : PassesAt (L2.CX X.prog X.w) ((cxOf CXg X.prog X.w X.K X.mg X.base Ng qg sg g cdg X.A X.stack s H Eg).tr pn xe) σZ (WE W σZ) := passAt tk σZ
  have rc : codeAny (model X.prog X.w) (X.A.deeper (envOfC qg sg s.heap.objs.size g cdg)) (.call (.ref f) ⟨[u1], []⟩) (CR (L2.CX X.prog X.w) (envOfC qg sg s.heap.objs.size g cdg :: X.stack) X.prog X.w H2 s2 Q (WE W σZ)) s2 := by
    refine PySem.W.kla_callFunE hr.depth of2 rfl S.co S.gen rfl ⟨F.c, oc, fv, tq, rfl, hoc, hdc, hvc⟩ ?_
    rw [hbind u1]
    refine wpAny_pure (wpAny_newFunctionEnv S.nocell (fun ⟨n, _⟩ hy => S.par n (List.of_mem_zip (show _ ∈ [p1].zip [u1] from hy)).1) (fun h₁ hns hsb => ⟨I2.nolimit.fresh _ hsb, ?_⟩) S.kind)
    show codeAny _ _ (.expr body (envF F f s2.heap.objs.size)) _ _
    have kp : ∀ b o, s2.heap.get? b = some o → h₁.get? b = some o := fun b o e => hsb.extBut b o (Nat.ne_of_lt (Heap.lt_size e)) (Heap.get?_push_of_some _ e)
    have J : Inv (ncx (L2.CX X.prog X.w) X.prog X.w X.K X.mg X.base N F f (X.A.deeper (envOfC qg sg s.heap.objs.size g cdg)) (envOfC qg sg s.heap.objs.size g cdg :: X.stack) s2 H2 (WE W σZ)) [] (startF N [v] ws) H2 { s2 with heap := h₁, toks := s2.toks + ([p1].zip [u1]).length } :=
      inv_startN S hr.hd I2.env0 rfl (.cons ru .nil) C2 hns kp
    refine PySem.W.kla_codeExpr (wpAny_mono ((hbody _ _ s2 H2 (WE W σZ) (hr.deeper _)).run [] _ _ H2 Q J q) (fun w3 s3 hq => ?_) fun er s3 hq => hq)
    obtain ⟨y, H3, J3, ry, qy⟩ := hq
    exact ⟨y, H3, J3.os, J3.bare, J3.base, J3.hok, ry, qy⟩
  refine wpAny_call (codeAny_mono rc fun r s3 hq => ?_)
  cases r with
  | error er => exact pass pz H2 s2 er s3 I2 hq
  | ok fl =>
    cases fl with
    | ret y => exact I2.after hq
    | next => exact False.elim hq
    | brk => exact False.elim hq
    | cont => exact False.elim hq
end
end Wx

set_option Elab.async false
set_option linter.all false
set_option maxRecDepth 100000
set_option maxHeartbeats 1000000
/-! o.m(lambda ..) -/
namespace Wx
open PySem PySem.Spec PyProof.Rows L2 LamX NdefX
/-- the call of the lambda in the def that got it: what it reads as -/
def tAct (i : Nat) (f c2 : Addr) (q : Str) (N : List Str) (ws : List (Option V)) (tb : XK → TE) (W : WX) (ta : TA) : TE := fun σZ HZ Q => σZ[i]? = some (some (.ref f)) ∧ ta σZ HZ fun vs H2 => ∃ v, vs = [v] ∧ H2 c2 = some (CodeO c2 q) ∧ tb (WE W σZ) (startF N [v] ws) H2 Q
def tLam (C : Addr) (m : Str) (T : List (Addr × Str)) (P : Addr) (q : Str) (js : List Nat) (TT : Addr → Addr → Addr → List (Option V) → Hp → VK → XK → Prop) (E : L2.St → XK) (ta : TE) : TE := fun σ H Q => ta σ H fun v H0 => ∃ a dx gs, v = .ref a ∧ H0 a = some (.ins C dx gs) ∧ gs.lookup m = none ∧ Tabs T H0 ∧
  ∀ f c2 H1, LamStep P q H0 H1 → Tabs T H1 → H1 f = none → H1 c2 = some (CodeO c2 q) → TT a f c2 (js.map (slotAt σ)) H1 Q (E σ)
theorem pe_lam {X : Cx} {W : WX} {o : Expr} {ta : TE} {C g c P : Addr} {m : Str} {T : List (Addr × Str)} {k : Nat} {Ng psg N fr : List Str} {qg : Str} {pg : Arguments} {bg : List Stmt} {sg : Scope} {dV kV doc pm cdg ct oc : Value} {an od : Option Addr} {osl : Array (Option Value)}
    {pms : Arguments} {body : Expr} {sc : Scope} {lp apos cpos : Pos} {js : List Nat} {p1 a1 : Str} {i1 : Nat} {np cp : Pos} {e0 : Expr} {tb : XK → TE} {TT : Addr → Addr → Addr → List (Option V) → Hp → VK → XK → Prop} {ql : Sem Bool}
    (hto : PE X o ta) (cl : L2.Cls X.K C) (mt : Meth X.K C m g) (lk : X.K.lookup g = some ⟨oc, od, .func (PySem.W.fnOf m qg pg bg sg dV kV doc pm an cdg ct), osl⟩) (hcg : PySem.W.codeIn X.K cdg qg = true) (Sg : FnScope Ng psg sg) (bd : Binds X.K (PySem.W.fnOf m qg pg bg sg dV kV doc pm an cdg ct) psg [])
    (l2 : psg.length = 2) (room : Room (k + 2) X.A) (tk : Takes X W) (B : TabB X.base X.mg c P) (eC : X.env.code = .ref c) (mT : (P, X.env.qual ++ "<lambda>") ∈ T) (oT : ∀ p ∈ T, p.1 = P → p.2 = X.env.qual ++ "<lambda>") (nd : defaultsOf pms X.env = ([], []))
    (fre : ∀ y ∈ sc.names, y.2 = .free → X.env.scope.names.lookup y.1 = some .cell ∨ X.env.scope.names.lookup y.1 = some .free) (cap : X.Ok → Caps X (cloFrom X.env.cells sc.names []) fr js) (S : NScope N [p1] fr sc)
    (hbind : ∀ (q : Str) (cls : List (Str × Addr)) (pm cv ctv u : Value), bindArgs (PySem.W.kla_fn "<lambda>" q pms body sc cls pm cv ctv) ⟨[u], []⟩ = pure [(p1, u)])
    (hbody : ∀ (F : NF) (f : Addr) (A : Around) (outer : List Env) (s1 : Shared) (H1 : Hp) (E : XK), F.scope = sc → Room k (A.deeper (envF F f s1.heap.objs.size)) → PE (ncx (L2.CX X.prog X.w) X.prog X.w X.K X.mg X.base N F f A outer s1 H1 E) body (tb E))
    (hN1 : Ng[i1]? = some a1) (hv1 : Vis sg a1) (hd1 : (a1 == ("__debug__" : Str)) = false) (hcd1 : (a1 == ("__classdict__" : Str)) = false)
    (he : ∀ env : Env, starEach [e0] env = (false, eval e0 env) :: starEach [] env) (hpl : ∀ env : Env, (backTo cp (starEach [] env)).any (·.1) = false)
    (hG : ∀ (a f c2 : Addr) (ws : List (Option V)) (s1 : Shared) (H1 : Hp) (Q : VK) (E : XK), Room (k + 1) (X.A.deeper (envOfC qg sg s1.heap.objs.size g cdg)) →
      (∀ (W1 : WX) (pn : List (Addr × Obj)) (xe : Value → Shared → Prop) (t1 : TA), Takes ((cxOf (L2.CX X.prog X.w) X.prog X.w X.K X.mg X.base Ng qg sg g cdg X.A X.stack s1 H1 E).tr pn xe) W1 → PA ((cxOf (L2.CX X.prog X.w) X.prog X.w X.K X.mg X.base Ng qg sg g cdg X.A X.stack s1 H1 E).tr pn xe) [e0] t1 →
        PE ((cxOf (L2.CX X.prog X.w) X.prog X.w X.K X.mg X.base Ng qg sg g cdg X.A X.stack s1 H1 E).tr pn xe) (.Call (.Name a1 np) [e0] [] cp) (tAct i1 f c2 (X.env.qual ++ "<lambda>") N ws tb W1 t1)) →
      TT a f c2 ws H1 Q E → ∃ t, PSs (cxOf (L2.CX X.prog X.w) X.prog X.w X.K X.mg X.base Ng qg sg g cdg X.A X.stack s1 H1 E) bg t ∧ t { nx := fun _ H' => Q .non H', rt := Q } (L2.start Ng [.ref a, .ref f]) H1)
    (h1 : starEach [.Lambda pms body sc lp] X.env = (false, eval (.Lambda pms body sc lp) X.env) :: starEach [] X.env) (h2 : (backTo cpos (starEach [] X.env)).any (·.1) = false)
    (h3 : eval (.Call (.Attribute o m apos) [.Lambda pms body sc lp] [] cpos) X.env = (do
      let obj ← eval o X.env
      standAt apos.atName
      let (g, fst) ← holding [obj] (getMethod obj m ql)
      callWith cpos g fst (backTo cpos (starEach [.Lambda pms body sc lp] X.env)) (backToKw cpos (keywordEach [] X.env)))) :
    PE X (.Call (.Attribute o m apos) [.Lambda pms body sc lp] [] cpos) (tLam C m T P (X.env.qual ++ "<lambda>") js TT (WE W) ta) := by
  refine ⟨fun pp st σ Hq Qq J hq => ?_⟩
  refine PySem.W.methodCall_KW (pl := ql) (thn (hto.run pp st σ Hq _ J hq) fun y st1 ⟨v, H0, J0, rv, a, dx, gs, ev, ea, hl, tabs, q1⟩ => ?_) h3
  subst ev
  obtain rfl : y = Value.ref a := rv
  refine getmeth_ok J0 ea cl mt hl ?_
  have hfre : ∀ y ∈ sc.names, y.2 = .free → ∃ c, X.env.cells.lookup y.1 = some c := fun y hy e => (fre y hy e).elim (fun z => J0.ok.has _ (.inl z)) fun z => J0.ok.has _ (.inr z)
  refine PySem.W.callWith_K (first := [.ref a]) (h₀ := X.base) J0.ok.mod.kin mt.kp (Q := EP X pp σ Qq) ?_ h1 h2
  show wpAny _ _ (spliced ((false, eval (.Lambda pms body sc lp) X.env) :: backTo cpos (starEach [] X.env))) _ _ st1
  refine Calls.spliced_cons (lam_make J0 B eC mT oT tabs nd hfre fun f c2 pm2 ctv H1 s1 I1 step T1 gf hfn hfr hco => ?_)
  refine Calls.spliced_nil ⟨I1.kIn, ?_⟩
  have pass : PassesAt (L2.CX X.prog X.w) X σ (WE W σ) := passAt tk σ
  have bnd := bd s1 [.ref a, .ref f] I1.kIn (by rw [List.append_nil]; exact l2.symm)
  rw [List.append_nil] at bnd
  have rc : codeAny (model X.prog X.w) X.A (.call (.ref g) ⟨[.ref a, .ref f], []⟩) (CR (L2.CX X.prog X.w) X.stack X.prog X.w H1 s1 Qq (WE W σ)) s1 := by
    refine run_ofS (N := Ng) (ps := psg) (us := [.ref a, .ref f]) (vs := [.ref a, .ref f]) lk hcg Sg room I1.env0 bnd (.cons rfl (.cons rfl .nil)) l2.symm fun hr2 => ?_
    refine hG a f c2 (js.map (slotAt σ)) s1 H1 Qq (WE W σ) hr2 (fun W1 pn xe t1 tk1 ha => ?_) (q1 f c2 H1 step T1 hfn hco)
    exact pe_act1 (F := ⟨"<lambda>", X.env.qual ++ "<lambda>", pms, [], sc, cloFrom X.env.cells sc.names [], c2⟩) (fr := fr) (ws := js.map (slotAt σ)) gf hfn hfr (cells_of I1 (cap I1.ok)) S (hbind _ _ _ _ _) tk1 hr2 (fun A outer s2 H2 E hr3 => hbody _ f A outer s2 H2 E rfl hr3) ha hN1 hv1 hd1 hcd1 (he _) (hpl _)
  refine wpAny_call (codeAny_mono rc fun r s2 hq => ?_)
  cases r with
  | error er => exact pass pp H1 s1 er s2 I1 hq
  | ok fl =>
    cases fl with
    | ret u => exact I1.after hq
    | next => exact False.elim hq
    | brk => exact False.elim hq
    | cont => exact False.elim hq
end Wx

set_option Elab.async false
set_option linter.all false
set_option maxRecDepth 100000
set_option maxHeartbeats 1000000

namespace KL
open PySem PySem.Spec PyProof.Rows L2 Mp
def top (i : Nat) : Stmt := PySem.Challenge.pw_rollstrips_k52_whole_rolls_and_scripts.main.body.getD i (.Pass ⟨0, 0, 0, 0⟩)
def mth (i j : Nat) : Stmt := (match top i with | .ClassDef (body := b) .. => b | _ => []).getD j (.Pass ⟨0, 0, 0, 0⟩)
/-- lowest -/
def n_lowest : List Str := ["top", "below", "one", "other"]
def b_lowest : Ss :=
  (.cons (.par [2, 3] (.cons (.blt .abs (.cons (.var 0) .nil)) (.cons (.var 1) .nil))) (.cons (.whl (.cmp .NotEq (.var 3) (.int 0)) (.cons (.par [2, 3] (.cons (.var 3) (.cons (.bin .Mod (.var 2) (.var 3)) .nil))) .nil)) (.cons (.ret (.tup (.cons (.bin .FloorDiv (.var 0) (.var 2)) (.cons (.bin .FloorDiv (.var 1) (.var 2)) .nil)))) .nil)))
abbrev t_lowest : Stmt := top 2
/-- plus -/
def n_plus : List Str := ["one", "other"]
def b_plus : Ss :=
  (.cons (.ret (.call 0 (.cons (.bin .Add (.bin .Mult (.ix (.var 0) (.int 0)) (.ix (.var 1) (.int 1))) (.bin .Mult (.ix (.var 1) (.int 0)) (.ix (.var 0) (.int 1)))) (.cons (.bin .Mult (.ix (.var 0) (.int 1)) (.ix (.var 1) (.int 1))) .nil)))) .nil)
abbrev t_plus : Stmt := top 3
/-- minus -/
def n_minus : List Str := ["one", "other"]
def b_minus : Ss :=
  (.cons (.ret (.call 0 (.cons (.bin .Sub (.bin .Mult (.ix (.var 0) (.int 0)) (.ix (.var 1) (.int 1))) (.bin .Mult (.ix (.var 1) (.int 0)) (.ix (.var 0) (.int 1)))) (.cons (.bin .Mult (.ix (.var 0) (.int 1)) (.ix (.var 1) (.int 1))) .nil)))) .nil)
abbrev t_minus : Stmt := top 4
/-- times -/
def n_times : List Str := ["one", "other"]
def b_times : Ss :=
  (.cons (.ret (.call 0 (.cons (.bin .Mult (.ix (.var 0) (.int 0)) (.ix (.var 1) (.int 0))) (.cons (.bin .Mult (.ix (.var 0) (.int 1)) (.ix (.var 1) (.int 1))) .nil)))) .nil)
abbrev t_times : Stmt := top 5
/-- is less -/
def n_is_less : List Str := ["one", "other"]
def b_is_less : Ss :=
  (.cons (.ret (.cmp .Lt (.bin .Mult (.ix (.var 0) (.int 0)) (.ix (.var 1) (.int 1))) (.bin .Mult (.ix (.var 1) (.int 0)) (.ix (.var 0) (.int 1))))) .nil)
abbrev t_is_less : Stmt := top 6
/-- is whole -/
def n_is_whole : List Str := ["value", "low", "high"]
def b_is_whole : Ss :=
  (.cons (.ret (.bop true (.cons (.isin (.var 0) "int") (.cons (.not (.isin (.var 0) "bool")) (.cons (.chn .LtE .LtE (.var 1) (.var 0) (.var 2)) .nil))))) .nil)
abbrev t_is_whole : Stmt := top 7
/-- is fraction -/
def n_is_fraction : List Str := ["value", "part"]
def b_is_fraction : Ss :=
  (.cons (.ite (.bop false (.cons (.not (.isin (.var 0) "tuple")) (.cons (.cmp .NotEq (.len (.var 0)) (.int 2)) .nil))) (.cons (.ret (.bl false)) .nil) .nil) (.cons (.ite (.not (.blt .all (.cons (.comp [1] (.seq (.var 0)) (.nm 1) .none (.bop true (.cons (.isin (.var 1) "int") (.cons (.not (.isin (.var 1) "bool")) .nil)))) .nil))) (.cons (.ret (.bl false)) .nil) .nil) (.cons (.ret (.bop true (.cons (.cmp .GtE (.ix (.var 0) (.int 1)) (.int 1)) (.cons (.cmp .Eq (.call 0 (.cons (.ix (.var 0) (.int 0)) (.cons (.ix (.var 0) (.int 1)) .nil))) (.var 0)) .nil)))) .nil)))
abbrev t_is_fraction : Stmt := top 8
/-- is length -/
def n_is_length : List Str := ["value"]
def b_is_length : Ss :=
  (.cons (.ret (.bop true (.cons (.call 6 (.cons (.var 0) .nil)) (.cons (.cmp .In (.var 0) (.con 3)) .nil)))) .nil)
abbrev t_is_length : Stmt := top 24
/-- is plain step -/
def n_is_plain_step : List Str := ["value"]
def b_is_plain_step : Ss :=
  (.cons (.ite (.bop false (.cons (.not (.isin (.var 0) "tuple")) (.cons (.cmp .Eq (.var 0) (.tup .nil)) (.cons (.not (.isin (.ix (.var 0) (.int 0)) "str")) .nil)))) (.cons (.ret (.bl false)) .nil) .nil) (.cons (.ite (.cmp .Eq (.ix (.var 0) (.int 0)) (.str "cut")) (.cons (.ret (.bop true (.cons (.cmp .Eq (.len (.var 0)) (.int 2)) (.cons (.call 7 (.cons (.ix (.var 0) (.int 1)) .nil)) .nil)))) .nil) .nil) (.cons (.ret (.bop true (.cons (.cmp .Eq (.len (.var 0)) (.int 1)) (.cons (.cmp .In (.ix (.var 0) (.int 0)) (.con 2)) .nil)))) .nil)))
abbrev t_is_plain_step : Stmt := top 25
/-- is right step -/
def n_is_right_step : List Str := ["value", "step"]
def b_is_right_step : Ss :=
  (.cons (.ite (.call 8 (.cons (.var 0) .nil)) (.cons (.ret (.bl true)) .nil) .nil) (.cons (.ite (.bop false (.cons (.not (.isin (.var 0) "tuple")) (.cons (.cmp .NotEq (.len (.var 0)) (.int 3)) (.cons (.not (.isin (.ix (.var 0) (.int 0)) "str")) (.cons (.cmp .NotEq (.ix (.var 0) (.int 0)) (.str "repeat")) .nil))))) (.cons (.ret (.bl false)) .nil) .nil) (.cons (.ite (.bop false (.cons (.not (.call 5 (.cons (.ix (.var 0) (.int 1)) (.cons (.int 2) (.cons (.int 5) .nil))))) (.cons (.not (.isin (.ix (.var 0) (.int 2)) "tuple")) (.cons (.not (.chn .LtE .LtE (.int 1) (.len (.ix (.var 0) (.int 2))) (.int 4))) .nil)))) (.cons (.ret (.bl false)) .nil) .nil) (.cons (.ret (.blt .all (.cons (.comp [1] (.seq (.ix (.var 0) (.int 2))) (.nm 1) .none (.call 8 (.cons (.var 1) .nil))) .nil))) .nil))))
abbrev t_is_right_step : Stmt := top 26
/-- is right script -/
def n_is_right_script : List Str := ["value", "step"]
def b_is_right_script : Ss :=
  (.cons (.ret (.bop true (.cons (.isin (.var 0) "tuple") (.cons (.cmp .LtE (.len (.var 0)) (.con 0)) (.cons (.blt .all (.cons (.comp [1] (.seq (.var 0)) (.nm 1) .none (.call 9 (.cons (.var 1) .nil))) .nil)) .nil))))) .nil)
abbrev t_is_right_script : Stmt := top 27
/-- is right pattern -/
def n_is_right_pattern : List Str := ["value"]
def b_is_right_pattern : Ss :=
  (.cons (.ret (.bop true (.cons (.call 6 (.cons (.var 0) .nil)) (.cons (.not (.call 4 (.cons (.var 0) (.cons (.con 1) .nil)))) .nil)))) .nil)
abbrev t_is_right_pattern : Stmt := top 28
/-- need roll -/
def n_need_roll : List Str := ["value"]
def b_need_roll : Ss :=
  (.cons (.ite (.not (.call 5 (.cons (.var 0) (.cons (.int 1) (.cons (.int 6) .nil))))) (.cons (.raise "InvalidRoll") .nil) .nil) .nil)
abbrev t_need_roll : Stmt := top 29
/-- need script -/
def n_need_script : List Str := ["value"]
def b_need_script : Ss :=
  (.cons (.ite (.not (.call 10 (.cons (.var 0) .nil))) (.cons (.raise "InvalidScript") .nil) .nil) .nil)
abbrev t_need_script : Stmt := top 30
/-- need pattern -/
def n_need_pattern : List Str := ["value"]
def b_need_pattern : Ss :=
  (.cons (.ite (.not (.call 11 (.cons (.var 0) .nil))) (.cons (.raise "InvalidPattern") .nil) .nil) .nil)
abbrev t_need_pattern : Stmt := top 31
/-- spread -/
def n_spread : List Str := ["script", "found", "index", "step", "turn", "inner"]
def b_spread : Ss :=
  (.cons (.asg 1 (.lst .nil)) (.cons (.for_ (.tp [2, 3]) (.enum (.var 0)) (.cons (.ite (.cmp .Eq (.ix (.var 3) (.int 0)) (.str "repeat")) (.cons (.for_ (.nm 4) (.rng1 (.ix (.var 3) (.int 1))) (.cons (.asg 1 (.bin .Add (.var 1) (.comp [5] (.seq (.ix (.var 3) (.int 2))) (.nm 5) .none (.tup (.cons (.var 2) (.cons (.var 5) .nil)))))) .nil)) .nil) (.cons (.app 1 (.tup (.cons (.var 2) (.cons (.var 3) .nil)))) .nil)) .nil)) (.cons (.ret (.var 1)) .nil)))
abbrev t_spread : Stmt := top 32
/-- worth sign -/
def n_worth_sign : List Str := ["form", "pattern", "first", "second"]
def b_worth_sign : Ss :=
  (.cons (.asgT [2, 3] (.var 0)) (.cons (.ret (.bin .Add (.bin .Mult (.bin .Mult (.ix (.var 2) (.int 0)) (.ix (.var 3) (.int 1))) (.ix (.var 1) (.int 1))) (.bin .Mult (.bin .Mult (.ix (.var 3) (.int 0)) (.ix (.var 2) (.int 1))) (.ix (.var 1) (.int 0))))) .nil))
abbrev t_worth_sign : Stmt := top 37
/-- sign in -/
def n_sign_in : List Str := ["form", "low", "high", "here", "there"]
def b_sign_in : Ss :=
  (.cons (.par [3, 4] (.cons (.call 16 (.cons (.var 0) (.cons (.var 1) .nil))) (.cons (.call 16 (.cons (.var 0) (.cons (.var 2) .nil))) .nil))) (.cons (.ite (.bop true (.cons (.cmp .GtE (.var 3) (.int 0)) (.cons (.cmp .GtE (.var 4) (.int 0)) .nil))) (.cons (.ret (.blt .int (.cons (.cmp .Gt (.bin .Add (.var 3) (.var 4)) (.int 0)) .nil))) .nil) .nil) (.cons (.ret (.ife (.bop true (.cons (.cmp .LtE (.var 3) (.int 0)) (.cons (.cmp .LtE (.var 4) (.int 0)) .nil))) (.neg (.int 1)) .non)) .nil)))
abbrev t_sign_in : Stmt := top 38
/-- edge of -/
def n_edge_of : List Str := ["form", "first", "second", "top", "below"]
def b_edge_of : Ss :=
  (.cons (.asgT [1, 2] (.var 0)) (.cons (.par [3, 4] (.cons (.bin .Mult (.ix (.var 1) (.int 0)) (.ix (.var 2) (.int 1))) (.cons (.bin .Mult (.ix (.var 2) (.int 0)) (.ix (.var 1) (.int 1))) .nil))) (.cons (.ret (.call 0 (.cons (.blt .abs (.cons (.var 3) .nil)) (.cons (.blt .abs (.cons (.var 4) .nil)) .nil)))) .nil)))
abbrev t_edge_of : Stmt := top 39
/-- form sum -/
def n_form_sum : List Str := ["one", "other"]
def b_form_sum : Ss :=
  (.cons (.ret (.tup (.cons (.call 1 (.cons (.ix (.var 0) (.int 0)) (.cons (.ix (.var 1) (.int 0)) .nil))) (.cons (.call 1 (.cons (.ix (.var 0) (.int 1)) (.cons (.ix (.var 1) (.int 1)) .nil))) .nil)))) .nil)
abbrev t_form_sum : Stmt := top 40
/-- form less -/
def n_form_less : List Str := ["one", "other"]
def b_form_less : Ss :=
  (.cons (.ret (.tup (.cons (.call 2 (.cons (.ix (.var 0) (.int 0)) (.cons (.ix (.var 1) (.int 0)) .nil))) (.cons (.call 2 (.cons (.ix (.var 0) (.int 1)) (.cons (.ix (.var 1) (.int 1)) .nil))) .nil)))) .nil)
abbrev t_form_less : Stmt := top 41
/-- value of -/
def n_value_of : List Str := ["form", "pattern"]
def b_value_of : Ss :=
  (.cons (.ret (.call 1 (.cons (.ix (.var 0) (.int 0)) (.cons (.call 3 (.cons (.ix (.var 0) (.int 1)) (.cons (.var 1) .nil))) .nil)))) .nil)
abbrev t_value_of : Stmt := top 42
/-- middle -/
def n_middle : List Str := ["low", "high"]
def b_middle : Ss :=
  (.cons (.ite (.cmp .Eq (.var 1) (.con 6)) (.cons (.ret (.call 1 (.cons (.var 0) (.cons (.tup (.cons (.int 1) (.cons (.int 1) .nil))) .nil)))) .nil) .nil) (.cons (.ret (.call 3 (.cons (.call 1 (.cons (.var 0) (.cons (.var 1) .nil))) (.cons (.con 5) .nil)))) .nil))
abbrev t_middle : Stmt := top 43
/-- next place -/
def n_next_place : List Str := ["cut", "start", "low", "high", "some", "gap", "many", "there", "before", "form"]
def b_next_place : Ss :=
  (.cons (.asg 4 (.call 22 (.cons (.var 2) (.cons (.var 3) .nil)))) (.cons (.asg 5 (.call 2 (.cons (.call 21 (.cons (.var 0) (.cons (.var 4) .nil))) (.cons (.call 21 (.cons (.var 1) (.cons (.var 4) .nil))) .nil)))) (.cons (.asg 6 (.neg (.bin .FloorDiv (.bin .Mult (.neg (.ix (.var 5) (.int 0))) (.ix (.var 4) (.int 1))) (.bin .Mult (.ix (.var 5) (.int 1)) (.ix (.var 4) (.int 0)))))) (.cons (.asg 7 (.call 19 (.cons (.var 1) (.cons (.tup (.cons (.tup (.cons (.int 0) (.cons (.int 1) .nil))) (.cons (.tup (.cons (.var 6) (.cons (.int 1) .nil))) .nil))) .nil)))) (.cons (.asg 8 (.call 19 (.cons (.var 1) (.cons (.tup (.cons (.tup (.cons (.int 0) (.cons (.int 1) .nil))) (.cons (.tup (.cons (.bin .Sub (.var 6) (.int 1)) (.cons (.int 1) .nil))) .nil))) .nil)))) (.cons (.for_ (.nm 9) (.seq (.tup (.cons (.call 20 (.cons (.var 7) (.cons (.var 0) .nil))) (.cons (.call 20 (.cons (.var 0) (.cons (.var 8) .nil))) .nil)))) (.cons (.ite (.cmp .Is (.call 17 (.cons (.var 9) (.cons (.var 2) (.cons (.var 3) .nil)))) .non) (.cons (.ret (.tup (.cons (.call 18 (.cons (.var 9) .nil)) (.cons .non .nil)))) .nil) .nil) .nil)) (.cons (.ret (.tup (.cons .non (.cons (.var 7) .nil)))) .nil)))))))
abbrev t_next_place : Stmt := top 44
/-- goal of -/
def n_goal_of : List Str := ["word", "cut", "strips", "low", "high", "start"]
def b_goal_of : Ss :=
  (.cons (.ite (.cmp .In (.var 0) (.tup (.cons (.str "match") (.cons (.str "drop") .nil)))) (.cons (.ite (.cmp .Eq (.var 2) (.lst .nil)) (.cons (.ret (.tup (.cons .non (.cons (.var 1) .nil)))) .nil) .nil) (.cons (.asg 5 (.ix (.ix (.var 2) (.bin .Sub (.len (.var 2)) (.int 1))) (.int 0))) .nil)) (.cons (.asg 5 (.con 4)) .nil)) (.cons (.ite (.cmp .In (.var 0) (.tup (.cons (.str "half") (.cons (.str "drop") .nil)))) (.cons (.asg 5 (.call 19 (.cons (.var 5) (.cons (.tup (.cons (.tup (.cons (.int 0) (.cons (.int 1) .nil))) (.cons (.tup (.cons (.neg (.int 1)) (.cons (.int 2) .nil))) .nil))) .nil)))) .nil) .nil) (.cons (.ret (.call 23 (.cons (.var 1) (.cons (.var 5) (.cons (.var 3) (.cons (.var 4) .nil)))))) .nil)))
abbrev t_goal_of : Stmt := top 45
/-- done in -/
def n_done_in : List Str := ["roll", "script", "low", "high", "cut", "strips", "waste", "index", "step", "left", "sign", "goal", "edge"]
def b_done_in : Ss :=
  (.cons (.par [4, 5, 6] (.cons (.con 4) (.cons (.lst .nil) (.cons (.con 4) .nil)))) (.cons (.for_ (.tp [7, 8]) (.seq (.call 15 (.cons (.var 1) .nil))) (.cons (.ite (.cmp .Eq (.ix (.var 8) (.int 0)) (.str "cut")) (.cons (.asg 11 (.call 19 (.cons (.var 4) (.cons (.tup (.cons (.ix (.var 8) (.int 1)) (.cons (.tup (.cons (.int 0) (.cons (.int 1) .nil))) .nil))) .nil)))) .nil) (.cons (.asgT [12, 11] (.call 24 (.cons (.ix (.var 8) (.int 0)) (.cons (.var 4) (.cons (.var 5) (.cons (.var 2) (.cons (.var 3) .nil))))))) (.cons (.ite (.cmp .IsNot (.var 12) .non) (.cons (.ret (.tup (.cons (.var 12) (.cons .non (.cons .non .nil))))) .nil) .nil) .nil))) (.cons (.asg 9 (.call 20 (.cons (.tup (.cons (.tup (.cons (.var 0) (.cons (.int 1) .nil))) (.cons (.tup (.cons (.int 0) (.cons (.int 1) .nil))) .nil))) (.cons (.var 11) .nil)))) (.cons (.asg 10 (.call 17 (.cons (.var 9) (.cons (.var 2) (.cons (.var 3) .nil))))) (.cons (.ite (.cmp .Is (.var 10) .non) (.cons (.ret (.tup (.cons (.call 18 (.cons (.var 9) .nil)) (.cons .non (.cons .non .nil))))) .nil) .nil) (.cons (.ite (.cmp .Lt (.var 10) (.int 0)) (.cons (.ret (.tup (.cons .non (.cons (.var 7) (.cons (.tup (.cons (.var 5) (.cons (.var 6) (.cons (.var 4) .nil)))) .nil))))) .nil) .nil) (.cons (.ite (.cmp .Eq (.ix (.var 8) (.int 0)) (.str "cut")) (.cons (.asg 5 (.bin .Add (.var 5) (.lst (.cons (.tup (.cons (.var 4) (.cons (.ix (.var 8) (.int 1)) .nil))) .nil)))) .nil) (.cons (.asg 6 (.call 19 (.cons (.var 6) (.cons (.call 20 (.cons (.var 11) (.cons (.var 4) .nil))) .nil)))) .nil)) (.cons (.asg 4 (.var 11)) .nil)))))))) (.cons (.ret (.tup (.cons .non (.cons .non (.cons (.tup (.cons (.var 5) (.cons (.var 6) (.cons (.var 4) .nil)))) .nil))))) .nil)))
abbrev t_done_in : Stmt := top 46
/-- pieces in -/
def n_pieces_in : List Str := ["roll", "script", "low", "high", "found", "line", "here", "there", "edge", "index", "state"]
def b_pieces_in : Ss :=
  (.cons (.asg 4 (.lst .nil)) (.cons (.asg 5 (.lst (.cons (.tup (.cons (.var 2) (.cons (.var 3) .nil))) .nil))) (.cons (.whl (.cmp .NotEq (.var 5) (.lst .nil)) (.cons (.asgT [6, 7] (.pop 5)) (.cons (.asgT [8, 9, 10] (.call 25 (.cons (.var 0) (.cons (.var 1) (.cons (.var 6) (.cons (.var 7) .nil)))))) (.cons (.ite (.cmp .Is (.var 8) .non) (.cons (.app 4 (.bin .Add (.tup (.cons (.var 6) (.cons (.var 7) (.cons (.var 9) .nil)))) (.var 10))) .nil) (.cons (.asg 5 (.bin .Add (.var 5) (.lst (.cons (.tup (.cons (.var 8) (.cons (.var 7) .nil))) (.cons (.tup (.cons (.var 8) (.cons (.var 8) .nil))) (.cons (.tup (.cons (.var 6) (.cons (.var 8) .nil))) .nil)))))) .nil)) .nil)))) (.cons (.ret (.var 4)) .nil))))
abbrev t_pieces_in : Stmt := top 47
/-- at pattern -/
def n_at_pattern : List Str := ["roll", "script", "pattern"]
def b_at_pattern : Ss :=
  (.cons (.ret (.ix (.call 26 (.cons (.var 0) (.cons (.var 1) (.cons (.var 2) (.cons (.var 2) .nil))))) (.int 0))) .nil)
abbrev t_at_pattern : Stmt := top 48
/-- match word -/
def n_match_word : List Str := ["one", "other", "pattern", "gap", "halves"]
def b_match_word : Ss :=
  (.cons (.asg 3 (.call 2 (.cons (.call 21 (.cons (.var 1) (.cons (.var 2) .nil))) (.cons (.call 21 (.cons (.var 0) (.cons (.var 2) .nil))) .nil)))) (.cons (.asg 4 (.call 0 (.cons (.bin .Mult (.bin .Mult (.int 2) (.ix (.var 3) (.int 0))) (.ix (.var 2) (.int 1))) (.cons (.bin .Mult (.ix (.var 3) (.int 1)) (.ix (.var 2) (.int 0))) .nil)))) (.cons (.ite (.cmp .NotEq (.ix (.var 4) (.int 1)) (.int 1)) (.cons (.ret (.str "none")) .nil) .nil) (.cons (.ret (.ife (.cmp .Eq (.bin .Mod (.ix (.var 4) (.int 0)) (.int 2)) (.int 0)) (.str "same") (.str "half"))) .nil))))
abbrev t_match_word : Stmt := top 49
/-- strips of -/
def n_strips_of : List Str := ["roll", "script", "pattern", "begin", "length"]
def b_strips_of : Ss :=
  (.cons (.ret (.comp [3, 4] (.seq (.ix (.call 27 (.cons (.var 0) (.cons (.var 1) (.cons (.var 2) .nil)))) (.int 3))) (.tp [3, 4]) .none (.tup (.cons (.call 21 (.cons (.var 3) (.cons (.var 2) .nil))) (.cons (.var 4) .nil))))) .nil)
abbrev t_strips_of : Stmt := top 50
/-- strips -/
def n_strips : List Str := ["roll", "script", "pattern"]
def b_strips : Ss :=
  (.cons (.xp (.call 12 (.cons (.var 0) .nil))) (.cons (.xp (.call 13 (.cons (.var 1) .nil))) (.cons (.xp (.call 14 (.cons (.var 2) .nil))) (.cons (.ret (.call 29 (.cons (.var 0) (.cons (.var 1) (.cons (.var 2) .nil))))) .nil))))
abbrev t_strips : Stmt := top 51
/-- waste -/
def n_waste : List Str := ["roll", "script", "pattern"]
def b_waste : Ss :=
  (.cons (.xp (.call 12 (.cons (.var 0) .nil))) (.cons (.xp (.call 13 (.cons (.var 1) .nil))) (.cons (.xp (.call 14 (.cons (.var 2) .nil))) (.cons (.ret (.call 21 (.cons (.ix (.call 27 (.cons (.var 0) (.cons (.var 1) (.cons (.var 2) .nil)))) (.int 4)) (.cons (.var 2) .nil)))) .nil))))
abbrev t_waste : Stmt := top 52
/-- rest -/
def n_rest : List Str := ["roll", "script", "pattern"]
def b_rest : Ss :=
  (.cons (.xp (.call 12 (.cons (.var 0) .nil))) (.cons (.xp (.call 13 (.cons (.var 1) .nil))) (.cons (.xp (.call 14 (.cons (.var 2) .nil))) (.cons (.ret (.call 2 (.cons (.tup (.cons (.var 0) (.cons (.int 1) .nil))) (.cons (.call 21 (.cons (.ix (.call 27 (.cons (.var 0) (.cons (.var 1) (.cons (.var 2) .nil)))) (.int 5)) (.cons (.var 2) .nil))) .nil)))) .nil))))
abbrev t_rest : Stmt := top 53
/-- out at -/
def n_out_at : List Str := ["roll", "script", "pattern"]
def b_out_at : Ss :=
  (.cons (.xp (.call 12 (.cons (.var 0) .nil))) (.cons (.xp (.call 13 (.cons (.var 1) .nil))) (.cons (.xp (.call 14 (.cons (.var 2) .nil))) (.cons (.ret (.ix (.call 27 (.cons (.var 0) (.cons (.var 1) (.cons (.var 2) .nil)))) (.int 2))) .nil))))
abbrev t_out_at : Stmt := top 54
/-- matches -/
def n_matches : List Str := ["roll", "script", "pattern", "some", "one", "two"]
def b_matches : Ss :=
  (.cons (.xp (.call 12 (.cons (.var 0) .nil))) (.cons (.xp (.call 13 (.cons (.var 1) .nil))) (.cons (.xp (.call 14 (.cons (.var 2) .nil))) (.cons (.asg 3 (.ix (.call 27 (.cons (.var 0) (.cons (.var 1) (.cons (.var 2) .nil)))) (.int 3))) (.cons (.ret (.comp [4, 5] (.zip (.var 3) (.sl (.var 3) (.some (.int 1)) .none)) (.tp [4, 5]) .none (.call 28 (.cons (.ix (.var 4) (.int 0)) (.cons (.ix (.var 5) (.int 0)) (.cons (.var 2) .nil)))))) .nil)))))
abbrev t_matches : Stmt := top 55
/-- gone to -/
def n_gone_to : List Str := ["roll", "pattern", "now", "step", "place", "waste", "strips", "goal", "more", "some", "form", "begin", "length"]
def b_gone_to : Ss :=
  (.cons (.asgT [4, 5, 6] (.var 2)) (.cons (.ite (.cmp .Eq (.ix (.var 3) (.int 0)) (.str "cut")) (.cons (.asg 7 (.call 1 (.cons (.var 4) (.cons (.ix (.var 3) (.int 1)) .nil)))) (.cons (.asg 8 (.bin .Add (.var 6) (.tup (.cons (.tup (.cons (.var 4) (.cons (.ix (.var 3) (.int 1)) .nil))) .nil)))) .nil)) (.cons (.asg 9 (.comp [11, 12] (.seq (.var 6)) (.tp [11, 12]) .none (.tup (.cons (.tup (.cons (.var 11) (.cons (.tup (.cons (.int 0) (.cons (.int 1) .nil))) .nil))) (.cons (.var 12) .nil))))) (.cons (.asg 10 (.ix (.call 71 (.cons (.ix (.var 3) (.int 0)) (.cons (.tup (.cons (.var 4) (.cons (.tup (.cons (.int 0) (.cons (.int 1) .nil))) .nil))) (.cons (.var 9) (.cons (.var 1) (.cons (.var 1) .nil)))))) (.int 1))) (.cons (.asg 7 (.call 69 (.cons (.var 10) (.cons (.var 1) .nil)))) (.cons (.par [5, 8] (.cons (.call 1 (.cons (.var 5) (.cons (.call 2 (.cons (.var 7) (.cons (.var 4) .nil))) .nil))) (.cons (.var 6) .nil))) .nil))))) (.cons (.ret (.ife (.not (.call 4 (.cons (.tup (.cons (.var 0) (.cons (.int 1) .nil))) (.cons (.var 7) .nil)))) (.tup (.cons (.var 7) (.cons (.var 5) (.cons (.var 8) .nil)))) .non)) .nil)))
abbrev t_gone_to : Stmt := top 58
/-- Roll.  init -/
def n_Roll___init : List Str := ["self", "roll", "pattern"]
def b_Roll___init : Ss :=
  (.cons (.xp (.call 12 (.cons (.var 1) .nil))) (.cons (.xp (.call 14 (.cons (.var 2) .nil))) (.cons (.stF 0 0 "both" (.tup (.cons (.var 1) (.cons (.var 2) .nil)))) (.cons (.stF 0 1 "now" (.tup (.cons (.tup (.cons (.int 0) (.cons (.int 1) .nil))) (.cons (.tup (.cons (.int 0) (.cons (.int 1) .nil))) (.cons (.tup .nil) .nil))))) (.cons (.stL 0 2 (.lst .nil)) .nil)))))
abbrev t_Roll___init : Stmt := mth 59 1
/-- Roll.length -/
def n_Roll_length : List Str := ["self"]
def b_Roll_length : Ss :=
  (.cons (.ret (.ix (.fld 0 0 "both") (.int 0))) .nil)
abbrev t_Roll_length : Stmt := mth 59 2
/-- Roll.pattern -/
def n_Roll_pattern : List Str := ["self"]
def b_Roll_pattern : Ss :=
  (.cons (.ret (.ix (.fld 0 0 "both") (.int 1))) .nil)
abbrev t_Roll_pattern : Stmt := mth 59 3
/-- Roll.place -/
def n_Roll_place : List Str := ["self"]
def b_Roll_place : Ss :=
  (.cons (.ret (.ix (.fld 0 1 "now") (.int 0))) .nil)
abbrev t_Roll_place : Stmt := mth 59 4
/-- Roll.waste -/
def n_Roll_waste : List Str := ["self"]
def b_Roll_waste : Ss :=
  (.cons (.ret (.ix (.fld 0 1 "now") (.int 1))) .nil)
abbrev t_Roll_waste : Stmt := mth 59 5
/-- Roll.strips -/
def n_Roll_strips : List Str := ["self"]
def b_Roll_strips : Ss :=
  (.cons (.ret (.ix (.fld 0 1 "now") (.int 2))) .nil)
abbrev t_Roll_strips : Stmt := mth 59 6
/-- Roll.keep -/
def n_Roll_keep : List Str := ["self", "later"]
def b_Roll_keep : Ss :=
  (.cons (.ite (.cmp .Is (.var 1) .non) (.cons (.raise "RollOut") .nil) .nil) (.cons (.ite (.cmp .Eq (.flen 0 2 "past") (.int 60)) (.cons (.dead) .nil) .nil) (.cons (.appF 0 2 "past" 1 "now") (.cons (.stF 0 1 "now" (.var 1)) .nil))))
abbrev t_Roll_keep : Stmt := mth 59 7
/-- Roll.cut -/
def n_Roll_cut : List Str := ["self", "length", "begin"]
def b_Roll_cut : Ss :=
  (.cons (.ite (.not (.call 7 (.cons (.var 1) .nil))) (.cons (.raise "InvalidLength") .nil) .nil) (.cons (.asg 2 (.ix (.fld 0 1 "now") (.int 0))) (.cons (.xp (.callM 42 0 (.cons (.call 35 (.cons (.ix (.fld 0 0 "both") (.int 0)) (.cons (.ix (.fld 0 0 "both") (.int 1)) (.cons (.fld 0 1 "now") (.cons (.tup (.cons (.str "cut") (.cons (.var 1) .nil))) .nil))))) .nil))) (.cons (.ret (.var 2)) .nil))))
abbrev t_Roll_cut : Stmt := mth 59 8
/-- Roll.away -/
def n_Roll_away : List Str := ["self", "word", "old"]
def b_Roll_away : Ss :=
  (.cons (.asg 2 (.ix (.fld 0 1 "now") (.int 1))) (.cons (.xp (.callM 42 0 (.cons (.call 35 (.cons (.ix (.fld 0 0 "both") (.int 0)) (.cons (.ix (.fld 0 0 "both") (.int 1)) (.cons (.fld 0 1 "now") (.cons (.tup (.cons (.var 1) .nil)) .nil))))) .nil))) (.cons (.ret (.call 2 (.cons (.ix (.fld 0 1 "now") (.int 1)) (.cons (.var 2) .nil)))) .nil)))
abbrev t_Roll_away : Stmt := mth 59 9
/-- Roll.mark -/
def n_Roll_mark : List Str := ["self"]
def b_Roll_mark : Ss :=
  (.cons (.ret (.callM 44 0 (.cons (.str "mark") .nil))) .nil)
abbrev t_Roll_mark : Stmt := mth 59 10
/-- Roll.half -/
def n_Roll_half : List Str := ["self"]
def b_Roll_half : Ss :=
  (.cons (.ret (.callM 44 0 (.cons (.str "half") .nil))) .nil)
abbrev t_Roll_half : Stmt := mth 59 11
/-- Roll.match -/
def n_Roll_match : List Str := ["self"]
def b_Roll_match : Ss :=
  (.cons (.ret (.callM 44 0 (.cons (.str "match") .nil))) .nil)
abbrev t_Roll_match : Stmt := mth 59 12
/-- Roll.drop -/
def n_Roll_drop : List Str := ["self"]
def b_Roll_drop : Ss :=
  (.cons (.ret (.callM 44 0 (.cons (.str "drop") .nil))) .nil)
abbrev t_Roll_drop : Stmt := mth 59 13
/-- Roll.matches -/
def n_Roll_matches : List Str := ["self", "begins", "begin", "length", "one", "two"]
def b_Roll_matches : Ss :=
  (.cons (.asg 1 (.comp [2, 3] (.seq (.ix (.fld 0 1 "now") (.int 2))) (.tp [2, 3]) .none (.tup (.cons (.var 2) (.cons (.tup (.cons (.int 0) (.cons (.int 1) .nil))) .nil))))) (.cons (.ret (.comp [4, 5] (.zip (.var 1) (.sl (.var 1) (.some (.int 1)) .none)) (.tp [4, 5]) .none (.call 72 (.cons (.var 4) (.cons (.var 5) (.cons (.ix (.fld 0 0 "both") (.int 1)) .nil)))))) .nil))
abbrev t_Roll_matches : Stmt := mth 59 14
/-- Roll.undo -/
def n_Roll_undo : List Str := ["self"]
def b_Roll_undo : Ss :=
  (.cons (.ite (.femp 0 2 "past") (.cons (.raise "NothingToUndo") .nil) .nil) (.cons (.stF 0 1 "now" (.fpop 0 2 "past")) .nil))
abbrev t_Roll_undo : Stmt := mth 59 15
/-- Roll.  iadd -/
def n_Roll___iadd : List Str := ["self", "script", "now", "index", "step", "later"]
def b_Roll___iadd : Ss :=
  (.cons (.xp (.call 13 (.cons (.var 1) .nil))) (.cons (.asg 2 (.fld 0 1 "now")) (.cons (.for_ (.tp [3, 4]) (.seq (.call 15 (.cons (.var 1) .nil))) (.cons (.asg 5 (.call 35 (.cons (.ix (.fld 0 0 "both") (.int 0)) (.cons (.ix (.fld 0 0 "both") (.int 1)) (.cons (.var 2) (.cons (.var 4) .nil)))))) (.cons (.ite (.cmp .Is (.var 5) .non) (.cons (.brk) .nil) .nil) (.cons (.asg 2 (.var 5)) .nil)))) (.cons (.xp (.callM 42 0 (.cons (.var 2) .nil))) (.cons (.retMe) .nil)))))
abbrev t_Roll___iadd : Stmt := mth 59 18
/-- law source -/
def n_law_source : List Str := ["script", "k", "number", "start"]
def b_law_source : Ss :=
  (.cons (.asg 2 (.int 0)) (.cons (.ite (.cmp .Gt (.len (.var 0)) (.var 1)) (.cons (.asg 2 (.blt .int (.cons (.ix (.var 0) (.var 1)) .nil))) .nil) .nil) (.cons (.asg 3 (.bin .Mod (.bin .Add (.bin .Add (.bin .Mult (.var 2) (.int 16807)) (.bin .Mult (.int 60919) (.var 1))) (.int 31)) (.int 2147481173))) (.cons (.asg 3 (.bin .Add (.bin .Add (.bin .Mod (.bin .Mult (.var 3) (.var 3)) (.int 2147481151)) (.bin .Mult (.int 2) (.var 1))) (.int 5))) (.cons (.ret (.lst (.cons (.ife (.cmp .GtE (.var 2) (.bin .Pow (.int 10) (.int 18))) (.var 2) (.int 0)) (.cons (.var 3) .nil)))) .nil)))))
abbrev t_law_source : Stmt := top 61
/-- law pick -/
def n_law_pick : List Str := ["source", "many", "found"]
def b_law_pick : Ss :=
  (.cons (.ite (.cmp .Gt (.ix (.var 0) (.int 0)) (.int 0)) (.cons (.asg 2 (.bin .Mod (.blt .int (.cons (.ix (.var 0) (.int 0)) .nil)) (.var 1))) (.cons (.setIx 0 (.int 0) (.bin .FloorDiv (.blt .int (.cons (.ix (.var 0) (.int 0)) .nil)) (.var 1))) (.cons (.ret (.var 2)) .nil))) .nil) (.cons (.setIx 0 (.int 1) (.bin .Mod (.blt .int (.cons (.bin .Add (.bin .Mult (.ix (.var 0) (.int 1)) (.int 44497)) (.int 9973)) .nil)) (.int 2147483647))) (.cons (.ret (.bin .Mod (.bin .FloorDiv (.bin .Mod (.blt .int (.cons (.bin .Mult (.ix (.var 0) (.int 1)) (.ix (.var 0) (.int 1))) .nil)) (.int 2147483399)) (.int 11)) (.var 1))) .nil)))
abbrev t_law_pick : Stmt := top 62
/-- law chosen -/
def n_law_chosen : List Str := ["source", "things"]
def b_law_chosen : Ss :=
  (.cons (.ret (.ix (.var 1) (.callIo 53 0 (.cons (.len (.var 1)) .nil)))) .nil)
abbrev t_law_chosen : Stmt := top 63
/-- law lowest -/
def n_law_lowest : List Str := ["top", "below", "one", "other"]
def b_law_lowest : Ss :=
  (.cons (.par [2, 3] (.cons (.blt .abs (.cons (.var 0) .nil)) (.cons (.blt .abs (.cons (.var 1) .nil)) .nil))) (.cons (.whl (.cmp .NotEq (.var 3) (.int 0)) (.cons (.par [2, 3] (.cons (.var 3) (.cons (.bin .Mod (.var 2) (.var 3)) .nil))) .nil)) (.cons (.ret (.tup (.cons (.bin .FloorDiv (.var 0) (.var 2)) (.cons (.bin .FloorDiv (.var 1) (.var 2)) .nil)))) .nil)))
abbrev t_law_lowest : Stmt := top 64
/-- law single -/
def n_law_single : List Str := ["source", "quarters"]
def b_law_single : Ss :=
  (.cons (.ite (.cmp .Eq (.callIo 53 0 (.cons (.int 2) .nil)) (.int 0)) (.cons (.asg 1 (.callIo 54 0 (.cons (.lst (.cons (.int 4) (.cons (.int 4) (.cons (.int 4) (.cons (.int 2) (.cons (.int 3) (.cons (.int 6) (.cons (.bin .Add (.int 1) (.callIo 53 0 (.cons (.int 8) .nil))) .nil)))))))) .nil))) (.cons (.ret (.tup (.cons (.str "cut") (.cons (.call 55 (.cons (.var 1) (.cons (.int 4) .nil))) .nil)))) .nil)) .nil) (.cons (.ret (.tup (.cons (.callIo 54 0 (.cons (.lst (.cons (.str "mark") (.cons (.str "match") (.cons (.str "match") (.cons (.str "half") (.cons (.str "drop") .nil)))))) .nil)) .nil))) .nil))
abbrev t_law_single : Stmt := top 65
/-- law some -/
def n_law_some : List Str := ["source", "most", "found", "turn", "step", "inner", "again"]
def b_law_some : Ss :=
  (.cons (.asg 2 (.tup .nil)) (.cons (.for_ (.nm 3) (.rng1 (.bin .Add (.int 1) (.callIo 53 0 (.cons (.var 1) .nil)))) (.cons (.asg 4 (.callIo 56 0 .nil)) (.cons (.ite (.cmp .Eq (.callIo 53 0 (.cons (.int 5) .nil)) (.int 0)) (.cons (.asg 5 (.blt .tuple (.cons (.comp [6] (.rng1 (.bin .Add (.int 1) (.callIo 53 0 (.cons (.int 3) .nil)))) (.nm 6) .none (.callIo 56 0 .nil)) .nil))) (.cons (.asg 4 (.tup (.cons (.str "repeat") (.cons (.bin .Add (.int 2) (.callIo 53 0 (.cons (.int 2) .nil))) (.cons (.var 5) .nil))))) .nil)) .nil) (.cons (.asg 2 (.bin .Add (.var 2) (.tup (.cons (.var 4) .nil)))) .nil)))) (.cons (.ret (.var 2)) .nil)))
abbrev t_law_some : Stmt := top 66
/-- law less -/
def n_law_less : List Str := ["one", "other"]
def b_law_less : Ss :=
  (.cons (.ret (.cmp .Lt (.bin .Mult (.ix (.var 0) (.int 0)) (.ix (.var 1) (.int 1))) (.bin .Mult (.ix (.var 1) (.int 0)) (.ix (.var 0) (.int 1))))) .nil)
abbrev t_law_less : Stmt := top 67
/-- law patterns -/
def n_law_patterns : List Str := ["source", "many", "found", "turn", "pattern", "way"]
def b_law_patterns : Ss :=
  (.cons (.asg 2 (.lst .nil)) (.cons (.for_ (.nm 3) (.rng1 (.var 1)) (.cons (.asg 4 (.call 55 (.cons (.bin .Add (.int 1) (.callIo 53 0 (.cons (.int 24) .nil))) (.cons (.bin .Mult (.int 2) (.bin .Add (.int 1) (.callIo 53 0 (.cons (.int 12) .nil)))) .nil)))) (.cons (.asg 5 (.callIo 53 0 (.cons (.int 5) .nil))) (.cons (.ite (.cmp .Eq (.var 5) (.int 3)) (.cons (.asg 4 (.call 55 (.cons (.bin .Add (.bin .Mult (.ix (.var 4) (.int 0)) (.bin .Pow (.int 10) (.int 7))) (.int 1)) (.cons (.bin .Mult (.ix (.var 4) (.int 1)) (.bin .Pow (.int 10) (.int 7))) .nil)))) .nil) .nil) (.cons (.ite (.cmp .Eq (.var 5) (.int 4)) (.cons (.asg 4 (.call 55 (.cons (.bin .Add (.int 1) (.callIo 53 0 (.cons (.bin .Pow (.int 10) (.int 6)) .nil))) (.cons (.bin .Add (.int 1) (.callIo 53 0 (.cons (.bin .Pow (.int 10) (.int 6)) .nil))) .nil)))) .nil) .nil) (.cons (.app 2 (.ife (.not (.call 58 (.cons (.var 4) (.cons (.tup (.cons (.int 1) (.cons (.int 4) .nil))) .nil)))) (.var 4) (.tup (.cons (.int 1) (.cons (.int 4) .nil))))) .nil)))))) (.cons (.ret (.var 2)) .nil)))
abbrev t_law_patterns : Stmt := top 68
/-- law sum -/
def n_law_sum : List Str := ["one", "other", "factor"]
def b_law_sum : Ss :=
  (.cons (.ret (.call 55 (.cons (.bin .Add (.bin .Mult (.ix (.var 0) (.int 0)) (.ix (.var 1) (.int 1))) (.bin .Mult (.bin .Mult (.var 2) (.ix (.var 1) (.int 0))) (.ix (.var 0) (.int 1)))) (.cons (.bin .Mult (.ix (.var 0) (.int 1)) (.ix (.var 1) (.int 1))) .nil)))) .nil)
abbrev t_law_sum : Stmt := top 69
/-- law does -/
def n_law_does : List Str := ["thing", "some", "fail", "step"]
def b_law_does : Ss :=
  (.cons (.for_ (.nm 3) (.seq (.var 1)) (.cons (.iadd 51 0 (.tup (.cons (.var 3) .nil))) .nil)) (.cons (.xp (.callM 50 0 .nil)) (.cons (.ite (.var 2) (.cons (.xp (.callM 43 0 (.cons (.tup (.cons (.int 1) (.cons (.int 3) .nil))) .nil))) .nil) .nil) (.cons (.ret (.prop 39 0)) .nil))))
abbrev t_law_does : Stmt := top 70
/-- law undone -/
def n_law_undone : List Str := ["thing", "turn"]
def b_law_undone : Ss :=
  (.cons (.for_ (.nm 1) (.rng1 (.int 1000)) (.cons (.try_ (.cons (.xp (.callM 50 0 .nil)) .nil) [("NothingToUndo", .var 1)]) .nil)) (.cons (.ret (.int 1000)) .nil))
abbrev t_law_undone : Stmt := top 72
/-- law -/
def n_law : List Str := ["script", "k", "source", "some", "turn", "other", "cut", "step", "before", "more", "roll", "pattern", "one"]
def b_law : Ss :=
  (.cons (.for_ (.nm 1) (.rng1 (.blt .max2 (.cons (.int 5) (.cons (.blt .min2 (.cons (.int 16) (.cons (.len (.var 0)) .nil))) .nil)))) (.cons (.asg 2 (.callSc 52 0 (.cons (.var 1) .nil))) (.cons (.par [10, 11, 3] (.cons (.bin .Add (.int 1) (.callIo 53 2 (.cons (.int 6) .nil))) (.cons (.ix (.callIo 59 2 (.cons (.int 1) .nil)) (.int 0)) (.cons (.callIo 57 2 (.cons (.int 7) .nil)) .nil)))) (.cons (.asg 3 (.bin .Add (.blt .tuple (.cons (.comp [7] (.seq (.var 3)) (.nm 7) (.some (.cmp .NotEq (.ix (.var 7) (.int 0)) (.str "repeat"))) (.var 7)) .nil)) (.tup (.cons (.tup (.cons (.str "mark") .nil)) .nil)))) (.cons (.for_ (.nm 4) (.rng1 (.len (.var 3))) (.cons (.ite (.cmp .IsNot (.call 33 (.cons (.var 10) (.cons (.var 3) (.cons (.var 11) .nil)))) .non) (.cons (.asg 3 (.sl (.var 3) .none (.some (.neg (.int 1))))) .nil) .nil) .nil)) (.cons (.par2 12 5 (.new 36 (.cons (.var 10) (.cons (.var 11) .nil))) (.new 36 (.cons (.var 10) (.cons (.var 11) .nil)))) (.cons (.iadd 51 5 (.var 3)) (.cons (.ite (.bop false (.cons (.cmp .NotEq (.prop 41 5) (.blt .tuple (.cons (.call 30 (.cons (.var 10) (.cons (.var 3) (.cons (.var 11) .nil)))) .nil))) (.cons (.cmp .NotEq (.prop 40 5) (.call 31 (.cons (.var 10) (.cons (.var 3) (.cons (.var 11) .nil))))) .nil))) (.cons (.ret (.bl false)) .nil) .nil) (.cons (.ite (.cmp .NotEq (.call 60 (.cons (.tup (.cons (.var 10) (.cons (.int 1) .nil))) (.cons (.prop 39 5) (.cons (.neg (.int 1)) .nil)))) (.call 32 (.cons (.var 10) (.cons (.var 3) (.cons (.var 11) .nil))))) (.cons (.ret (.bl false)) .nil) .nil) (.cons (.ite (.cmp .NotEq (.callM 49 5 .nil) (.call 34 (.cons (.var 10) (.cons (.var 3) (.cons (.var 11) .nil))))) (.cons (.ret (.bl false)) .nil) .nil) (.cons (.asg 6 (.callIo 53 2 (.cons (.bin .Add (.len (.var 3)) (.int 1)) .nil))) (.cons (.for_ (.nm 7) (.seq (.sl (.var 3) .none (.some (.var 6)))) (.cons (.iadd 51 12 (.tup (.cons (.var 7) .nil))) .nil)) (.cons (.asg 8 (.tup (.cons (.prop 39 12) (.cons (.prop 40 12) (.cons (.prop 41 12) .nil))))) (.cons (.asg 9 (.bin .Add (.sl (.var 3) (.some (.var 6)) .none) (.tup (.cons (.tup (.cons (.str "mark") .nil)) .nil)))) (.cons (.ite (.bop false (.cons (.cmp .NotEq (.callOb 62 0 12 (.cons (.var 9) (.cons (.bl true) .nil))) (.str "length!")) (.cons (.cmp .NotEq (.tup (.cons (.prop 39 12) (.cons (.prop 40 12) (.cons (.prop 41 12) .nil)))) (.var 8)) .nil))) (.cons (.ret (.bl false)) .nil) .nil) (.cons (.ite (.bop false (.cons (.cmp .NotEq (.callOb 62 0 12 (.cons (.var 9) (.cons (.bl false) .nil))) (.prop 39 5)) (.cons (.not (.eqOb 0 12 5)) (.cons (.cmp .NotEq (.prop 41 12) (.prop 41 5)) .nil)))) (.cons (.ret (.bl false)) .nil) .nil) (.cons (.ite (.bop false (.cons (.cmp .NotEq (.callOb 63 0 12 .nil) (.len (.var 3))) (.cons (.cmp .NotEq (.prop 39 12) (.tup (.cons (.int 0) (.cons (.int 1) .nil)))) (.cons (.cmp .NotEq (.callOb 63 0 5 .nil) (.int 1)) (.cons (.not (.eqOb 0 12 5)) .nil))))) (.cons (.ret (.bl false)) .nil) .nil) .nil))))))))))))))))) (.cons (.ret (.bl true)) .nil))
abbrev t_law : Stmt := top 73
/-- worth sign, the second -/
def b_worth_sign2 : Ss :=
  (.cons (.asgT [2, 3] (.var 0)) (.cons (.ret (.bin .Add (.bin .Mult (.bin .Mult (.ix (.var 2) (.int 0)) (.ix (.var 3) (.int 1))) (.ix (.var 1) (.int 1))) (.bin .Mult (.bin .Mult (.ix (.var 3) (.int 0)) (.ix (.var 2) (.int 1))) (.ix (.var 1) (.int 0))))) .nil))
/-- sign in, the second -/
def b_sign_in2 : Ss :=
  (.cons (.par [3, 4] (.cons (.call 65 (.cons (.var 0) (.cons (.var 1) .nil))) (.cons (.call 65 (.cons (.var 0) (.cons (.var 2) .nil))) .nil))) (.cons (.ite (.bop true (.cons (.cmp .GtE (.var 3) (.int 0)) (.cons (.cmp .GtE (.var 4) (.int 0)) .nil))) (.cons (.ret (.blt .int (.cons (.cmp .Gt (.bin .Add (.var 3) (.var 4)) (.int 0)) .nil))) .nil) .nil) (.cons (.ret (.ife (.bop true (.cons (.cmp .LtE (.var 3) (.int 0)) (.cons (.cmp .LtE (.var 4) (.int 0)) .nil))) (.neg (.int 1)) .non)) .nil)))
/-- form sum, the second -/
def b_form_sum2 : Ss :=
  (.cons (.ret (.tup (.cons (.call 1 (.cons (.ix (.var 0) (.int 0)) (.cons (.ix (.var 1) (.int 0)) .nil))) (.cons (.call 1 (.cons (.ix (.var 0) (.int 1)) (.cons (.ix (.var 1) (.int 1)) .nil))) .nil)))) .nil)
/-- form less, the second -/
def b_form_less2 : Ss :=
  (.cons (.ret (.tup (.cons (.call 2 (.cons (.ix (.var 0) (.int 0)) (.cons (.ix (.var 1) (.int 0)) .nil))) (.cons (.call 2 (.cons (.ix (.var 0) (.int 1)) (.cons (.ix (.var 1) (.int 1)) .nil))) .nil)))) .nil)
/-- value of, the second -/
def b_value_of2 : Ss :=
  (.cons (.ret (.call 1 (.cons (.ix (.var 0) (.int 0)) (.cons (.call 3 (.cons (.ix (.var 0) (.int 1)) (.cons (.var 1) .nil))) .nil)))) .nil)
/-- next place, the second -/
def b_next_place2 : Ss :=
  (.cons (.asg 4 (.call 22 (.cons (.var 2) (.cons (.var 3) .nil)))) (.cons (.asg 5 (.call 2 (.cons (.call 69 (.cons (.var 0) (.cons (.var 4) .nil))) (.cons (.call 69 (.cons (.var 1) (.cons (.var 4) .nil))) .nil)))) (.cons (.asg 6 (.neg (.bin .FloorDiv (.bin .Mult (.neg (.ix (.var 5) (.int 0))) (.ix (.var 4) (.int 1))) (.bin .Mult (.ix (.var 5) (.int 1)) (.ix (.var 4) (.int 0)))))) (.cons (.asg 7 (.call 67 (.cons (.var 1) (.cons (.tup (.cons (.tup (.cons (.int 0) (.cons (.int 1) .nil))) (.cons (.tup (.cons (.var 6) (.cons (.int 1) .nil))) .nil))) .nil)))) (.cons (.asg 8 (.call 67 (.cons (.var 1) (.cons (.tup (.cons (.tup (.cons (.int 0) (.cons (.int 1) .nil))) (.cons (.tup (.cons (.bin .Sub (.var 6) (.int 1)) (.cons (.int 1) .nil))) .nil))) .nil)))) (.cons (.for_ (.nm 9) (.seq (.tup (.cons (.call 68 (.cons (.var 7) (.cons (.var 0) .nil))) (.cons (.call 68 (.cons (.var 0) (.cons (.var 8) .nil))) .nil)))) (.cons (.ite (.cmp .Is (.call 66 (.cons (.var 9) (.cons (.var 2) (.cons (.var 3) .nil)))) .non) (.cons (.ret (.tup (.cons (.call 18 (.cons (.var 9) .nil)) (.cons .non .nil)))) .nil) .nil) .nil)) (.cons (.ret (.tup (.cons .non (.cons (.var 7) .nil)))) .nil)))))))
/-- goal of, the second -/
def b_goal_of2 : Ss :=
  (.cons (.ite (.cmp .In (.var 0) (.tup (.cons (.str "match") (.cons (.str "drop") .nil)))) (.cons (.ite (.cmp .Eq (.var 2) (.lst .nil)) (.cons (.ret (.tup (.cons .non (.cons (.var 1) .nil)))) .nil) .nil) (.cons (.asg 5 (.ix (.ix (.var 2) (.bin .Sub (.len (.var 2)) (.int 1))) (.int 0))) .nil)) (.cons (.asg 5 (.con 4)) .nil)) (.cons (.ite (.cmp .In (.var 0) (.tup (.cons (.str "half") (.cons (.str "drop") .nil)))) (.cons (.asg 5 (.call 67 (.cons (.var 5) (.cons (.tup (.cons (.tup (.cons (.int 0) (.cons (.int 1) .nil))) (.cons (.tup (.cons (.neg (.int 1)) (.cons (.int 2) .nil))) .nil))) .nil)))) .nil) .nil) (.cons (.ret (.call 70 (.cons (.var 1) (.cons (.var 5) (.cons (.var 3) (.cons (.var 4) .nil)))))) .nil)))
/-- match word, the second -/
def b_match_word2 : Ss :=
  (.cons (.asg 3 (.call 2 (.cons (.call 69 (.cons (.var 1) (.cons (.var 2) .nil))) (.cons (.call 69 (.cons (.var 0) (.cons (.var 2) .nil))) .nil)))) (.cons (.asg 4 (.call 0 (.cons (.bin .Mult (.bin .Mult (.int 2) (.ix (.var 3) (.int 0))) (.ix (.var 2) (.int 1))) (.cons (.bin .Mult (.ix (.var 3) (.int 1)) (.ix (.var 2) (.int 0))) .nil)))) (.cons (.ite (.cmp .NotEq (.ix (.var 4) (.int 1)) (.int 1)) (.cons (.ret (.str "none")) .nil) .nil) (.cons (.ret (.ife (.cmp .Eq (.bin .Mod (.ix (.var 4) (.int 0)) (.int 2)) (.int 0)) (.str "same") (.str "half"))) .nil))))
/-! numbers: lowest 0 lev 1, plus 1 lev 2, minus 2 lev 2, times 3 lev 2, is_less 4 lev 1, is_whole 5 lev 1, is_fraction 6 lev 2, is_length 7 lev 3, is_plain_step 8 lev 4, is_right_step 9 lev 5, is_right_script 10 lev 6, is_right_pattern 11 lev 3, need_roll 12 lev 2, need_script 13 lev 7, need_pattern 14 lev 4, spread 15 lev 1, worth_sign 16 lev 1, sign_in 17 lev 2, edge_of 18 lev 2, form_sum 19 lev 3, form_less 20 lev 3, value_of 21 lev 3, middle 22 lev 3, next_place 23 lev 4, goal_of 24 lev 5, done_in 25 lev 6, pieces_in 26 lev 7, at_pattern 27 lev 8, match_word 28 lev 4, strips_of 29 lev 9, strips 30 lev 10, waste 31 lev 9, rest 32 lev 9, out_at 33 lev 9, matches 34 lev 9, gone_to 35 lev 6, Roll.__init__ 36 lev 5, Roll.length 37 lev 1, Roll.pattern 38 lev 1, Roll.place 39 lev 1, Roll.waste 40 lev 1, Roll.strips 41 lev 1, Roll.keep 42 lev 1, Roll.cut 43 lev 7, Roll.away 44 lev 7, Roll.mark 45 lev 8, Roll.half 46 lev 8, Roll.match 47 lev 8, Roll.drop 48 lev 8, Roll.matches 49 lev 5, Roll.undo 50 lev 1, Roll.__iadd__ 51 lev 8, _law_source 52 lev 1, _law_pick 53 lev 1, _law_chosen 54 lev 2, _law_lowest 55 lev 1, _law_single 56 lev 3, _law_some 57 lev 4, _law_less 58 lev 1, _law_patterns 59 lev 2, _law_sum 60 lev 2, _law_does 61 lev 9, _law_tried 62 lev 16, _law_undone 63 lev 2, law 64 lev 17, worth_sign#2 65 lev 1, sign_in#2 66 lev 2, form_sum#2 67 lev 3, form_less#2 68 lev 3, value_of#2 69 lev 3, next_place#2 70 lev 4, goal_of#2 71 lev 5, match_word#2 72 lev 4 -/
def tab : List (Option FnI) := [
  some ⟨"lowest", .no, 1, ["top", "below"]⟩,
  some ⟨"plus", .no, 2, ["one", "other"]⟩,
  some ⟨"minus", .no, 2, ["one", "other"]⟩,
  some ⟨"times", .no, 2, ["one", "other"]⟩,
  some ⟨"is_less", .no, 1, ["one", "other"]⟩,
  some ⟨"is_whole", .no, 1, ["value", "low", "high"]⟩,
  some ⟨"is_fraction", .no, 2, ["value"]⟩,
  some ⟨"is_length", .no, 3, ["value"]⟩,
  some ⟨"is_plain_step", .no, 4, ["value"]⟩,
  some ⟨"is_right_step", .no, 5, ["value"]⟩,
  some ⟨"is_right_script", .no, 6, ["value"]⟩,
  some ⟨"is_right_pattern", .no, 3, ["value"]⟩,
  some ⟨"need_roll", .no, 2, ["value"]⟩,
  some ⟨"need_script", .no, 7, ["value"]⟩,
  some ⟨"need_pattern", .no, 4, ["value"]⟩,
  some ⟨"spread", .no, 1, ["script"]⟩,
  some ⟨"worth_sign", .no, 1, ["form", "pattern"]⟩,
  some ⟨"sign_in", .no, 2, ["form", "low", "high"]⟩,
  some ⟨"edge_of", .no, 2, ["form"]⟩,
  some ⟨"form_sum", .no, 3, ["one", "other"]⟩,
  some ⟨"form_less", .no, 3, ["one", "other"]⟩,
  some ⟨"value_of", .no, 3, ["form", "pattern"]⟩,
  some ⟨"middle", .no, 3, ["low", "high"]⟩,
  some ⟨"next_place", .no, 4, ["cut", "start", "low", "high"]⟩,
  some ⟨"goal_of", .no, 5, ["word", "cut", "strips", "low", "high"]⟩,
  some ⟨"done_in", .no, 6, ["roll", "script", "low", "high"]⟩,
  some ⟨"pieces_in", .no, 7, ["roll", "script", "low", "high"]⟩,
  some ⟨"at_pattern", .no, 8, ["roll", "script", "pattern"]⟩,
  some ⟨"match_word", .no, 4, ["one", "other", "pattern"]⟩,
  some ⟨"strips_of", .no, 9, ["roll", "script", "pattern"]⟩,
  some ⟨"strips", .no, 10, ["roll", "script", "pattern"]⟩,
  some ⟨"waste", .no, 9, ["roll", "script", "pattern"]⟩,
  some ⟨"rest", .no, 9, ["roll", "script", "pattern"]⟩,
  some ⟨"out_at", .no, 9, ["roll", "script", "pattern"]⟩,
  some ⟨"matches", .no, 9, ["roll", "script", "pattern"]⟩,
  some ⟨"gone_to", .no, 6, ["roll", "pattern", "now", "step"]⟩,
  none,
  none,
  none,
  none,
  none,
  none,
  none,
  none,
  none,
  none,
  none,
  none,
  none,
  none,
  none,
  none,
  some ⟨"_law_source", .sc, 1, ["script", "k"]⟩,
  some ⟨"_law_pick", .io, 1, ["source", "many"]⟩,
  some ⟨"_law_chosen", .io, 2, ["source", "things"]⟩,
  some ⟨"_law_lowest", .no, 1, ["top", "below"]⟩,
  some ⟨"_law_single", .io, 3, ["source"]⟩,
  some ⟨"_law_some", .io, 4, ["source", "most"]⟩,
  some ⟨"_law_less", .no, 1, ["one", "other"]⟩,
  some ⟨"_law_patterns", .io, 2, ["source", "many"]⟩,
  some ⟨"_law_sum", .no, 2, ["one", "other", "factor"]⟩,
  some ⟨"_law_does", .ob 0, 9, ["thing", "some", "fail"]⟩,
  some ⟨"_law_tried", .ob 0, 16, ["thing", "some", "fail"]⟩,
  some ⟨"_law_undone", .ob 0, 2, ["thing"]⟩,
  some ⟨"law", .sc, 17, ["script"]⟩,
  some ⟨"worth_sign", .no, 1, ["form", "pattern"]⟩,
  some ⟨"sign_in", .no, 2, ["form", "low", "high"]⟩,
  some ⟨"form_sum", .no, 3, ["one", "other"]⟩,
  some ⟨"form_less", .no, 3, ["one", "other"]⟩,
  some ⟨"value_of", .no, 3, ["form", "pattern"]⟩,
  some ⟨"next_place", .no, 4, ["cut", "start", "low", "high"]⟩,
  some ⟨"goal_of", .no, 5, ["word", "cut", "strips", "low", "high"]⟩,
  some ⟨"match_word", .no, 4, ["one", "other", "pattern"]⟩]
def mtab : List (Option MtI) := [
  none,
  none,
  none,
  none,
  none,
  none,
  none,
  none,
  none,
  none,
  none,
  none,
  none,
  none,
  none,
  none,
  none,
  none,
  none,
  none,
  none,
  none,
  none,
  none,
  none,
  none,
  none,
  none,
  none,
  none,
  none,
  none,
  none,
  none,
  none,
  none,
  some ⟨0, "Roll", .init, 5, ["self", "roll", "pattern"]⟩,
  some ⟨0, "length", .prop, 1, ["self"]⟩,
  some ⟨0, "pattern", .prop, 1, ["self"]⟩,
  some ⟨0, "place", .prop, 1, ["self"]⟩,
  some ⟨0, "waste", .prop, 1, ["self"]⟩,
  some ⟨0, "strips", .prop, 1, ["self"]⟩,
  some ⟨0, "keep", .meth, 1, ["self", "later"]⟩,
  some ⟨0, "cut", .meth, 7, ["self", "length"]⟩,
  some ⟨0, "away", .meth, 7, ["self", "word"]⟩,
  some ⟨0, "mark", .meth, 8, ["self"]⟩,
  some ⟨0, "half", .meth, 8, ["self"]⟩,
  some ⟨0, "match", .meth, 8, ["self"]⟩,
  some ⟨0, "drop", .meth, 8, ["self"]⟩,
  some ⟨0, "matches", .meth, 5, ["self"]⟩,
  some ⟨0, "undo", .meth, 1, ["self"]⟩,
  some ⟨0, "__iadd__", .iadd, 8, ["self", "script"]⟩,
  none,
  none,
  none,
  none,
  none,
  none,
  none,
  none,
  none,
  none,
  none,
  none,
  none]

def c_0 : PyData := .int 8
def c_1 : PyData := .tuple [.int 1, .int 4]
def c_2 : PyData := .tuple [.str "drop", .str "half", .str "mark", .str "match"]
def c_3 : PyData := .tuple [.tuple [.int 1, .int 4], .tuple [.int 1, .int 2], .tuple [.int 3, .int 4], .tuple [.int 1, .int 1], .tuple [.int 5, .int 4], .tuple [.int 3, .int 2], .tuple [.int 7, .int 4], .tuple [.int 2, .int 1]]
def c_4 : PyData := .tuple [.tuple [.int 0, .int 1], .tuple [.int 0, .int 1]]
def c_5 : PyData := .tuple [.int 1, .int 2]
def c_6 : PyData := .tuple [.int 1, .int 0]
def conT : List (Str × PyData) := [("MOST_STEPS", c_0), ("LEAST_PATTERN", c_1), ("PLACES", c_2), ("LENGTHS", c_3), ("NOUGHT", c_4), ("HALF", c_5), ("ENDLESS", c_6)]
def fldT : Nat → List Str
  | 0 => ["both", "now", "past"]
  | _ => []
def G0 : GE := { flds := fldT, mti := fun k => (mtab[k]?).join, eqs := fun c => if c = 0 then some 1 else none, eqp := fun _ _ _ => True, eqf := fun _ _ _ => true, con := fun k => conT[k]?, fni := fun k => (tab[k]?).join, fns := fun _ => ⟨fun _ _ => True, fun _ _ _ _ => True, fun _ _ _ _ _ => False⟩, excs := ["InvalidRoll", "InvalidScript", "InvalidPattern", "InvalidIndex", "InvalidLength", "RollOut", "NothingToUndo"], exm := fun x y => some (x == y) }
theorem c_lowest : chkSs G0 n_lowest 0 (defScope t_lowest) b_lowest (defBody t_lowest) = true := by decide +kernel
theorem c_plus : chkSs G0 n_plus 1 (defScope t_plus) b_plus (defBody t_plus) = true := by decide +kernel
theorem c_minus : chkSs G0 n_minus 1 (defScope t_minus) b_minus (defBody t_minus) = true := by decide +kernel
theorem c_times : chkSs G0 n_times 1 (defScope t_times) b_times (defBody t_times) = true := by decide +kernel
theorem c_is_less : chkSs G0 n_is_less 0 (defScope t_is_less) b_is_less (defBody t_is_less) = true := by decide +kernel
theorem c_is_whole : chkSs G0 n_is_whole 0 (defScope t_is_whole) b_is_whole (defBody t_is_whole) = true := by decide +kernel
theorem c_is_fraction : chkSs G0 n_is_fraction 1 (defScope t_is_fraction) b_is_fraction (defBody t_is_fraction) = true := by decide +kernel
theorem c_is_length : chkSs G0 n_is_length 2 (defScope t_is_length) b_is_length (defBody t_is_length) = true := by decide +kernel
theorem c_is_plain_step : chkSs G0 n_is_plain_step 3 (defScope t_is_plain_step) b_is_plain_step (defBody t_is_plain_step) = true := by decide +kernel
theorem c_is_right_step : chkSs G0 n_is_right_step 4 (defScope t_is_right_step) b_is_right_step (defBody t_is_right_step) = true := by decide +kernel
theorem c_is_right_script : chkSs G0 n_is_right_script 5 (defScope t_is_right_script) b_is_right_script (defBody t_is_right_script) = true := by decide +kernel
theorem c_is_right_pattern : chkSs G0 n_is_right_pattern 2 (defScope t_is_right_pattern) b_is_right_pattern (defBody t_is_right_pattern) = true := by decide +kernel
theorem c_need_roll : chkSs G0 n_need_roll 1 (defScope t_need_roll) b_need_roll (defBody t_need_roll) = true := by decide +kernel
theorem c_need_script : chkSs G0 n_need_script 6 (defScope t_need_script) b_need_script (defBody t_need_script) = true := by decide +kernel
theorem c_need_pattern : chkSs G0 n_need_pattern 3 (defScope t_need_pattern) b_need_pattern (defBody t_need_pattern) = true := by decide +kernel
theorem c_spread : chkSs G0 n_spread 0 (defScope t_spread) b_spread (defBody t_spread) = true := by decide +kernel
theorem c_worth_sign : chkSs G0 n_worth_sign 0 (defScope t_worth_sign) b_worth_sign (defBody t_worth_sign) = true := by decide +kernel
theorem c_sign_in : chkSs G0 n_sign_in 1 (defScope t_sign_in) b_sign_in (defBody t_sign_in) = true := by decide +kernel
theorem c_edge_of : chkSs G0 n_edge_of 1 (defScope t_edge_of) b_edge_of (defBody t_edge_of) = true := by decide +kernel
theorem c_form_sum : chkSs G0 n_form_sum 2 (defScope t_form_sum) b_form_sum (defBody t_form_sum) = true := by decide +kernel
theorem c_form_less : chkSs G0 n_form_less 2 (defScope t_form_less) b_form_less (defBody t_form_less) = true := by decide +kernel
theorem c_value_of : chkSs G0 n_value_of 2 (defScope t_value_of) b_value_of (defBody t_value_of) = true := by decide +kernel
theorem c_middle : chkSs G0 n_middle 2 (defScope t_middle) b_middle (defBody t_middle) = true := by decide +kernel
theorem c_next_place : chkSs G0 n_next_place 3 (defScope t_next_place) b_next_place (defBody t_next_place) = true := by decide +kernel
theorem c_goal_of : chkSs G0 n_goal_of 4 (defScope t_goal_of) b_goal_of (defBody t_goal_of) = true := by decide +kernel
theorem c_done_in : chkSs G0 n_done_in 5 (defScope t_done_in) b_done_in (defBody t_done_in) = true := by decide +kernel
theorem c_pieces_in : chkSs G0 n_pieces_in 6 (defScope t_pieces_in) b_pieces_in (defBody t_pieces_in) = true := by decide +kernel
theorem c_at_pattern : chkSs G0 n_at_pattern 7 (defScope t_at_pattern) b_at_pattern (defBody t_at_pattern) = true := by decide +kernel
theorem c_match_word : chkSs G0 n_match_word 3 (defScope t_match_word) b_match_word (defBody t_match_word) = true := by decide +kernel
theorem c_strips_of : chkSs G0 n_strips_of 8 (defScope t_strips_of) b_strips_of (defBody t_strips_of) = true := by decide +kernel
theorem c_strips : chkSs G0 n_strips 9 (defScope t_strips) b_strips (defBody t_strips) = true := by decide +kernel
theorem c_waste : chkSs G0 n_waste 8 (defScope t_waste) b_waste (defBody t_waste) = true := by decide +kernel
theorem c_rest : chkSs G0 n_rest 8 (defScope t_rest) b_rest (defBody t_rest) = true := by decide +kernel
theorem c_out_at : chkSs G0 n_out_at 8 (defScope t_out_at) b_out_at (defBody t_out_at) = true := by decide +kernel
theorem c_matches : chkSs G0 n_matches 8 (defScope t_matches) b_matches (defBody t_matches) = true := by decide +kernel
theorem c_gone_to : chkSs G0 n_gone_to 5 (defScope t_gone_to) b_gone_to (defBody t_gone_to) = true := by decide +kernel
theorem c_Roll___init : chkSs G0 n_Roll___init 4 (defScope t_Roll___init) b_Roll___init (defBody t_Roll___init) = true := by decide +kernel
theorem c_Roll_length : chkSs G0 n_Roll_length 0 (defScope t_Roll_length) b_Roll_length (defBody t_Roll_length) = true := by decide +kernel
theorem c_Roll_pattern : chkSs G0 n_Roll_pattern 0 (defScope t_Roll_pattern) b_Roll_pattern (defBody t_Roll_pattern) = true := by decide +kernel
theorem c_Roll_place : chkSs G0 n_Roll_place 0 (defScope t_Roll_place) b_Roll_place (defBody t_Roll_place) = true := by decide +kernel
theorem c_Roll_waste : chkSs G0 n_Roll_waste 0 (defScope t_Roll_waste) b_Roll_waste (defBody t_Roll_waste) = true := by decide +kernel
theorem c_Roll_strips : chkSs G0 n_Roll_strips 0 (defScope t_Roll_strips) b_Roll_strips (defBody t_Roll_strips) = true := by decide +kernel
theorem c_Roll_keep : chkSs G0 n_Roll_keep 0 (defScope t_Roll_keep) b_Roll_keep (defBody t_Roll_keep) = true := by decide +kernel
theorem c_Roll_cut : chkSs G0 n_Roll_cut 6 (defScope t_Roll_cut) b_Roll_cut (defBody t_Roll_cut) = true := by decide +kernel
theorem c_Roll_away : chkSs G0 n_Roll_away 6 (defScope t_Roll_away) b_Roll_away (defBody t_Roll_away) = true := by decide +kernel
theorem c_Roll_mark : chkSs G0 n_Roll_mark 7 (defScope t_Roll_mark) b_Roll_mark (defBody t_Roll_mark) = true := by decide +kernel
theorem c_Roll_half : chkSs G0 n_Roll_half 7 (defScope t_Roll_half) b_Roll_half (defBody t_Roll_half) = true := by decide +kernel
theorem c_Roll_match : chkSs G0 n_Roll_match 7 (defScope t_Roll_match) b_Roll_match (defBody t_Roll_match) = true := by decide +kernel
theorem c_Roll_drop : chkSs G0 n_Roll_drop 7 (defScope t_Roll_drop) b_Roll_drop (defBody t_Roll_drop) = true := by decide +kernel
theorem c_Roll_matches : chkSs G0 n_Roll_matches 4 (defScope t_Roll_matches) b_Roll_matches (defBody t_Roll_matches) = true := by decide +kernel
theorem c_Roll_undo : chkSs G0 n_Roll_undo 0 (defScope t_Roll_undo) b_Roll_undo (defBody t_Roll_undo) = true := by decide +kernel
theorem c_Roll___iadd : chkSs G0 n_Roll___iadd 7 (defScope t_Roll___iadd) b_Roll___iadd (defBody t_Roll___iadd) = true := by decide +kernel
theorem c_law_source : chkSs G0 n_law_source 0 (defScope t_law_source) b_law_source (defBody t_law_source) = true := by decide +kernel
theorem c_law_pick : chkSs G0 n_law_pick 0 (defScope t_law_pick) b_law_pick (defBody t_law_pick) = true := by decide +kernel
theorem c_law_chosen : chkSs G0 n_law_chosen 1 (defScope t_law_chosen) b_law_chosen (defBody t_law_chosen) = true := by decide +kernel
theorem c_law_lowest : chkSs G0 n_law_lowest 0 (defScope t_law_lowest) b_law_lowest (defBody t_law_lowest) = true := by decide +kernel
theorem c_law_single : chkSs G0 n_law_single 2 (defScope t_law_single) b_law_single (defBody t_law_single) = true := by decide +kernel
theorem c_law_some : chkSs G0 n_law_some 3 (defScope t_law_some) b_law_some (defBody t_law_some) = true := by decide +kernel
theorem c_law_less : chkSs G0 n_law_less 0 (defScope t_law_less) b_law_less (defBody t_law_less) = true := by decide +kernel
theorem c_law_patterns : chkSs G0 n_law_patterns 1 (defScope t_law_patterns) b_law_patterns (defBody t_law_patterns) = true := by decide +kernel
theorem c_law_sum : chkSs G0 n_law_sum 1 (defScope t_law_sum) b_law_sum (defBody t_law_sum) = true := by decide +kernel
theorem c_law_does : chkSs G0 n_law_does 8 (defScope t_law_does) b_law_does (defBody t_law_does) = true := by decide +kernel
theorem c_law_undone : chkSs G0 n_law_undone 1 (defScope t_law_undone) b_law_undone (defBody t_law_undone) = true := by decide +kernel
theorem c_law : chkSs G0 n_law 16 (defScope t_law) b_law (defBody t_law) = true := by decide +kernel
theorem c_worth_sign2 : chkSs G0 n_worth_sign 0 (defScope t_worth_sign) b_worth_sign2 (defBody t_worth_sign) = true := by decide +kernel
theorem c_sign_in2 : chkSs G0 n_sign_in 1 (defScope t_sign_in) b_sign_in2 (defBody t_sign_in) = true := by decide +kernel
theorem c_form_sum2 : chkSs G0 n_form_sum 2 (defScope t_form_sum) b_form_sum2 (defBody t_form_sum) = true := by decide +kernel
theorem c_form_less2 : chkSs G0 n_form_less 2 (defScope t_form_less) b_form_less2 (defBody t_form_less) = true := by decide +kernel
theorem c_value_of2 : chkSs G0 n_value_of 2 (defScope t_value_of) b_value_of2 (defBody t_value_of) = true := by decide +kernel
theorem c_next_place2 : chkSs G0 n_next_place 3 (defScope t_next_place) b_next_place2 (defBody t_next_place) = true := by decide +kernel
theorem c_goal_of2 : chkSs G0 n_goal_of 4 (defScope t_goal_of) b_goal_of2 (defBody t_goal_of) = true := by decide +kernel
theorem c_match_word2 : chkSs G0 n_match_word 3 (defScope t_match_word) b_match_word2 (defBody t_match_word) = true := by decide +kernel
end KL

set_option Elab.async false
set_option linter.all false
set_option maxRecDepth 100000
set_option maxHeartbeats 1000000
namespace KL
open PySem PySem.Spec PyProof.Rows L2 Mp
/-! ### good data -/
def gd (m : Nat) : Nat → PyData → Bool
  | _, .none => true
  | _, .bool _ => true
  | _, .int i => decide (i.natAbs ≤ 10 ^ 41)
  | _, .str s => PyData.strOk s && decide (s.length ≤ 100)
  | 0, .list _ => false
  | 0, .tuple _ => false
  | n + 1, .list ds => decide (ds.length ≤ m) && ds.all (gd m n)
  | n + 1, .tuple ds => decide (ds.length ≤ m) && ds.all (gd m n)
  | _, .dict _ => false
theorem lay_all {ds : List PyData} (h : ∀ d ∈ ds, d.canLay0 = true) : PyData.canLayAll0 ds = true := by
  induction ds with
  | nil => rfl
  | cons d r ih => simp only [PyData.canLayAll0, Bool.and_eq_true]; exact ⟨h d List.mem_cons_self, ih fun x hx => h x (List.mem_cons_of_mem _ hx)⟩
theorem dep_all {ds : List PyData} {n : Nat} (h : ∀ d ∈ ds, d.depth ≤ n) : PyData.depthAll ds ≤ n := by
  induction ds with
  | nil => exact Nat.zero_le _
  | cons d r ih => exact Nat.max_le.mpr ⟨h d List.mem_cons_self, ih fun x hx => h x (List.mem_cons_of_mem _ hx)⟩
theorem gd_ok {m : Nat} : ∀ {n : Nat} {d : PyData}, gd m n d = true → d.canLay0 = true ∧ d.depth ≤ n
  | n, .none, _ => ⟨rfl, Nat.zero_le _⟩
  | n, .bool _, _ => ⟨rfl, Nat.zero_le _⟩
  | n, .int _, _ => ⟨rfl, Nat.zero_le _⟩
  | n, .str s, h => by
    have h : (PyData.strOk s && decide (s.length ≤ 100)) = true := by cases n <;> exact h
    exact ⟨(Bool.and_eq_true_iff.mp h).1, Nat.zero_le _⟩
  | 0, .list _, h => by cases h
  | 0, .tuple _, h => by cases h
  | n + 1, .list ds, h => by
    have h := (Bool.and_eq_true_iff.mp (show (decide (ds.length ≤ m) && ds.all (gd m n)) = true from h)).2
    have h2 := List.all_eq_true.mp h
    exact ⟨lay_all fun d hd => (gd_ok (h2 d hd)).1, Nat.succ_le_succ (dep_all fun d hd => (gd_ok (h2 d hd)).2)⟩
  | n + 1, .tuple ds, h => by
    have h := (Bool.and_eq_true_iff.mp (show (decide (ds.length ≤ m) && ds.all (gd m n)) = true from h)).2
    have h2 := List.all_eq_true.mp h
    exact ⟨lay_all fun d hd => (gd_ok (h2 d hd)).1, Nat.succ_le_succ (dep_all fun d hd => (gd_ok (h2 d hd)).2)⟩
  | n, .dict _, h => by cases n <;> cases h
theorem shaped_of {m n : Nat} {d : PyData} (h : gd m n d = true) (hn : n ≤ 64) : SeqAt.shaped d = true := by
  obtain ⟨h1, h2⟩ := gd_ok h
  unfold SeqAt.shaped
  rw [h1, decide_eq_true (Nat.le_trans h2 hn)]
  rfl
/-! ### what the defs tell -/
def wholeB (v : PyData) (lo hi : Int) : Bool := match v with
  | .int i => decide (lo ≤ i) && decide (i ≤ hi)
  | _ => false
def fracB : PyData → Bool
  | .tuple [.int a, .int b] => decide (1 ≤ b) && decide (Int.gcd a b = 1)
  | _ => false
def lenT : List (Int × Int) := [(1, 4), (1, 2), (3, 4), (1, 1), (5, 4), (3, 2), (7, 4), (2, 1)]
def lenB : PyData → Bool
  | .tuple [.int a, .int b] => decide ((a, b) ∈ lenT)
  | _ => false
def placeT : List Str := ["drop", "half", "mark", "match"]
def plainB : PyData → Bool
  | .tuple [.str s] => decide (s ∈ placeT)
  | .tuple [.str s, l] => decide (s = "cut") && lenB l
  | _ => false
def repB : PyData → Bool
  | .tuple [.str s, .int n, .tuple inner] => decide (s = "repeat") && (decide (2 ≤ n) && decide (n ≤ 5)) && (decide (1 ≤ inner.length) && decide (inner.length ≤ 4)) && inner.all plainB
  | _ => false
def stepB (v : PyData) : Bool := plainB v || repB v
def scriptB : PyData → Bool
  | .tuple ds => decide (ds.length ≤ 8) && ds.all stepB
  | _ => false
def patB : PyData → Bool
  | .tuple [.int a, .int b] => decide (1 ≤ b) && decide (Int.gcd a b = 1) && decide (b ≤ 4 * a)
  | _ => false
def gdV (v : PyData) : Prop := gd 100000 40 v = true
def pr (a b : Int) : PyData := .tuple [.int a, .int b]
def lowD (a b : Int) : PyData := pr (a / (Int.gcd a b : Int)) (b / (Int.gcd a b : Int))
def Sz (x : Int) : Prop := x.natAbs < 2 ^ 1000
def Sf (x : Int) : Prop := x.natAbs < 2 ^ 330
def s_low : FSpec := pureS (fun ds => ∃ a b : Int, ds = [.int a, .int b] ∧ 1 ≤ b ∧ b.natAbs.log2 < 8000) fun ds => match ds with
  | [.int a, .int b] => lowD a b
  | _ => .none
/-- two fractions in lowest terms, an answer told of any way of writing them -/
def frS (f g : Int → Int → Int → Int → Int) : FSpec := ⟨fun _ ds => ∃ a b c d, ds = [lowD a b, lowD c d] ∧ 0 < b ∧ 0 < d ∧ Sz a ∧ Sz b ∧ Sz c ∧ Sz d,
  fun _ ds r _ => ∀ a b c d, ds = [lowD a b, lowD c d] → 0 < b → 0 < d → r = .v (lowD (f a b c d) (g a b c d)), fun _ _ _ _ _ => False⟩
def s_plus : FSpec := frS (fun a b c d => a * d + c * b) (fun _ b _ d => b * d)
def s_minus : FSpec := frS (fun a b c d => a * d - c * b) (fun _ b _ d => b * d)
def s_times : FSpec := frS (fun a _ c _ => a * c) (fun _ b _ d => b * d)
def s_less : FSpec := pureS (fun ds => ∃ a b c d : Int, ds = [pr a b, pr c d] ∧ Sz a ∧ Sz b ∧ Sz c ∧ Sz d) fun ds => match ds with
  | [.tuple [.int a, .int b], .tuple [.int c, .int d]] => .bool (decide (a * d < c * b))
  | _ => .none
def s_whole : FSpec := pureS (fun ds => ∃ v lo hi, ds = [v, .int lo, .int hi] ∧ gdV v) fun ds => match ds with
  | [v, .int lo, .int hi] => .bool (wholeB v lo hi)
  | _ => .none
def one (f : PyData → Bool) : FSpec := pureS (fun ds => ∃ v, ds = [v] ∧ gdV v) fun ds => match ds with
  | [v] => .bool (f v)
  | _ => .none
def spreadD : Nat → List PyData → List PyData
  | _, [] => []
  | i, .tuple [.str s, .int n, .tuple inner] :: r => (List.replicate n.toNat (inner.map fun x => .tuple [.int (i : Nat), x])).flatten ++ spreadD (i + 1) r
  | i, x :: r => .tuple [.int (i : Nat), x] :: spreadD (i + 1) r
def sndD : PyData → PyData
  | .tuple [_, x] => x
  | x => x
def s_spread : FSpec := ⟨fun _ ds => ∃ l, ds = [.tuple l] ∧ scriptB (.tuple l) = true ∧ gdV (.tuple l), fun _ ds r _ => ∃ l, ds = [.tuple l] ∧ r = .o (spreadD 0 l), fun _ _ _ _ _ => False⟩
def need (f : PyData → Bool) (x : Str) : FSpec := ⟨fun _ ds => ∃ v, ds = [v] ∧ gdV v, fun _ ds _ _ => ∃ v, ds = [v] ∧ f v = true, fun _ ds y p _ => (y = x ∧ ∃ v, ds = [v] ∧ f v = false) ∧ p = .none⟩
def rollB (v : PyData) : Bool := wholeB v 1 6
/-! ### forms -/
/-- k quarters and m halves of the pattern -/
def frm (k m : Int) : PyData := .tuple [lowD k 4, lowD m 2]
/-- four times what the form is worth with n / d, in units of 1 / d -/
def wv (k m n d : Int) : Int := k * d + 2 * m * n
def Pat (n d : Int) : Prop := 0 < n ∧ 0 < d ∧ Int.gcd n d = 1 ∧ Sf n ∧ Sf d
/-- a pattern, or far beyond all -/
def Far (n d : Int) : Prop := Pat n d ∨ (n = 1 ∧ d = 0)
def SF (k m : Int) : Prop := Sf k ∧ Sf m
def sgD (x y : Int) : PyData := if 0 ≤ x ∧ 0 ≤ y then .int (if 0 < x + y then 1 else 0) else if x ≤ 0 ∧ y ≤ 0 then .int (-1) else .none
def edgeD (k m : Int) : PyData := lowD (k.natAbs : Int) (2 * (m.natAbs : Int))
def midN (n d n' d' : Int) : Int := if d' = 0 then n + d else n * d' + n' * d
def midB (d d' : Int) : Int := if d' = 0 then d else 2 * d * d'
inductive Gl where
  | edge (k m : Int)
  | to (k m : Int)
def manyI (k m k' m' n d n' d' : Int) : Int := -((-(wv (k - k') (m - m') (midN n d n' d') (midB d d'))) / (4 * midN n d n' d'))
def sgX (x y : Int) : Bool := !(decide (0 ≤ x) && decide (0 ≤ y)) && !(decide (x ≤ 0) && decide (y ≤ 0))
def sgM (x y : Int) : Bool := !(decide (0 ≤ x) && decide (0 ≤ y)) && (decide (x ≤ 0) && decide (y ≤ 0))
def sgN (k m n d n' d' : Int) : Bool := sgX (wv k m n d) (wv k m n' d')
def nextG (k m k' m' n d n' d' : Int) : Gl :=
  let a := manyI k m k' m' n d n' d'
  if sgN (k' - k) (m' + 2 * a - m) n d n' d' then .edge (k' - k) (m' + 2 * a - m)
  else if sgN (k - k') (m - (m' + 2 * (a - 1))) n d n' d' then .edge (k - k') (m - (m' + 2 * (a - 1)))
  else .to k' (m' + 2 * a)
def Gl.d : Gl → PyData
  | .edge k m => .tuple [edgeD k m, .none]
  | .to k m => .tuple [.none, frm k m]
abbrev Sp := (Int × Int) × Int
def spD (s : Sp) : PyData := .tuple [frm s.1.1 s.1.2, lowD s.2 4]
def goalG (w : Str) (k m : Int) (ss : List Sp) (n d n' d' : Int) : Gl :=
  if w = "match" ∨ w = "drop" then (match ss.getLast? with
    | none => .to k m
    | some s => nextG k m s.1.1 (if w = "drop" then s.1.2 - 1 else s.1.2) n d n' d')
  else nextG k m 0 (if w = "half" then -1 else 0) n d n' d'
def qOf : PyData → Int
  | .tuple [.str _, .tuple [.int a, .int b]] => 4 * a / b
  | _ => 0
def wOf : PyData → Str
  | .tuple (.str s :: _) => s
  | _ => ""
structure Stt where
  k : Int
  m : Int
  ss : List Sp
  wk : Int
  wm : Int
inductive Dn where
  | edge (k m : Int)
  | fin (i : Option Int) (s : Stt)
def fstI : PyData → Int
  | .tuple [.int i, _] => i
  | _ => 0
def stepGoal (x : PyData) (s : Stt) (n d n' d' : Int) : Gl := if wOf x = "cut" then .to (s.k + qOf x) s.m else goalG (wOf x) s.k s.m s.ss n d n' d'
def stepDo (x : PyData) (s : Stt) (k m : Int) : Stt := if wOf x = "cut" then ⟨k, m, s.ss ++ [((s.k, s.m), qOf x)], s.wk, s.wm⟩ else ⟨k, m, s.ss, s.wk + (k - s.k), s.wm + (m - s.m)⟩
def doneG (roll n d n' d' : Int) : List PyData → Stt → Dn
  | [], s => .fin none s
  | x :: r, s => match stepGoal (sndD x) s n d n' d' with
    | .edge k m => .edge k m
    | .to k m => if sgN (4 * roll - k) (-m) n d n' d' then .edge (4 * roll - k) (-m)
      else if sgM (wv (4 * roll - k) (-m) n d) (wv (4 * roll - k) (-m) n' d') then .fin (some (fstI x)) s
      else doneG roll n d n' d' r (stepDo (sndD x) s k m)
def s0 : Stt := ⟨0, 0, [], 0, 0⟩
def optD : Option Int → PyData
  | none => .none
  | some i => .int i
def Stt.d (s : Stt) : PyData := .tuple [.list (s.ss.map spD), frm s.wk s.wm, frm s.k s.m]
def Dn.d : Dn → PyData
  | .edge k m => .tuple [edgeD k m, .none, .none]
  | .fin i s => .tuple [.none, optD i, s.d]
/-! ### specs of the program -/
def pre2 (p : PyData → PyData → Prop) : List PyData → Prop
  | [a, b] => p a b
  | _ => False
def s_worth : FSpec := ⟨fun _ ds => ∃ k m n d, ds = [frm k m, pr n d] ∧ SF k m ∧ Sf n ∧ Sf d,
  fun _ ds r _ => ∃ k m n d w c : Int, ds = [frm k m, pr n d] ∧ r = .v (.int w) ∧ 0 < c ∧ c * w = 2 * wv k m n d, fun _ _ _ _ _ => False⟩
def s_sign : FSpec := ⟨fun _ ds => ∃ k m n d n' d', ds = [frm k m, pr n d, pr n' d'] ∧ SF k m ∧ Sf n ∧ Sf d ∧ Sf n' ∧ Sf d',
  fun _ ds r _ => ∃ k m n d n' d', ds = [frm k m, pr n d, pr n' d'] ∧ r = .v (sgD (wv k m n d) (wv k m n' d')), fun _ _ _ _ _ => False⟩
def s_edge : FSpec := ⟨fun _ ds => ∃ k m, ds = [frm k m] ∧ SF k m ∧ m ≠ 0, fun _ ds r _ => ∃ k m, ds = [frm k m] ∧ r = .v (edgeD k m), fun _ _ _ _ _ => False⟩
def fmS (f : Int → Int → Int) : FSpec := ⟨fun _ ds => ∃ k m k' m', ds = [frm k m, frm k' m'] ∧ SF k m ∧ SF k' m', fun _ ds r _ => ∃ k m k' m', ds = [frm k m, frm k' m'] ∧ r = .v (frm (f k k') (f m m')), fun _ _ _ _ _ => False⟩
def s_fsum : FSpec := fmS (· + ·)
def s_fless : FSpec := fmS (· - ·)
def s_value : FSpec := ⟨fun _ ds => ∃ k m n d, ds = [frm k m, pr n d] ∧ SF k m ∧ Pat n d, fun _ ds r _ => ∃ k m n d, ds = [frm k m, pr n d] ∧ r = .v (lowD (wv k m n d) (4 * d)), fun _ _ _ _ _ => False⟩
def s_middle : FSpec := ⟨fun _ ds => ∃ n d n' d', ds = [pr n d, pr n' d'] ∧ Pat n d ∧ Far n' d', fun _ ds r _ => ∃ n d n' d', ds = [pr n d, pr n' d'] ∧ r = .v (lowD (midN n d n' d') (midB d d')), fun _ _ _ _ _ => False⟩
def Sk (x : Int) : Prop := x.natAbs < 2 ^ 30
def SK (k m : Int) : Prop := Sk k ∧ Sk m
def Sn (x : Int) : Prop := x.natAbs < 2 ^ 140
def Span (n d n' d' : Int) : Prop := Pat n d ∧ Far n' d' ∧ Sn n ∧ Sn d ∧ Sn n' ∧ Sn d' ∧ d ≤ 4 * n ∧ n * d' ≤ n' * d
def s_next : FSpec := ⟨fun _ ds => ∃ k m k' m' n d n' d', ds = [frm k m, frm k' m', pr n d, pr n' d'] ∧ SK k m ∧ SK k' m' ∧ Span n d n' d',
  fun _ ds r _ => ∃ k m k' m' n d n' d', ds = [frm k m, frm k' m', pr n d, pr n' d'] ∧ r = .v (nextG k m k' m' n d n' d').d, fun _ _ _ _ _ => False⟩
def Sg (x : Int) : Prop := x.natAbs < 2 ^ 29
def SPs (ss : List Sp) : Prop := ∀ s ∈ ss, Sg s.1.1 ∧ Sg s.1.2
def s_goal : FSpec := ⟨fun _ ds => ∃ w k m ss n d n' d', ds = [.str w, frm k m, .list (ss.map spD), pr n d, pr n' d'] ∧ w ∈ placeT ∧ SK k m ∧ SPs ss ∧ ss.length ≤ 200 ∧ Span n d n' d',
  fun _ ds r _ => ∃ w k m ss n d n' d', ds = [.str w, frm k m, .list (ss.map spD), pr n d, pr n' d'] ∧ r = .v (goalG w k m ss n d n' d').d, fun _ _ _ _ _ => False⟩
def s_done : FSpec := ⟨fun _ ds => ∃ roll l n d n' d', ds = [.int roll, .tuple l, pr n d, pr n' d'] ∧ 1 ≤ roll ∧ roll ≤ 6 ∧ scriptB (.tuple l) = true ∧ gdV (.tuple l) ∧ Span n d n' d',
  fun _ ds r _ => ∃ roll l n d n' d', ds = [.int roll, .tuple l, pr n d, pr n' d'] ∧ r = .v (doneG roll n d n' d' (spreadD 0 l) s0).d, fun _ _ _ _ _ => False⟩
def runG (roll : Int) (l : List PyData) (n d : Int) : Option Int × Stt := match doneG roll n d n d (spreadD 0 l) s0 with
  | .fin i s => (i, s)
  | _ => (none, s0)
def pieceD (n d n' d' : Int) (i : Option Int) (s : Stt) : PyData := .tuple [pr n d, pr n' d', optD i, .list (s.ss.map spD), frm s.wk s.wm, frm s.k s.m]
def One (roll : Int) (l : List PyData) (n d : Int) : Prop := 1 ≤ roll ∧ roll ≤ 6 ∧ scriptB (.tuple l) = true ∧ gdV (.tuple l) ∧ Pat n d ∧ Sn n ∧ Sn d ∧ d ≤ 4 * n
def s_pieces1 : FSpec := ⟨fun _ ds => ∃ roll l n d, ds = [.int roll, .tuple l, pr n d, pr n d] ∧ One roll l n d,
  fun _ ds r _ => ∃ roll l n d, ds = [.int roll, .tuple l, pr n d, pr n d] ∧ r = .o [pieceD n d n d (runG roll l n d).1 (runG roll l n d).2], fun _ _ _ _ _ => False⟩
def atS (f : Int → List PyData → Int → Int → R) : FSpec := ⟨fun _ ds => ∃ roll l n d, ds = [.int roll, .tuple l, pr n d] ∧ One roll l n d,
  fun _ ds r _ => ∃ roll l n d, ds = [.int roll, .tuple l, pr n d] ∧ r = f roll l n d, fun _ _ _ _ _ => False⟩
def s_at : FSpec := atS fun roll l n d => .v (pieceD n d n d (runG roll l n d).1 (runG roll l n d).2)
def wordG (G n : Int) : Str := if G % (2 * n) = 0 then (if (G / (2 * n)) % 2 = 0 then "same" else "half") else "none"
def s_word : FSpec := ⟨fun _ ds => ∃ k m k' m' n d, ds = [frm k m, frm k' m', pr n d] ∧ SK k m ∧ SK k' m' ∧ Pat n d ∧ Sn n ∧ Sn d,
  fun _ ds r _ => ∃ k m k' m' n d, ds = [frm k m, frm k' m', pr n d] ∧ r = .v (.str (wordG (wv (k' - k) (m' - m) n d) n)), fun _ _ _ _ _ => False⟩
def stripsG (roll : Int) (l : List PyData) (n d : Int) : List PyData := (runG roll l n d).2.ss.map fun s => .tuple [lowD (wv s.1.1 s.1.2 n d) (4 * d), lowD s.2 4]
def wasteG (roll : Int) (l : List PyData) (n d : Int) : PyData := lowD (wv (runG roll l n d).2.wk (runG roll l n d).2.wm n d) (4 * d)
def restG (roll : Int) (l : List PyData) (n d : Int) : PyData := lowD (4 * roll * d - wv (runG roll l n d).2.k (runG roll l n d).2.m n d) (4 * d)
def outG (roll : Int) (l : List PyData) (n d : Int) : PyData := optD (runG roll l n d).1
def wordsG (n d : Int) : List Sp → List PyData
  | a :: b :: r => .str (wordG (wv (b.1.1 - a.1.1) (b.1.2 - a.1.2) n d) n) :: wordsG n d (b :: r)
  | _ => []
def matchesG (roll : Int) (l : List PyData) (n d : Int) : List PyData := wordsG n d (runG roll l n d).2.ss
def apiX (a b c : PyData) (x : Str) : Prop := (rollB a = false ∧ x = "InvalidRoll") ∨ (rollB a = true ∧ scriptB b = false ∧ x = "InvalidScript") ∨ (rollB a = true ∧ scriptB b = true ∧ patB c = false ∧ x = "InvalidPattern")
def api (f : Int → List PyData → Int → Int → R) : FSpec := ⟨fun _ ds => ∃ a b c, ds = [a, b, c] ∧ gdV a ∧ gdV b ∧ gdV c,
  fun _ ds r _ => ∃ roll l n d, ds = [.int roll, .tuple l, pr n d] ∧ One roll l n d ∧ rollB (.int roll) = true ∧ scriptB (.tuple l) = true ∧ patB (pr n d) = true ∧ r = f roll l n d, fun _ ds x p _ => (∃ a b c, ds = [a, b, c] ∧ apiX a b c x) ∧ p = .none⟩
def Src (ds : List PyData) : Prop := ∃ a b : Int, ds = [.int a, .int b] ∧ 0 ≤ a ∧ 0 ≤ b ∧ b < 2 ^ 40
def s_source : FSpec := ⟨fun h ds => ∃ ns k, h = .sc ns ∧ ds = [.int k] ∧ 0 ≤ k ∧ k ≤ 20, fun _ _ r _ => ∃ ds, r = .o ds ∧ Src ds, fun _ _ _ _ _ => False⟩
def ioS (pre : List PyData → Prop) (post : List PyData → R → Prop) : FSpec := ⟨fun h ds => ∃ src, h = .io src ∧ Src src ∧ pre ds, fun _ ds r h => ∃ src, h = .io src ∧ Src src ∧ post ds r, fun _ _ _ _ _ => False⟩
def isR (r : R) (d : PyData) : Prop := r = .v d ∨ ∃ ds, r = .o ds ∧ d = .list ds
def s_pick : FSpec := ioS (fun ds => ∃ n : Int, ds = [.int n] ∧ 0 < n ∧ n < 2 ^ 60) fun ds r => ∃ n m : Int, ds = [.int n] ∧ r = .v (.int m) ∧ 0 ≤ m ∧ m < n
def s_chosen : FSpec := ioS (fun ds => ∃ l, ds = [.list l] ∧ l ≠ [] ∧ l.length < 2 ^ 59) fun ds r => ∃ l x, ds = [.list l] ∧ x ∈ l ∧ r = .v x
def s_single : FSpec := ioS (fun ds => ds = []) fun _ r => ∃ v, r = .v v ∧ plainB v = true ∧ gd 8 3 v = true
def s_some : FSpec := ioS (fun ds => ∃ n : Int, ds = [.int n] ∧ 1 ≤ n ∧ n ≤ 8) fun ds r => ∃ l, r = .v (.tuple l) ∧ l ≠ [] ∧ scriptB (.tuple l) = true ∧ gd 8 6 (.tuple l) = true ∧ ∃ n : Int, ds = [.int n] ∧ (l.length : Int) ≤ n
/-! ### the law's own cutting, in small units -/
def lsp (t : Int × Int) : PyData := .tuple [.int t.1, lowD t.2 4]
def lawGoalI (w : Str) (cut : Int) (ls : List (Int × Int)) (wave : Int) : Int :=
  if w = "match" ∨ w = "drop" then (match ls.getLast? with
    | none => cut
    | some t => cut + ((if w = "drop" then t.1 + wave / 2 else t.1) - cut) % wave)
  else cut + ((if w = "half" then 0 + wave / 2 else 0) - cut) % wave
def s_lgoal : FSpec := ⟨fun _ ds => ∃ (w : Str) (cut : Int) (ls : List (Int × Int)) (wave : Int), ds = [.str w, .int cut, .list (ls.map lsp), .int wave] ∧ w ∈ placeT ∧ 0 < wave, fun _ ds r _ => ∃ (w : Str) (cut : Int) (ls : List (Int × Int)) (wave : Int), ds = [.str w, .int cut, .list (ls.map lsp), .int wave] ∧ r = .v (.int (lawGoalI w cut ls wave)), fun _ _ _ _ _ => False⟩
def lu (n d : Int) (s : Sp) : Int × Int := (2 * wv s.1.1 s.1.2 n d, s.2)
def lcutD (n d : Int) (i : Option Int) (s : Stt) : List PyData := [.int (8 * d), .list ((s.ss.map (lu n d)).map lsp), .int (2 * wv s.wk s.wm n d), .int (2 * wv s.k s.m n d), optD i]
def s_lcut : FSpec := atS fun roll l n d => .o (lcutD n d (runG roll l n d).1 (runG roll l n d).2)
def s_patterns : FSpec := ioS (fun ds => ds = [.int 1]) fun _ r => ∃ l, r = .o l ∧ l.length = 1 ∧ ∀ v ∈ l, ∃ n d, v = pr n d ∧ Pat n d ∧ n.natAbs ≤ 10 ^ 10 ∧ d.natAbs ≤ 10 ^ 10 ∧ d ≤ 4 * n
def outS : FSpec := ⟨fun _ ds => ∃ (j : Nat) (a b c : PyData), ds = [.int (j : Int), a, b, c] ∧ j < 5 ∧ gdV a ∧ gdV b ∧ gdV c, fun _ ds r _ => ∃ (j : Nat) (a b c : PyData), ds = [.int (j : Int), a, b, c] ∧
  ((∃ roll l n d, a = .int roll ∧ b = .tuple l ∧ c = pr n d ∧ One roll l n d ∧ ((j = 0 ∧ r = .o (stripsG roll l n d)) ∨ (j = 1 ∧ r = .v (wasteG roll l n d)) ∨ (j = 2 ∧ r = .v (restG roll l n d)) ∨ (j = 3 ∧ r = .v (outG roll l n d)) ∨ (j = 4 ∧ r = .o (matchesG roll l n d)))) ∨
   (rollB a = false ∧ r = .v (.str "roll!")) ∨ (rollB a = true ∧ scriptB b = false ∧ r = .v (.str "script!")) ∨ (rollB a = true ∧ scriptB b = true ∧ patB c = false ∧ r = .v (.str "pattern!"))), fun _ _ _ _ _ => False⟩
def s_law : FSpec := ⟨fun h ds => ∃ ns, h = .sc ns ∧ ds = [] ∧ ns.length ≤ 63, fun _ _ r _ => r = .v (.bool true), fun _ _ _ _ _ => False⟩
end KL

set_option Elab.async false
set_option linter.all false
set_option maxRecDepth 100000
set_option maxHeartbeats 1000000
/-! Roll: what its defs tell. -/
namespace KL
open PySem PySem.Spec PyProof.Rows L2 Mp
/-- a roll: what it is, where it stands, what was -/
def Ro (a b c d e : PyData) (p : List PyData) : Hdv := .ob 0 [.v (.tuple [a, b]), .v (.tuple [c, d, e]), .o p]
def getS (g : PyData → PyData → PyData → PyData → PyData → PyData) : FSpec := ⟨fun hv ds => ds = [] ∧ ∃ a b c d e p, hv = Ro a b c d e p, fun hv _ r h => ∃ a b c d e p, hv = Ro a b c d e p ∧ h = hv ∧ r = .v (g a b c d e), fun _ _ _ _ _ => False⟩
/-- keep: a later state, or none -/
def keepS : FSpec := ⟨fun hv ds => ∃ a b c d e p v, hv = Ro a b c d e p ∧ ds = [v] ∧ p.length < 60 ∧ (v = .none ∨ ∃ x y z, v = .tuple [x, y, z]), fun hv ds r h => ∃ a b c d e p x y z, hv = Ro a b c d e p ∧ ds = [.tuple [x, y, z]] ∧ r = .v .none ∧ h = Ro a b x y z (p ++ [.tuple [c, d, e]]),
  fun hv ds x q h => ds = [.none] ∧ x = "RollOut" ∧ q = .none ∧ h = hv⟩
def undoS : FSpec := ⟨fun hv ds => ds = [] ∧ ∃ a b c d e p, hv = Ro a b c d e p ∧ p.length ≤ 60 ∧ SeqAt.shaped (.list p) = true ∧ ∀ v ∈ p, ∃ x y z, v = .tuple [x, y, z],
  fun hv _ r h => ∃ a b c d e p x y z, hv = Ro a b c d e (p ++ [.tuple [x, y, z]]) ∧ r = .v .none ∧ h = Ro a b x y z p, fun hv _ x q h => x = "NothingToUndo" ∧ q = .none ∧ h = hv ∧ ∃ a b c d e, hv = Ro a b c d e []⟩
def initS : FSpec := ⟨fun hv ds => hv = .ob 0 [.no, .no, .no] ∧ ∃ a b, ds = [a, b] ∧ gdV a ∧ gdV b ∧ rollB a = true ∧ patB b = true,
  fun _ ds r h => ∃ a b, ds = [a, b] ∧ r = .v .none ∧ h = Ro a b (.tuple [.int 0, .int 1]) (.tuple [.int 0, .int 1]) (.tuple []) [], fun _ _ _ _ _ => False⟩
def sumS : FSpec := ⟨fun _ ds => ∃ a b c d, ds = [lowD a b, lowD c d, .int (-1)] ∧ 0 < b ∧ 0 < d ∧ Sz a ∧ Sz b ∧ Sz c ∧ Sz d, fun _ ds r _ => ∀ a b c d, ds = [lowD a b, lowD c d, .int (-1)] → 0 < b → 0 < d → r = .v (lowD (a * d - c * b) (b * d)), fun _ _ _ _ _ => False⟩
def neverS : FSpec := ⟨fun _ _ => False, fun _ _ _ _ => False, fun _ _ _ _ _ => False⟩
/-! ### places that no quarter tells: A parts of which the wall has u, and m halves of the pattern -/
def fQ (u A m : Int) : PyData := .tuple [lowD A u, lowD m 2]
/-- its worth, in parts of which the wall has 4 d -/
def pv (n A m : Int) : Int := A + 2 * m * n
def fqS (f : Int → Int → Int) : FSpec := ⟨fun _ ds => ∃ u A m A' m', ds = [fQ u A m, fQ u A' m'] ∧ 0 < u ∧ Sf u ∧ SF A m ∧ SF A' m', fun _ ds r _ => ∀ u A m A' m', ds = [fQ u A m, fQ u A' m'] → 0 < u → r = .v (fQ u (f A A') (f m m')), fun _ _ _ _ _ => False⟩
def s_fsum2 : FSpec := fqS (· + ·)
def s_fless2 : FSpec := fqS (· - ·)
def s_value2 : FSpec := ⟨fun _ ds => ∃ A m n d, ds = [fQ (4 * d) A m, pr n d] ∧ SF A m ∧ Pat n d, fun _ ds r _ => ∃ A m n d, ds = [fQ (4 * d) A m, pr n d] ∧ 0 < d ∧ r = .v (lowD (pv n A m) (4 * d)), fun _ _ _ _ _ => False⟩
def s_worth2 : FSpec := ⟨fun _ ds => ∃ A m n d, ds = [fQ (4 * d) A m, pr n d] ∧ SF A m ∧ Pat n d, fun _ ds r _ => ∃ A m n d w, ds = [fQ (4 * d) A m, pr n d] ∧ 0 < d ∧ r = .v (.int w) ∧ (0 ≤ w ↔ 0 ≤ pv n A m) ∧ (w ≤ 0 ↔ pv n A m ≤ 0), fun _ _ _ _ _ => False⟩
def s_sign2 : FSpec := ⟨fun _ ds => ∃ A m n d, ds = [fQ (4 * d) A m, pr n d, pr n d] ∧ SF A m ∧ Pat n d, fun _ ds r _ => ∃ A m n d, ds = [fQ (4 * d) A m, pr n d, pr n d] ∧ 0 < d ∧ r = .v (sgD (pv n A m) (pv n A m)), fun _ _ _ _ _ => False⟩
def Sq (x : Int) : Prop := x.natAbs < 2 ^ 150
/-- how many patterns from S on, so that A is reached -/
def ceilQ (A S n : Int) : Int := -((-(A - S)) / (4 * n))
def ceilTo (A S n : Int) : Int := S + 4 * n * ceilQ A S n
def Pt (n d : Int) : Prop := Pat n d ∧ Sn n ∧ Sn d
def s_next2 : FSpec := ⟨fun _ ds => ∃ A m A' m' n d, ds = [fQ (4 * d) A m, fQ (4 * d) A' m', pr n d, pr n d] ∧ (Sq A ∧ Sq m) ∧ (Sq A' ∧ Sq m') ∧ Pt n d,
  fun _ ds r _ => ∃ A m A' m' n d, ds = [fQ (4 * d) A m, fQ (4 * d) A' m', pr n d, pr n d] ∧ 0 < d ∧ r = .v (.tuple [.none, fQ (4 * d) A' (m' + 2 * ceilQ (pv n A m) (pv n A' m') n)]), fun _ _ _ _ _ => False⟩
abbrev Sq2 := Int × Int
def spQ (d : Int) (s : Sq2) : PyData := .tuple [fQ (4 * d) s.1 0, lowD s.2 4]
def goalP (w : Str) (A : Int) (ss : List Sq2) (n : Int) : Int :=
  if w = "match" ∨ w = "drop" then (match ss.getLast? with
    | none => A
    | some s => ceilTo A (if w = "drop" then s.1 - 2 * n else s.1) n)
  else ceilTo A (if w = "half" then -(2 * n) else 0) n
def s_goal2 : FSpec := ⟨fun _ ds => ∃ (w : Str) (A : Int) (ss : List Sq2) (n d : Int), ds = [.str w, fQ (4 * d) A 0, .list (ss.map (spQ d)), pr n d, pr n d] ∧ w ∈ placeT ∧ Sq A ∧ (∀ s ∈ ss, Sq s.1) ∧ ss.length ≤ 200 ∧ Pt n d,
  fun _ ds r _ => ∃ (w : Str) (A : Int) (ss : List Sq2) (n d B m : Int), ds = [.str w, fQ (4 * d) A 0, .list (ss.map (spQ d)), pr n d, pr n d] ∧ 0 < d ∧ r = .v (.tuple [.none, fQ (4 * d) B m]) ∧ SF B m ∧ pv n B m = goalP w A ss n, fun _ _ _ _ _ => False⟩
def s_word2 : FSpec := ⟨fun _ ds => ∃ A B n d, ds = [fQ (4 * d) A 0, fQ (4 * d) B 0, pr n d] ∧ Sq A ∧ Sq B ∧ Pt n d, fun _ ds r _ => ∃ A B n d, ds = [fQ (4 * d) A 0, fQ (4 * d) B 0, pr n d] ∧ 0 < d ∧ r = .v (.str (wordG (B - A) n)), fun _ _ _ _ _ => False⟩
/-! ### a roll's state -/
structure RSt where
  P : Int
  W : Int
  ss : List Sq2
def stripQ (d : Int) (s : Sq2) : PyData := .tuple [lowD s.1 (4 * d), lowD s.2 4]
def stripsQ (d : Int) (st : RSt) : PyData := .tuple (st.ss.map (stripQ d))
def nowQ (d : Int) (st : RSt) : PyData := .tuple [lowD st.P (4 * d), lowD st.W (4 * d), stripsQ d st]
def RPt (roll n d : Int) : Prop := 1 ≤ roll ∧ roll ≤ 6 ∧ Pt n d ∧ d ≤ 4 * n
def RInv (roll n d : Int) (st : RSt) : Prop := 0 ≤ st.P ∧ st.P ≤ 4 * roll * d ∧ 0 ≤ st.W ∧ st.W ≤ st.P ∧ (st.ss.length : Int) * d ≤ st.P ∧ ∀ s ∈ st.ss, 0 ≤ s.1 ∧ s.1 ≤ st.P ∧ 1 ≤ s.2 ∧ s.2 ≤ 8
def goneP (roll n d : Int) (st : RSt) (x : PyData) : Option RSt :=
  if wOf x = "cut" then (if 4 * roll * d < st.P + qOf x * d then none else some ⟨st.P + qOf x * d, st.W, st.ss ++ [(st.P, qOf x)]⟩)
  else (if 4 * roll * d < goalP (wOf x) st.P st.ss n then none else some ⟨goalP (wOf x) st.P st.ss n, st.W + (goalP (wOf x) st.P st.ss n - st.P), st.ss⟩)
def goneD (d : Int) : Option RSt → PyData
  | none => .none
  | some st => nowQ d st
def s_gone : FSpec := ⟨fun _ ds => ∃ roll n d st x, ds = [.int roll, pr n d, nowQ d st, x] ∧ RPt roll n d ∧ RInv roll n d st ∧ plainB x = true,
  fun _ ds r _ => ∃ roll n d st x, ds = [.int roll, pr n d, nowQ d st, x] ∧ 0 < d ∧ r = .v (goneD d (goneP roll n d st x)), fun _ _ _ _ _ => False⟩
/-- steps up to where the roll is out -/
def runP (roll n d : Int) : List PyData → RSt → RSt
  | [], st => st
  | x :: r, st => match goneP roll n d st x with
    | none => st
    | some t => runP roll n d r t
/-- the roll as an object -/
def RoQ (roll n d : Int) (st : RSt) (p : List RSt) : Hdv := .ob 0 [.v (.tuple [.int roll, pr n d]), .v (nowQ d st), .o (p.map (nowQ d))]
def ROk (roll n d : Int) (st : RSt) (p : List RSt) : Prop := RPt roll n d ∧ RInv roll n d st ∧ (∀ t ∈ p, RInv roll n d t) ∧ p.length ≤ 60
def s_iadd : FSpec := ⟨fun hv ds => ∃ roll n d st p l, hv = RoQ roll n d st p ∧ ds = [.tuple l] ∧ ROk roll n d st p ∧ p.length < 60 ∧ scriptB (.tuple l) = true ∧ gdV (.tuple l),
  fun hv ds r h => ∃ roll n d st p l, hv = RoQ roll n d st p ∧ ds = [.tuple l] ∧ 0 < d ∧ r = .me ∧ h = RoQ roll n d (runP roll n d ((spreadD 0 l).map sndD) st) (p ++ [st]), fun _ _ _ _ _ => False⟩
def s_cut : FSpec := ⟨fun hv ds => ∃ roll n d st p v, hv = RoQ roll n d st p ∧ ds = [v] ∧ gdV v ∧ lenB v = false, fun _ _ _ _ => False, fun hv ds x q h => x = "InvalidLength" ∧ q = .none ∧ h = hv⟩
def wordsQ (n : Int) : List Sq2 → List PyData
  | a :: b :: r => .str (wordG (b.1 - a.1) n) :: wordsQ n (b :: r)
  | _ => []
def s_rmatches : FSpec := ⟨fun hv ds => ds = [] ∧ ∃ roll n d st p, hv = RoQ roll n d st p ∧ ROk roll n d st p, fun hv ds r h => ∃ roll n d st p, hv = RoQ roll n d st p ∧ 0 < d ∧ r = .o (wordsQ n st.ss) ∧ h = hv, fun _ _ _ _ _ => False⟩
/-- steps done each by itself -/
def walkP (roll n d : Int) : List PyData → RSt → List RSt → RSt × List RSt
  | [], st, p => (st, p)
  | x :: r, st, p => walkP roll n d r (runP roll n d [x] st) (p ++ [st])
def DoesPre (hv : Hdv) (ds : List PyData) : Prop := ∃ roll n d st p l y b, hv = RoQ roll n d st p ∧ ds = [.tuple (l ++ [y]), .bool b] ∧ ROk roll n d st p ∧ p.length + l.length + 1 ≤ 60 ∧ gd 100 8 (.tuple (l ++ [y])) = true ∧ ∀ x ∈ l ++ [y], plainB x = true
def DoesOk (hv : Hdv) (ds : List PyData) (r : R) (h : Hdv) : Prop := ∃ roll n d st p l y, hv = RoQ roll n d st p ∧ ds = [.tuple (l ++ [y]), .bool false] ∧ 0 < d ∧ r = .v (lowD (walkP roll n d l st p).1.P (4 * d)) ∧ h = RoQ roll n d (walkP roll n d l st p).1 (walkP roll n d l st p).2
def s_does : FSpec := ⟨DoesPre, DoesOk, fun hv ds x q h => ∃ roll n d st p l y, hv = RoQ roll n d st p ∧ ds = [.tuple (l ++ [y]), .bool true] ∧ x = "InvalidLength" ∧ q = .none ∧ h = RoQ roll n d (walkP roll n d l st p).1 (walkP roll n d l st p).2⟩
def s_tried : FSpec := ⟨DoesPre, fun hv ds r h => DoesOk hv ds r h ∨ (h = hv ∧ r = .v (.str "length!") ∧ ∃ l, ds = [.tuple l, .bool true]), fun _ _ _ _ _ => False⟩
def s_undone : FSpec := ⟨fun hv ds => ds = [] ∧ ∃ roll n d st p, hv = RoQ roll n d st p ∧ ROk roll n d st p, fun hv ds r h => ∃ roll n d st p, hv = RoQ roll n d st p ∧ 0 < d ∧ r = .v (.int p.length) ∧ h = RoQ roll n d (p.headD st) [], fun _ _ _ _ _ => False⟩
/-! ### == of two rolls -/
def eqpR (_ : Nat) (fs gs : List Fd) : Prop := ∃ roll n d st p roll' n' d' st' p', RoQ roll n d st p = .ob 0 fs ∧ RoQ roll' n' d' st' p' = .ob 0 gs ∧ ROk roll n d st p ∧ ROk roll' n' d' st' p'
def eqfR (_ : Nat) : List Fd → List Fd → Bool
  | [.v a, .v (.tuple [c, _, e]), _], [.v a', .v (.tuple [c', _, e']), _] => PyData.eqv a a' && (PyData.eqv c c' && PyData.eqv e e')
  | _, _ => false
end KL

set_option Elab.async false
set_option linter.all false
set_option maxRecDepth 100000
set_option maxHeartbeats 1000000
namespace KL
open PySem PySem.Spec PyProof.Rows L2 Mp
def fns : Nat → FSpec
  | 0 => s_low
  | 1 => s_plus
  | 2 => s_minus
  | 3 => s_times
  | 4 => s_less
  | 5 => s_whole
  | 6 => one fracB
  | 7 => one lenB
  | 8 => one plainB
  | 9 => one stepB
  | 10 => one scriptB
  | 11 => one patB
  | 12 => need rollB "InvalidRoll"
  | 13 => need scriptB "InvalidScript"
  | 14 => need patB "InvalidPattern"
  | 15 => s_spread
  | 16 => s_worth
  | 17 => s_sign
  | 18 => s_edge
  | 19 => s_fsum
  | 20 => s_fless
  | 21 => s_value
  | 22 => s_middle
  | 23 => s_next
  | 24 => s_goal
  | 25 => s_done
  | 26 => s_pieces1
  | 27 => s_at
  | 28 => s_word
  | 29 => atS fun roll l n d => .o (stripsG roll l n d)
  | 30 => api fun roll l n d => .o (stripsG roll l n d)
  | 31 => api fun roll l n d => .v (wasteG roll l n d)
  | 32 => api fun roll l n d => .v (restG roll l n d)
  | 33 => api fun roll l n d => .v (outG roll l n d)
  | 34 => api fun roll l n d => .o (matchesG roll l n d)
  | 52 => s_source
  | 53 => s_pick
  | 54 => s_chosen
  | 55 => s_low
  | 56 => s_single
  | 57 => s_some
  | 58 => s_less
  | 59 => s_patterns
  | 35 => s_gone
  | 36 => initS
  | 37 => getS fun a _ _ _ _ => a
  | 38 => getS fun _ b _ _ _ => b
  | 39 => getS fun _ _ c _ _ => c
  | 40 => getS fun _ _ _ d _ => d
  | 41 => getS fun _ _ _ _ e => e
  | 42 => keepS
  | 43 => s_cut
  | 44 => neverS
  | 45 => neverS
  | 46 => neverS
  | 47 => neverS
  | 48 => neverS
  | 49 => s_rmatches
  | 50 => undoS
  | 51 => s_iadd
  | 60 => sumS
  | 61 => s_does
  | 62 => s_tried
  | 63 => s_undone
  | 64 => s_law
  | 65 => s_worth2
  | 66 => s_sign2
  | 67 => s_fsum2
  | 68 => s_fless2
  | 69 => s_value2
  | 70 => s_next2
  | 71 => s_goal2
  | 72 => s_word2
  | _ => ⟨fun _ _ => False, fun _ _ _ _ => False, fun _ _ _ _ _ => False⟩
def exmL : List (Str × Str × Bool) := [("NothingToUndo", "NothingToUndo", true), ("InvalidLength", "InvalidLength", true)]
def exmT (x y : Str) : Option Bool := (exmL.find? fun t => t.1 == x && t.2.1 == y).map (·.2.2)
def G : GE := { G0 with fns := fns, eqp := eqpR, eqf := eqfR, exm := exmT }
@[simp] theorem fns_0 : G.fns 0 = s_low := rfl
@[simp] theorem fns_1 : G.fns 1 = s_plus := rfl
@[simp] theorem fns_2 : G.fns 2 = s_minus := rfl
@[simp] theorem fns_3 : G.fns 3 = s_times := rfl
@[simp] theorem fns_4 : G.fns 4 = s_less := rfl
@[simp] theorem fns_5 : G.fns 5 = s_whole := rfl
@[simp] theorem fns_6 : G.fns 6 = one fracB := rfl
@[simp] theorem fns_7 : G.fns 7 = one lenB := rfl
@[simp] theorem fns_8 : G.fns 8 = one plainB := rfl
@[simp] theorem fns_9 : G.fns 9 = one stepB := rfl
@[simp] theorem fns_10 : G.fns 10 = one scriptB := rfl
@[simp] theorem fns_11 : G.fns 11 = one patB := rfl
@[simp] theorem fns_12 : G.fns 12 = need rollB "InvalidRoll" := rfl
@[simp] theorem fns_13 : G.fns 13 = need scriptB "InvalidScript" := rfl
@[simp] theorem fns_14 : G.fns 14 = need patB "InvalidPattern" := rfl
@[simp] theorem fns_15 : G.fns 15 = s_spread := rfl
@[simp] theorem fns_16 : G.fns 16 = s_worth := rfl
@[simp] theorem fns_17 : G.fns 17 = s_sign := rfl
@[simp] theorem fns_18 : G.fns 18 = s_edge := rfl
@[simp] theorem fns_19 : G.fns 19 = s_fsum := rfl
@[simp] theorem fns_20 : G.fns 20 = s_fless := rfl
@[simp] theorem fns_21 : G.fns 21 = s_value := rfl
@[simp] theorem fns_22 : G.fns 22 = s_middle := rfl
@[simp] theorem fns_23 : G.fns 23 = s_next := rfl
@[simp] theorem fns_24 : G.fns 24 = s_goal := rfl
@[simp] theorem fns_25 : G.fns 25 = s_done := rfl
@[simp] theorem fns_26 : G.fns 26 = s_pieces1 := rfl
@[simp] theorem fns_27 : G.fns 27 = s_at := rfl
@[simp] theorem fns_28 : G.fns 28 = s_word := rfl
@[simp] theorem fns_29 : G.fns 29 = atS fun roll l n d => .o (stripsG roll l n d) := rfl
@[simp] theorem fns_30 : G.fns 30 = api fun roll l n d => .o (stripsG roll l n d) := rfl
@[simp] theorem fns_31 : G.fns 31 = api fun roll l n d => .v (wasteG roll l n d) := rfl
@[simp] theorem fns_32 : G.fns 32 = api fun roll l n d => .v (restG roll l n d) := rfl
@[simp] theorem fns_33 : G.fns 33 = api fun roll l n d => .v (outG roll l n d) := rfl
@[simp] theorem fns_34 : G.fns 34 = api fun roll l n d => .o (matchesG roll l n d) := rfl
@[simp] theorem fns_52 : G.fns 52 = s_source := rfl
@[simp] theorem fns_53 : G.fns 53 = s_pick := rfl
@[simp] theorem fns_54 : G.fns 54 = s_chosen := rfl
@[simp] theorem fns_55 : G.fns 55 = s_low := rfl
@[simp] theorem fns_56 : G.fns 56 = s_single := rfl
@[simp] theorem fns_57 : G.fns 57 = s_some := rfl
@[simp] theorem fns_58 : G.fns 58 = s_less := rfl
@[simp] theorem fns_59 : G.fns 59 = s_patterns := rfl
@[simp] theorem fns_35 : G.fns 35 = s_gone := rfl
@[simp] theorem fns_36 : G.fns 36 = initS := rfl
@[simp] theorem fns_37 : G.fns 37 = getS fun a _ _ _ _ => a := rfl
@[simp] theorem fns_38 : G.fns 38 = getS fun _ b _ _ _ => b := rfl
@[simp] theorem fns_39 : G.fns 39 = getS fun _ _ c _ _ => c := rfl
@[simp] theorem fns_40 : G.fns 40 = getS fun _ _ _ d _ => d := rfl
@[simp] theorem fns_41 : G.fns 41 = getS fun _ _ _ _ e => e := rfl
@[simp] theorem fns_42 : G.fns 42 = keepS := rfl
@[simp] theorem fns_43 : G.fns 43 = s_cut := rfl
@[simp] theorem fns_44 : G.fns 44 = neverS := rfl
@[simp] theorem fns_45 : G.fns 45 = neverS := rfl
@[simp] theorem fns_46 : G.fns 46 = neverS := rfl
@[simp] theorem fns_47 : G.fns 47 = neverS := rfl
@[simp] theorem fns_48 : G.fns 48 = neverS := rfl
@[simp] theorem fns_49 : G.fns 49 = s_rmatches := rfl
@[simp] theorem fns_50 : G.fns 50 = undoS := rfl
@[simp] theorem fns_51 : G.fns 51 = s_iadd := rfl
@[simp] theorem fns_60 : G.fns 60 = sumS := rfl
@[simp] theorem fns_61 : G.fns 61 = s_does := rfl
@[simp] theorem fns_62 : G.fns 62 = s_tried := rfl
@[simp] theorem fns_63 : G.fns 63 = s_undone := rfl
@[simp] theorem fns_65 : G.fns 65 = s_worth2 := rfl
@[simp] theorem fns_66 : G.fns 66 = s_sign2 := rfl
@[simp] theorem fns_67 : G.fns 67 = s_fsum2 := rfl
@[simp] theorem fns_68 : G.fns 68 = s_fless2 := rfl
@[simp] theorem fns_69 : G.fns 69 = s_value2 := rfl
@[simp] theorem fns_70 : G.fns 70 = s_next2 := rfl
@[simp] theorem fns_71 : G.fns 71 = s_goal2 := rfl
@[simp] theorem fns_72 : G.fns 72 = s_word2 := rfl
@[simp] theorem con_0 : G.con 0 = some (("MOST_STEPS" : Str), (.int 8 : PyData)) := rfl
@[simp] theorem con_1 : G.con 1 = some (("LEAST_PATTERN" : Str), (.tuple [.int 1, .int 4] : PyData)) := rfl
@[simp] theorem con_2 : G.con 2 = some (("PLACES" : Str), (.tuple [.str "drop", .str "half", .str "mark", .str "match"] : PyData)) := rfl
@[simp] theorem con_3 : G.con 3 = some (("LENGTHS" : Str), (.tuple [.tuple [.int 1, .int 4], .tuple [.int 1, .int 2], .tuple [.int 3, .int 4], .tuple [.int 1, .int 1], .tuple [.int 5, .int 4], .tuple [.int 3, .int 2], .tuple [.int 7, .int 4], .tuple [.int 2, .int 1]] : PyData)) := rfl
@[simp] theorem con_4 : G.con 4 = some (("NOUGHT" : Str), (.tuple [.tuple [.int 0, .int 1], .tuple [.int 0, .int 1]] : PyData)) := rfl
@[simp] theorem con_5 : G.con 5 = some (("HALF" : Str), (.tuple [.int 1, .int 2] : PyData)) := rfl
@[simp] theorem con_6 : G.con 6 = some (("ENDLESS" : Str), (.tuple [.int 1, .int 0] : PyData)) := rfl
@[simp] theorem flds_0 : G.flds 0 = ([("both" : Str), ("now" : Str), ("past" : Str)] : List Str) := rfl
@[simp] theorem mti_36 : G.mti 36 = some (⟨0, "Roll", .init, 5, ["self", "roll", "pattern"]⟩ : MtI) := rfl
@[simp] theorem mti_37 : G.mti 37 = some (⟨0, "length", .prop, 1, ["self"]⟩ : MtI) := rfl
@[simp] theorem mti_38 : G.mti 38 = some (⟨0, "pattern", .prop, 1, ["self"]⟩ : MtI) := rfl
@[simp] theorem mti_39 : G.mti 39 = some (⟨0, "place", .prop, 1, ["self"]⟩ : MtI) := rfl
@[simp] theorem mti_40 : G.mti 40 = some (⟨0, "waste", .prop, 1, ["self"]⟩ : MtI) := rfl
@[simp] theorem mti_41 : G.mti 41 = some (⟨0, "strips", .prop, 1, ["self"]⟩ : MtI) := rfl
@[simp] theorem mti_42 : G.mti 42 = some (⟨0, "keep", .meth, 1, ["self", "later"]⟩ : MtI) := rfl
@[simp] theorem mti_43 : G.mti 43 = some (⟨0, "cut", .meth, 7, ["self", "length"]⟩ : MtI) := rfl
@[simp] theorem mti_44 : G.mti 44 = some (⟨0, "away", .meth, 7, ["self", "word"]⟩ : MtI) := rfl
@[simp] theorem mti_45 : G.mti 45 = some (⟨0, "mark", .meth, 8, ["self"]⟩ : MtI) := rfl
@[simp] theorem mti_46 : G.mti 46 = some (⟨0, "half", .meth, 8, ["self"]⟩ : MtI) := rfl
@[simp] theorem mti_47 : G.mti 47 = some (⟨0, "match", .meth, 8, ["self"]⟩ : MtI) := rfl
@[simp] theorem mti_48 : G.mti 48 = some (⟨0, "drop", .meth, 8, ["self"]⟩ : MtI) := rfl
@[simp] theorem mti_49 : G.mti 49 = some (⟨0, "matches", .meth, 5, ["self"]⟩ : MtI) := rfl
@[simp] theorem mti_50 : G.mti 50 = some (⟨0, "undo", .meth, 1, ["self"]⟩ : MtI) := rfl
@[simp] theorem mti_51 : G.mti 51 = some (⟨0, "__iadd__", .iadd, 8, ["self", "script"]⟩ : MtI) := rfl
end KL

set_option Elab.async false
set_option linter.all false
set_option maxRecDepth 100000
set_option maxHeartbeats 1000000
namespace KL
open PySem PySem.Spec PyProof.Rows L2 Mp
section
variable {hv : Hdv} {h : Hdv} {r : R} {x : Str} {v : PyData} {a b c d lo hi n k : Int} {src l : List PyData} {ds : List PyData}
@[simp] theorem low_pre : s_low.pre hv [.int a, .int b] = (1 ≤ b ∧ b.natAbs.log2 < 8000) := propext ⟨fun ⟨a', b', e, q⟩ => by cases e; exact q, fun q => ⟨a, b, rfl, q⟩⟩
@[simp] theorem low_post : s_low.post hv [.int a, .int b] r h = (r = .v (lowD a b)) := rfl
@[simp] theorem low_exc {p : PyData} {h : Hdv} : s_low.exc hv ds x p h = False := rfl
@[simp] theorem less_pre : s_less.pre hv [pr a b, pr c d] = (Sz a ∧ Sz b ∧ Sz c ∧ Sz d) := propext ⟨fun ⟨a', b', c', d', e, q⟩ => by cases e; exact q, fun q => ⟨a, b, c, d, rfl, q⟩⟩
@[simp] theorem less_post : s_less.post hv [pr a b, pr c d] r h = (r = .v (.bool (decide (a * d < c * b)))) := rfl
@[simp] theorem less_exc {p : PyData} {h : Hdv} : s_less.exc hv ds x p h = False := rfl
@[simp] theorem whole_pre : s_whole.pre hv [v, .int lo, .int hi] = gdV v := by simp [s_whole]
@[simp] theorem whole_post : s_whole.post hv [v, .int lo, .int hi] r h = (r = .v (.bool (wholeB v lo hi))) := rfl
@[simp] theorem whole_exc {p : PyData} {h : Hdv} : s_whole.exc hv ds x p h = False := rfl
@[simp] theorem one_pre {f : PyData → Bool} : (one f).pre hv [v] = gdV v := by simp [one]
@[simp] theorem one_post {f : PyData → Bool} : (one f).post hv [v] r h = (r = .v (.bool (f v))) := rfl
@[simp] theorem one_exc {f : PyData → Bool} {p : PyData} {h : Hdv} : (one f).exc hv ds x p h = False := rfl
@[simp] theorem need_pre {f : PyData → Bool} {y : Str} : (need f y).pre hv [v] = gdV v := by simp [need]
@[simp] theorem need_post {f : PyData → Bool} {y : Str} : (need f y).post hv [v] r h = (f v = true) := by simp [need]
@[simp] theorem need_exc {f : PyData → Bool} {y : Str} {p : PyData} {h : Hdv} : (need f y).exc hv [v] x p h = ((x = y ∧ f v = false) ∧ p = .none) := by simp [need]
@[simp] theorem fr_exc {f g : Int → Int → Int → Int → Int} {p : PyData} {h : Hdv} : (frS f g).exc hv ds x p h = False := rfl
@[simp] theorem plus_exc {p : PyData} {h : Hdv} : s_plus.exc hv ds x p h = False := rfl
@[simp] theorem minus_exc {p : PyData} {h : Hdv} : s_minus.exc hv ds x p h = False := rfl
@[simp] theorem times_exc {p : PyData} {h : Hdv} : s_times.exc hv ds x p h = False := rfl
end
/-! ### fractions -/
theorem gcd_pos {a b : Int} (hb : 0 < b) : 0 < (Int.gcd a b : Int) := by
  have := Int.gcd_pos_of_ne_zero_right a (show b ≠ 0 by omega)
  omega
theorem gcd_a (a b : Int) : (Int.gcd a b : Int) * (a / (Int.gcd a b : Int)) = a := Int.mul_ediv_cancel' (Int.gcd_dvd_left a b)
theorem gcd_b (a b : Int) : (Int.gcd a b : Int) * (b / (Int.gcd a b : Int)) = b := Int.mul_ediv_cancel' (Int.gcd_dvd_right a b)
theorem low_b_pos {a b : Int} (hb : 0 < b) : 0 < b / (Int.gcd a b : Int) := by
  have h1 := gcd_pos (a := a) hb
  have h2 := gcd_b a b
  by_cases h : 0 < b / (Int.gcd a b : Int)
  · exact h
  · have : (Int.gcd a b : Int) * (b / (Int.gcd a b : Int)) ≤ 0 := Int.mul_nonpos_of_nonneg_of_nonpos (by omega) (by omega)
    omega
theorem low_cop {a b : Int} (hb : 0 < b) : Int.gcd (a / (Int.gcd a b : Int)) (b / (Int.gcd a b : Int)) = 1 := by
  have h1 := gcd_pos (a := a) hb
  exact Int.gcd_ediv_gcd_ediv_gcd (by omega)
theorem pr_inj {a b c d : Int} (h : pr a b = pr c d) : a = c ∧ b = d := by
  unfold pr at h
  simpa using h
theorem dvd_cop {a b d : Int} (h : b ∣ a * d) (g : Int.gcd a b = 1) : b ∣ d := by
  have h1 : b.natAbs ∣ a.natAbs * d.natAbs := by rw [← Int.natAbs_mul]; exact Int.natAbs_dvd_natAbs.mpr h
  have h2 : Nat.Coprime b.natAbs a.natAbs := by
    show Nat.gcd b.natAbs a.natAbs = 1
    rw [Nat.gcd_comm]; exact g
  exact Int.natAbs_dvd_natAbs.mp (h2.dvd_of_dvd_mul_left h1)
theorem cop_eq {a b c d : Int} (h1 : Int.gcd a b = 1) (h2 : Int.gcd c d = 1) (hb : 0 < b) (hd : 0 < d) (h : a * d = c * b) : a = c ∧ b = d := by
  have k1 : b ∣ d := by
    have : b ∣ a * d := ⟨c, by rw [h, Int.mul_comm]⟩
    exact dvd_cop this h1
  have k2 : d ∣ b := by
    have : d ∣ c * b := ⟨a, by rw [← h, Int.mul_comm]⟩
    exact dvd_cop this h2
  have e : b = d := Int.le_antisymm (Int.le_of_dvd hd k1) (Int.le_of_dvd hb k2)
  subst e
  exact ⟨Int.eq_of_mul_eq_mul_right (by omega) h, rfl⟩
theorem low_cross {a b c d : Int} (hb : 0 < b) (hd : 0 < d) (h : a * d = c * b) : lowD a b = lowD c d := by
  have e : a / (Int.gcd a b : Int) = c / (Int.gcd c d : Int) ∧ b / (Int.gcd a b : Int) = d / (Int.gcd c d : Int) := by
    refine cop_eq (low_cop hb) (low_cop hd) (low_b_pos hb) (low_b_pos hd) ?_
    have g1 := gcd_pos (a := a) hb
    have g2 := gcd_pos (a := c) hd
    have a1 := gcd_a a b
    have b1 := gcd_b a b
    have c1 := gcd_a c d
    have d1 := gcd_b c d
    generalize (Int.gcd a b : Int) = g at *
    generalize (Int.gcd c d : Int) = g' at *
    generalize a / g = A at *
    generalize b / g = B at *
    generalize c / g' = C at *
    generalize d / g' = D at *
    subst a1 b1 c1 d1
    have : (g * g') * (A * D) = (g * g') * (C * B) := by
      have e1 : (g * g') * (A * D) = g * A * (g' * D) := by simp only [Int.mul_assoc, Int.mul_left_comm, Int.mul_comm]
      have e2 : (g * g') * (C * B) = g' * C * (g * B) := by simp only [Int.mul_assoc, Int.mul_left_comm, Int.mul_comm]
      rw [e1, e2, h]
    exact Int.eq_of_mul_eq_mul_left (Int.ne_of_gt (Int.mul_pos g1 g2)) this
  unfold lowD
  rw [e.1, e.2]
theorem low_inv {a b c d : Int} (hb : 0 < b) (hd : 0 < d) (h : lowD a b = lowD c d) : a * d = c * b := by
  obtain ⟨e1, e2⟩ := pr_inj h
  have a1 := gcd_a a b
  have b1 := gcd_b a b
  have c1 := gcd_a c d
  have d1 := gcd_b c d
  generalize (Int.gcd a b : Int) = g at *
  generalize (Int.gcd c d : Int) = g' at *
  rw [e1] at a1
  rw [e2] at b1
  generalize c / g' = C at *
  generalize d / g' = D at *
  subst a1 b1 c1 d1
  simp only [Int.mul_assoc, Int.mul_left_comm, Int.mul_comm]
theorem low_cross_iff {a b c d : Int} (hb : 0 < b) (hd : 0 < d) : lowD a b = lowD c d ↔ a * d = c * b := ⟨low_inv hb hd, low_cross hb hd⟩
theorem low_of_cop {a b : Int} (h : Int.gcd a b = 1) : lowD a b = pr a b := by unfold lowD; rw [h]; simp
theorem low_num {a b : Int} : ∃ x y, lowD a b = pr x y ∧ x.natAbs ≤ a.natAbs ∧ y.natAbs ≤ b.natAbs := by
  refine ⟨_, _, rfl, ?_, ?_⟩
  · exact Int.natAbs_ediv_le_natAbs _ _
  · exact Int.natAbs_ediv_le_natAbs _ _
theorem log_lt {i : Nat} {k : Nat} (h : i < 2 ^ k) (hk : 0 < k) : i.log2 < k := by
  rcases Nat.eq_zero_or_pos i with e | e
  · rw [e]; simpa using hk
  · exact (Nat.log2_lt (by omega)).mpr h
theorem Sz.log {a : Int} (h : Sz a) : a.natAbs.log2 < 1000 := log_lt h (by decide)
theorem Sz.mulOk {a b : Int} (h : Sz a) (h' : Sz b) : MulOk a b := .inl (by have := h.log; have := h'.log; omega)
theorem natAbs_mul_lt {a b : Int} {k j : Nat} (h : a.natAbs < 2 ^ k) (h' : b.natAbs < 2 ^ j) : (a * b).natAbs < 2 ^ (k + j) := by
  rw [Int.natAbs_mul, Nat.pow_add]
  exact Nat.mul_lt_mul'' h h'
theorem Sz.mul_log {a b : Int} (h : Sz a) (h' : Sz b) : (a * b).natAbs.log2 < 8000 := by
  have := log_lt (natAbs_mul_lt h h') (by decide)
  omega
theorem log_of {a b : Nat} (h : a ≤ b) (hb : b.log2 < 8000) : a.log2 < 9000 := by
  have : a.log2 ≤ b.log2 := by
    rcases Nat.eq_zero_or_pos a with e | e
    · subst e; simp
    · exact (Nat.le_log2 (by omega)).mpr (Nat.le_trans (Nat.log2_self_le (by omega)) h)
  omega
theorem gcd_step {x y : Int} (hx : 0 ≤ x) (hy : 0 ≤ y) : Int.gcd y (x % y) = Int.gcd x y := by
  obtain ⟨a, rfl⟩ := Int.eq_ofNat_of_zero_le hx
  obtain ⟨b, rfl⟩ := Int.eq_ofNat_of_zero_le hy
  show Nat.gcd b (a % b) = Nat.gcd a b
  rw [Nat.gcd_comm a b, Nat.gcd_rec b a, Nat.gcd_comm]
theorem k_low : Keeps G 4 .no 2 s_low b_lowest := by
  rintro hv ds hk hl ⟨a, b, rfl, h1, h2⟩
  cases hv <;> cases hk
  simp [b_lowest, env0]
  refine whl_of (fun m e => ∃ x y : Int, e = [Sl.v (.int a), Sl.v (.int b), Sl.v (.int x), Sl.v (.int y)] ∧ 0 ≤ x ∧ 0 ≤ y ∧ Int.gcd x y = Int.gcd a b ∧ m = y.toNat) b.toNat ⟨_, b, rfl, by split <;> omega, by omega, ?_, rfl⟩ ?_
  · split
    · exact Int.neg_gcd
    · rfl
  · rintro m e ⟨x, y, rfl, hx, hy, hg, rfl⟩
    simp
    split
    · rename_i hy0
      subst hy0
      have hxg : x = (Int.gcd a b : Int) := by
        rw [← hg, Int.gcd_zero_right]; omega
      have hpos : 0 < Int.gcd a b := Int.gcd_pos_of_ne_zero_right _ (by omega)
      have hle : Int.gcd a b ≤ b.natAbs := Int.gcd_le_natAbs_right _ (by omega)
      have hlog := log_of hle h2
      subst hxg
      simp [lowD, pr, hpos, hlog, line]
    · rename_i hy0
      refine ⟨by omega, (x % y).toNat, ?_, y, x % y, ⟨rfl, rfl⟩, hy, Int.emod_nonneg _ hy0, ?_, rfl⟩
      · have := Int.emod_lt_of_pos x (show 0 < y by omega)
        have := Int.emod_nonneg x hy0
        omega
      · rw [← hg, gcd_step hx hy]
theorem k_lawlow : Keeps G 4 .no 2 s_low b_law_lowest := by
  rintro hv ds hk hl ⟨a, b, rfl, h1, h2⟩
  cases hv <;> cases hk
  simp [b_law_lowest, env0]
  have hb : (if b < 0 then -b else b) = b := if_neg (by omega)
  rw [hb]
  have := k_low .no [.int a, .int b] rfl rfl ⟨a, b, rfl, h1, h2⟩
  simp [b_lowest, env0] at this
  exact this
theorem low_Sz {a b : Int} (ha : Sz a) (hb : Sz b) : Sz (a / (Int.gcd a b : Int)) ∧ Sz (b / (Int.gcd a b : Int)) :=
  ⟨Nat.lt_of_le_of_lt (Int.natAbs_ediv_le_natAbs _ _) ha, Nat.lt_of_le_of_lt (Int.natAbs_ediv_le_natAbs _ _) hb⟩
theorem low_raw (a b : Int) (hb : 0 < b) (ha : Sz a) (hz : Sz b) : ∃ x y g, lowD a b = pr x y ∧ 0 < g ∧ a = g * x ∧ b = g * y ∧ 0 < y ∧ Sz x ∧ Sz y :=
  ⟨_, _, _, rfl, gcd_pos hb, (gcd_a a b).symm, (gcd_b a b).symm, low_b_pos hb, (low_Sz ha hz).1, (low_Sz ha hz).2⟩
theorem fr_post {f g : Int → Int → Int → Int → Int} {a b c d x y : Int} {hv : Hdv} {h : Hdv} (hg : ∀ a b c d, 0 < b → 0 < d → 0 < g a b c d)
    (hf : ∀ a b c d a' b' c' d', 0 < b → 0 < d → 0 < b' → 0 < d' → a * b' = a' * b → c * d' = c' * d → f a b c d * g a' b' c' d' = f a' b' c' d' * g a b c d)
    (hb : 0 < b) (hd : 0 < d) (e : lowD x y = lowD (f a b c d) (g a b c d)) : (frS f g).post hv [lowD a b, lowD c d] (.v (lowD x y)) h := by
  intro a' b' c' d' e' hb' hd'
  simp only [List.cons.injEq, and_true] at e'
  obtain ⟨e1, e2⟩ := e'
  have e1 := low_inv hb hb' e1
  have e2 := low_inv hd hd' e2
  rw [e]
  congr 1
  exact low_cross (hg _ _ _ _ hb hd) (hg _ _ _ _ hb' hd') (hf a b c d a' b' c' d' hb hd hb' hd' e1 e2)
theorem k_plus : Keeps G 2 .no 2 s_plus b_plus := by
  rintro hv ds hk hl ⟨a, b, c, d, rfl, hb, hd, sa, sb, sc, sd⟩
  cases hv <;> cases hk
  obtain ⟨x, y, g, e1, g1, rfl, rfl, hy, sx, sy⟩ := low_raw a b hb sa sb
  obtain ⟨z, w, g', e2, g2, rfl, rfl, hw, sz, sw⟩ := low_raw c d hd sc sd
  have post := fr_post (f := fun a b c d => a * d + c * b) (g := fun _ b _ d => b * d) (x := x * w + z * y) (y := y * w) (a := g * x) (b := g * y) (c := g' * z) (d := g' * w) (hv := .no) (h := .no) (fun a b c d h h' => Int.mul_pos h h') (fun a b c d a' b' c' d' h1 h2 h3 h4 e e' => by grind) hb hd
    (low_cross (Int.mul_pos hy hw) (Int.mul_pos hb hd) (by grind))
  rw [e1, e2] at post ⊢
  have p1 : 1 ≤ y * w := Int.mul_pos hy hw
  simp [b_plus, env0, pr, sx.mulOk sw, sz.mulOk sy, sy.mulOk sw, sy.mul_log sw, p1]
  exact post
theorem k_minus : Keeps G 2 .no 2 s_minus b_minus := by
  rintro hv ds hk hl ⟨a, b, c, d, rfl, hb, hd, sa, sb, sc, sd⟩
  cases hv <;> cases hk
  obtain ⟨x, y, g, e1, g1, rfl, rfl, hy, sx, sy⟩ := low_raw a b hb sa sb
  obtain ⟨z, w, g', e2, g2, rfl, rfl, hw, sz, sw⟩ := low_raw c d hd sc sd
  have post := fr_post (f := fun a b c d => a * d - c * b) (g := fun _ b _ d => b * d) (x := x * w - z * y) (y := y * w) (a := g * x) (b := g * y) (c := g' * z) (d := g' * w) (hv := .no) (h := .no) (fun a b c d h h' => Int.mul_pos h h') (fun a b c d a' b' c' d' h1 h2 h3 h4 e e' => by grind) hb hd
    (low_cross (Int.mul_pos hy hw) (Int.mul_pos hb hd) (by grind))
  rw [e1, e2] at post ⊢
  have p1 : 1 ≤ y * w := Int.mul_pos hy hw
  simp [b_minus, env0, pr, sx.mulOk sw, sz.mulOk sy, sy.mulOk sw, sy.mul_log sw, p1]
  exact post
theorem k_times : Keeps G 2 .no 2 s_times b_times := by
  rintro hv ds hk hl ⟨a, b, c, d, rfl, hb, hd, sa, sb, sc, sd⟩
  cases hv <;> cases hk
  obtain ⟨x, y, g, e1, g1, rfl, rfl, hy, sx, sy⟩ := low_raw a b hb sa sb
  obtain ⟨z, w, g', e2, g2, rfl, rfl, hw, sz, sw⟩ := low_raw c d hd sc sd
  have post := fr_post (f := fun a b c d => a * c) (g := fun _ b _ d => b * d) (x := x * z) (y := y * w) (a := g * x) (b := g * y) (c := g' * z) (d := g' * w) (hv := .no) (h := .no) (fun a b c d h h' => Int.mul_pos h h') (fun a b c d a' b' c' d' h1 h2 h3 h4 e e' => by grind) hb hd
    (low_cross (Int.mul_pos hy hw) (Int.mul_pos hb hd) (by grind))
  rw [e1, e2] at post ⊢
  have p1 : 1 ≤ y * w := Int.mul_pos hy hw
  simp [b_times, env0, pr, sx.mulOk sz, sy.mulOk sw, sy.mul_log sw, p1]
  exact post
theorem k_less : Keeps G 2 .no 2 s_less b_is_less := by
  rintro hv ds hk hl ⟨a, b, c, d, rfl, h1, h2, h3, h4⟩
  cases hv <;> cases hk
  simp [b_is_less, env0, pr, h1.mulOk h4, h3.mulOk h2, s_less]
theorem k_lawless : Keeps G 2 .no 2 s_less b_law_less := k_less
theorem k_whole : Keeps G 3 .no 3 s_whole b_is_whole := by
  rintro hv ds hk hl ⟨v, lo, hi, rfl, hn⟩
  cases hv <;> cases hk
  cases v <;> simp [b_is_whole, env0, wholeB, gdV, gd] at hn ⊢
  split <;> omega
end KL

set_option Elab.async false
set_option linter.all false
set_option maxRecDepth 100000
set_option maxHeartbeats 1000000
namespace KL
open PySem PySem.Spec PyProof.Rows L2 Mp
section
variable {hv : Hdv} {h : Hdv} {r : R} {x : Str} {v : PyData} {a b c d lo hi n k : Int} {src l : List PyData} {ds : List PyData}
@[simp] theorem spread_pre : s_spread.pre hv [.tuple l] = (scriptB (.tuple l) = true ∧ gdV (.tuple l)) := by simp [s_spread]
@[simp] theorem spread_post : s_spread.post hv [.tuple l] r h = (r = .o (spreadD 0 l)) := by simp [s_spread]
@[simp] theorem spread_exc {p : PyData} {h : Hdv} : s_spread.exc hv ds x p h = False := rfl
end
def quarters : List PyData := [.tuple [.int 1, .int 4], .tuple [.int 1, .int 2], .tuple [.int 3, .int 4], .tuple [.int 1, .int 1], .tuple [.int 5, .int 4], .tuple [.int 3, .int 2], .tuple [.int 7, .int 4], .tuple [.int 2, .int 1]]
theorem len2 {α : Type} {l : List α} (h : l.length = 2) : ∃ a b, l = [a, b] := by
  match l, h with
  | [a, b], _ => exact ⟨a, b, rfl⟩
theorem frac_eq {a b : Int} (h : 1 ≤ b) : (decide (a / (Int.gcd a b : Int) = a) && decide (b / (Int.gcd a b : Int) = b)) = decide (Int.gcd a b = 1) := by
  have hpos : 0 < Int.gcd a b := Int.gcd_pos_of_ne_zero_right _ (by omega)
  by_cases e : Int.gcd a b = 1
  · simp [e]
  · have : ¬ (b / (Int.gcd a b : Int) = b) := fun z => by
      have h2 : b / (Int.gcd a b : Int) * (Int.gcd a b : Int) = b := Int.ediv_mul_cancel (Int.gcd_dvd_right a b)
      rw [z] at h2
      have : b * ((Int.gcd a b : Int) - 1) = 0 := by rw [Int.mul_sub, h2]; omega
      rcases Int.mul_eq_zero.mp this with q | q <;> omega
    simp [e, this]
theorem log_int {i : Int} (h : i.natAbs ≤ 10 ^ 41) : i.natAbs.log2 < 1000 := by
  have : i.natAbs < 2 ^ 200 := Nat.lt_of_le_of_lt h (by decide)
  rcases Nat.eq_zero_or_pos i.natAbs with e | e
  · rw [e]; simp
  · have := (Nat.log2_lt (by omega)).mpr this
    omega
theorem k_frac : Keeps G 2 .no 1 (one fracB) b_is_fraction := by
  rintro hv ds hk hl ⟨v, rfl, hn⟩
  cases hv <;> cases hk
  cases v with
  | dict => cases hn
  | tuple xs =>
    have hsh := shaped_of hn (by decide)
    simp [b_is_fraction, env0]
    split
    · rename_i h2
      obtain ⟨x, y, rfl⟩ := len2 (show xs.length = 2 by omega)
      simp [gdV, gd] at hn
      obtain ⟨hx, hy⟩ := hn
      refine cmp_map (fun d => .bool (match d with
        | .int _ => true
        | _ => false)) (by simp [line]) ?_ ?_
      · intro d hd K k
        have : d = x ∨ d = y := by simpa using hd
        have hg : gd 100000 39 d = true := by rcases this with rfl | rfl <;> assumption
        cases d <;> simp [cturn] at k ⊢ <;> first | exact k | simp [gd] at hg
      · simp
        cases x <;> cases y <;> simp [fracB] at *
        rename_i a b
        split
        · rename_i hb
          have hlog : b.natAbs.log2 < 1000 := log_int (by simpa [gd] using hy)
          have hs2 : SeqAt.shaped (lowD a b) = true := by simp [SeqAt.shaped, lowD, pr, PyData.canLay0, PyData.canLayAll0, PyData.depth, PyData.depthAll]
          have hf := frac_eq (a := a) hb
          refine ⟨⟨hb, by omega⟩, eqok_sh hs2 hsh, ?_⟩
          simp [lowD, pr, hf, hb]
        · rename_i hb
          simp [hb]
    · rename_i h2
      cases xs with
      | nil => simp [fracB]
      | cons x xs =>
        cases xs with
        | nil => cases x <;> simp [fracB]
        | cons y xs =>
          cases xs with
          | nil => simp at h2
          | cons z xs => cases x <;> cases y <;> simp [fracB]
  | _ => simp [b_is_fraction, env0, fracB]
theorem sh_quarters : SeqAt.shaped (.tuple quarters) = true := by decide +kernel
theorem sh_places : SeqAt.shaped (.tuple [.str "drop", .str "half", .str "mark", .str "match"]) = true := by decide +kernel
theorem gdV_sh {v : PyData} (h : gdV v) : SeqAt.shaped v = true := shaped_of h (by decide)
theorem frac_len {v : PyData} (h : fracB v = true) : ((quarters.any fun z => PyData.eqv z v)) = lenB v := by
  unfold fracB at h
  split at h
  · rename_i a b
    simp [quarters, lenB, lenT, eq_comm]
  · cases h
theorem len_frac {v : PyData} (h : lenB v = true) : fracB v = true := by
  unfold lenB at h
  split at h
  · rename_i a b
    simp [lenT] at h
    rcases h with ⟨rfl, rfl⟩ | ⟨rfl, rfl⟩ | ⟨rfl, rfl⟩ | ⟨rfl, rfl⟩ | ⟨rfl, rfl⟩ | ⟨rfl, rfl⟩ | ⟨rfl, rfl⟩ | ⟨rfl, rfl⟩ <;> decide
  · cases h
theorem k_len : Keeps G 1 .no 1 (one lenB) b_is_length := by
  rintro hv ds hk hl ⟨v, rfl, hn⟩
  cases hv <;> cases hk
  have hs := gdV_sh hn
  simp [b_is_length, env0, hn, hs, sh_quarters]
  split
  · rename_i h; exact ⟨sh_quarters, by have q := frac_len h; simpa [quarters, -eqv_t] using q⟩
  · rename_i h
    cases e : lenB v
    · simpa using h
    · exact absurd (len_frac e) h
theorem gd_in {m n : Nat} {l : List PyData} {x : PyData} (h : gd m (n + 1) (.tuple l) = true) (hx : x ∈ l) : gd m n x = true := by
  simp only [gd, Bool.and_eq_true, List.all_eq_true] at h
  exact h.2 x hx
theorem gd_inL {m n : Nat} {l : List PyData} {x : PyData} (h : gd m (n + 1) (.list l) = true) (hx : x ∈ l) : gd m n x = true := by
  simp only [gd, Bool.and_eq_true, List.all_eq_true] at h
  exact h.2 x hx
theorem gd_up1 {m m' : Nat} (hm : m ≤ m') : ∀ {n n' : Nat} {v : PyData}, n ≤ n' → gd m n v = true → gd m' n' v = true
  | n, n', .none, _, _ => by cases n' <;> rfl
  | n, n', .bool _, _, _ => by cases n' <;> rfl
  | n, n', .int _, _, h => by cases n <;> cases n' <;> exact h
  | n, n', .str _, _, h => by cases n <;> cases n' <;> exact h
  | 0, n', .list _, _, h => by cases h
  | 0, n', .tuple _, _, h => by cases h
  | n + 1, 0, .list _, l, h => by omega
  | n + 1, 0, .tuple _, l, h => by omega
  | n + 1, n' + 1, .list ds, l, h => by
    simp only [gd, Bool.and_eq_true, List.all_eq_true, decide_eq_true_eq] at h ⊢
    exact ⟨by omega, fun x hx => gd_up1 hm (by omega) (h.2 x hx)⟩
  | n + 1, n' + 1, .tuple ds, l, h => by
    simp only [gd, Bool.and_eq_true, List.all_eq_true, decide_eq_true_eq] at h ⊢
    exact ⟨by omega, fun x hx => gd_up1 hm (by omega) (h.2 x hx)⟩
  | n, n', .dict _, l, h => by cases n <;> cases h
theorem gdV_in {l : List PyData} {x : PyData} (h : gdV (.tuple l)) (hx : x ∈ l) : gdV x := gd_up1 (Nat.le_refl _) (by decide) (gd_in h hx)
theorem gdV_of {m n : Nat} {v : PyData} (h : gd m n v = true) (hm : m ≤ 100000) (hn : n ≤ 40) : gdV v := gd_up1 hm hn h
theorem sh_str {s : Str} (h : gdV (.str s)) : SeqAt.shaped (.str s) = true := gdV_sh h
theorem isTy_str {v : PyData} (h : gdV v) : ∃ b, isTy v "str" = some b ∧ (b = true ↔ ∃ s, v = .str s) := by
  cases v <;> simp
  cases h
theorem isTy_tup {v : PyData} (h : gdV v) : ∃ b, isTy v "tuple" = some b ∧ (b = true ↔ ∃ s, v = .tuple s) := by
  cases v <;> simp
  cases h
@[simp] theorem sh_nil : SeqAt.shaped (.tuple []) = true := by decide
theorem k_plain : Keeps G 1 .no 1 (one plainB) b_is_plain_step := by
  rintro hv ds hk hl ⟨v, rfl, hn⟩
  cases hv <;> cases hk
  cases v with
  | dict => cases hn
  | tuple xs =>
    have hs := gdV_sh hn
    simp [b_is_plain_step, env0, line, eqok_sh hs]
    cases xs with
    | nil => simp [plainB]
    | cons x xs =>
      have hx := gdV_in hn List.mem_cons_self
      simp
      cases x with
      | dict => cases hx
      | str s =>
        have hss := sh_str hx
        simp [hss, sh_places]
        split
        · rename_i hc
          subst hc
          cases xs with
          | nil => simp [plainB, placeT]; decide
          | cons y ys =>
            have hy := gdV_in hn (List.mem_cons_of_mem _ List.mem_cons_self)
            cases ys with
            | nil => simp [plainB, hy]
            | cons z zs => simp [plainB]; omega
        · rename_i hc
          cases xs with
          | nil => simp [plainB, placeT, eq_comm]
          | cons y ys =>
            cases ys with
            | nil => simp [plainB, hc]
            | cons z zs => simp [plainB]; omega
      | _ => simp [plainB]
  | _ => simp [b_is_plain_step, env0, plainB]
theorem Sz_int {i : Int} (h : i.natAbs ≤ 10 ^ 41) : Sz i := Nat.lt_of_le_of_lt h (by decide)
theorem Sz_4 : Sz 4 := by unfold Sz; decide
theorem Sz_1 : Sz 1 := by unfold Sz; decide
theorem rep_len {l : List PyData} (h : l.length ≠ 3) : repB (.tuple l) = false := by
  unfold repB
  split
  · rename_i heq
    cases heq
    simp at h
  · rfl
theorem rep3 {s : Str} {y : PyData} {inner : List PyData} : repB (.tuple [.str s, y, .tuple inner]) = (decide (s = "repeat") && wholeB y 2 5 && (decide (1 ≤ inner.length) && decide (inner.length ≤ 4)) && inner.all plainB) := by
  cases y <;> simp [repB, wholeB]
theorem k_step : Keeps G 2 .no 1 (one stepB) b_is_right_step := by
  rintro hv ds hk hl ⟨v, rfl, hn⟩
  cases hv <;> cases hk
  simp [b_is_right_step, env0, hn]
  by_cases hp : plainB v = true
  · simp [hp, stepB]
  · simp [hp]
    have e : stepB v = repB v := by simp [stepB, hp]
    rw [e]
    cases v with
    | dict => cases hn
    | tuple xs =>
      by_cases h3 : xs.length = 3
      · obtain ⟨x, y, z, rfl⟩ : ∃ x y z, xs = [x, y, z] := by
          match xs, h3 with
          | [x, y, z], _ => exact ⟨x, y, z, rfl⟩
        have hx := gdV_in hn List.mem_cons_self
        have hy := gdV_in hn (List.mem_cons_of_mem _ List.mem_cons_self)
        have hz := gdV_in hn (List.mem_cons_of_mem _ (List.mem_cons_of_mem _ List.mem_cons_self))
        simp
        cases x with
        | dict => cases hx
        | str s =>
          cases z with
          | dict => cases hz
          | tuple inner =>
            simp [hy, rep3]
            by_cases hs : s = "repeat"
            · subst hs
              by_cases hw : wholeB y 2 5 = true
              · simp [hw]
                by_cases hc : 1 ≤ inner.length ∧ inner.length ≤ 4
                · have c1 : (1 : Int) ≤ inner.length := by omega
                  have c2 : (inner.length : Int) ≤ 4 := by omega
                  simp [c1, c2, hc.1, hc.2]
                  refine cmp_map (fun d => .bool (plainB d)) (by show inner.length ≤ 16777216; omega) (fun d hd K k => ?_) ?_
                  · have hg := gdV_in hz hd
                    simp [cturn, hg] at k ⊢
                    exact k
                  · simp [e, rep3, hw, hc.1, hc.2]
                · cases inner with
                  | nil => simp
                  | cons i0 inner =>
                    have c1 : (1 : Int) ≤ ((i0 :: inner).length : Int) := by simp; omega
                    have c2 : ¬ (((i0 :: inner).length : Int) ≤ 4) := by simp at hc ⊢; omega
                    simp only [c1, c2, if_true, if_false]
                    intro _ q; omega
              · simp [hw]
            · simp [hs]
          | _ =>
            simp [hy]
            by_cases hs : s = "repeat" <;> by_cases hw : wholeB y 2 5 = true <;> simp [hs, hw] <;> cases y <;> simp [repB]
        | _ => simp [repB]
      · have h3' : ¬ ((xs.length : Int) = 3) := by omega
        simp [rep_len h3, h3']
    | _ => simp [repB]
theorem k_script : Keeps G 2 .no 1 (one scriptB) b_is_right_script := by
  rintro hv ds hk hl ⟨v, rfl, hn⟩
  cases hv <;> cases hk
  cases v with
  | dict => cases hn
  | tuple xs =>
    simp [b_is_right_script, env0]
    split
    · rename_i h8
      refine cmp_map (fun d => .bool (stepB d)) (by show xs.length ≤ 16777216; omega) (fun d hd K k => ?_) ?_
      · have hg := gdV_in hn hd
        simp [cturn, hg] at k ⊢
        exact k
      · have h8' : xs.length ≤ 8 := by omega
        simp [scriptB, h8']
    · rename_i h8
      have h8' : ¬ xs.length ≤ 8 := by omega
      simp [scriptB, h8']
      omega
  | _ => simp [b_is_right_script, env0, scriptB]
theorem k_pat : Keeps G 1 .no 1 (one patB) b_is_right_pattern := by
  rintro hv ds hk hl ⟨v, rfl, hn⟩
  cases hv <;> cases hk
  simp [b_is_right_pattern, env0, hn]
  by_cases hf : fracB v = true
  · have hf' := hf
    unfold fracB at hf'
    split at hf'
    · rename_i a b
      have ha : gdV (.int a) := gdV_in hn List.mem_cons_self
      have hb : gdV (.int b) := gdV_in hn (List.mem_cons_of_mem _ List.mem_cons_self)
      have la := Sz_int (show a.natAbs ≤ 10 ^ 41 by simpa [gdV, gd] using ha)
      have lb := Sz_int (show b.natAbs ≤ 10 ^ 41 by simpa [gdV, gd] using hb)
      have lp := less_pre (hv := .no) (a := a) (b := b) (c := 1) (d := 4)
      have lq : ∀ r h, s_less.post .no [.tuple [.int a, .int b], .tuple [.int 1, .int 4]] r h = (r = .v (.bool (decide (a * 4 < 1 * b)))) := fun r h => rfl
      simp only [pr] at lp
      simp only [Bool.and_eq_true, decide_eq_true_eq] at hf'
      simp [hf, la, lb, lp, lq, Sz_4, Sz_1, patB, hf'.1, hf'.2]
      by_cases q : b ≤ 4 * a <;> simp [q] <;> omega
    · cases hf'
  · have : patB v = false := by
      unfold patB
      split
      · rename_i a b
        unfold fracB at hf
        simp at hf ⊢
        intro h1 h2
        exact absurd h2 (hf h1)
      · rfl
    simp [hf, this]
theorem k_need : Keeps G 1 .no 1 (need scriptB "InvalidScript") b_need_script := by
  rintro hv ds hk hl ⟨v, rfl, hn⟩
  cases hv <;> cases hk
  simp [b_need_script, env0, hn]
theorem k_needp : Keeps G 1 .no 1 (need patB "InvalidPattern") b_need_pattern := by
  rintro hv ds hk hl ⟨v, rfl, hn⟩
  cases hv <;> cases hk
  simp [b_need_pattern, env0, hn]
theorem k_needr : Keeps G 1 .no 1 (need rollB "InvalidRoll") b_need_roll := by
  rintro hv ds hk hl ⟨v, rfl, hn⟩
  cases hv <;> cases hk
  simp [b_need_roll, env0, hn, rollB]
theorem step_inv {d : PyData} (h : stepB d = true) : (∃ n inner, d = .tuple [.str "repeat", .int n, .tuple inner] ∧ 2 ≤ n ∧ n ≤ 5 ∧ 1 ≤ inner.length ∧ inner.length ≤ 4 ∧ inner.all plainB = true) ∨
    (plainB d = true ∧ ∃ s rest, d = .tuple (.str s :: rest) ∧ s ≠ "repeat" ∧ rest.length ≤ 1) := by
  simp only [stepB, Bool.or_eq_true] at h
  rcases h with h | h
  · refine .inr ⟨h, ?_⟩
    unfold plainB at h
    split at h
    · rename_i s
      refine ⟨s, [], rfl, fun e => ?_, by simp⟩
      subst e
      revert h; decide
    · rename_i s l
      simp only [Bool.and_eq_true, decide_eq_true_eq] at h
      obtain ⟨rfl, _⟩ := h
      exact ⟨"cut", [l], rfl, by decide, by simp⟩
    · cases h
  · unfold repB at h
    split at h
    · rename_i s n inner
      simp only [Bool.and_eq_true, decide_eq_true_eq] at h
      obtain ⟨⟨⟨rfl, h1, h2⟩, h3, h4⟩, h5⟩ := h
      exact .inl ⟨n, inner, rfl, h1, h2, h3, h4, h5⟩
    · cases h
theorem spread_plain {i : Nat} {s : Str} {rest r : List PyData} (h : rest.length ≤ 1) : spreadD i (.tuple (.str s :: rest) :: r) = .tuple [.int (i : Nat), .tuple (.str s :: rest)] :: spreadD (i + 1) r := by
  match rest, h with
  | [], _ => simp [spreadD]
  | [x], _ => simp [spreadD]
theorem script_in {l : List PyData} (h : scriptB (.tuple l) = true) : l.length ≤ 8 ∧ ∀ d ∈ l, stepB d = true := by
  simp only [scriptB, Bool.and_eq_true, decide_eq_true_eq, List.all_eq_true] at h
  exact h
theorem k_spread : Keeps G 6 .no 1 s_spread b_spread := by
  rintro hv ds hk hl ⟨l, rfl, hs, hn⟩
  cases hv <;> cases hk
  obtain ⟨h8, hst⟩ := script_in hs
  simp [b_spread, env0, hn, line]
  refine for_of (fun rem e => ∃ i r acc a b c d, rem = enumD i r ∧ e = [Sl.v (.tuple l), Sl.o acc, a, b, c, d] ∧ acc ++ spreadD i r = spreadD 0 l ∧ (∀ x ∈ r, x ∈ l) ∧ acc.length ≤ 20 * i ∧ i + r.length ≤ 8)
    ⟨0, l, [], _, _, _, _, rfl, rfl, by simp, fun _ h => h, by simp, by omega⟩ ?_ ?_
  · rintro d0 r0 e K hd ⟨i, r, acc, a, b, c, d, hrem, rfl, hacc, hin, hlen, hi⟩ hK
    cases r with
    | nil => cases hrem
    | cons x r =>
      simp only [enumD, List.cons.injEq] at hrem
      obtain ⟨rfl, rfl⟩ := hrem
      have hx := hst x (hin x List.mem_cons_self)
      have hgx := gdV_in hn (hin x List.mem_cons_self)
      have hin' : ∀ y ∈ r, y ∈ l := fun y hy => hin y (List.mem_cons_of_mem _ hy)
      have hi' : i + 1 + r.length ≤ 8 := by simp only [List.length_cons] at hi; omega
      rcases step_inv hx with ⟨n, inner, rfl, n1, n2, l1, l2, _⟩ | ⟨_, s, rest, rfl, hne, hr⟩
      · simp
        refine ⟨⟨by omega, by omega⟩, ?_⟩
        let block : List PyData := inner.map fun y => .tuple [.int (i : Nat), y]
        have hb : block.length = inner.length := by simp [block]
        refine for_of (fun rem e => ∃ j d2 d3, rem.length + j = n.toNat ∧ e = [Sl.v (.tuple l), Sl.o (acc ++ (List.replicate j block).flatten), Sl.v (.int (i : Nat)), Sl.v (.tuple [.str "repeat", .int n, .tuple inner]), d2, d3])
          ⟨0, _, _, by simp [rngD], by simp; exact ⟨rfl, rfl⟩⟩ ?_ ?_
        · rintro t rem e K2 ht ⟨j, d2, d3, hj, rfl⟩ hK2
          simp
          refine cmp_map (fun y => .tuple [.int (i : Nat), y]) (by show inner.length ≤ 16777216; omega) (fun y hy K3 k3 => ?_) ?_
          · simp [cturn, line] at k3 ⊢
            exact k3
          · have hfl : ((List.replicate j block).flatten).length = j * inner.length := by simp [hb]
            have : j * inner.length ≤ 5 * 4 := Nat.mul_le_mul (by omega) l2
            simp
            refine ⟨by show _ ≤ 16777216; simp [hb]; omega, ?_⟩
            refine hK2 _ ⟨j + 1, Sl.v t, Sl.no, by simp at hj; omega, ?_⟩
            simp [List.replicate_succ', block]
        · rintro e ⟨j, d2, d3, hj, rfl⟩
          simp at hj
          subst hj
          simp
          refine hK _ ⟨i + 1, r, _, _, _, _, _, rfl, rfl, ?_, hin', ?_, hi'⟩
          · rw [← hacc]
            simp [spreadD, block]
          · have : n.toNat * inner.length ≤ 5 * 4 := Nat.mul_le_mul (by omega) l2
            simp [hb]; omega
      · have hs0 := sh_str (gdV_in hgx List.mem_cons_self)
        simp [hne, line]
        refine ⟨by omega, ?_⟩
        refine hK _ ⟨i + 1, r, _, _, _, _, _, rfl, rfl, ?_, hin', by simp; omega, hi'⟩
        rw [← hacc, spread_plain hr]
        simp
  · rintro e ⟨i, r, acc, a, b, c, d, hrem, rfl, hacc, _⟩
    cases r with
    | cons => cases hrem
    | nil =>
      simp [spreadD] at hacc
      simp [hacc]
theorem spread_pair : ∀ {l : List PyData} {i : Nat} {d : PyData}, d ∈ spreadD i l → ∃ j x, d = .tuple [j, x] := by
  intro l
  induction l with
  | nil => intro i d h; simp [spreadD] at h
  | cons y r ih =>
    intro i d h
    unfold spreadD at h
    split at h
    · cases ‹_ :: _ = []›
    · rename_i heq; cases heq
      rcases List.mem_append.mp h with h | h
      · obtain ⟨blk, hb, hd⟩ := List.mem_flatten.mp h
        obtain ⟨_, rfl⟩ := List.mem_replicate.mp hb
        obtain ⟨x, _, rfl⟩ := List.mem_map.mp hd
        exact ⟨_, _, rfl⟩
      · exact ih h
    · rename_i heq; cases heq
      rcases List.mem_cons.mp h with rfl | h
      · exact ⟨_, _, rfl⟩
      · exact ih h
theorem spread_len : ∀ {l : List PyData} {i : Nat}, (∀ d ∈ l, stepB d = true) → (spreadD i l).length ≤ 20 * l.length := by
  intro l
  induction l with
  | nil => intro i h; simp [spreadD]
  | cons y r ih =>
    intro i h
    have ih := ih (i := i + 1) fun d hd => h d (List.mem_cons_of_mem _ hd)
    rcases step_inv (h y List.mem_cons_self) with ⟨n, inner, rfl, n1, n2, l1, l2, _⟩ | ⟨_, s, rest, rfl, hne, hr⟩
    · have : n.toNat * inner.length ≤ 5 * 4 := Nat.mul_le_mul (by omega) l2
      simp [spreadD]; omega
    · rw [spread_plain hr]; simp; omega
end KL

set_option Elab.async false
set_option linter.all false
set_option maxRecDepth 100000
set_option maxHeartbeats 1000000
set_option exponentiation.threshold 2000
namespace KL
open PySem PySem.Spec PyProof.Rows L2 Mp
theorem frm_inj {k m k' m' : Int} (h : frm k m = frm k' m') : k = k' ∧ m = m' := by
  unfold frm at h
  simp only [PyData.tuple.injEq, List.cons.injEq, and_true] at h
  have e1 := low_inv (by omega) (by omega) h.1
  have e2 := low_inv (by omega) (by omega) h.2
  omega
section
variable {hv : Hdv} {h : Hdv} {r : R} {x : Str} {k m k' m' n d n' d' : Int} {ds : List PyData}
@[simp] theorem worth_pre : s_worth.pre hv [frm k m, pr n d] = (SF k m ∧ Sf n ∧ Sf d) := propext ⟨fun ⟨k', m', n', d', e, q⟩ => by
  simp only [List.cons.injEq, and_true] at e
  obtain ⟨e1, e2⟩ := e
  obtain ⟨rfl, rfl⟩ := frm_inj e1
  obtain ⟨rfl, rfl⟩ := pr_inj e2
  exact q, fun q => ⟨k, m, n, d, rfl, q⟩⟩
@[simp] theorem worth_post : s_worth.post hv [frm k m, pr n d] r h = ∃ w c : Int, r = .v (.int w) ∧ 0 < c ∧ c * w = 2 * wv k m n d := propext ⟨fun ⟨k', m', n', d', w, c, e, q⟩ => by
  simp only [List.cons.injEq, and_true] at e
  obtain ⟨e1, e2⟩ := e
  obtain ⟨rfl, rfl⟩ := frm_inj e1
  obtain ⟨rfl, rfl⟩ := pr_inj e2
  exact ⟨w, c, q⟩, fun ⟨w, c, q⟩ => ⟨k, m, n, d, w, c, rfl, q⟩⟩
@[simp] theorem worth_exc {p : PyData} {h : Hdv} : s_worth.exc hv ds x p h = False := rfl
@[simp] theorem sign_pre : s_sign.pre hv [frm k m, pr n d, pr n' d'] = (SF k m ∧ Sf n ∧ Sf d ∧ Sf n' ∧ Sf d') := propext ⟨fun ⟨a, b, c, f, c', f', e, q⟩ => by
  simp only [List.cons.injEq, and_true] at e
  obtain ⟨e1, e2, e3⟩ := e
  obtain ⟨rfl, rfl⟩ := frm_inj e1
  obtain ⟨rfl, rfl⟩ := pr_inj e2
  obtain ⟨rfl, rfl⟩ := pr_inj e3
  exact q, fun q => ⟨k, m, n, d, n', d', rfl, q⟩⟩
@[simp] theorem sign_post : s_sign.post hv [frm k m, pr n d, pr n' d'] r h = (r = .v (sgD (wv k m n d) (wv k m n' d'))) := propext ⟨fun ⟨a, b, c, f, c', f', e, q⟩ => by
  simp only [List.cons.injEq, and_true] at e
  obtain ⟨e1, e2, e3⟩ := e
  obtain ⟨rfl, rfl⟩ := frm_inj e1
  obtain ⟨rfl, rfl⟩ := pr_inj e2
  obtain ⟨rfl, rfl⟩ := pr_inj e3
  exact q, fun q => ⟨k, m, n, d, n', d', rfl, q⟩⟩
@[simp] theorem sign_exc {p : PyData} {h : Hdv} : s_sign.exc hv ds x p h = False := rfl
@[simp] theorem edge_pre : s_edge.pre hv [frm k m] = (SF k m ∧ m ≠ 0) := propext ⟨fun ⟨a, b, e, q⟩ => by
  simp only [List.cons.injEq, and_true] at e
  obtain ⟨rfl, rfl⟩ := frm_inj e
  exact q, fun q => ⟨k, m, rfl, q⟩⟩
@[simp] theorem edge_post : s_edge.post hv [frm k m] r h = (r = .v (edgeD k m)) := propext ⟨fun ⟨a, b, e, q⟩ => by
  simp only [List.cons.injEq, and_true] at e
  obtain ⟨rfl, rfl⟩ := frm_inj e
  exact q, fun q => ⟨k, m, rfl, q⟩⟩
@[simp] theorem edge_exc {p : PyData} {h : Hdv} : s_edge.exc hv ds x p h = False := rfl
theorem fm_pre {f : Int → Int → Int} : (fmS f).pre hv [frm k m, frm k' m'] = (SF k m ∧ SF k' m') := propext ⟨fun ⟨a, b, c, f, e, q⟩ => by
  simp only [List.cons.injEq, and_true] at e
  obtain ⟨e1, e2⟩ := e
  obtain ⟨rfl, rfl⟩ := frm_inj e1
  obtain ⟨rfl, rfl⟩ := frm_inj e2
  exact q, fun q => ⟨k, m, k', m', rfl, q⟩⟩
theorem fm_post {f : Int → Int → Int} : (fmS f).post hv [frm k m, frm k' m'] r h = (r = .v (frm (f k k') (f m m'))) := propext ⟨fun ⟨a, b, c, f, e, q⟩ => by
  simp only [List.cons.injEq, and_true] at e
  obtain ⟨e1, e2⟩ := e
  obtain ⟨rfl, rfl⟩ := frm_inj e1
  obtain ⟨rfl, rfl⟩ := frm_inj e2
  exact q, fun q => ⟨k, m, k', m', rfl, q⟩⟩
@[simp] theorem fsum_pre : s_fsum.pre hv [frm k m, frm k' m'] = (SF k m ∧ SF k' m') := fm_pre
@[simp] theorem fsum_post : s_fsum.post hv [frm k m, frm k' m'] r h = (r = .v (frm (k + k') (m + m'))) := fm_post
@[simp] theorem fsum_exc {p : PyData} {h : Hdv} : s_fsum.exc hv ds x p h = False := rfl
@[simp] theorem fless_pre : s_fless.pre hv [frm k m, frm k' m'] = (SF k m ∧ SF k' m') := fm_pre
@[simp] theorem fless_post : s_fless.post hv [frm k m, frm k' m'] r h = (r = .v (frm (k - k') (m - m'))) := fm_post
@[simp] theorem fless_exc {p : PyData} {h : Hdv} : s_fless.exc hv ds x p h = False := rfl
@[simp] theorem value_pre : s_value.pre hv [frm k m, pr n d] = (SF k m ∧ Pat n d) := propext ⟨fun ⟨k', m', n', d', e, q⟩ => by
  simp only [List.cons.injEq, and_true] at e
  obtain ⟨e1, e2⟩ := e
  obtain ⟨rfl, rfl⟩ := frm_inj e1
  obtain ⟨rfl, rfl⟩ := pr_inj e2
  exact q, fun q => ⟨k, m, n, d, rfl, q⟩⟩
@[simp] theorem value_post : s_value.post hv [frm k m, pr n d] r h = (r = .v (lowD (wv k m n d) (4 * d))) := propext ⟨fun ⟨k', m', n', d', e, q⟩ => by
  simp only [List.cons.injEq, and_true] at e
  obtain ⟨e1, e2⟩ := e
  obtain ⟨rfl, rfl⟩ := frm_inj e1
  obtain ⟨rfl, rfl⟩ := pr_inj e2
  exact q, fun q => ⟨k, m, n, d, rfl, q⟩⟩
@[simp] theorem value_exc {p : PyData} {h : Hdv} : s_value.exc hv ds x p h = False := rfl
@[simp] theorem middle_pre : s_middle.pre hv [pr n d, pr n' d'] = (Pat n d ∧ Far n' d') := propext ⟨fun ⟨a, b, c, f, e, q⟩ => by
  simp only [List.cons.injEq, and_true] at e
  obtain ⟨e1, e2⟩ := e
  obtain ⟨rfl, rfl⟩ := pr_inj e1
  obtain ⟨rfl, rfl⟩ := pr_inj e2
  exact q, fun q => ⟨n, d, n', d', rfl, q⟩⟩
@[simp] theorem middle_post : s_middle.post hv [pr n d, pr n' d'] r h = (r = .v (lowD (midN n d n' d') (midB d d'))) := propext ⟨fun ⟨a, b, c, f, e, q⟩ => by
  simp only [List.cons.injEq, and_true] at e
  obtain ⟨e1, e2⟩ := e
  obtain ⟨rfl, rfl⟩ := pr_inj e1
  obtain ⟨rfl, rfl⟩ := pr_inj e2
  exact q, fun q => ⟨n, d, n', d', rfl, q⟩⟩
@[simp] theorem middle_exc {p : PyData} {h : Hdv} : s_middle.exc hv ds x p h = False := rfl
end
/-! sizes -/
theorem Sf.sz {a : Int} (h : Sf a) : Sz a := Nat.lt_of_lt_of_le h (by decide)
theorem sz_mul {a b : Int} {i j : Nat} (h : a.natAbs < 2 ^ i) (h' : b.natAbs < 2 ^ j) (l : i + j ≤ 1000) : Sz (a * b) := Nat.lt_of_lt_of_le (natAbs_mul_lt h h') (Nat.pow_le_pow_right (by decide) l)
theorem Sf.mul {a b : Int} (h : Sf a) (h' : Sf b) : Sz (a * b) := sz_mul h h' (by decide)
theorem Sf.mul3 {a b c : Int} (h : Sf a) (h' : Sf b) (h'' : Sf c) : Sz (a * b * c) := sz_mul (natAbs_mul_lt h h') h'' (by decide)
theorem nat_small {a : Int} {i j : Nat} (h : a.natAbs < 2 ^ i) (l : i ≤ j) : a.natAbs < 2 ^ j := Nat.lt_of_lt_of_le h (Nat.pow_le_pow_right (by decide) l)
theorem natAbs_add_lt {a b : Int} {i : Nat} (h : a.natAbs < 2 ^ i) (h' : b.natAbs < 2 ^ i) : (a + b).natAbs < 2 ^ (i + 1) := by
  have := Int.natAbs_add_le a b
  rw [Nat.pow_succ]; omega
theorem natAbs_sub_lt {a b : Int} {i : Nat} (h : a.natAbs < 2 ^ i) (h' : b.natAbs < 2 ^ i) : (a - b).natAbs < 2 ^ (i + 1) := by
  have := Int.natAbs_sub_le a b
  rw [Nat.pow_succ]; omega
theorem Sf_small {a : Int} (h : a.natAbs ≤ 8) : Sf a := Nat.lt_of_le_of_lt h (by decide)
theorem Sz_small {a : Int} (h : a.natAbs ≤ 8) : Sz a := (Sf_small h).sz
theorem low_rawF {b : Int} (a : Int) (hb : 0 < b) (ha : Sf a) (hz : Sf b) : ∃ x y g, lowD a b = pr x y ∧ 0 < g ∧ a = g * x ∧ b = g * y ∧ 0 < y ∧ Sf x ∧ Sf y :=
  ⟨_, _, _, rfl, gcd_pos hb, (gcd_a a b).symm, (gcd_b a b).symm, low_b_pos hb, Nat.lt_of_le_of_lt (Int.natAbs_ediv_le_natAbs _ _) ha, Nat.lt_of_le_of_lt (Int.natAbs_ediv_le_natAbs _ _) hz⟩
theorem k_worth : Keeps G 4 .no 2 s_worth b_worth_sign := by
  rintro hv ds hk hl ⟨k, m, n, d, rfl, ⟨sk, sm⟩, sn, sd⟩
  cases hv <;> cases hk
  obtain ⟨x, y, g, e1, g1, rfl, e4, hy, sx, sy⟩ := low_rawF (b := 4) k (by omega) sk (Sf_small (by decide))
  obtain ⟨z, u, g', e2, g2, rfl, e5, hu, sz, su⟩ := low_rawF (b := 2) m (by omega) sm (Sf_small (by decide))
  have post : s_worth.post .no [frm (g * x) (g' * z), pr n d] (.v (.int (x * u * d + z * y * n))) .no := by
    rw [worth_post]
    refine ⟨_, g * g', rfl, Int.mul_pos g1 g2, ?_⟩
    unfold wv
    grind
  unfold frm at post ⊢
  rw [e1, e2] at post ⊢
  simp [b_worth_sign, env0, pr, sx.sz.mulOk su.sz, (sx.mul su).mulOk sd.sz, sz.sz.mulOk sy.sz, (sz.mul sy).mulOk sn.sz]
  simpa [pr] using post
theorem sg_of {c w v : Int} (hc : 0 < c) (e : c * w = 2 * v) : (0 ≤ w ↔ 0 ≤ v) ∧ (w ≤ 0 ↔ v ≤ 0) := by
  constructor
  · constructor
    · intro h
      have := Int.mul_nonneg (show (0 : Int) ≤ c by omega) h
      omega
    · intro h
      by_cases q : 0 ≤ w
      · exact q
      · have := Int.mul_neg_of_pos_of_neg hc (show w < 0 by omega)
        omega
  · constructor
    · intro h
      have := Int.mul_nonpos_of_nonneg_of_nonpos (show (0 : Int) ≤ c by omega) h
      omega
    · intro h
      by_cases q : w ≤ 0
      · exact q
      · have := Int.mul_pos hc (show 0 < w by omega)
        omega
theorem k_sign : Keeps G 5 .no 3 s_sign b_sign_in := by
  rintro hv ds hk hl ⟨k, m, n, d, n', d', rfl, sf, sn, sd, sn', sd'⟩
  cases hv <;> cases hk
  simp [b_sign_in, env0, sf, sn, sd, sn', sd']
  rintro _ w rfl c hc e
  simp [sf, sn, sd, sn', sd']
  rintro _ w' rfl c' hc' e'
  obtain ⟨p1, p2⟩ := sg_of hc e
  obtain ⟨q1, q2⟩ := sg_of hc' e'
  simp
  by_cases h1 : 0 ≤ w
  · by_cases h2 : 0 ≤ w'
    · have h1' := p1.mp h1
      have h2' := q1.mp h2
      have e3 : (0 < w + w') ↔ 0 < wv k m n d + wv k m n' d' := by clear e e'; omega
      simp [h1, h2, sgD, h1', h2']
      by_cases z : 0 < w + w'
      · simp [z, e3.mp z]
      · simp [z]; clear e e'; omega
    · have h2' : ¬ 0 ≤ wv k m n' d' := fun z => h2 (q1.mpr z)
      have h2'' : w' ≤ 0 := by omega
      have h3 : wv k m n' d' ≤ 0 := by omega
      simp [h1, h2, sgD, h2', h3]
      by_cases z : w ≤ 0
      · simp [z, h2'', p2.mp z]
      · simp [z]; clear e e'; omega
  · have h1' : ¬ 0 ≤ wv k m n d := fun z => h1 (p1.mpr z)
    have h3 : wv k m n d ≤ 0 := by omega
    have h4 : w ≤ 0 := by omega
    simp [h1, sgD, h1', h3, h4]
    by_cases z : w' ≤ 0
    · simp [z, q2.mp z]
    · simp [z]; clear e e'; omega
theorem k_edge : Keeps G 5 .no 1 s_edge b_edge_of := by
  rintro hv ds hk hl ⟨k, m, rfl, ⟨sk, sm⟩, hm⟩
  cases hv <;> cases hk
  obtain ⟨x, y, g, e1, g1, rfl, e4, hy, sx, sy⟩ := low_rawF (b := 4) k (by omega) sk (Sf_small (by decide))
  obtain ⟨z, u, g', e2, g2, rfl, e5, hu, sz, su⟩ := low_rawF (b := 2) m (by omega) sm (Sf_small (by decide))
  have hz : z ≠ 0 := fun h => hm (by rw [h]; simp)
  have a1 : ∀ i : Int, (if i < 0 then -i else i) = (i.natAbs : Int) := fun i => by split <;> omega
  have p1 : 0 < (z * y).natAbs := by
    rw [Int.natAbs_mul]
    exact Nat.mul_pos (by omega) (by omega)
  have hlog : (z * y).natAbs.log2 < 8000 := by have := (sz.mul sy).log; omega
  have post : s_edge.post .no [frm (g * x) (g' * z)] (.v (lowD ((x * u).natAbs : Int) ((z * y).natAbs : Int))) .no := by
    rw [edge_post]
    congr 1
    unfold edgeD
    refine low_cross (by omega) (by omega) ?_
    rw [Int.natAbs_mul, Int.natAbs_mul, Int.natAbs_mul, Int.natAbs_mul, show y.natAbs = y.toNat by omega, show u.natAbs = u.toNat by omega, show g.natAbs = g.toNat by omega, show g'.natAbs = g'.toNat by omega]
    push_cast
    rw [show ((y.toNat : Nat) : Int) = y by omega, show ((u.toNat : Nat) : Int) = u by omega, show ((g.toNat : Nat) : Int) = g by omega, show ((g'.toNat : Nat) : Int) = g' by omega]
    grind
  unfold frm at post ⊢
  rw [e1, e2] at post ⊢
  simp [b_edge_of, env0, pr, sx.sz.mulOk su.sz, sz.sz.mulOk sy.sz, a1, hlog]
  exact ⟨by omega, by simpa [pr] using post⟩
end KL

set_option Elab.async false
set_option linter.all false
set_option maxRecDepth 100000
set_option maxHeartbeats 1000000
set_option exponentiation.threshold 2000
namespace KL
open PySem PySem.Spec PyProof.Rows L2 Mp
section
variable {hv h : Hdv} {r : R} {a b c d : Int}
theorem fr_pre {f g : Int → Int → Int → Int → Int} (hb : 0 < b) (hd : 0 < d) (sa : Sz a) (sb : Sz b) (sc : Sz c) (sd : Sz d) : (frS f g).pre hv [lowD a b, lowD c d] := ⟨a, b, c, d, rfl, hb, hd, sa, sb, sc, sd⟩
theorem fr_post_eq {f g : Int → Int → Int → Int → Int} (hg : ∀ a b c d, 0 < b → 0 < d → 0 < g a b c d)
    (hf : ∀ a b c d a' b' c' d', 0 < b → 0 < d → 0 < b' → 0 < d' → a * b' = a' * b → c * d' = c' * d → f a b c d * g a' b' c' d' = f a' b' c' d' * g a b c d) (hb : 0 < b) (hd : 0 < d) :
    (frS f g).post hv [lowD a b, lowD c d] r h = (r = .v (lowD (f a b c d) (g a b c d))) := propext ⟨fun hp => hp _ _ _ _ rfl hb hd, fun e => by rw [e]; exact fr_post hg hf hb hd rfl⟩
theorem plus_pre (hb : 0 < b) (hd : 0 < d) (sa : Sz a) (sb : Sz b) (sc : Sz c) (sd : Sz d) : s_plus.pre hv [lowD a b, lowD c d] := fr_pre hb hd sa sb sc sd
theorem minus_pre (hb : 0 < b) (hd : 0 < d) (sa : Sz a) (sb : Sz b) (sc : Sz c) (sd : Sz d) : s_minus.pre hv [lowD a b, lowD c d] := fr_pre hb hd sa sb sc sd
theorem times_pre (hb : 0 < b) (hd : 0 < d) (sa : Sz a) (sb : Sz b) (sc : Sz c) (sd : Sz d) : s_times.pre hv [lowD a b, lowD c d] := fr_pre hb hd sa sb sc sd
theorem plus_post (hb : 0 < b) (hd : 0 < d) : s_plus.post hv [lowD a b, lowD c d] r h = (r = .v (lowD (a * d + c * b) (b * d))) := fr_post_eq (f := fun a b c d => a * d + c * b) (g := fun _ b _ d => b * d) (fun _ _ _ _ h h' => Int.mul_pos h h') (fun a b c d a' b' c' d' h1 h2 h3 h4 e e' => by grind) hb hd
theorem minus_post (hb : 0 < b) (hd : 0 < d) : s_minus.post hv [lowD a b, lowD c d] r h = (r = .v (lowD (a * d - c * b) (b * d))) := fr_post_eq (f := fun a b c d => a * d - c * b) (g := fun _ b _ d => b * d) (fun _ _ _ _ h h' => Int.mul_pos h h') (fun a b c d a' b' c' d' h1 h2 h3 h4 e e' => by grind) hb hd
theorem times_post (hb : 0 < b) (hd : 0 < d) : s_times.post hv [lowD a b, lowD c d] r h = (r = .v (lowD (a * c) (b * d))) := fr_post_eq (f := fun a b c d => a * c) (g := fun _ b _ d => b * d) (fun _ _ _ _ h h' => Int.mul_pos h h') (fun a b c d a' b' c' d' h1 h2 h3 h4 e e' => by grind) hb hd
end
theorem p4 : (0 : Int) < 4 := by decide
theorem p2 : (0 : Int) < 2 := by decide
theorem z4 : Sz 4 := Sz_small (by decide)
theorem z2 : Sz 2 := Sz_small (by decide)
theorem k_fsum : Keeps G 2 .no 2 s_fsum b_form_sum := by
  rintro hv ds hk hl ⟨k, m, k', m', rfl, ⟨sk, sm⟩, ⟨sk', sm'⟩⟩
  cases hv <;> cases hk
  have e1 : lowD (k * 4 + k' * 4) 16 = lowD (k + k') 4 := low_cross (by omega) (by omega) (by omega)
  have e2 : lowD (m * 2 + m' * 2) 4 = lowD (m + m') 2 := low_cross (by omega) (by omega) (by omega)
  have post : s_fsum.post .no [frm k m, frm k' m'] (.v (frm (k + k') (m + m'))) .no := by rw [fsum_post]
  unfold frm at post ⊢
  simp [b_form_sum, env0, plus_pre p4 p4 sk.sz z4 sk'.sz z4, plus_pre p2 p2 sm.sz z2 sm'.sz z2, plus_post p4 p4, plus_post p2 p2, e1, e2, post]
theorem k_fless : Keeps G 2 .no 2 s_fless b_form_less := by
  rintro hv ds hk hl ⟨k, m, k', m', rfl, ⟨sk, sm⟩, ⟨sk', sm'⟩⟩
  cases hv <;> cases hk
  have e1 : lowD (k * 4 - k' * 4) 16 = lowD (k - k') 4 := low_cross (by omega) (by omega) (by omega)
  have e2 : lowD (m * 2 - m' * 2) 4 = lowD (m - m') 2 := low_cross (by omega) (by omega) (by omega)
  have post : s_fless.post .no [frm k m, frm k' m'] (.v (frm (k - k') (m - m'))) .no := by rw [fless_post]
  unfold frm at post ⊢
  simp [b_form_less, env0, minus_pre p4 p4 sk.sz z4 sk'.sz z4, minus_pre p2 p2 sm.sz z2 sm'.sz z2, minus_post p4 p4, minus_post p2 p2, e1, e2, post]
theorem Pat.low {n d : Int} (h : Pat n d) : pr n d = lowD n d := (low_of_cop h.2.2.1).symm
theorem k_value : Keeps G 2 .no 2 s_value b_value_of := by
  rintro hv ds hk hl ⟨k, m, n, d, rfl, ⟨sk, sm⟩, hp⟩
  cases hv <;> cases hk
  have hd : 0 < d := hp.2.1
  have h2d : 0 < 2 * d := by omega
  have e : lowD (k * (2 * d) + m * n * 4) (4 * (2 * d)) = lowD (wv k m n d) (4 * d) := low_cross (by omega) (by omega) (by unfold wv; grind)
  have post : s_value.post .no [frm k m, pr n d] (.v (lowD (wv k m n d) (4 * d))) .no := by rw [value_post]
  have sn := hp.2.2.2.1
  have sd := hp.2.2.2.2
  unfold frm at post ⊢
  rw [hp.low] at post ⊢
  simp [b_value_of, env0, times_pre p2 hd sm.sz z2 sn.sz sd.sz, times_post p2 hd, plus_pre p4 h2d sk.sz z4 (sm.mul sn) (Sf.mul (Sf_small (a := 2) (by decide)) sd), plus_post p4 h2d, e, post]
theorem sh_pr {a b : Int} : SeqAt.shaped (pr a b) = true := rfl
theorem eqok_pr {a b c d : Int} : eqOk (pr a b) (pr c d) = true := rfl
theorem eqv_pr {a b c d : Int} : PyData.eqv (pr a b) (pr c d) = (decide (a = c) && decide (b = d)) := by simp [pr]
theorem mid_pos {n d n' d' : Int} (hp : Pat n d) (hf : Far n' d') : 0 < midN n d n' d' ∧ 0 < midB d d' := by
  obtain ⟨h1, h2, h3, sn, sd⟩ := hp
  unfold midN midB
  rcases hf with ⟨q1, q2, _⟩ | ⟨rfl, rfl⟩
  · have e : d' ≠ 0 := by omega
    rw [if_neg e, if_neg e]
    have := Int.mul_pos h1 q2
    have := Int.mul_pos q1 h2
    have := Int.mul_pos h2 q2
    rw [Int.mul_assoc]
    omega
  · simp; omega
theorem k_middle : Keeps G 2 .no 2 s_middle b_middle := by
  rintro hv ds hk hl ⟨n, d, n', d', rfl, hp, hf⟩
  cases hv <;> cases hk
  have post : s_middle.post .no [pr n d, pr n' d'] (.v (lowD (midN n d n' d') (midB d d'))) .no := by rw [middle_post]
  have hd : 0 < d := hp.2.1
  have sn := hp.2.2.2.1
  have sd := hp.2.2.2.2
  have c6 : (.tuple [.int 1, .int 0] : PyData) = pr 1 0 := rfl
  have c1 : (.tuple [.int 1, .int 1] : PyData) = lowD 1 1 := (low_of_cop (by decide)).symm
  have c2 : (.tuple [.int 1, .int 2] : PyData) = lowD 1 2 := (low_of_cop (by decide)).symm
  simp only [env0, hdSl, b_middle, List.nil_append, List.map_cons, List.map_nil, List.length_nil, List.length_cons, Nat.zero_add, Nat.sub_self, Nat.sub_zero, Nat.reduceAdd, Nat.reduceSub, List.replicate, List.append_nil, List.cons_append]
  simp [c6, eqok_pr, eqv_pr, -seqK_at]
  rcases hf with hq | ⟨rfl, rfl⟩
  · have hd' : 0 < d' := hq.2.1
    have sn' := hq.2.2.2.1
    have sd' := hq.2.2.2.2
    have hne : ¬ (n' = 1 ∧ d' = 0) := by omega
    have hdd := Int.mul_pos hd hd'
    have sN : Sz (n * d' + n' * d) := natAbs_add_lt (i := 999) (nat_small (natAbs_mul_lt sn sd') (by decide)) (nat_small (natAbs_mul_lt sn' sd) (by decide))
    have e : lowD ((n * d' + n' * d) * 1) (d * d' * 2) = lowD (midN n d n' d') (midB d d') := by
      have hz : d' ≠ 0 := by omega
      unfold midN midB
      rw [if_neg hz, if_neg hz]
      refine low_cross (by omega) (by rw [Int.mul_assoc]; omega) (by grind)
    rw [hp.low, hq.low] at post ⊢
    simp only [seqK_at]
    simp [hne, c2, plus_pre hd hd' sn.sz sd.sz sn'.sz sd'.sz, plus_post hd hd', times_pre hdd p2 sN (sd.mul sd') Sz_1 z2, times_post hdd p2]
    simp only [Int.mul_one] at e
    rw [e]
    exact post
  · have e : lowD (n * 1 + 1 * d) (d * 1) = lowD (midN n d 1 0) (midB d 0) := by simp [midN, midB]
    rw [hp.low] at post ⊢
    have p1 : (0 : Int) < 1 := by decide
    simp [c1, plus_pre hd p1 sn.sz sd.sz Sz_1 Sz_1, plus_post hd p1]
    simp only [Int.mul_one, Int.one_mul] at e
    rw [e]
end KL

set_option Elab.async false
set_option linter.all false
set_option maxRecDepth 100000
set_option maxHeartbeats 1000000
set_option exponentiation.threshold 2000
namespace KL
open PySem PySem.Spec PyProof.Rows L2 Mp
theorem floor_eq {a b c d : Int} (hb : 0 < b) (hd : 0 < d) (h : a * d = c * b) : a / b = c / d := by
  have h1 : a / b = (a * d) / (b * d) := by
    rw [Int.mul_comm a d, Int.mul_comm b d]; exact (Int.mul_ediv_mul_of_pos _ _ hd).symm
  have h2 : c / d = (c * b) / (b * d) := by
    rw [Int.mul_comm c b]; exact (Int.mul_ediv_mul_of_pos _ _ hb).symm
  rw [h1, h2, h]
theorem isNone_sg (x y : Int) : isNone (sgD x y) = sgX x y := by
  unfold sgD sgX
  by_cases h1 : 0 ≤ x <;> by_cases h2 : 0 ≤ y <;> by_cases h3 : x ≤ 0 <;> by_cases h4 : y ≤ 0 <;> simp [h1, h2, h3, h4, isNone]
theorem sgN_m {k m n d n' d' : Int} (hd : 0 ≤ d) (hd' : 0 ≤ d') (h : sgN k m n d n' d' = true) : m ≠ 0 := by
  rintro rfl
  unfold sgN wv sgX at h
  simp at h
  rcases Int.le_total 0 k with hk | hk
  · have := Int.mul_nonneg hk hd
    have := Int.mul_nonneg hk hd'
    omega
  · have := Int.mul_nonpos_of_nonpos_of_nonneg hk hd
    have := Int.mul_nonpos_of_nonpos_of_nonneg hk hd'
    omega
theorem wv_lt {k m n d : Int} {i j : Nat} (hk : k.natAbs < 2 ^ i) (hm : m.natAbs < 2 ^ i) (hn : n.natAbs < 2 ^ j) (hd : d.natAbs < 2 ^ j) : (wv k m n d).natAbs < 2 ^ (i + 1 + j + 1) := by
  unfold wv
  have h1 : (k * d).natAbs < 2 ^ (i + 1 + j) := nat_small (natAbs_mul_lt hk hd) (by omega)
  have h2 : (2 * m).natAbs < 2 ^ (i + 1) := by rw [Nat.pow_succ]; omega
  exact natAbs_add_lt h1 (natAbs_mul_lt h2 hn)
theorem natAbs_neg_lt {a : Int} {i : Nat} (h : a.natAbs < 2 ^ i) : (-a).natAbs < 2 ^ i := by rw [Int.natAbs_neg]; exact h
theorem many_lt {k m k' m' n d n' d' : Int} {i j : Nat} (hk : (k - k').natAbs < 2 ^ i) (hm : (m - m').natAbs < 2 ^ i) (hn : (midN n d n' d').natAbs < 2 ^ j) (hd : (midB d d').natAbs < 2 ^ j) : (manyI k m k' m' n d n' d').natAbs < 2 ^ (i + 1 + j + 1) := by
  unfold manyI
  refine natAbs_neg_lt (Nat.lt_of_le_of_lt (Int.natAbs_ediv_le_natAbs _ _) (natAbs_neg_lt (wv_lt hk hm hn hd)))
theorem mid_lt {n d n' d' : Int} (hn : Sn n) (hd : Sn d) (hn' : Sn n') (hd' : Sn d') : (midN n d n' d').natAbs < 2 ^ 281 ∧ (midB d d').natAbs < 2 ^ 281 := by
  unfold midN midB
  split
  · exact ⟨nat_small (natAbs_add_lt hn hd) (by decide), nat_small hd (by decide)⟩
  · refine ⟨nat_small (natAbs_add_lt (natAbs_mul_lt hn hd') (natAbs_mul_lt hn' hd)) (by decide), ?_⟩
    have h2 : (2 * d).natAbs < 2 ^ 141 := by unfold Sn at hd; rw [Nat.pow_succ]; omega
    exact nat_small (natAbs_mul_lt h2 hd') (by decide)
section
variable {hv h : Hdv} {r : R} {x : Str} {k m k' m' n d n' d' : Int} {ds : List PyData}
@[simp] theorem next_pre : s_next.pre hv [frm k m, frm k' m', pr n d, pr n' d'] = (SK k m ∧ SK k' m' ∧ Span n d n' d') := propext ⟨fun ⟨a, b, c, f, n2, d2, n3, d3, e, q⟩ => by
  simp only [List.cons.injEq, and_true] at e
  obtain ⟨e1, e2, e3, e4⟩ := e
  obtain ⟨rfl, rfl⟩ := frm_inj e1
  obtain ⟨rfl, rfl⟩ := frm_inj e2
  obtain ⟨rfl, rfl⟩ := pr_inj e3
  obtain ⟨rfl, rfl⟩ := pr_inj e4
  exact q, fun q => ⟨k, m, k', m', n, d, n', d', rfl, q⟩⟩
@[simp] theorem next_post : s_next.post hv [frm k m, frm k' m', pr n d, pr n' d'] r h = (r = .v (nextG k m k' m' n d n' d').d) := propext ⟨fun ⟨a, b, c, f, n2, d2, n3, d3, e, q⟩ => by
  simp only [List.cons.injEq, and_true] at e
  obtain ⟨e1, e2, e3, e4⟩ := e
  obtain ⟨rfl, rfl⟩ := frm_inj e1
  obtain ⟨rfl, rfl⟩ := frm_inj e2
  obtain ⟨rfl, rfl⟩ := pr_inj e3
  obtain ⟨rfl, rfl⟩ := pr_inj e4
  exact q, fun q => ⟨k, m, k', m', n, d, n', d', rfl, q⟩⟩
@[simp] theorem next_exc {p : PyData} {h : Hdv} : s_next.exc hv ds x p h = False := rfl
end
theorem Far.nn {n d : Int} (h : Far n d) : 0 ≤ d := by
  rcases h with h | ⟨_, rfl⟩
  · have := h.2.1; omega
  · omega
theorem k_next : Keeps G 10 .no 4 s_next b_next_place := by
  rintro hv ds hk hl ⟨k, m, k', m', n, d, n', d', rfl, ⟨sk, sm⟩, ⟨sk', sm'⟩, hp, hf, sn, sd, sn', sd', hq, hle⟩
  cases hv <;> cases hk
  obtain ⟨hN, hD⟩ := mid_pos hp hf
  obtain ⟨lN, lD⟩ := mid_lt sn sd sn' sd'
  have lman := many_lt (natAbs_sub_lt sk sk') (natAbs_sub_lt sm sm') lN lD
  have post : s_next.post .no [frm k m, frm k' m', pr n d, pr n' d'] (.v (nextG k m k' m' n d n' d').d) .no := by rw [next_post]
  generalize hG : nextG k m k' m' n d n' d' = GG at post
  generalize hM : manyI k m k' m' n d n' d' = a at lman
  have hMe : a = -((-(wv (k - k') (m - m') (midN n d n' d') (midB d d'))) / (4 * midN n d n' d')) := hM.symm
  generalize hNe : midN n d n' d' = N at *
  generalize hDe : midB d d' = D at *
  have pat : ∃ x y g, lowD N D = pr x y ∧ 0 < g ∧ N = g * x ∧ D = g * y ∧ 0 < y ∧ x.natAbs < 2 ^ 281 ∧ y.natAbs < 2 ^ 281 ∧ Int.gcd x y = 1 :=
    ⟨_, _, _, rfl, gcd_pos hD, (gcd_a N D).symm, (gcd_b N D).symm, low_b_pos hD, Nat.lt_of_le_of_lt (Int.natAbs_ediv_le_natAbs _ _) lN, Nat.lt_of_le_of_lt (Int.natAbs_ediv_le_natAbs _ _) lD, low_cop hD⟩
  obtain ⟨x, y, g, e1, g1, e2, e3, hy, lx, ly, cop⟩ := pat
  have hx : 0 < x := by
    by_cases z : 0 < x
    · exact z
    · have := Int.mul_nonpos_of_nonneg_of_nonpos (show (0 : Int) ≤ g by omega) (show x ≤ 0 by omega)
      omega
  have sx : Sf x := nat_small lx (by decide)
  have sy : Sf y := nat_small ly (by decide)
  have pxy : Pat x y := ⟨hx, hy, cop, sx, sy⟩
  have SFk : SF k m := ⟨nat_small sk (by decide), nat_small sm (by decide)⟩
  have SFk' : SF k' m' := ⟨nat_small sk' (by decide), nat_small sm' (by decide)⟩
  have h4y : 0 < 4 * y := by omega
  have s4y : (4 * y).natAbs < 2 ^ 283 := by
    have : (2 : Nat) ^ 283 = 4 * 2 ^ 281 := by decide
    omega
  have w1 := wv_lt sk sm lx ly
  have w2 := wv_lt sk' sm' lx ly
  have sG : (wv k m x y * (4 * y) - wv k' m' x y * (4 * y)).natAbs < 2 ^ 997 := nat_small (natAbs_sub_lt (natAbs_mul_lt w1 s4y) (natAbs_mul_lt w2 s4y)) (by decide)
  have sB : ((4 * y) * (4 * y)).natAbs < 2 ^ 997 := nat_small (natAbs_mul_lt s4y s4y) (by decide)
  have h16 : 0 < (4 * y) * (4 * y) := Int.mul_pos h4y h4y
  obtain ⟨p, q, g', f1, g2, f2, f3, hq', sp, sq⟩ := low_raw (wv k m x y * (4 * y) - wv k' m' x y * (4 * y)) ((4 * y) * (4 * y)) h16 (nat_small sG (by decide)) (nat_small sB (by decide))
  have hqx : 0 < q * x := Int.mul_pos hq' hx
  have hfl : (-p * y) / (q * x) = (-(wv (k - k') (m - m') N D)) / (4 * N) := by
    refine floor_eq hqx (by omega) ?_
    have e5 : wv (k - k') (m - m') N D = g * (wv k m x y - wv k' m' x y) := by unfold wv; rw [e2, e3]; grind
    rw [e5, e2]
    obtain ⟨V, hV⟩ : ∃ V, V = wv k m x y - wv k' m' x y := ⟨_, rfl⟩
    rw [← hV]
    have f2' : V * (4 * y) = g' * p := by rw [hV, Int.sub_mul]; exact f2
    have : g' * (-p * y * (4 * (g * x))) = g' * (-(g * V) * (q * x)) := by grind
    exact Int.eq_of_mul_eq_mul_left (Int.ne_of_gt g2) this
  have hlq : (q * x).natAbs.log2 < 9000 := by have := sq.mul_log sx.sz; omega
  have hma : -((-p * y) / (q * x)) = a := by rw [hfl, hMe]
  have c01 : (.tuple [.tuple [.int 0, .int 1], .tuple [.int a, .int 1]] : PyData) = frm 0 (2 * a) := by
    have : lowD (2 * a) 2 = pr a 1 := by
      rw [low_cross (c := a) (d := 1) p2 (by omega) (by omega)]
      exact low_of_cop (by simp)
    unfold frm; rw [this, low_cross (a := 0) (b := 4) (c := 0) (d := 1) p4 (by omega) (by omega), low_of_cop (by simp)]; rfl
  have c02 : (.tuple [.tuple [.int 0, .int 1], .tuple [.int (a - 1), .int 1]] : PyData) = frm 0 (2 * (a - 1)) := by
    have : lowD (2 * (a - 1)) 2 = pr (a - 1) 1 := by
      rw [low_cross (c := a - 1) (d := 1) p2 (by omega) (by omega)]
      exact low_of_cop (by simp)
    unfold frm; rw [this, low_cross (a := 0) (b := 4) (c := 0) (d := 1) p4 (by omega) (by omega), low_of_cop (by simp)]; rfl
  have la2 : (2 * a).natAbs < 2 ^ 318 := by
    have : (2 : Nat) ^ 318 = 4 * 2 ^ 316 := by decide
    have := nat_small lman (show 30 + 1 + 1 + 281 + 1 ≤ 316 by decide)
    omega
  have la3 : (2 * (a - 1)).natAbs < 2 ^ 318 := by
    have : (2 : Nat) ^ 318 = 4 * 2 ^ 316 := by decide
    have := nat_small lman (show 30 + 1 + 1 + 281 + 1 ≤ 316 by decide)
    omega
  have SA : SF 0 (2 * a) := ⟨Sf_small (by decide), nat_small la2 (by decide)⟩
  have SB : SF 0 (2 * (a - 1)) := ⟨Sf_small (by decide), nat_small la3 (by decide)⟩
  have lm' := nat_small sm' (show 30 ≤ 318 by decide)
  have lm := nat_small sm (show 30 ≤ 320 by decide)
  have lk := nat_small sk (show 30 ≤ 320 by decide)
  have lk' := nat_small sk' (show 30 ≤ 320 by decide)
  have SA2 : SF k' (m' + 2 * a) := ⟨nat_small lk' (by decide), nat_small (natAbs_add_lt lm' la2) (by decide)⟩
  have SB2 : SF k' (m' + 2 * (a - 1)) := ⟨nat_small lk' (by decide), nat_small (natAbs_add_lt lm' la3) (by decide)⟩
  have SA3 : SF (k' - k) (m' + 2 * a - m) := ⟨nat_small (natAbs_sub_lt lk' lk) (by decide), nat_small (natAbs_sub_lt (nat_small (natAbs_add_lt lm' la2) (by decide)) lm) (by decide)⟩
  have SB3 : SF (k - k') (m - (m' + 2 * (a - 1))) := ⟨nat_small (natAbs_sub_lt lk lk') (by decide), nat_small (natAbs_sub_lt lm (nat_small (natAbs_add_lt lm' la3) (by decide))) (by decide)⟩
  have hgl : GG = if sgN (k' - k) (m' + 2 * a - m) n d n' d' = true then .edge (k' - k) (m' + 2 * a - m) else if sgN (k - k') (m - (m' + 2 * (a - 1))) n d n' d' = true then .edge (k - k') (m - (m' + 2 * (a - 1))) else .to k' (m' + 2 * a) := by
    rw [← hG, ← hM]; rfl
  have sn1 : Sf n := nat_small sn (by decide)
  have sd1 : Sf d := nat_small sd (by decide)
  have sn1' : Sf n' := nat_small sn' (by decide)
  have sd1' : Sf d' := nat_small sd' (by decide)
  have hd0 : 0 ≤ d := by have := hp.2.1; omega
  have hd0' : 0 ≤ d' := hf.nn
  simp [b_next_place, env0, hp, hf, hNe, hDe, -seqK_at]
  rw [e1]
  simp only [seqK_at]
  simp [SFk, SFk', pxy, minus_pre h4y h4y (nat_small w1 (by decide)) (nat_small s4y (by decide)) (nat_small w2 (by decide)) (nat_small s4y (by decide)), minus_post h4y h4y, -seqK_at]
  rw [f1]
  simp only [seqK_at]
  have epq : pr p q = .tuple [.int p, .int q] := rfl
  have exy : pr x y = .tuple [.int x, .int y] := rfl
  simp [epq, exy, -seqK_at]
  refine ⟨Sz.mulOk (natAbs_neg_lt sp) sy.sz, Sz.mulOk sq sx.sz, ⟨hqx, hlq⟩, ?_⟩
  rw [hma]
  simp only [seqK_at]
  simp [c01, SFk', SA, -seqK_at]
  simp only [seqK_at]
  simp [c02, SFk', SB, -seqK_at]
  simp only [seqK_at]
  simp [SFk, SA2, SB2, -seqK_at]
  have q1 := isNone_sg (wv (k' - k) (m' + 2 * a - m) n d) (wv (k' - k) (m' + 2 * a - m) n' d')
  have q2 := isNone_sg (wv (k - k') (m - (m' + 2 * (a - 1))) n d) (wv (k - k') (m - (m' + 2 * (a - 1))) n' d')
  simp only [forR, forL, setTg]
  simp [SA3, sn1, sd1, sn1', sd1', q1]
  by_cases z1 : sgN (k' - k) (m' + 2 * a - m) n d n' d' = true
  · have zm := sgN_m hd0 hd0' z1
    rw [if_pos z1] at hgl
    subst hgl
    unfold sgN at z1
    simp [z1, SA3, zm]
    simpa [Gl.d] using post
  · rw [if_neg z1] at hgl
    unfold sgN at z1
    simp [z1, SB3, sn1, sd1, sn1', sd1', q2]
    by_cases z2 : sgN (k - k') (m - (m' + 2 * (a - 1))) n d n' d' = true
    · have zm := sgN_m hd0 hd0' z2
      rw [if_pos z2] at hgl
      subst hgl
      unfold sgN at z2
      simp [z2, SB3, zm]
      simpa [Gl.d] using post
    · rw [if_neg z2] at hgl
      subst hgl
      unfold sgN at z2
      simp [z2]
      simpa [Gl.d] using post
end KL

set_option Elab.async false
set_option linter.all false
set_option maxRecDepth 100000
set_option maxHeartbeats 1000000
set_option exponentiation.threshold 2000
namespace KL
open PySem PySem.Spec PyProof.Rows L2 Mp
theorem pr_lay {a b : Int} : (pr a b).canLay0 = true := rfl
theorem pr_dep {a b : Int} : (pr a b).depth ≤ 1 := by simp [pr, PyData.depth, PyData.depthAll]
theorem frm_lay {k m : Int} : (frm k m).canLay0 = true := rfl
theorem frm_dep {k m : Int} : (frm k m).depth ≤ 2 := by simp [frm, lowD, pr, PyData.depth, PyData.depthAll]
theorem sp_lay {s : Sp} : (spD s).canLay0 = true := rfl
theorem sp_dep {s : Sp} : (spD s).depth ≤ 3 := by simp [spD, frm, lowD, pr, PyData.depth, PyData.depthAll]
theorem sh_sps (ss : List Sp) : SeqAt.shaped (.list (ss.map spD)) = true := by
  unfold SeqAt.shaped
  have h1 : PyData.canLay0 (.list (ss.map spD)) = true := lay_all fun d hd => by obtain ⟨s, _, rfl⟩ := List.mem_map.mp hd; rfl
  have h2 : PyData.depth (.list (ss.map spD)) ≤ 4 := Nat.succ_le_succ (dep_all fun d hd => by obtain ⟨s, _, rfl⟩ := List.mem_map.mp hd; exact sp_dep)
  rw [h1, decide_eq_true (Nat.le_trans h2 (by decide))]
  rfl
theorem spD_inj {s t : Sp} (h : spD s = spD t) : s = t := by
  obtain ⟨⟨a, b⟩, c⟩ := s
  obtain ⟨⟨a', b'⟩, c'⟩ := t
  unfold spD at h
  simp only [PyData.tuple.injEq, List.cons.injEq, and_true] at h
  obtain ⟨rfl, rfl⟩ := frm_inj h.1
  have e2 := low_inv (by omega) (by omega) h.2
  rw [show c = c' by omega]
theorem spDs_inj : ∀ {ss tt : List Sp}, ss.map spD = tt.map spD → ss = tt
  | [], [], _ => rfl
  | [], _ :: _, h => by simp at h
  | _ :: _, [], h => by simp at h
  | s :: ss, t :: tt, h => by
    simp only [List.map_cons, List.cons.injEq] at h
    rw [spD_inj h.1, spDs_inj h.2]
section
variable {hv h : Hdv} {r : R} {x w : Str} {k m n d n' d' : Int} {ss : List Sp} {ds : List PyData}
@[simp] theorem goal_pre : s_goal.pre hv [.str w, frm k m, .list (ss.map spD), pr n d, pr n' d'] = (w ∈ placeT ∧ SK k m ∧ SPs ss ∧ ss.length ≤ 200 ∧ Span n d n' d') := propext ⟨fun ⟨w', a, b, s2, n2, d2, n3, d3, e, q⟩ => by
  simp only [List.cons.injEq, and_true, PyData.str.injEq, PyData.list.injEq] at e
  obtain ⟨rfl, e2, e3, e4, e5⟩ := e
  obtain ⟨rfl, rfl⟩ := frm_inj e2
  obtain rfl := spDs_inj e3
  obtain ⟨rfl, rfl⟩ := pr_inj e4
  obtain ⟨rfl, rfl⟩ := pr_inj e5
  exact q, fun q => ⟨w, k, m, ss, n, d, n', d', rfl, q⟩⟩
@[simp] theorem goal_post : s_goal.post hv [.str w, frm k m, .list (ss.map spD), pr n d, pr n' d'] r h = (r = .v (goalG w k m ss n d n' d').d) := propext ⟨fun ⟨w', a, b, s2, n2, d2, n3, d3, e, q⟩ => by
  simp only [List.cons.injEq, and_true, PyData.str.injEq, PyData.list.injEq] at e
  obtain ⟨rfl, e2, e3, e4, e5⟩ := e
  obtain ⟨rfl, rfl⟩ := frm_inj e2
  obtain rfl := spDs_inj e3
  obtain ⟨rfl, rfl⟩ := pr_inj e4
  obtain ⟨rfl, rfl⟩ := pr_inj e5
  exact q, fun q => ⟨w, k, m, ss, n, d, n', d', rfl, q⟩⟩
@[simp] theorem goal_exc {p : PyData} {h : Hdv} : s_goal.exc hv ds x p h = False := rfl
end
theorem nought : (.tuple [.tuple [.int 0, .int 1], .tuple [.int 0, .int 1]] : PyData) = frm 0 0 := by
  unfold frm
  rw [low_cross (a := 0) (b := 4) (c := 0) (d := 1) p4 (by omega) (by omega), low_cross (a := 0) (b := 2) (c := 0) (d := 1) p2 (by omega) (by omega), low_of_cop (by simp)]; rfl
theorem minhalf : (.tuple [.tuple [.int 0, .int 1], .tuple [.int (-1), .int 2]] : PyData) = frm 0 (-1) := by
  unfold frm
  rw [low_cross (a := 0) (b := 4) (c := 0) (d := 1) p4 (by omega) (by omega), low_of_cop (a := 0) (b := 1) (by simp), low_of_cop (a := -1) (b := 2) (by decide)]; rfl
theorem SK_SF {k m : Int} (h : SK k m) : SF k m := ⟨nat_small h.1 (by decide), nat_small h.2 (by decide)⟩
theorem sh_md : SeqAt.shaped (.tuple [.str "match", .str "drop"]) = true := by decide +kernel
theorem sh_hd : SeqAt.shaped (.tuple [.str "half", .str "drop"]) = true := by decide +kernel
theorem sh_w1 : SeqAt.shaped (.str "match") = true := by decide +kernel
theorem sh_w2 : SeqAt.shaped (.str "drop") = true := by decide +kernel
theorem sh_w3 : SeqAt.shaped (.str "half") = true := by decide +kernel
theorem sh_w4 : SeqAt.shaped (.str "mark") = true := by decide +kernel
theorem sh_nilL : SeqAt.shaped (.list []) = true := rfl
theorem n1 : (("match" : Str) = "drop") = False := eq_false (by decide)
theorem n2 : (("match" : Str) = "half") = False := eq_false (by decide)
theorem n3 : (("match" : Str) = "mark") = False := eq_false (by decide)
theorem n4 : (("drop" : Str) = "half") = False := eq_false (by decide)
theorem n5 : (("drop" : Str) = "mark") = False := eq_false (by decide)
theorem n6 : (("half" : Str) = "mark") = False := eq_false (by decide)
theorem n1' : (("drop" : Str) = "match") = False := eq_false (by decide)
theorem n2' : (("half" : Str) = "match") = False := eq_false (by decide)
theorem n3' : (("mark" : Str) = "match") = False := eq_false (by decide)
theorem n4' : (("half" : Str) = "drop") = False := eq_false (by decide)
theorem n5' : (("mark" : Str) = "drop") = False := eq_false (by decide)
theorem n6' : (("mark" : Str) = "half") = False := eq_false (by decide)
theorem snoc_of {α : Type} {l : List α} (h : l ≠ []) : ∃ i x, l = i ++ [x] := ⟨_, _, (List.dropLast_concat_getLast h).symm⟩
theorem k_goal : Keeps G 6 .no 5 s_goal b_goal_of := by
  rintro hv ds hk hl ⟨w, k, m, ss, n, d, n', d', rfl, hw, hkm, hss, hlen, hsp⟩
  cases hv <;> cases hk
  have post : s_goal.post .no [.str w, frm k m, .list (ss.map spD), pr n d, pr n' d'] (.v (goalG w k m ss n d n' d').d) .no := by rw [goal_post]
  have hsh := sh_sps ss
  have SK0 : SK 0 0 := ⟨by unfold Sk; decide, by unfold Sk; decide⟩
  have SK1 : SK 0 (-1) := ⟨by unfold Sk; decide, by unfold Sk; decide⟩
  have SF1 := SK_SF SK1
  have SF0 := SK_SF SK0
  have last : ss = [] ∨ ∃ i s, ss = i ++ [s] := by
    by_cases h : ss = []
    · exact .inl h
    · exact .inr (snoc_of h)
  simp only [placeT, List.mem_cons, List.not_mem_nil, or_false] at hw
  rcases hw with rfl | rfl | rfl | rfl
  · -- drop
    simp [b_goal_of, env0, sh_md, sh_hd, sh_w2, n1, n1', n4, n4', eqok_sh hsh sh_nilL, -seqK_at]
    rcases last with rfl | ⟨i, s, rfl⟩
    · simp [goalG, Gl.d] at post
      simp
      simpa [goalG, Gl.d] using post
    · have hs := hss s (by simp)
      have hs1 : SK s.1.1 (s.1.2 - 1) := ⟨nat_small hs.1 (by decide), by have := hs.2; unfold Sg at this; unfold Sk; omega⟩
      have hs0 : SF s.1.1 s.1.2 := ⟨nat_small hs.1 (by decide), nat_small hs.2 (by decide)⟩
      have hi : (i.map spD ++ [spD s])[i.length]? = some (spD s) := by rw [List.getElem?_append_right (by simp)]; simp
      have e : PyData.eqvAll ((i ++ [s]).map spD) [] = false := by cases i <;> simp
      simp only [List.map_append, List.map_cons, List.map_nil] at e post ⊢
      simp [e, -seqK_at]
      simp only [seqK_at]
      simp [-seqK_at]
      rw [ixAt_k hi]
      simp [spD, -seqK_at]
      simp only [seqK_at]
      simp [n4', sh_w2, sh_hd, minhalf, hs0, SF1, -seqK_at]
      simp only [seqK_at]
      simp [n4', sh_w2, sh_hd, minhalf, hs0, SF1, -seqK_at]
      simp only [seqK_at]
      have hs1' : SK s.1.1 (s.1.2 + -1) := hs1
      simp [hkm, hs1', hsp]
      simpa [goalG, spD, Int.sub_eq_add_neg] using post
  · -- half
    simp [b_goal_of, env0, sh_md, sh_hd, sh_w3, n2, n2', n4, n4', nought, minhalf, SF0, SF1, -seqK_at]
    simp only [seqK_at]
    simp [b_goal_of, env0, sh_md, sh_hd, sh_w3, n2, n2', n4, n4', nought, minhalf, SF0, SF1, -seqK_at]
    simp only [seqK_at]
    simp [b_goal_of, env0, sh_md, sh_hd, sh_w3, n2, n2', n4, n4', nought, minhalf, SF0, SF1, -seqK_at]
    simp only [seqK_at]
    simp [hkm, SK1, hsp, goalG, n2, n2', n4, n4']
  · -- mark
    simp [b_goal_of, env0, sh_md, sh_hd, sh_w4, n3, n3', n5, n5', n6, n6', nought, -seqK_at]
    simp only [seqK_at]
    simp [sh_md, sh_hd, sh_w4, n3, n3', n5, n5', n6, n6', nought, -seqK_at]
    simp only [seqK_at]
    simp [hkm, SK0, hsp, goalG, sh_hd, sh_w4, n3, n3', n5, n5', n6, n6']
  · -- match
    simp [b_goal_of, env0, sh_md, sh_hd, sh_w1, n1, n1', n2, n2', eqok_sh hsh sh_nilL, -seqK_at]
    rcases last with rfl | ⟨i, s, rfl⟩
    · simp [goalG, Gl.d] at post
      simp
      simpa [goalG, Gl.d] using post
    · have hs := hss s (by simp)
      have hs1 : SK s.1.1 s.1.2 := ⟨nat_small hs.1 (by decide), nat_small hs.2 (by decide)⟩
      have hi : (i.map spD ++ [spD s])[i.length]? = some (spD s) := by rw [List.getElem?_append_right (by simp)]; simp
      have e : PyData.eqvAll ((i ++ [s]).map spD) [] = false := by cases i <;> simp
      simp only [List.map_append, List.map_cons, List.map_nil] at e post ⊢
      simp [e, -seqK_at]
      simp only [seqK_at]
      simp [-seqK_at]
      rw [ixAt_k hi]
      simp [spD, -seqK_at]
      simp only [seqK_at]
      simp [n1, n1', n2, n2', sh_w1, sh_hd, -seqK_at]
      simp only [seqK_at]
      simp [hkm, hs1, hsp, sh_w1, sh_hd, n1, n1', n2, n2']
      simpa [goalG, spD, n1, n1', n2, n2'] using post
end KL

set_option Elab.async false
set_option linter.all false
set_option maxRecDepth 100000
set_option maxHeartbeats 1000000
set_option exponentiation.threshold 2000
/-! plain: next places -/
namespace KL
open PySem PySem.Spec PyProof.Rows L2 Mp
theorem mid_comb {k m n d n' d' : Int} (hf : Far n' d') : ∃ al be : Int, wv k m (midN n d n' d') (midB d d') = al * wv k m n d + be * wv k m n' d' ∧ (d' = 0 ∧ al = 1 ∧ be = d ∨ 0 < d' ∧ al = d' ∧ be = d) := by
  unfold midN midB
  rcases hf with h | ⟨rfl, rfl⟩
  · have := h.2.1
    refine ⟨d', d, ?_, .inr ⟨this, rfl, rfl⟩⟩
    have hz : d' ≠ 0 := by omega
    rw [if_neg hz, if_neg hz]; unfold wv; grind
  · refine ⟨1, d, ?_, .inl ⟨rfl, rfl, rfl⟩⟩
    simp [wv]; grind
theorem mid_sign {k m n d n' d' : Int} (hp : 0 < d) (hf : Far n' d') (h : sgN k m n d n' d' = false) (hv : 0 ≤ wv k m (midN n d n' d') (midB d d')) : 0 ≤ wv k m n d ∧ 0 ≤ wv k m n' d' := by
  obtain ⟨al, be, e, hab⟩ := mid_comb (k := k) (m := m) (n := n) (d := d) hf
  have ha : 0 < al := by omega
  have hb : 0 < be := by omega
  rw [e] at hv
  unfold sgN sgX at h
  generalize wv k m n d = x at *
  generalize wv k m n' d' = y at *
  by_cases h1 : 0 ≤ x ∧ 0 ≤ y
  · exact h1
  · have h2 : x ≤ 0 ∧ y ≤ 0 := by
      by_cases q : x ≤ 0 ∧ y ≤ 0
      · exact q
      · exfalso
        have z : ((!(decide (0 ≤ x) && decide (0 ≤ y)) && !(decide (x ≤ 0) && decide (y ≤ 0))) : Bool) = true := by
          simp only [Bool.and_eq_true, Bool.not_eq_true', Bool.and_eq_false_iff, decide_eq_false_iff_not]
          constructor <;> omega
        rw [z] at h; cases h
    have p1 := Int.mul_nonpos_of_nonneg_of_nonpos (Int.le_of_lt ha) h2.1
    have p2 := Int.mul_nonpos_of_nonneg_of_nonpos (Int.le_of_lt hb) h2.2
    constructor
    · by_cases q : 0 ≤ x
      · exact q
      · have := Int.mul_neg_of_pos_of_neg ha (show x < 0 by omega); omega
    · by_cases q : 0 ≤ y
      · exact q
      · have := Int.mul_neg_of_pos_of_neg hb (show y < 0 by omega); omega
theorem many_ceil {k m k' m' n d n' d' : Int} (hN : 0 < midN n d n' d') : let a := manyI k m k' m' n d n' d'
    0 ≤ wv (k' - k) (m' + 2 * a - m) (midN n d n' d') (midB d d') ∧ 0 < wv (k - k') (m - (m' + 2 * (a - 1))) (midN n d n' d') (midB d d') := by
  intro a
  have ha : a = -((-(wv (k - k') (m - m') (midN n d n' d') (midB d d'))) / (4 * midN n d n' d')) := rfl
  generalize midN n d n' d' = N at *
  generalize midB d d' = D at *
  obtain ⟨Gv, hG⟩ : ∃ Gv, Gv = wv (k - k') (m - m') N D := ⟨_, rfl⟩
  rw [← hG] at ha
  have h4 : 0 < 4 * N := by omega
  have l1 := Int.ediv_mul_le (-Gv) (show 4 * N ≠ 0 by omega)
  have l2 := Int.lt_ediv_add_one_mul_self (-Gv) h4
  have e1 : (-Gv) / (4 * N) = -a := by omega
  rw [e1] at l1 l2
  constructor
  · have : wv (k' - k) (m' + 2 * a - m) N D = 4 * (a * N) - Gv := by rw [hG]; unfold wv; grind
    have e : -a * (4 * N) = -(4 * (a * N)) := by grind
    omega
  · have : wv (k - k') (m - (m' + 2 * (a - 1))) N D = Gv - 4 * (a * N) + 4 * N := by rw [hG]; unfold wv; grind
    have e : (-a + 1) * (4 * N) = -(4 * (a * N)) + 4 * N := by grind
    omega
theorem next_to {k m k' m' n d n' d' kk mm : Int} (hp : Pat n d) (hf : Far n' d') (h : nextG k m k' m' n d n' d' = .to kk mm) :
    kk = k' ∧ (0 ≤ wv (k' - k) (mm - m) n d ∧ 0 ≤ wv (k' - k) (mm - m) n' d') ∧ (0 ≤ wv (k - k') (m - mm + 2) n d ∧ 0 ≤ wv (k - k') (m - mm + 2) n' d') := by
  obtain ⟨c1, c2⟩ := many_ceil (k := k) (m := m) (k' := k') (m' := m') (n := n) (d := d) (n' := n') (d' := d') (mid_pos hp hf).1
  simp only [nextG] at h
  generalize manyI k m k' m' n d n' d' = a at *
  split at h
  · cases h
  · rename_i z1
    split at h
    · cases h
    · rename_i z2
      cases h
      have e : m - (m' + 2 * (a - 1)) = m - (m' + 2 * a) + 2 := by omega
      rw [e] at z2 c2
      exact ⟨rfl, mid_sign hp.2.1 hf (by simpa using z1) c1, mid_sign hp.2.1 hf (by simpa using z2) (Int.le_of_lt c2)⟩
theorem wv_sub (k m k' m' n d : Int) : wv (k - k') (m - m') n d = wv k m n d - wv k' m' n d := by unfold wv; grind
theorem m_bound {k m n d roll : Int} (hn : 0 < n) (hd : 0 < d) (hdn : d ≤ 4 * n) (hk : 0 ≤ k) (hk2 : k ≤ 1280) (h1 : 0 ≤ wv k m n d) (h2 : wv k m n d ≤ 24 * d + 4 * n) : -2560 ≤ m ∧ m ≤ 50 := by
  unfold wv at h1 h2
  have e1 : k * d ≤ 1280 * d := Int.mul_le_mul_of_nonneg_right hk2 (by omega)
  have e2 : 0 ≤ k * d := Int.mul_nonneg hk (by omega)
  rw [Int.mul_assoc] at h1 h2
  constructor
  · by_cases q : -2560 ≤ m
    · exact q
    · have := Int.mul_le_mul_of_nonneg_right (show m ≤ -2561 by omega) (show 0 ≤ n by omega)
      omega
  · by_cases q : m ≤ 50
    · exact q
    · have := Int.mul_le_mul_of_nonneg_right (show 51 ≤ m by omega) (show 0 ≤ n by omega)
      omega
/-- what holds ahead of each step, rem steps left -/
structure SInv (roll n d : Int) (rem : Int) (s : Stt) : Prop where
  k0 : 0 ≤ s.k
  k1 : s.k + 8 * rem ≤ 1280
  m0 : -2560 ≤ s.m
  m1 : s.m ≤ 50
  v0 : 0 ≤ wv s.k s.m n d
  v1 : wv s.k s.m n d ≤ 4 * roll * d
  ss : ∀ t ∈ s.ss, 0 ≤ t.1.1 ∧ t.1.1 + 8 * rem ≤ 1280 ∧ -2560 ≤ t.1.2 ∧ t.1.2 ≤ 50 ∧ 1 ≤ t.2 ∧ t.2 ≤ 8
  len : s.ss.length + rem ≤ 160
  w : s.wk.natAbs ≤ (160 - rem) * 5000 ∧ s.wm.natAbs ≤ (160 - rem) * 5000
def Gin (n d : Int) (rem : Int) (k m : Int) : Prop := 0 ≤ k ∧ k + 8 * rem ≤ 1280 ∧ -2560 ≤ m ∧ m ≤ 50 ∧ 0 ≤ wv k m n d
theorem goal_to {w : Str} {roll n d n' d' rem : Int} {s : Stt} {k m : Int} (hp : Pat n d) (hf : Far n' d') (hdn : d ≤ 4 * n) (hr : roll ≤ 6) (hrem : 1 ≤ rem) (I : SInv roll n d rem s) (h : goalG w s.k s.m s.ss n d n' d' = .to k m) : Gin n d (rem - 1) k m := by
  have fin : ∀ k' m', 0 ≤ k' → k' + 8 * rem ≤ 1280 → nextG s.k s.m k' m' n d n' d' = .to k m → Gin n d (rem - 1) k m := fun k' m' h1 h2 h => by
    obtain ⟨rfl, ⟨q1, _⟩, ⟨q2, _⟩⟩ := next_to hp hf h
    have v0 := I.v0
    have v1 := I.v1
    rw [wv_sub] at q1
    have e : wv (s.k - k) (s.m - m + 2) n d = wv s.k s.m n d - wv k m n d + 4 * n := by unfold wv; grind
    rw [e] at q2
    have hd := hp.2.1
    have r6 : 4 * roll * d ≤ 24 * d := Int.mul_le_mul_of_nonneg_right (by omega) (by omega)
    obtain ⟨b1, b2⟩ := m_bound (roll := roll) hp.1 hd hdn h1 (by omega) (by omega) (show wv k m n d ≤ 24 * d + 4 * n by omega)
    exact ⟨h1, by omega, b1, b2, by omega⟩
  unfold goalG at h
  split at h
  · split at h
    · cases h
      exact ⟨I.k0, by have := I.k1; omega, I.m0, I.m1, I.v0⟩
    · rename_i t ht
      have hm := I.ss t (List.mem_of_getLast? ht)
      exact fin _ _ hm.1 hm.2.1 h
  · exact fin _ _ (by omega) (by have := I.k1; have := I.k0; omega) h
end KL

set_option Elab.async false
set_option linter.all false
set_option maxRecDepth 100000
set_option maxHeartbeats 2000000
set_option exponentiation.threshold 2000
namespace KL
open PySem PySem.Spec PyProof.Rows L2 Mp
theorem sg_cases (x y : Int) : (sgX x y = true ∧ sgM x y = false) ∨ (sgX x y = false ∧ sgM x y = true ∧ sgD x y = .int (-1)) ∨ (sgX x y = false ∧ sgM x y = false ∧ 0 ≤ x ∧ 0 ≤ y ∧ ∃ c, 0 ≤ c ∧ sgD x y = .int c) := by
  unfold sgX sgM sgD
  by_cases h1 : 0 ≤ x ∧ 0 ≤ y
  · refine .inr (.inr ?_)
    obtain ⟨a, b⟩ := h1
    refine ⟨by simp [a, b], by simp [a, b], a, b, _, ?_, if_pos ⟨a, b⟩⟩
    split <;> decide
  · by_cases h2 : x ≤ 0 ∧ y ≤ 0
    · refine .inr (.inl ?_)
      obtain ⟨a, b⟩ := h2
      simp [a, b, h1]
      omega
    · refine .inl ?_
      simp
      constructor <;> omega
theorem len_q {l : PyData} (h : lenB l = true) : ∃ q : Int, 1 ≤ q ∧ q ≤ 8 ∧ l = lowD q 4 := by
  unfold lenB at h
  split at h
  · rename_i a b
    simp [lenT] at h
    have fin : ∀ q c e : Int, 0 < e → Int.gcd c e = 1 → q * e = c * 4 → 1 ≤ q → q ≤ 8 → ∃ q : Int, 1 ≤ q ∧ q ≤ 8 ∧ PyData.tuple [.int c, .int e] = lowD q 4 := fun q c e h1 h2 h3 h4 h5 => ⟨q, h4, h5, by rw [low_cross (c := c) (d := e) p4 h1 h3, low_of_cop h2]; rfl⟩
    rcases h with ⟨rfl, rfl⟩ | ⟨rfl, rfl⟩ | ⟨rfl, rfl⟩ | ⟨rfl, rfl⟩ | ⟨rfl, rfl⟩ | ⟨rfl, rfl⟩ | ⟨rfl, rfl⟩ | ⟨rfl, rfl⟩
    · exact fin 1 1 4 (by decide) (by decide) (by decide) (by decide) (by decide)
    · exact fin 2 1 2 (by decide) (by decide) (by decide) (by decide) (by decide)
    · exact fin 3 3 4 (by decide) (by decide) (by decide) (by decide) (by decide)
    · exact fin 4 1 1 (by decide) (by decide) (by decide) (by decide) (by decide)
    · exact fin 5 5 4 (by decide) (by decide) (by decide) (by decide) (by decide)
    · exact fin 6 3 2 (by decide) (by decide) (by decide) (by decide) (by decide)
    · exact fin 7 7 4 (by decide) (by decide) (by decide) (by decide) (by decide)
    · exact fin 8 2 1 (by decide) (by decide) (by decide) (by decide) (by decide)
  · cases h
theorem q_of {s : Str} {q : Int} : qOf (.tuple [.str s, lowD q 4]) = q := by
  have h4 := gcd_b q 4
  have hq := gcd_a q 4
  have hp := low_b_pos (a := q) p4
  show 4 * (q / (Int.gcd q 4 : Int)) / (4 / (Int.gcd q 4 : Int)) = q
  generalize hg : (Int.gcd q 4 : Int) = g at *
  generalize hx : q / g = x at *
  generalize hy : 4 / g = y at *
  have : 4 * x = q * y := by rw [← hq, ← h4]; grind
  rw [this]
  exact Int.mul_ediv_cancel _ (by omega)
def Plain (x : PyData) : Prop := (∃ w : Str, w ∈ placeT ∧ x = .tuple [.str w]) ∨ ∃ q : Int, 1 ≤ q ∧ q ≤ 8 ∧ x = .tuple [.str "cut", lowD q 4]
theorem plain_of {x : PyData} (h : plainB x = true) : Plain x := by
  unfold plainB at h
  split at h
  · rename_i s
    exact .inl ⟨s, by simpa using h, rfl⟩
  · rename_i s l
    simp only [Bool.and_eq_true, decide_eq_true_eq] at h
    obtain ⟨rfl, h⟩ := h
    obtain ⟨q, h1, h2, rfl⟩ := len_q h
    exact .inr ⟨q, h1, h2, rfl⟩
  · cases h
theorem spread_mem {l : List PyData} : ∀ {i : Nat} {d : PyData}, (∀ x ∈ l, stepB x = true) → d ∈ spreadD i l → ∃ (j : Nat) (x : PyData), d = .tuple [.int (j : Int), x] ∧ Plain x := by
  induction l with
  | nil => intro i d _ h; simp [spreadD] at h
  | cons y r ih =>
    intro i d hs h
    have ih' := ih (i := i + 1) (d := d) fun x hx => hs x (List.mem_cons_of_mem _ hx)
    rcases step_inv (hs y List.mem_cons_self) with ⟨n, inner, rfl, n1, n2, l1, l2, hin⟩ | ⟨hp, s, rest, rfl, hne, hr⟩
    · simp only [spreadD, List.mem_append] at h
      rcases h with h | h
      · obtain ⟨blk, hb, hd⟩ := List.mem_flatten.mp h
        obtain ⟨_, rfl⟩ := List.mem_replicate.mp hb
        obtain ⟨x, hx, rfl⟩ := List.mem_map.mp hd
        exact ⟨i, x, rfl, plain_of (List.all_eq_true.mp hin x hx)⟩
      · exact ih' h
    · rw [spread_plain hr] at h
      rcases List.mem_cons.mp h with rfl | h
      · exact ⟨i, _, rfl, plain_of hp⟩
      · exact ih' h
theorem frq {q : Int} : (.tuple [lowD q 4, .tuple [.int 0, .int 1]] : PyData) = frm q 0 := by
  unfold frm
  rw [low_cross (a := 0) (b := 2) (c := 0) (d := 1) p2 (by omega) (by omega), low_of_cop (a := 0) (b := 1) (by decide)]; rfl
theorem frr {q : Int} : (.tuple [.tuple [.int q, .int 1], .tuple [.int 0, .int 1]] : PyData) = frm (4 * q) 0 := by
  rw [← frq, low_cross (a := 4 * q) (b := 4) (c := q) (d := 1) p4 (by omega) (by omega), low_of_cop (a := q) (b := 1) (by simp)]; rfl
theorem no_cut {w : Str} (h : w ∈ placeT) : (w = "cut") = False := by
  simp only [placeT, List.mem_cons, List.not_mem_nil, or_false] at h
  rcases h with rfl | rfl | rfl | rfl <;> exact eq_false (by decide)
theorem small_Sg {a : Int} (h : a.natAbs < 10 ^ 6) : Sg a := Nat.lt_of_lt_of_le h (by decide)
theorem small_Sf {a : Int} (h : a.natAbs < 10 ^ 7) : Sf a := Nat.lt_of_lt_of_le h (by decide)
section
variable {hv h : Hdv} {r : R} {x : Str} {roll n d n' d' : Int} {l ds : List PyData}
@[simp] theorem done_pre : s_done.pre hv [.int roll, .tuple l, pr n d, pr n' d'] = (1 ≤ roll ∧ roll ≤ 6 ∧ scriptB (.tuple l) = true ∧ gdV (.tuple l) ∧ Span n d n' d') := propext ⟨fun ⟨a, b, n2, d2, n3, d3, e, q⟩ => by
  simp only [List.cons.injEq, and_true, PyData.int.injEq, PyData.tuple.injEq] at e
  obtain ⟨rfl, rfl, e4, e5⟩ := e
  obtain ⟨rfl, rfl⟩ := pr_inj e4
  obtain ⟨rfl, rfl⟩ := pr_inj e5
  exact q, fun q => ⟨roll, l, n, d, n', d', rfl, q⟩⟩
@[simp] theorem done_post : s_done.post hv [.int roll, .tuple l, pr n d, pr n' d'] r h = (r = .v (doneG roll n d n' d' (spreadD 0 l) s0).d) := propext ⟨fun ⟨a, b, n2, d2, n3, d3, e, q⟩ => by
  simp only [List.cons.injEq, and_true, PyData.int.injEq, PyData.tuple.injEq] at e
  obtain ⟨rfl, rfl, e4, e5⟩ := e
  obtain ⟨rfl, rfl⟩ := pr_inj e4
  obtain ⟨rfl, rfl⟩ := pr_inj e5
  exact q, fun q => ⟨roll, l, n, d, n', d', rfl, q⟩⟩
@[simp] theorem done_exc {p : PyData} {h : Hdv} : s_done.exc hv ds x p h = False := rfl
end
theorem inv_step {roll n d n' d' rem k m : Int} {s : Stt} {x : PyData} (I : SInv roll n d rem s) (hx : Plain x) (hrem : 1 ≤ rem) (hg : Gin n d (rem - 1) k m) (h2 : 0 ≤ wv (4 * roll - k) (-m) n d) : SInv roll n d (rem - 1) (stepDo x s k m) := by
  obtain ⟨g1, g2, g3, g4, g5⟩ := hg
  have e : wv (4 * roll - k) (-m) n d = 4 * roll * d - wv k m n d := by unfold wv; grind
  rw [e] at h2
  obtain ⟨w1, w2⟩ := I.w
  have i0 := I.k0
  have i1 := I.k1
  have i2 := I.m0
  have i3 := I.m1
  have i4 := I.len
  have hss : ∀ t ∈ s.ss, 0 ≤ t.1.1 ∧ t.1.1 + 8 * (rem - 1) ≤ 1280 ∧ -2560 ≤ t.1.2 ∧ t.1.2 ≤ 50 ∧ 1 ≤ t.2 ∧ t.2 ≤ 8 := fun t ht => by have := I.ss t ht; omega
  by_cases hc : wOf x = "cut"
  · have e3 : stepDo x s k m = ⟨k, m, s.ss ++ [((s.k, s.m), qOf x)], s.wk, s.wm⟩ := by rw [stepDo, if_pos hc]
    rw [e3]
    refine ⟨g1, g2, g3, g4, g5, by show wv k m n d ≤ _; omega, fun t ht => ?_, ?_, ?_⟩
    · rcases List.mem_append.mp ht with ht | ht
      · exact hss t ht
      · have := List.mem_singleton.mp ht
        rw [this]
        rcases hx with ⟨w, hw, rfl⟩ | ⟨q, q1, q2, rfl⟩
        · have h1 : wOf (.tuple [.str w]) = w := rfl
          rw [h1, no_cut hw] at hc
          exact hc.elim
        · rw [q_of]; simp only; omega
    · show ((s.ss ++ [((s.k, s.m), qOf x)]).length : Int) + (rem - 1) ≤ 160
      rw [List.length_append, List.length_singleton]; omega
    · show (s.wk.natAbs : Int) ≤ _ ∧ (s.wm.natAbs : Int) ≤ _
      omega
  · have e3 : stepDo x s k m = ⟨k, m, s.ss, s.wk + (k - s.k), s.wm + (m - s.m)⟩ := by rw [stepDo, if_neg hc]
    rw [e3]
    refine ⟨g1, g2, g3, g4, g5, by show wv k m n d ≤ _; omega, hss, ?_, ?_⟩
    · show (s.ss.length : Int) + (rem - 1) ≤ 160
      omega
    · show ((s.wk + (k - s.k)).natAbs : Int) ≤ _ ∧ ((s.wm + (m - s.m)).natAbs : Int) ≤ _
      omega
theorem k_done : Keeps G 13 .no 4 s_done b_done_in := by
  rintro hv ds hk hl ⟨roll, l, n, d, n', d', rfl, r1, r6, hsc, hgd, hsp⟩
  cases hv <;> cases hk
  obtain ⟨h8, hst⟩ := script_in hsc
  have hlen := spread_len (i := 0) hst
  have hmem : ∀ x ∈ spreadD 0 l, ∃ (j : Nat) (y : PyData), x = .tuple [.int (j : Int), y] ∧ Plain y := fun x hx => spread_mem hst hx
  have hsp' := hsp
  obtain ⟨hp, hf, an, ad, an', ad', hdn, hord⟩ := hsp'
  have sn : Sf n := nat_small an (by decide)
  have sd : Sf d := nat_small ad (by decide)
  have sn' : Sf n' := nat_small an' (by decide)
  have sd' : Sf d' := nat_small ad' (by decide)
  have SR : SF (4 * roll) 0 := ⟨small_Sf (by omega), small_Sf (by decide)⟩
  simp [b_done_in, env0, nought, hsc, hgd]
  refine for_of (fun rem e => ∃ s S5 a7 a8 a9 a10 a11 a12, e = [Sl.v (.int roll), Sl.v (.tuple l), Sl.v (pr n d), Sl.v (pr n' d'), Sl.v (frm s.k s.m), S5, Sl.v (frm s.wk s.wm), a7, a8, a9, a10, a11, a12] ∧ (S5 = Sl.v (.list (s.ss.map spD)) ∨ S5 = Sl.o (s.ss.map spD)) ∧
      doneG roll n d n' d' rem s = doneG roll n d n' d' (spreadD 0 l) s0 ∧ SInv roll n d rem.length s ∧ ∀ x ∈ rem, x ∈ spreadD 0 l) ?_ ?_ ?_
  · refine ⟨s0, _, _, _, _, _, _, _, rfl, .inl rfl, rfl, ?_, fun _ h => h⟩
    refine ⟨by decide, ?_, by decide, by decide, ?_, ?_, (fun t ht => by cases ht), ?_, ?_⟩
    · simp only [s0]; omega
    · simp [s0, wv]
    · have := Int.mul_nonneg (show 0 ≤ 4 * roll by omega) (show 0 ≤ d by have := hp.2.1; omega)
      simpa [s0, wv] using this
    · simp only [s0, List.length_nil]; omega
    · simp only [s0]; omega
  · rintro x0 r0 e K hd ⟨s, S5, a7, a8, a9, a10, a11, a12, rfl, h5, hD, I, hin⟩ hK
    obtain ⟨j, x, rfl, hx⟩ := hmem _ (hin _ List.mem_cons_self)
    have hin' : ∀ y ∈ r0, y ∈ spreadD 0 l := fun y hy => hin y (List.mem_cons_of_mem _ hy)
    simp only [List.length_cons] at I
    have e1 : ((r0.length + 1 : Nat) : Int) - 1 = (r0.length : Int) := by omega
    obtain ⟨i0, i1, i2, i3, i4, i5, i6, i7, w1, w2⟩ := I
    have I : SInv roll n d ((r0.length + 1 : Nat) : Int) s := ⟨i0, i1, i2, i3, i4, i5, i6, i7, w1, w2⟩
    have SC : SF s.k s.m := ⟨small_Sf (by omega), small_Sf (by omega)⟩
    have KC : SK s.k s.m := ⟨nat_small (small_Sg (by omega)) (by decide), nat_small (small_Sg (by omega)) (by decide)⟩
    have SW : SF s.wk s.wm := ⟨small_Sf (by omega), small_Sf (by omega)⟩
    have SS : SPs s.ss := fun t ht => by have := i6 t ht; exact ⟨small_Sg (by omega), small_Sg (by omega)⟩
    have L5 : s.ss.length ≤ 200 := by omega
    -- what is left
    have gof : ∀ {k m : Int}, Gin n d (((r0.length + 1 : Nat) : Int) - 1) k m → SF k m ∧ SF (4 * roll - k) (-m) ∧ SF (k - s.k) (m - s.m) := fun {k m} ⟨g1, g2, g3, g4, g5⟩ => ⟨⟨small_Sf (by omega), small_Sf (by omega)⟩, ⟨small_Sf (by omega), small_Sf (by omega)⟩, ⟨small_Sf (by omega), small_Sf (by omega)⟩⟩
    have hx' := hx
    rcases hx with ⟨w, hw, rfl⟩ | ⟨q, q1, q2, rfl⟩
    · have hx := hx'
      have nc := no_cut hw
      obtain ⟨gg, hgg⟩ : ∃ gg, gg = goalG w s.k s.m s.ss n d n' d' := ⟨_, rfl⟩
      simp [nc, -seqK_at]
      have es : ∃ S, S = S5 := ⟨_, rfl⟩
      have go : ∀ (S : Sl), (S = Sl.v (.list (s.ss.map spD)) ∨ S = Sl.o (s.ss.map spD)) → True := fun _ _ => trivial
      rcases h5 with rfl | rfl
      · simp [hw, KC, SS, L5, hsp, ← hgg, -seqK_at]
        cases gg with
        | edge ek em =>
          have eg : stepGoal (sndD (.tuple [.int (j : Int), .tuple [.str w]])) s n d n' d' = .edge ek em := by
            simp [stepGoal, sndD, wOf, nc, ← hgg]
          simp only [doneG, eg] at hD
          simp [Gl.d, ← hD, Dn.d, edgeD, lowD, pr, isNone]
        | to gk gm =>
          have hgin := goal_to hp hf hdn r6 (by omega) I hgg.symm
          obtain ⟨SG, SL, SD⟩ := gof hgin
          have eg : stepGoal (sndD (.tuple [.int (j : Int), .tuple [.str w]])) s n d n' d' = .to gk gm := by
            simp [stepGoal, sndD, wOf, nc, ← hgg]
          simp [Gl.d, isNone, -seqK_at]
          simp only [seqK_at]
          simp [isNone, -seqK_at]
          simp only [seqK_at]
          simp [frr, SR, SG, SL, sn, sd, sn', sd', -seqK_at]
          simp only [seqK_at]
          simp [frr, SR, SG, SL, sn, sd, sn', sd', -seqK_at]
          simp only [seqK_at]
          simp [frr, SR, SG, SL, sn, sd, sn', sd', -seqK_at]
          have eX := isNone_sg (wv (4 * roll - gk) (-gm) n d) (wv (4 * roll - gk) (-gm) n' d')
          simp only [seqK_at]
          rcases sg_cases (wv (4 * roll - gk) (-gm) n d) (wv (4 * roll - gk) (-gm) n' d') with ⟨zx, zm⟩ | ⟨zx, zm, zd⟩ | ⟨zx, zm, z1, z2, c, hc, zd⟩
          · have hm : (-gm) ≠ 0 := sgN_m (by have := hp.2.1; omega) hf.nn zx
            have hm' : gm ≠ 0 := by omega
            simp only [doneG, eg, sgN, zx, if_true] at hD
            simp [eX, zx, SL, hm', ← hD, Dn.d]
          · simp only [doneG, eg, sgN, zx, zm, if_true, Bool.false_eq_true, if_false] at hD
            simp [eX, zx, -seqK_at]
            simp only [seqK_at]
            simp [zd, ← hD, Dn.d, Stt.d, optD, fstI]
          · simp only [doneG, eg, sgN, zx, zm, Bool.false_eq_true, if_false] at hD
            have I2 := inv_step (n' := n') (d' := d') I hx (by omega) hgin z1
            simp [eX, zx, -seqK_at]
            simp only [seqK_at]
            have hc' : ¬ c < 0 := by omega
            simp [zd, hc', -seqK_at]
            simp only [seqK_at]
            simp [nc, SW, SG, SC, SD, -seqK_at]
            simp only [seqK_at]
            simp
            have e2 : stepDo (sndD (.tuple [.int (j : Int), .tuple [.str w]])) s gk gm = ⟨gk, gm, s.ss, s.wk + (gk - s.k), s.wm + (gm - s.m)⟩ := by simp [stepDo, sndD, wOf, nc]
            rw [e2] at hD
            have e3 : stepDo (.tuple [.str w]) s gk gm = ⟨gk, gm, s.ss, s.wk + (gk - s.k), s.wm + (gm - s.m)⟩ := by simp [stepDo, wOf, nc]
            rw [e3, e1] at I2
            exact hK _ ⟨⟨gk, gm, s.ss, s.wk + (gk - s.k), s.wm + (gm - s.m)⟩, _, _, _, _, _, _, _, rfl, .inl rfl, hD, I2, hin'⟩
      · simp [hw, KC, SS, L5, hsp, ← hgg, -seqK_at]
        cases gg with
        | edge ek em =>
          have eg : stepGoal (sndD (.tuple [.int (j : Int), .tuple [.str w]])) s n d n' d' = .edge ek em := by
            simp [stepGoal, sndD, wOf, nc, ← hgg]
          simp only [doneG, eg] at hD
          simp [Gl.d, ← hD, Dn.d, edgeD, lowD, pr, isNone]
        | to gk gm =>
          have hgin := goal_to hp hf hdn r6 (by omega) I hgg.symm
          obtain ⟨SG, SL, SD⟩ := gof hgin
          have eg : stepGoal (sndD (.tuple [.int (j : Int), .tuple [.str w]])) s n d n' d' = .to gk gm := by
            simp [stepGoal, sndD, wOf, nc, ← hgg]
          simp [Gl.d, isNone, -seqK_at]
          simp only [seqK_at]
          simp [isNone, -seqK_at]
          simp only [seqK_at]
          simp [frr, SR, SG, SL, sn, sd, sn', sd', -seqK_at]
          simp only [seqK_at]
          simp [frr, SR, SG, SL, sn, sd, sn', sd', -seqK_at]
          simp only [seqK_at]
          simp [frr, SR, SG, SL, sn, sd, sn', sd', -seqK_at]
          have eX := isNone_sg (wv (4 * roll - gk) (-gm) n d) (wv (4 * roll - gk) (-gm) n' d')
          simp only [seqK_at]
          rcases sg_cases (wv (4 * roll - gk) (-gm) n d) (wv (4 * roll - gk) (-gm) n' d') with ⟨zx, zm⟩ | ⟨zx, zm, zd⟩ | ⟨zx, zm, z1, z2, c, hc, zd⟩
          · have hm : (-gm) ≠ 0 := sgN_m (by have := hp.2.1; omega) hf.nn zx
            have hm' : gm ≠ 0 := by omega
            simp only [doneG, eg, sgN, zx, if_true] at hD
            simp [eX, zx, SL, hm', ← hD, Dn.d]
          · simp only [doneG, eg, sgN, zx, zm, if_true, Bool.false_eq_true, if_false] at hD
            simp [eX, zx, -seqK_at]
            simp only [seqK_at]
            simp [zd, ← hD, Dn.d, Stt.d, optD, fstI]
          · simp only [doneG, eg, sgN, zx, zm, Bool.false_eq_true, if_false] at hD
            have I2 := inv_step (n' := n') (d' := d') I hx (by omega) hgin z1
            simp [eX, zx, -seqK_at]
            simp only [seqK_at]
            have hc' : ¬ c < 0 := by omega
            simp [zd, hc', -seqK_at]
            simp only [seqK_at]
            simp [nc, SW, SG, SC, SD, -seqK_at]
            simp only [seqK_at]
            simp
            have e2 : stepDo (sndD (.tuple [.int (j : Int), .tuple [.str w]])) s gk gm = ⟨gk, gm, s.ss, s.wk + (gk - s.k), s.wm + (gm - s.m)⟩ := by simp [stepDo, sndD, wOf, nc]
            rw [e2] at hD
            have e3 : stepDo (.tuple [.str w]) s gk gm = ⟨gk, gm, s.ss, s.wk + (gk - s.k), s.wm + (gm - s.m)⟩ := by simp [stepDo, wOf, nc]
            rw [e3, e1] at I2
            exact hK _ ⟨⟨gk, gm, s.ss, s.wk + (gk - s.k), s.wm + (gm - s.m)⟩, _, _, _, _, _, _, _, rfl, .inl rfl, hD, I2, hin'⟩
    · have hx := hx'
      have hgin : Gin n d (((r0.length + 1 : Nat) : Int) - 1) (s.k + q) s.m := ⟨by omega, by omega, by omega, by omega, by
        have e : wv (s.k + q) s.m n d = wv s.k s.m n d + q * d := by unfold wv; grind
        have := Int.mul_nonneg (show 0 ≤ q by omega) (show 0 ≤ d by have := hp.2.1; omega)
        omega⟩
      obtain ⟨SG, SL, SD⟩ := gof hgin
      have SQ : SF q 0 := ⟨small_Sf (by omega), small_Sf (by decide)⟩
      have eg : stepGoal (sndD (.tuple [.int (j : Int), .tuple [.str "cut", lowD q 4]])) s n d n' d' = .to (s.k + q) s.m := by
        simp [stepGoal, sndD, wOf, q_of]
      simp [frq, SC, SQ, -seqK_at]
      simp only [seqK_at]
      simp [frr, SR, SG, SL, sn, sd, sn', sd', -seqK_at]
      simp only [seqK_at]
      simp [frr, SR, SG, SL, sn, sd, sn', sd', -seqK_at]
      simp only [seqK_at]
      simp [frr, SR, SG, SL, sn, sd, sn', sd', -seqK_at]
      have eX := isNone_sg (wv (4 * roll - (s.k + q)) (-s.m) n d) (wv (4 * roll - (s.k + q)) (-s.m) n' d')
      simp only [seqK_at]
      rcases sg_cases (wv (4 * roll - (s.k + q)) (-s.m) n d) (wv (4 * roll - (s.k + q)) (-s.m) n' d') with ⟨zx, zm⟩ | ⟨zx, zm, zd⟩ | ⟨zx, zm, z1, z2, c, hc, zd⟩
      · have hm : (-s.m) ≠ 0 := sgN_m (by have := hp.2.1; omega) hf.nn zx
        have hm' : s.m ≠ 0 := by omega
        simp only [doneG, eg, sgN, zx, if_true] at hD
        simp [eX, zx, SL, hm', ← hD, Dn.d]
      · simp only [doneG, eg, sgN, zx, zm, if_true, Bool.false_eq_true, if_false] at hD
        simp [eX, zx, -seqK_at]
        simp only [seqK_at]
        rcases h5 with rfl | rfl <;> simp [zd, ← hD, Dn.d, Stt.d, optD, fstI]
      · simp only [doneG, eg, sgN, zx, zm, Bool.false_eq_true, if_false] at hD
        have I2 := inv_step (n' := n') (d' := d') I hx (by omega) hgin z1
        simp [eX, zx, -seqK_at]
        simp only [seqK_at]
        have hc' : ¬ c < 0 := by omega
        simp [zd, hc', -seqK_at]
        simp only [seqK_at]
        have e2 : stepDo (sndD (.tuple [.int (j : Int), .tuple [.str "cut", lowD q 4]])) s (s.k + q) s.m = ⟨s.k + q, s.m, s.ss ++ [((s.k, s.m), q)], s.wk, s.wm⟩ := by simp [stepDo, sndD, wOf, q_of]
        rw [e2] at hD
        have e3 : stepDo (.tuple [.str "cut", lowD q 4]) s (s.k + q) s.m = ⟨s.k + q, s.m, s.ss ++ [((s.k, s.m), q)], s.wk, s.wm⟩ := by simp [stepDo, wOf, q_of]
        rw [e3, e1] at I2
        have done := fun a7 a8 a9 a10 a11 a12 => hK _ ⟨⟨s.k + q, s.m, s.ss ++ [((s.k, s.m), q)], s.wk, s.wm⟩, _, a7, a8, a9, a10, a11, a12, rfl, .inr rfl, hD, I2, hin'⟩
        have lim : s.ss.length + 1 ≤ 16777216 := by omega
        rcases h5 with rfl | rfl
        · simp [lim, -seqK_at]
          simp only [seqK_at]
          simp
          simpa [spD] using done _ _ _ _ _ _
        · simp [lim, -seqK_at]
          simp only [seqK_at]
          simp
          simpa [spD] using done _ _ _ _ _ _
  · rintro e ⟨s, S5, a7, a8, a9, a10, a11, a12, rfl, h5, hD, I, hin⟩
    simp only [doneG] at hD
    rcases h5 with rfl | rfl <;> simp [← hD, Dn.d, Stt.d, optD]
end KL

set_option Elab.async false
set_option linter.all false
set_option maxRecDepth 100000
set_option maxHeartbeats 1000000
set_option exponentiation.threshold 2000
namespace KL
open PySem PySem.Spec PyProof.Rows L2 Mp
theorem sgX_self (x : Int) : sgX x x = false := by
  unfold sgX
  by_cases h : 0 ≤ x
  · simp [h]
  · have : x ≤ 0 := by omega
    simp [this]
theorem goal_one {w : Str} {k m n d : Int} {ss : List Sp} : ∃ a b, goalG w k m ss n d n d = .to a b := by
  have nx : ∀ k' m', ∃ a b, nextG k m k' m' n d n d = .to a b := fun k' m' => by
    simp [nextG, sgN, sgX_self]
  unfold goalG
  split
  · split
    · exact ⟨_, _, rfl⟩
    · exact nx _ _
  · exact nx _ _
theorem step_one {x : PyData} {s : Stt} {n d : Int} : ∃ a b, stepGoal x s n d n d = .to a b := by
  unfold stepGoal
  split
  · exact ⟨_, _, rfl⟩
  · exact goal_one
theorem done_one {roll n d : Int} : ∀ {r : List PyData} {s : Stt}, ∃ i t, doneG roll n d n d r s = .fin i t
  | [], s => ⟨_, _, rfl⟩
  | x :: r, s => by
    obtain ⟨a, b, e⟩ := step_one (x := sndD x) (s := s) (n := n) (d := d)
    simp only [doneG, e, sgN, sgX_self, Bool.false_eq_true, if_false]
    split
    · exact ⟨_, _, rfl⟩
    · exact done_one
theorem run_eq (roll : Int) (l : List PyData) (n d : Int) : doneG roll n d n d (spreadD 0 l) s0 = .fin (runG roll l n d).1 (runG roll l n d).2 := by
  obtain ⟨i, t, e⟩ := done_one (roll := roll) (n := n) (d := d) (r := spreadD 0 l) (s := s0)
  unfold runG
  rw [e]
theorem One.span {roll : Int} {l : List PyData} {n d : Int} (h : One roll l n d) : Span n d n d := ⟨h.2.2.2.2.1, .inl h.2.2.2.2.1, h.2.2.2.2.2.1, h.2.2.2.2.2.2.1, h.2.2.2.2.2.1, h.2.2.2.2.2.2.1, h.2.2.2.2.2.2.2, Int.le_refl _⟩
section
variable {hv h : Hdv} {r : R} {x : Str} {roll n d k m k' m' : Int} {l ds : List PyData} {f : Int → List PyData → Int → Int → R}
@[simp] theorem pc1_pre : s_pieces1.pre hv [.int roll, .tuple l, pr n d, pr n d] = One roll l n d := propext ⟨fun ⟨a, b, n2, d2, e, q⟩ => by
  simp only [List.cons.injEq, and_true, PyData.int.injEq, PyData.tuple.injEq] at e
  obtain ⟨rfl, rfl, e4, e5⟩ := e
  obtain ⟨rfl, rfl⟩ := pr_inj e4
  exact q, fun q => ⟨roll, l, n, d, rfl, q⟩⟩
@[simp] theorem pc1_post : s_pieces1.post hv [.int roll, .tuple l, pr n d, pr n d] r h = (r = .o [pieceD n d n d (runG roll l n d).1 (runG roll l n d).2]) := propext ⟨fun ⟨a, b, n2, d2, e, q⟩ => by
  simp only [List.cons.injEq, and_true, PyData.int.injEq, PyData.tuple.injEq] at e
  obtain ⟨rfl, rfl, e4, e5⟩ := e
  obtain ⟨rfl, rfl⟩ := pr_inj e4
  exact q, fun q => ⟨roll, l, n, d, rfl, q⟩⟩
@[simp] theorem pc1_exc {p : PyData} {h : Hdv} : s_pieces1.exc hv ds x p h = False := rfl
@[simp] theorem at_pre : (atS f).pre hv [.int roll, .tuple l, pr n d] = One roll l n d := propext ⟨fun ⟨a, b, n2, d2, e, q⟩ => by
  simp only [List.cons.injEq, and_true, PyData.int.injEq, PyData.tuple.injEq] at e
  obtain ⟨rfl, rfl, e4⟩ := e
  obtain ⟨rfl, rfl⟩ := pr_inj e4
  exact q, fun q => ⟨roll, l, n, d, rfl, q⟩⟩
@[simp] theorem at_post : (atS f).post hv [.int roll, .tuple l, pr n d] r h = (r = f roll l n d) := propext ⟨fun ⟨a, b, n2, d2, e, q⟩ => by
  simp only [List.cons.injEq, and_true, PyData.int.injEq, PyData.tuple.injEq] at e
  obtain ⟨rfl, rfl, e4⟩ := e
  obtain ⟨rfl, rfl⟩ := pr_inj e4
  exact q, fun q => ⟨roll, l, n, d, rfl, q⟩⟩
@[simp] theorem at_exc {p : PyData} {h : Hdv} : (atS f).exc hv ds x p h = False := rfl
@[simp] theorem atp_pre : s_at.pre hv [.int roll, .tuple l, pr n d] = One roll l n d := at_pre
@[simp] theorem atp_post : s_at.post hv [.int roll, .tuple l, pr n d] r h = (r = .v (pieceD n d n d (runG roll l n d).1 (runG roll l n d).2)) := at_post
@[simp] theorem atp_exc {p : PyData} {h : Hdv} : s_at.exc hv ds x p h = False := rfl
@[simp] theorem word_pre : s_word.pre hv [frm k m, frm k' m', pr n d] = (SK k m ∧ SK k' m' ∧ Pat n d ∧ Sn n ∧ Sn d) := propext ⟨fun ⟨a, b, c, f, n2, d2, e, q⟩ => by
  simp only [List.cons.injEq, and_true] at e
  obtain ⟨e1, e2, e3⟩ := e
  obtain ⟨rfl, rfl⟩ := frm_inj e1
  obtain ⟨rfl, rfl⟩ := frm_inj e2
  obtain ⟨rfl, rfl⟩ := pr_inj e3
  exact q, fun q => ⟨k, m, k', m', n, d, rfl, q⟩⟩
@[simp] theorem word_post : s_word.post hv [frm k m, frm k' m', pr n d] r h = (r = .v (.str (wordG (wv (k' - k) (m' - m) n d) n))) := propext ⟨fun ⟨a, b, c, f, n2, d2, e, q⟩ => by
  simp only [List.cons.injEq, and_true] at e
  obtain ⟨e1, e2, e3⟩ := e
  obtain ⟨rfl, rfl⟩ := frm_inj e1
  obtain ⟨rfl, rfl⟩ := frm_inj e2
  obtain ⟨rfl, rfl⟩ := pr_inj e3
  exact q, fun q => ⟨k, m, k', m', n, d, rfl, q⟩⟩
@[simp] theorem word_exc {p : PyData} {h : Hdv} : s_word.exc hv ds x p h = False := rfl
end
theorem sh_prs : SeqAt.shaped (.list [.tuple [pr n d, pr n' d']]) = true := rfl
theorem k_pieces1 : Keeps G 11 .no 4 s_pieces1 b_pieces_in := by
  rintro hv ds hk hl ⟨roll, l, n, d, rfl, ho⟩
  cases hv <;> cases hk
  obtain ⟨r1, r6, hs, hg, hp, _⟩ := id ho
  have hsp := ho.span
  have hrun := run_eq roll l n d
  simp [b_pieces_in, env0]
  refine whl_of (fun m e => ∃ a6 a7 a8 a9 a10, (m = 1 ∧ e = [Sl.v (.int roll), Sl.v (.tuple l), Sl.v (pr n d), Sl.v (pr n d), Sl.o [], Sl.o [.tuple [pr n d, pr n d]], a6, a7, a8, a9, a10]) ∨
    (m = 0 ∧ e = [Sl.v (.int roll), Sl.v (.tuple l), Sl.v (pr n d), Sl.v (pr n d), Sl.o [pieceD n d n d (runG roll l n d).1 (runG roll l n d).2], Sl.o [], a6, a7, a8, a9, a10])) 1 ?_ ?_
  · exact ⟨_, _, _, _, _, .inl ⟨rfl, rfl⟩⟩
  · rintro m e ⟨a6, a7, a8, a9, a10, ⟨rfl, rfl⟩ | ⟨rfl, rfl⟩⟩
    · simp [eqok_sh sh_prs sh_nilL, -seqK_at]
      simp only [seqK_at]
      simp [hs, hg, hsp, r1, r6, hrun, Dn.d, Stt.d, isNone, -seqK_at]
      simp only [seqK_at]
      simp [isNone, -seqK_at]
      simp only [seqK_at]
      simp [isNone, pieceD]
    · simp [eqok_sh sh_nilL sh_nilL]
theorem k_at : Keeps G 3 .no 3 s_at b_at_pattern := by
  rintro hv ds hk hl ⟨roll, l, n, d, rfl, ho⟩
  cases hv <;> cases hk
  simp [b_at_pattern, env0, ho]
theorem fin_word {g G n : Int} {a b : Int} (hn : 0 < n) (e1 : G = g * a) (e2 : 2 * n = g * b) (hg : 0 < g) (hb : 0 < b) (hc : Int.gcd a b = 1) : (b = 1 ↔ G % (2 * n) = 0) ∧ (b = 1 → G / (2 * n) = a) := by
  have key : b = 1 → G = (2 * n) * a := fun h => by rw [h, Int.mul_one] at e2; rw [e1, e2]
  refine ⟨⟨fun h => ?_, fun h => ?_⟩, fun h => ?_⟩
  · rw [key h]; exact Int.mul_emod_right _ _
  · obtain ⟨c, hc2⟩ := Int.dvd_of_emod_eq_zero h
    have : g * a = g * (b * c) := by rw [← e1, hc2, e2, Int.mul_assoc]
    have h2 : a = b * c := Int.eq_of_mul_eq_mul_left (Int.ne_of_gt hg) this
    have h3 : b ∣ (Int.gcd a b : Int) := Int.dvd_coe_gcd ⟨c, h2⟩ (Int.dvd_refl b)
    rw [hc] at h3
    exact Int.le_antisymm (Int.le_of_dvd (by decide) h3) hb
  · rw [key h]; exact Int.mul_ediv_cancel_left _ (by omega)
theorem k_word : Keeps G 5 .no 3 s_word b_match_word := by
  rintro hv ds hk hl ⟨k, m, k', m', n, d, rfl, ⟨sk, sm⟩, ⟨sk', sm'⟩, hp, an, ad⟩
  cases hv <;> cases hk
  have hn := hp.1
  have hd := hp.2.1
  have post : s_word.post .no [frm k m, frm k' m', pr n d] (.v (.str (wordG (wv (k' - k) (m' - m) n d) n))) .no := by rw [word_post]
  have SFk : SF k m := ⟨nat_small sk (by decide), nat_small sm (by decide)⟩
  have SFk' : SF k' m' := ⟨nat_small sk' (by decide), nat_small sm' (by decide)⟩
  have w1 := wv_lt sk sm an ad
  have w2 := wv_lt sk' sm' an ad
  have h4d : 0 < 4 * d := by omega
  have s4d : (4 * d).natAbs < 2 ^ 142 := by have := ad; unfold Sn at this; rw [show (142 : Nat) = 140 + 2 by rfl, Nat.pow_add]; omega
  have sG : (wv k' m' n d * (4 * d) - wv k m n d * (4 * d)).natAbs < 2 ^ 700 := nat_small (natAbs_sub_lt (natAbs_mul_lt w2 s4d) (natAbs_mul_lt w1 s4d)) (by decide)
  have sB : ((4 * d) * (4 * d)).natAbs < 2 ^ 700 := nat_small (natAbs_mul_lt s4d s4d) (by decide)
  have h16 : 0 < (4 * d) * (4 * d) := Int.mul_pos h4d h4d
  obtain ⟨p, q, g', f1, g2, f2, f3, hq', sp, sq⟩ := low_raw (wv k' m' n d * (4 * d) - wv k m n d * (4 * d)) ((4 * d) * (4 * d)) h16 (nat_small sG (by decide)) (nat_small sB (by decide))
  have sn : Sf n := nat_small an (by decide)
  have sd : Sf d := nat_small ad (by decide)
  have hqn : 0 < q * n := Int.mul_pos hq' hn
  have hlq : (q * n).natAbs.log2 < 8000 := sq.mul_log sn.sz
  obtain ⟨Gv, hG⟩ : ∃ Gv, Gv = wv (k' - k) (m' - m) n d := ⟨_, rfl⟩
  have hG' : Gv * (4 * d) = g' * p := by rw [← f2, hG, wv_sub, Int.sub_mul]
  have e : lowD (2 * p * d) (q * n) = lowD Gv (2 * n) := by
    refine low_cross hqn (by omega) ?_
    have : g' * (2 * p * d * (2 * n)) = g' * (Gv * (q * n)) := by grind
    exact Int.eq_of_mul_eq_mul_left (Int.ne_of_gt g2) this
  have raw : ∃ x y g, lowD Gv (2 * n) = pr x y ∧ 0 < g ∧ Gv = g * x ∧ 2 * n = g * y ∧ 0 < y ∧ Int.gcd x y = 1 :=
    ⟨_, _, _, rfl, gcd_pos (by omega), (gcd_a _ _).symm, (gcd_b _ _).symm, low_b_pos (by omega), low_cop (by omega)⟩
  obtain ⟨x, y, g, r1, r2, r3, r4, r5, r6⟩ := raw
  obtain ⟨b1, b2⟩ := fin_word hn r3 r4 r2 r5 r6
  rw [← hG] at post
  have epq : pr p q = .tuple [.int p, .int q] := rfl
  have exy : pr x y = .tuple [.int x, .int y] := rfl
  have s2p : Sz (2 * p) := by
    have : Sz p := sp
    unfold Sz at *
    have h1 : p.natAbs < 2 ^ 700 := by
      have := f2
      have hle : p.natAbs ≤ (g' * p).natAbs := by rw [Int.natAbs_mul]; exact Nat.le_mul_of_pos_left _ (by omega)
      rw [← f2] at hle
      exact Nat.lt_of_le_of_lt hle sG
    have : (2 * p).natAbs < 2 ^ 701 := by rw [show (701 : Nat) = 700 + 1 by rfl, Nat.pow_succ]; omega
    exact nat_small this (by decide)
  have enp : pr n d = .tuple [.int n, .int d] := rfl
  simp [b_match_word, env0, SFk, SFk', hp, minus_pre h4d h4d (nat_small w2 (by decide)) (nat_small s4d (by decide)) (nat_small w1 (by decide)) (nat_small s4d (by decide)), minus_post h4d h4d, -seqK_at]
  rw [f1]
  simp only [seqK_at]
  simp [epq, enp, -seqK_at]
  refine ⟨(Sz_small (a := 2) (by decide)).mulOk sp, s2p.mulOk sd.sz, sq.mulOk sn.sz, ⟨hqn, hlq⟩, ?_⟩
  rw [e, r1]
  simp only [seqK_at]
  simp [exy, -seqK_at]
  rw [enp] at post
  unfold wordG at post
  by_cases hy : y = 1
  · have hz := b1.mp hy
    have hq := b2 hy
    rw [if_pos hz, hq] at post
    simp [hy]
    by_cases hx : x % 2 = 0
    · rw [if_pos hx] at post
      simp [hx]
      exact post
    · rw [if_neg hx] at post
      simp [hx]
      exact post
  · have hz : ¬ Gv % (2 * n) = 0 := fun z => hy (b1.mpr z)
    rw [if_neg hz] at post
    simp [hy]
    exact post
end KL

set_option Elab.async false
set_option linter.all false
set_option maxRecDepth 100000
set_option maxHeartbeats 1000000
set_option exponentiation.threshold 2000
namespace KL
open PySem PySem.Spec PyProof.Rows L2 Mp
@[simp] theorem ixAt_3 {a b c d : PyData} {ds : List PyData} {Q : PyData → Prop} : ixAt (a :: b :: c :: d :: ds) 3 Q = Q d := ixAt_k (j := 3) rfl
@[simp] theorem ixAt_4 {a b c d e : PyData} {ds : List PyData} {Q : PyData → Prop} : ixAt (a :: b :: c :: d :: e :: ds) 4 Q = Q e := ixAt_k (j := 4) rfl
@[simp] theorem ixAt_5 {a b c d e f : PyData} {ds : List PyData} {Q : PyData → Prop} : ixAt (a :: b :: c :: d :: e :: f :: ds) 5 Q = Q f := ixAt_k (j := 5) rfl
theorem step_gin {roll n d n' d' rem k m : Int} {s : Stt} {x : PyData} (hp : Pat n d) (hf : Far n' d') (hdn : d ≤ 4 * n) (hr : roll ≤ 6) (hx : Plain x) (hrem : 1 ≤ rem) (I : SInv roll n d rem s) (h : stepGoal x s n d n' d' = .to k m) : Gin n d (rem - 1) k m := by
  rcases hx with ⟨w, hw, rfl⟩ | ⟨q, q1, q2, rfl⟩
  · have e : stepGoal (.tuple [.str w]) s n d n' d' = goalG w s.k s.m s.ss n d n' d' := by simp [stepGoal, wOf, no_cut hw]
    rw [e] at h
    exact goal_to hp hf hdn hr hrem I h
  · have e : stepGoal (.tuple [.str "cut", lowD q 4]) s n d n' d' = .to (s.k + q) s.m := by simp [stepGoal, wOf, q_of]
    rw [e] at h
    cases h
    have := I.k0; have := I.k1
    refine ⟨by omega, by omega, I.m0, I.m1, ?_⟩
    have e : wv (s.k + q) s.m n d = wv s.k s.m n d + q * d := by unfold wv; grind
    have := Int.mul_nonneg (show 0 ≤ q by omega) (show 0 ≤ d by have := hp.2.1; omega)
    have := I.v0
    omega
theorem done_inv {roll n d n' d' : Int} (hp : Pat n d) (hf : Far n' d') (hdn : d ≤ 4 * n) (hr : roll ≤ 6) : ∀ {r : List PyData} {s t : Stt} {i : Option Int}, (∀ x ∈ r, ∃ (j : Nat) (y : PyData), x = .tuple [.int (j : Int), y] ∧ Plain y) → SInv roll n d r.length s →
    doneG roll n d n' d' r s = .fin i t → ∃ rem : Nat, SInv roll n d rem t
  | [], s, t, i, _, I, h => by
    simp only [doneG] at h
    cases h
    exact ⟨0, I⟩
  | x :: r, s, t, i, hx, I, h => by
    obtain ⟨j, y, rfl, hy⟩ := hx x List.mem_cons_self
    simp only [doneG] at h
    split at h
    · cases h
    · rename_i k m hg
      split at h
      · cases h
      · rename_i z1
        split at h
        · cases h; exact ⟨_, I⟩
        · rename_i z2
          have hl : (((.tuple [.int (j : Int), y] : PyData) :: r).length : Int) - 1 = (r.length : Int) := by simp
          have g := step_gin hp hf hdn hr hy (by simp; omega) I hg
          have z3 : 0 ≤ wv (4 * roll - k) (-m) n d := by
            rcases sg_cases (wv (4 * roll - k) (-m) n d) (wv (4 * roll - k) (-m) n' d') with ⟨zx, zm⟩ | ⟨zx, zm, zd⟩ | ⟨zx, zm, q1, q2, _⟩
            · exact absurd zx z1
            · exact absurd zm z2
            · exact q1
          have I2 := inv_step (n' := n') (d' := d') I hy (by simp; omega) g z3
          rw [hl] at I2
          exact done_inv hp hf hdn hr (fun x hx' => hx x (List.mem_cons_of_mem _ hx')) I2 h
theorem s0_inv {roll n d : Int} {r : List PyData} (hp : Pat n d) (h1 : 1 ≤ roll) (hl : r.length ≤ 160) : SInv roll n d r.length s0 := by
  refine ⟨by decide, ?_, by decide, by decide, ?_, ?_, (fun t ht => by cases ht), ?_, ?_⟩
  · simp only [s0]; omega
  · simp [s0, wv]
  · have := Int.mul_nonneg (show 0 ≤ 4 * roll by omega) (show 0 ≤ d by have := hp.2.1; omega)
    simpa [s0, wv] using this
  · simp only [s0, List.length_nil]; omega
  · simp only [s0]; omega
theorem spread_ok {l : List PyData} (h : scriptB (.tuple l) = true) : (spreadD 0 l).length ≤ 160 ∧ ∀ x ∈ spreadD 0 l, ∃ (j : Nat) (y : PyData), x = .tuple [.int (j : Int), y] ∧ Plain y := by
  obtain ⟨h8, hst⟩ := script_in h
  have := spread_len (i := 0) hst
  exact ⟨by omega, fun x hx => spread_mem hst hx⟩
theorem One.inv {roll n d : Int} {l : List PyData} (ho : One roll l n d) : ∃ rem : Nat, SInv roll n d rem (runG roll l n d).2 := by
  obtain ⟨r1, r6, hs, hg, hp, an, ad, hdn⟩ := ho
  obtain ⟨h1, h2⟩ := spread_ok hs
  exact done_inv hp (.inl hp) hdn r6 h2 (s0_inv hp r1 h1) (run_eq roll l n d)
theorem SInv.sf {roll n d rem : Int} {s : Stt} (I : SInv roll n d rem s) (h0 : 0 ≤ rem) : SF s.k s.m ∧ SF s.wk s.wm ∧ (∀ t ∈ s.ss, SK t.1.1 t.1.2 ∧ SF t.1.1 t.1.2) ∧ s.ss.length ≤ 160 := by
  obtain ⟨i0, i1, i2, i3, i4, i5, i6, i7, w1, w2⟩ := I
  exact ⟨⟨small_Sf (by omega), small_Sf (by omega)⟩, ⟨small_Sf (by omega), small_Sf (by omega)⟩, fun t ht => by have := i6 t ht; exact ⟨⟨nat_small (small_Sg (by omega)) (by decide), nat_small (small_Sg (by omega)) (by decide)⟩, ⟨small_Sf (by omega), small_Sf (by omega)⟩⟩, by omega⟩
theorem k_strips_of : Keeps G 5 .no 3 (atS fun roll l n d => .o (stripsG roll l n d)) b_strips_of := by
  rintro hv ds hk hl ⟨roll, l, n, d, rfl, ho⟩
  cases hv <;> cases hk
  obtain ⟨rem, I⟩ := ho.inv
  obtain ⟨_, _, hss, hlen⟩ := I.sf (by omega)
  have hp : Pat n d := ho.2.2.2.2.1
  simp [b_strips_of, env0, ho, pieceD]
  refine cmp_inv (fun items acc e => ∃ t : List Sp, items = t.map spD ∧ acc ++ (t.map fun s : Sp => PyData.tuple [lowD (wv s.1.1 s.1.2 n d) (4 * d), lowD s.2 4]) = stripsG roll l n d ∧ (∀ s ∈ t, s ∈ (runG roll l n d).2.ss) ∧ acc.length + t.length ≤ 160 ∧ e = [Sl.v (.int roll), Sl.v (.tuple l), Sl.v (pr n d), Sl.no, Sl.no]) ?_ ?_ ?_ ?_
  · exact ⟨_, rfl, rfl, fun _ h => h, by simpa using hlen, rfl⟩
  · rintro x0 r0 acc e K ⟨t, ht, hacc, hin, hl2, rfl⟩ hsome hnone
    cases t with
    | nil => cases ht
    | cons s t =>
      simp only [List.map_cons, List.cons.injEq] at ht
      obtain ⟨rfl, rfl⟩ := ht
      have hs := (hss s (hin s List.mem_cons_self)).2
      have fin := hsome (.tuple [lowD (wv s.1.1 s.1.2 n d) (4 * d), lowD s.2 4]) _ ⟨t, rfl, by rw [← hacc]; simp, fun x hx => hin x (List.mem_cons_of_mem _ hx), by simp at hl2 ⊢; omega, rfl⟩
      simp [cturn, spD, hs, hp]
      exact fin
  · rintro x0 r0 acc e ⟨t, ht, hacc, hin, hl2, rfl⟩
    show _ < 16777216
    omega
  · rintro acc e ⟨t, ht, hacc, hin, hl2, rfl⟩
    cases t with
    | cons => cases ht
    | nil =>
      simp at hacc
      simp [hacc]
theorem api_in {a b c : PyData} (ha : gdV a) (hb : gdV b) (hc : gdV c) (h1 : rollB a = true) (h2 : scriptB b = true) (h3 : patB c = true) : ∃ roll l n d, a = .int roll ∧ b = .tuple l ∧ c = pr n d ∧ One roll l n d := by
  unfold rollB wholeB at h1
  split at h1
  · rename_i roll
    simp only [Bool.and_eq_true, decide_eq_true_eq] at h1
    have h2' := h2
    unfold scriptB at h2'
    split at h2'
    · rename_i l
      have h3' := h3
      unfold patB at h3'
      split at h3'
      · rename_i n d
        simp only [Bool.and_eq_true, decide_eq_true_eq] at h3'
        obtain ⟨⟨q1, q2⟩, q3⟩ := h3'
        have gn : n.natAbs ≤ 10 ^ 41 := by have := gdV_in hc (x := .int n) (by simp); simpa [gdV, gd] using this
        have gd' : d.natAbs ≤ 10 ^ 41 := by have := gdV_in hc (x := .int d) (by simp); simpa [gdV, gd] using this
        have sn : Sn n := Nat.lt_of_le_of_lt gn (by decide)
        have sd : Sn d := Nat.lt_of_le_of_lt gd' (by decide)
        exact ⟨roll, l, n, d, rfl, rfl, rfl, h1.1, h1.2, h2, hb, ⟨by omega, by omega, q2, nat_small sn (by decide), nat_small sd (by decide)⟩, sn, sd, q3⟩
      · cases h3'
    · cases h2'
  · cases h1
theorem One.roll {roll n d : Int} {l : List PyData} (h : One roll l n d) : rollB (.int roll) = true := by simp [rollB, wholeB, h.1, h.2.1]
theorem One.pat {roll n d : Int} {l : List PyData} (h : One roll l n d) : patB (pr n d) = true := by
  obtain ⟨_, _, _, _, hp, _, _, q⟩ := h
  have := hp.2.1
  simp [patB, pr, hp.2.2.1, q]; omega
theorem One.gd {roll n d : Int} {l : List PyData} {c : PyData} (h : One roll l n d) : True := trivial
section
variable {hv h : Hdv} {r : R} {x : Str} {roll n d : Int} {l ds : List PyData} {a b c : PyData} {f : Int → List PyData → Int → Int → R}
@[simp] theorem api_pre : (api f).pre hv [a, b, c] = (gdV a ∧ gdV b ∧ gdV c) := propext ⟨fun ⟨_, _, _, e, q⟩ => by cases e; exact q, fun q => ⟨a, b, c, rfl, q⟩⟩
theorem api_post : (api f).post hv [.int roll, .tuple l, pr n d] r h = (One roll l n d ∧ r = f roll l n d) := propext ⟨fun ⟨a, b, n2, d2, e, q, _, _, _, q2⟩ => by
  simp only [List.cons.injEq, and_true, PyData.int.injEq, PyData.tuple.injEq] at e
  obtain ⟨rfl, rfl, e4⟩ := e
  obtain ⟨rfl, rfl⟩ := pr_inj e4
  exact ⟨q, q2⟩, fun ⟨q, q2⟩ => ⟨roll, l, n, d, rfl, q, q.roll, q.2.2.1, q.pat, q2⟩⟩
@[simp] theorem api_exc {p : PyData} {h : Hdv} : (api f).exc hv [a, b, c] x p h = (apiX a b c x ∧ p = .none) := propext ⟨fun ⟨⟨_, _, _, e, q⟩, z⟩ => by cases e; exact ⟨q, z⟩, fun ⟨q, z⟩ => ⟨⟨a, b, c, rfl, q⟩, z⟩⟩
end
theorem api_k {f : Int → List PyData → Int → Int → R} {N : Nat} {rest : Ss} (hN : 3 ≤ N) (hr : ∀ roll l n d, One roll l n d → gdV (pr n d) → wpSs G rest (env0 N .no [.int roll, .tuple l, pr n d]) (endP (api f) .no [.int roll, .tuple l, pr n d])) :
    Keeps G N .no 3 (api f) (.cons (.xp (.call 12 (.cons (.var 0) .nil))) (.cons (.xp (.call 13 (.cons (.var 1) .nil))) (.cons (.xp (.call 14 (.cons (.var 2) .nil))) rest))) := by
  rintro hv ds hk hl ⟨a, b, c, rfl, ha, hb, hc⟩
  cases hv <;> cases hk
  have key : rollB a = true → scriptB b = true → patB c = true → wpSs G rest (env0 N .no [a, b, c]) (endP (api f) .no [a, b, c]) := fun h1 h2 h3 => by
    obtain ⟨roll, l, n, d, rfl, rfl, rfl, ho⟩ := api_in ha hb hc h1 h2 h3
    exact hr roll l n d ho hc
  have e0 : env0 N .no [a, b, c] = Sl.v a :: Sl.v b :: Sl.v c :: List.replicate (N - 3) Sl.no := by
    simp [env0]
  rw [e0] at key ⊢
  simp [ha, hb, hc]
  refine ⟨fun h1 => ⟨fun h2 => ⟨fun h3 => key h1 h2 h3, ?_⟩, ?_⟩, ?_⟩
  · rintro x p rfl h3 rfl
    exact ⟨.inr (.inr ⟨h1, h2, h3, rfl⟩), rfl⟩
  · rintro x p rfl h2 rfl
    exact ⟨.inr (.inl ⟨h1, h2, rfl⟩), rfl⟩
  · rintro x p rfl h1 rfl
    exact ⟨.inl ⟨h1, rfl⟩, rfl⟩
theorem k_strips : Keeps G 3 .no 3 (api fun roll l n d => .o (stripsG roll l n d)) b_strips := api_k (by decide) fun roll l n d ho hg => by
  simp [env0, ho, api_post]
theorem k_waste : Keeps G 3 .no 3 (api fun roll l n d => .v (wasteG roll l n d)) b_waste := api_k (by decide) fun roll l n d ho hg => by
  obtain ⟨rem, I⟩ := ho.inv
  obtain ⟨h1, h2, _⟩ := I.sf (by omega)
  simp [env0, ho, api_post, pieceD, h2, ho.2.2.2.2.1, wasteG]
theorem k_out : Keeps G 3 .no 3 (api fun roll l n d => .v (outG roll l n d)) b_out_at := api_k (by decide) fun roll l n d ho hg => by
  simp [env0, ho, api_post, pieceD, outG]
theorem k_rest : Keeps G 3 .no 3 (api fun roll l n d => .v (restG roll l n d)) b_rest := api_k (by decide) fun roll l n d ho hg => by
  obtain ⟨rem, I⟩ := ho.inv
  obtain ⟨h1, h2, _⟩ := I.sf (by omega)
  have hp := ho.2.2.2.2.1
  have hd := hp.2.1
  have e1 : (.tuple [.int roll, .int 1] : PyData) = lowD roll 1 := (low_of_cop (by simp)).symm
  have h4d : 0 < 4 * d := by omega
  have hsn : Sn n := ho.2.2.2.2.2.1
  have hsd : Sn d := ho.2.2.2.2.2.2.1
  have swv : Sz (wv (runG roll l n d).2.k (runG roll l n d).2.m n d) := nat_small (wv_lt h1.1 h1.2 (nat_small hsn (show 140 ≤ 330 by decide)) (nat_small hsd (show 140 ≤ 330 by decide))) (by decide)
  have s4d : Sz (4 * d) := sz_mul (i := 3) (j := 140) (by decide) hsd (by decide)
  have sr : Sz roll := Sz_small (by have := ho.1; have := ho.2.1; omega)
  have e2 : lowD (roll * (4 * d) - wv (runG roll l n d).2.k (runG roll l n d).2.m n d) (4 * d) = restG roll l n d := by
    unfold restG
    congr 1
    grind
  simp [env0, ho, api_post, pieceD, h1, hp, e1, minus_pre (by decide) h4d sr Sz_1 swv s4d, minus_post (show (0 : Int) < 1 by decide) h4d, e2]
theorem cutD_1 {xs : List PyData} : Mp.cutD xs (some 1) none = xs.drop 1 := by
  unfold Mp.cutD
  rw [show (1 : Int) = ((1 : Nat) : Int) from rfl, HT.sIx_nat, HT.sIx_none]
  by_cases h : 1 ≤ xs.length
  · rw [Nat.min_eq_left h]
    exact List.take_of_length_le (by simp)
  · rw [List.drop_eq_nil_of_le (show xs.length ≤ min 1 xs.length by omega), List.drop_eq_nil_of_le (show xs.length ≤ 1 by omega)]
    simp
theorem words_len (n d : Int) : ∀ ss : List Sp, (wordsG n d ss).length = ss.length - 1
  | [] => rfl
  | [a] => rfl
  | a :: b :: r => by
    show (wordsG n d (b :: r)).length + 1 = _
    rw [words_len n d (b :: r)]; simp
theorem k_matches : Keeps G 6 .no 3 (api fun roll l n d => .o (matchesG roll l n d)) b_matches := api_k (by decide) fun roll l n d ho hg => by
  obtain ⟨rem, I⟩ := ho.inv
  obtain ⟨_, _, hss, hlen⟩ := I.sf (by omega)
  obtain ⟨_, _, _, _, hp, hsn, hsd, _⟩ := id ho
  simp [env0, ho, pieceD, cutD_1]
  refine cmp_inv (fun items acc e => ∃ t : List Sp, items = zipD (t.map spD) ((t.map spD).drop 1) ∧ acc ++ wordsG n d t = matchesG roll l n d ∧ (∀ s ∈ t, s ∈ (runG roll l n d).2.ss) ∧ acc.length + t.length ≤ 160 ∧ e = [Sl.v (.int roll), Sl.v (.tuple l), Sl.v (pr n d), Sl.v (.list ((runG roll l n d).2.ss.map spD)), Sl.no, Sl.no]) ?_ ?_ ?_ ?_
  · exact ⟨_, by simp, rfl, fun _ h => h, by simpa using hlen, rfl⟩
  · rintro x0 r0 acc e K ⟨t, ht, hacc, hin, hl2, rfl⟩ hsome hnone
    match t, ht with
    | [], ht => cases ht
    | [s], ht => cases ht
    | s :: u :: t, ht =>
      simp only [List.map_cons, List.drop_succ_cons, List.drop_zero, zipD, List.cons.injEq] at ht
      obtain ⟨rfl, rfl⟩ := ht
      have hs := hss s (hin s List.mem_cons_self)
      have hu := hss u (hin u (by simp))
      have fin := hsome (.str (wordG (wv (u.1.1 - s.1.1) (u.1.2 - s.1.2) n d) n)) _ ⟨u :: t, by simp, by rw [← hacc]; simp [wordsG], fun x hx => hin x (List.mem_cons_of_mem _ hx), by simp at hl2 ⊢; omega, rfl⟩
      simp [cturn, spD, hs, hu, hp, hsn, hsd]
      exact fin
  · rintro x0 r0 acc e ⟨t, ht, hacc, hin, hl2, rfl⟩
    show _ < 16777216
    omega
  · rintro acc e ⟨t, ht, hacc, hin, hl2, rfl⟩
    have : wordsG n d t = [] := by
      match t, ht with
      | [], _ => rfl
      | [s], _ => rfl
      | s :: u :: t, ht => cases ht
    rw [this, List.append_nil] at hacc
    simp [hacc, api_post, ho]
end KL

set_option Elab.async false
set_option linter.all false
set_option maxRecDepth 100000
set_option maxHeartbeats 1000000
set_option exponentiation.threshold 2000
namespace KL
open PySem PySem.Spec PyProof.Rows L2 Mp
section
variable {hv : Hdv} {h : Hdv} {r : R} {x : Str} {v : PyData} {a b c d lo hi n k : Int} {src l : List PyData} {ds : List PyData}
@[simp] theorem source_pre {ns : List Int} : s_source.pre (.sc ns) [.int k] = (0 ≤ k ∧ k ≤ 20) := by simp [s_source]
@[simp] theorem source_post : s_source.post hv ds r h = ∃ src, r = .o src ∧ Src src := rfl
@[simp] theorem source_exc {p : PyData} {h : Hdv} : s_source.exc hv ds x p h = False := rfl
@[simp] theorem io_exc {pre : List PyData → Prop} {post : List PyData → R → Prop} {p : PyData} {h : Hdv} : (ioS pre post).exc hv ds x p h = False := rfl
@[simp] theorem pick_pre : s_pick.pre (.io src) [.int n] = (Src src ∧ 0 < n ∧ n < 2 ^ 60) := by simp [s_pick, ioS]
@[simp] theorem pick_post : s_pick.post hv [.int n] r h = ∃ src, h = .io src ∧ Src src ∧ ∃ m, r = .v (.int m) ∧ 0 ≤ m ∧ m < n := by simp [s_pick, ioS]
@[simp] theorem pick_exc {p : PyData} {h : Hdv} : s_pick.exc hv ds x p h = False := rfl
@[simp] theorem chosen_pre : s_chosen.pre (.io src) [.list l] = (Src src ∧ l ≠ [] ∧ l.length < 2 ^ 59) := by simp [s_chosen, ioS]
@[simp] theorem chosen_post : s_chosen.post hv [.list l] r h = ∃ src, h = .io src ∧ Src src ∧ ∃ x, x ∈ l ∧ r = .v x := by simp [s_chosen, ioS]
@[simp] theorem chosen_exc {p : PyData} {h : Hdv} : s_chosen.exc hv ds x p h = False := rfl
@[simp] theorem single_pre : s_single.pre (.io src) [] = Src src := by simp [s_single, ioS]
@[simp] theorem single_post : s_single.post hv ds r h = ∃ src, h = .io src ∧ Src src ∧ ∃ v, r = .v v ∧ plainB v = true ∧ gd 8 3 v = true := rfl
@[simp] theorem single_exc {p : PyData} {h : Hdv} : s_single.exc hv ds x p h = False := rfl
@[simp] theorem some_pre : s_some.pre (.io src) [.int k] = (Src src ∧ 1 ≤ k ∧ k ≤ 8) := by simp [s_some, ioS]
@[simp] theorem some_post : s_some.post hv ds r h = ∃ src, h = .io src ∧ Src src ∧ ∃ l, r = .v (.tuple l) ∧ l ≠ [] ∧ scriptB (.tuple l) = true ∧ gd 8 6 (.tuple l) = true ∧ ∃ n : Int, ds = [.int n] ∧ (l.length : Int) ≤ n := rfl
@[simp] theorem some_exc {p : PyData} {h : Hdv} : s_some.exc hv ds x p h = False := rfl
@[simp] theorem patterns_pre : s_patterns.pre (.io src) [.int k] = (Src src ∧ k = 1) := by simp [s_patterns, ioS]
@[simp] theorem patterns_post : s_patterns.post hv ds r h = ∃ src, h = .io src ∧ Src src ∧ ∃ l, r = .o l ∧ l.length = 1 ∧ ∀ v ∈ l, ∃ n d, v = pr n d ∧ Pat n d ∧ n.natAbs ≤ 10 ^ 10 ∧ d.natAbs ≤ 10 ^ 10 ∧ d ≤ 4 * n := rfl
@[simp] theorem patterns_exc {p : PyData} {h : Hdv} : s_patterns.exc hv ds x p h = False := rfl
end
theorem mul_r {a b : Int} (h : -(2 ^ 64) < b ∧ b < 2 ^ 64) : Mp.MulOk a b := .inr (.inr h)
theorem k_source : Keeps G 4 .sc 2 s_source b_law_source := by
  rintro hv ds hk hl ⟨ns, k, rfl, rfl, h0, h20⟩
  have m1 : ∀ a : Int, Mp.MulOk a 16807 := fun a => mul_r (by omega)
  have m2 : ∀ a : Int, Mp.MulOk a k := fun a => mul_r (by omega)
  have m3 : ∀ x : Int, Mp.MulOk (x % 2147481173) (x % 2147481173) := fun x => mul_r (by omega)
  have fin : ∀ n s : Int, 0 ≤ n → Src [.int n, .int (s % 2147481151 + 2 * k + 5)] := fun n s hn => ⟨n, _, rfl, hn, by omega, by omega⟩
  simp [b_law_source, env0, line, m1, m2, m3]
  have tail : ∀ n s : Int, (if 1000000000000000000 ≤ n then Src [.int n, .int (s % 2147481151 + 2 * k + 5)] else Src [.int 0, .int (s % 2147481151 + 2 * k + 5)]) := fun n s => by
    split
    · exact fin _ _ (by omega)
    · exact fin _ _ (by omega)
  split
  · rename_i hk2
    refine ixAt_n h0 (by simp; omega) ?_
    simp [m1, m2, m3, line, tail]
  · exact fin _ _ (by omega)
theorem k_pick : Keeps G 3 .io 2 s_pick b_law_pick := by
  rintro hv ds hk hl ⟨src, rfl, ⟨a, b, rfl, ha, hb, hb2⟩, n, rfl, n0, n1⟩
  have hlog : n.natAbs.log2 < 9000 := by
    rcases Nat.eq_zero_or_pos n.natAbs with e | e
    · rw [e]; simp
    · have h60 : n.natAbs < 2 ^ 60 := by omega
      have := (Nat.log2_lt (n := n.natAbs) (k := 60) (by omega)).mpr h60
      omega
  have m1 : ∀ a : Int, Mp.MulOk a 44497 := fun a => mul_r (by omega)
  have m3 : ∀ x : Int, Mp.MulOk (x % 2147483647) (x % 2147483647) := fun x => mul_r (by omega)
  simp [b_law_pick, env0, line, hlog, n0, m1, m3]
  split
  · rename_i h
    exact ⟨⟨_, _, rfl, Int.ediv_nonneg ha (by omega), hb, hb2⟩, Int.emod_nonneg _ (by omega), Int.emod_lt_of_pos _ n0⟩
  · rename_i h
    exact ⟨by decide, ⟨_, _, rfl, ha, by omega, by omega⟩, Int.emod_nonneg _ (by omega), Int.emod_lt_of_pos _ n0⟩
theorem k_chosen : Keeps G 2 .io 2 s_chosen b_law_chosen := by
  rintro hv ds hk hl ⟨src, rfl, hs, l, rfl, h1, h2⟩
  simp [b_law_chosen, env0, line, hs]
  refine ⟨⟨List.length_pos_iff.mpr h1, by omega⟩, ?_⟩
  rintro _ _ src' rfl hs' m rfl h0 h2
  simp
  refine ixAt_n h0 (by omega) ?_
  simp [hs']
theorem plain_1 {x : PyData} : plainB (.tuple [x]) = match x with
  | .str s => decide (s ∈ placeT)
  | _ => false := by cases x <;> rfl
theorem one_8 {q : Int} (h : 1 ≤ q) (h2 : q ≤ 8) : q = 1 ∨ q = 2 ∨ q = 3 ∨ q = 4 ∨ q = 5 ∨ q = 6 ∨ q = 7 ∨ q = 8 := by omega
theorem low_4 {q : Int} (h : 1 ≤ q) (h2 : q ≤ 8) : plainB (.tuple [.str "cut", lowD q 4]) = true ∧ gd 8 3 (.tuple [.str "cut", lowD q 4]) = true := by
  obtain rfl | rfl | rfl | rfl | rfl | rfl | rfl | rfl := one_8 h h2 <;> decide +kernel
theorem k_single : Keeps G 2 .io 1 s_single b_law_single := by
  rintro hv ds hk hl ⟨src, rfl, hs, rfl⟩
  simp [b_law_single, env0, hs]
  rintro _ _ src1 rfl hs1 m rfl h0 h1
  simp
  split
  · simp [hs1]
    rintro _ _ src2 rfl hs2 m2 rfl h02 h12
    simp [hs2]
    rintro r _ src3 rfl hs3 hx
    obtain ⟨q, rfl, hq1, hq2⟩ : ∃ q : Int, r = .v (.int q) ∧ 1 ≤ q ∧ q ≤ 8 := by
      rcases hx with h | h | h | h | h
      · exact ⟨_, h, by omega, by omega⟩
      · exact ⟨_, h, by omega, by omega⟩
      · exact ⟨_, h, by omega, by omega⟩
      · exact ⟨_, h, by omega, by omega⟩
      · exact ⟨_, h, by omega, by omega⟩
    have l4 : Nat.log2 4 < 8000 := by decide
    have lo := low_4 hq1 hq2
    simp [hs3, l4, lo.1, lo.2]
  · simp [hs1]
    rintro r _ src3 rfl hs3 hx
    obtain ⟨q, rfl, hq⟩ : ∃ q : Str, r = .v (.str q) ∧ q ∈ placeT := by
      rcases hx with h | h | h | h
      · exact ⟨_, h, by decide⟩
      · exact ⟨_, h, by decide⟩
      · exact ⟨_, h, by decide⟩
      · exact ⟨_, h, by decide⟩
    have h1 : plainB (.tuple [.str q]) = true := by simp [plain_1, hq]
    have h2 : gd 8 3 (.tuple [.str q]) = true := by
      simp only [placeT, List.mem_cons, List.not_mem_nil, or_false] at hq
      rcases hq with rfl | rfl | rfl | rfl <;> decide +kernel
    simp [hs3, h1, h2]
theorem step_of_plain {v : PyData} (h : plainB v = true) : stepB v = true := by simp [stepB, h]
theorem all_snoc {P : PyData → Prop} {l : List PyData} {x : PyData} (h : ∀ y ∈ l, P y) (hx : P x) : ∀ y ∈ l ++ [x], P y := fun y hy => by
  rcases List.mem_append.mp hy with h' | h'
  · exact h y h'
  · rw [List.mem_singleton.mp h']; exact hx
theorem k_some : Keeps G 7 .io 2 s_some b_law_some := by
  rintro hv ds hk hl ⟨src, rfl, hs, kk, rfl, k1, k2⟩
  have k0 : 0 < kk := by omega
  have k3 : kk < 2 ^ 60 := by omega
  simp [b_law_some, env0, hs, k0]
  refine ⟨by omega, ?_⟩
  rintro _ _ src1 rfl hs1 m rfl h0 h1
  simp
  refine ⟨⟨by omega, by omega⟩, ?_⟩
  refine for_of (fun rem e => ∃ src acc a b c d, e = [Sl.io src, Sl.v (.int kk), Sl.v (.tuple acc), a, b, c, d] ∧ Src src ∧ acc.length + rem.length = (1 + m).toNat ∧ ∀ y ∈ acc, stepB y = true ∧ gd 8 5 y = true)
    ⟨src1, [], _, _, _, _, rfl, hs1, by simp [rngD], by simp⟩ ?_ ?_
  · rintro t rem e K ht ⟨src, acc, a, b, c, d, rfl, hs, hlen, hacc⟩ hK
    simp [hs]
    rintro _ _ src2 rfl hs2 v rfl hp hg
    simp [hs2]
    rintro _ _ src3 rfl hs3 m3 rfl h03 h13
    simp at hlen
    have la : acc.length < 8 := by omega
    simp
    split
    · simp [hs3]
      rintro _ _ src4 rfl hs4 m4 rfl h04 h14
      simp
      refine ⟨⟨by omega, by omega⟩, ?_⟩
      refine cmp_inv (fun rem' acc' e => ∃ src, e = [Sl.io src, Sl.v (.int kk), Sl.v (.tuple acc), Sl.v t, Sl.v v, c, Sl.no] ∧ Src src ∧ acc'.length + rem'.length = (1 + m4).toNat ∧ ∀ y ∈ acc', plainB y = true ∧ gd 8 3 y = true)
        ⟨src4, rfl, hs4, by simp [rngD], by simp⟩ ?_ ?_ ?_
      · rintro d' r' acc' e' K' ⟨src, rfl, hs', hlen', hacc'⟩ hsome hnone
        simp [cturn, hs']
        rintro _ _ src5 rfl hs5 v5 rfl hp5 hg5
        simp
        exact hsome _ _ ⟨src5, rfl, hs5, by simp at hlen' ⊢; omega, all_snoc hacc' ⟨hp5, hg5⟩⟩
      · rintro d' r' acc' e' ⟨src, rfl, hs', hlen', hacc'⟩
        simp at hlen'
        show _ < 16777216
        omega
      · rintro acc' e' ⟨src, rfl, hs', hlen', hacc'⟩
        simp at hlen'
        simp [hs']
        rintro _ _ src6 rfl hs6 m6 rfl h06 h16
        simp
        refine ⟨by omega, ?_⟩
        refine hK _ ⟨src6, _, _, _, _, _, rfl, hs6, by simp; omega, all_snoc hacc ⟨?_, ?_⟩⟩
        · have c1 : 2 ≤ 2 + m6 := by omega
          have c2 : 2 + m6 ≤ 5 := by omega
          have c3 : 1 ≤ acc'.length := by omega
          have c4 : acc'.length ≤ 4 := by omega
          have c5 : acc'.all plainB = true := List.all_eq_true.mpr fun y hy => (hacc' y hy).1
          simp [stepB, repB, c1, c2, c3, c4, c5]
        · have c4 : acc'.length ≤ 8 := by omega
          have c5 : ∀ y ∈ acc', gd 8 3 y = true := fun y hy => (hacc' y hy).2
          have c6 : (2 + m6).natAbs ≤ 100000000000000000000000000000000000000000 := by omega
          have c7 : PyData.strOk "repeat" = true := by decide +kernel
          have c8 : ("repeat" : Str).length ≤ 100 := by decide +kernel
          simp [gd, c4, c6, c7, c8]
          exact c5
    · refine ⟨by omega, ?_⟩
      exact hK _ ⟨src3, _, _, _, _, _, rfl, hs3, by simp; omega, all_snoc hacc ⟨step_of_plain hp, gd_up1 (by omega) (by omega) hg⟩⟩
  · rintro e ⟨src, acc, a, b, c, d, rfl, hs, hlen, hacc⟩
    simp at hlen
    have c1 : acc.length ≤ 8 := by omega
    have c2 : acc ≠ [] := fun z => by subst z; simp at hlen; omega
    have c3 : acc.all stepB = true := List.all_eq_true.mpr fun y hy => (hacc y hy).1
    have c4 : ∀ y ∈ acc, gd 8 5 y = true := fun y hy => (hacc y hy).2
    have c5 : gd 8 6 (.tuple acc) = true := by simp [gd, c1]; exact c4
    have c6 : scriptB (.tuple acc) = true := by simp [scriptB, c1]; simpa using c3
    have c7 : (acc.length : Int) ≤ kk := by omega
    simp [hs, c2, c5, c6, c7]
end KL

set_option Elab.async false
set_option linter.all false
set_option maxRecDepth 100000
set_option maxHeartbeats 1000000
/-! Roll: the small defs. -/
namespace KL
open PySem PySem.Spec PyProof.Rows L2 Mp
@[simp] theorem hdSl_ob {c : Nat} {fs : List Fd} : hdSl (.ob c fs) = [.ib c fs] := rfl
@[simp] theorem endH_ob {c c' : Nat} {fs gs : List Fd} {z : Mp.Env} {Q : Hdv → Prop} : endH (.ob c fs) (.ib c' gs :: z) Q = (c' = c ∧ Q (.ob c gs)) := rfl
@[simp] theorem past_is : past = ("past" : Str) := rfl
@[simp] theorem isn_n : isNone .none = true := rfl
@[simp] theorem isn_t {l : List PyData} : isNone (.tuple l) = false := rfl
@[simp] theorem s_dead {z : Mp.Env} {D : Pst} : Mp.wpS G .dead z D = False := by simp only [Mp.wpS]
theorem k_place : Keeps G 1 (.ob 0) 1 (getS fun _ _ c _ _ => c) b_Roll_place := by
  rintro hv ds hk hl ⟨rfl, a, b, c, d, e, p, rfl⟩
  simp [b_Roll_place, env0, Ro, getS, L2.atI]
theorem k_waste2 : Keeps G 1 (.ob 0) 1 (getS fun _ _ _ d _ => d) b_Roll_waste := by
  rintro hv ds hk hl ⟨rfl, a, b, c, d, e, p, rfl⟩
  simp [b_Roll_waste, env0, Ro, getS, L2.atI]
theorem k_strips2 : Keeps G 1 (.ob 0) 1 (getS fun _ _ _ _ e => e) b_Roll_strips := by
  rintro hv ds hk hl ⟨rfl, a, b, c, d, e, p, rfl⟩
  simp [b_Roll_strips, env0, Ro, getS, L2.atI]
theorem k_length : Keeps G 1 (.ob 0) 1 (getS fun a _ _ _ _ => a) b_Roll_length := by
  rintro hv ds hk hl ⟨rfl, a, b, c, d, e, p, rfl⟩
  simp [b_Roll_length, env0, Ro, getS, L2.atI]
theorem k_pattern : Keeps G 1 (.ob 0) 1 (getS fun _ b _ _ _ => b) b_Roll_pattern := by
  rintro hv ds hk hl ⟨rfl, a, b, c, d, e, p, rfl⟩
  simp [b_Roll_pattern, env0, Ro, getS, L2.atI]
theorem k_keep : Keeps G 2 (.ob 0) 2 keepS b_Roll_keep := by
  rintro hv ds hk hl ⟨a, b, c, d, e, p, v, rfl, rfl, hp, hv⟩
  rcases hv with rfl | ⟨x, y, z, rfl⟩
  · simp [b_Roll_keep, env0, Ro, keepS]
  · have : ¬ ((p.length : Int) = 60) := by omega
    have hl2 : p.length < 16777216 := by omega
    have nn : ¬ (("now" : Str) = "past") := by decide
    simp [b_Roll_keep, env0, Ro, keepS, this, line, hl2, nn]
    exact ⟨_, _, _, _, _, _, ⟨⟨rfl, rfl⟩, ⟨rfl, rfl, rfl⟩, rfl⟩, _, _, _, ⟨rfl, rfl, rfl⟩, ⟨rfl, rfl⟩, ⟨rfl, rfl, rfl⟩, rfl, rfl, rfl, rfl⟩
theorem k_undo : Keeps G 1 (.ob 0) 1 undoS b_Roll_undo := by
  rintro hv ds hk hl ⟨rfl, a, b, c, d, e, p, rfl, hp, hs, hv⟩
  rcases List.eq_nil_or_concat p with rfl | ⟨q, w, rfl⟩
  · simp [b_Roll_undo, env0, Ro, undoS, hs]
  · obtain ⟨x, y, z, rfl⟩ := hv w (by simp)
    have nn : ¬ (("now" : Str) = "past") := by decide
    rw [List.concat_eq_append] at hs
    simp [b_Roll_undo, env0, Ro, undoS, hs, nn]
    exact ⟨_, _, _, _, _, _, _, _, _, ⟨⟨rfl, rfl⟩, ⟨rfl, rfl, rfl⟩, rfl, rfl, rfl, rfl⟩, ⟨rfl, rfl⟩, ⟨rfl, rfl, rfl⟩, rfl⟩
end KL

set_option Elab.async false
set_option linter.all false
set_option maxRecDepth 100000
set_option maxHeartbeats 1000000
/-! Roll: how it is made. -/
namespace KL
open PySem PySem.Spec PyProof.Rows L2 Mp
theorem k_init : Keeps G 3 (.ob 0) 3 initS b_Roll___init := by
  rintro hv ds hk hl ⟨rfl, a, b, rfl, ha, hb, hr, hp⟩
  have n1 : ¬ (("both" : Str) = "past") := by decide
  have n2 : ¬ (("now" : Str) = "past") := by decide
  simp [b_Roll___init, env0, Ro, initS, ha, hb, hr, hp, n1, n2, line]
end KL

set_option Elab.async false
set_option linter.all false
set_option maxRecDepth 100000
set_option maxHeartbeats 1000000
set_option exponentiation.threshold 2000
namespace KL
open PySem PySem.Spec PyProof.Rows L2 Mp
section
variable {hv : Hdv} {h : Hdv} {r : R} {a b c d : Int}
@[simp] theorem less_preT : s_less.pre hv [.tuple [.int a, .int b], .tuple [.int c, .int d]] = (Sz a ∧ Sz b ∧ Sz c ∧ Sz d) := less_pre
@[simp] theorem less_postT : s_less.post hv [.tuple [.int a, .int b], .tuple [.int c, .int d]] r h = (r = .v (.bool (decide (a * d < c * b)))) := rfl
end
def GP (v : PyData) : Prop := ∃ n d, v = pr n d ∧ Pat n d ∧ n.natAbs ≤ 10 ^ 10 ∧ d.natAbs ≤ 10 ^ 10 ∧ d ≤ 4 * n
theorem low_form {a b : Int} (ha : 1 ≤ a) (h1 : 1 ≤ b) : ∃ p q : Int, lowD a b = .tuple [.int p, .int q] ∧ 1 ≤ q ∧ q ≤ b ∧ 1 ≤ p ∧ p ≤ a ∧ Int.gcd p q = 1 := by
  have g := gcd_pos (a := a) (show 0 < b by omega)
  have e1 := gcd_a a b
  have hq := low_b_pos (a := a) (show 0 < b by omega)
  have hp : 0 < a / (Int.gcd a b : Int) := by
    by_cases z : 0 < a / (Int.gcd a b : Int)
    · exact z
    · have := Int.mul_nonpos_of_nonneg_of_nonpos (Int.le_of_lt g) (show a / (Int.gcd a b : Int) ≤ 0 by omega)
      omega
  have b1 := Int.natAbs_ediv_le_natAbs a (Int.gcd a b : Int)
  have b2 := Int.natAbs_ediv_le_natAbs b (Int.gcd a b : Int)
  exact ⟨_, _, rfl, by omega, by omega, by omega, by omega, low_cop (by omega)⟩
theorem Sz_s {i : Int} (h : i.natAbs ≤ 10 ^ 30) : Sz i := Nat.lt_of_le_of_lt h (by decide)
theorem log_small {i : Int} (h : i.natAbs ≤ 10 ^ 30) : i.natAbs.log2 < 8000 := by have := (Sz_s h).log; omega
theorem GP_14 : GP (.tuple [.int 1, .int 4]) := ⟨1, 4, rfl, ⟨by decide, by decide, by decide, Sf_small (by decide), Sf_small (by decide)⟩, by decide, by decide, by decide⟩
theorem GP_of {x y : Int} (hx : 1 ≤ x) (hy : 1 ≤ y) (x2 : x.natAbs ≤ 10 ^ 10) (y2 : y.natAbs ≤ 10 ^ 10) (hg : Int.gcd x y = 1) (h : y ≤ 4 * x) : GP (.tuple [.int x, .int y]) :=
  ⟨x, y, rfl, ⟨by omega, by omega, hg, Nat.lt_of_le_of_lt x2 (by decide), Nat.lt_of_le_of_lt y2 (by decide)⟩, x2, y2, h⟩
theorem k_patterns : Keeps G 6 .io 2 s_patterns b_law_patterns := by
  rintro hv ds hk hl ⟨src, rfl, hs, rfl⟩
  simp [b_law_patterns, env0, hs]
  refine for_of (fun rem e => ∃ src acc a b c, e = [Sl.io src, Sl.v (.int 1), Sl.o acc, a, b, c] ∧ Src src ∧ acc.length + rem.length = 1 ∧ ∀ y ∈ acc, GP y)
    ⟨src, [], _, _, _, rfl, hs, by simp [rngD], by simp⟩ ?_ ?_
  · rintro t rem e K ht ⟨src, acc, a, b, c, rfl, hs, hlen, hacc⟩ hK
    simp at hlen
    simp [hs]
    rintro _ _ src2 rfl hs2 m2 rfl h02 h12
    simp [hs2]
    rintro _ _ src3 rfl hs3 m3 rfl h03 h13
    have hm3 : Mp.MulOk 2 (1 + m3) := mul_r (by omega)
    have hlg := log_small (i := 2 * (1 + m3)) (by omega)
    have h1b : 1 ≤ 2 * (1 + m3) := by omega
    obtain ⟨p, q, e, hq1, hq2, hp1, hp2, hg⟩ := low_form (a := 1 + m2) (by omega) h1b
    simp [hs3, hm3, hlg, h1b, e]
    rintro _ _ src4 rfl hs4 m4 rfl h04 h14
    simp
    have l4 : Sz 4 := Sz_4
    have l1 : Sz 1 := Sz_1
    have fin : ∀ (src : List PyData) (x y : Int) (d : Sl), Src src → 1 ≤ x → 1 ≤ y → x.natAbs ≤ 10 ^ 10 → y.natAbs ≤ 10 ^ 10 → Int.gcd x y = 1 → ∀ z, (z = .tuple [.int x, .int y] ∧ y ≤ 4 * x ∨ z = .tuple [.int 1, .int 4]) → K [Sl.io src, Sl.v (.int 1), Sl.o (acc ++ [z]), Sl.v t, Sl.v (.tuple [.int x, .int y]), d] := by
      intro src x y d hs hx1 hy1 hx hy hg z hz
      refine hK _ ⟨src, _, _, _, _, rfl, hs, by simp; omega, all_snoc hacc ?_⟩
      rcases hz with ⟨rfl, h4⟩ | rfl
      · exact GP_of hx1 hy1 hx hy hg h4
      · exact GP_14
    split
    · rename_i e3
      subst e3
      have a1 : Mp.MulOk p 10000000 := mul_r (by omega)
      have a2 : Mp.MulOk q 10000000 := mul_r (by omega)
      have a3 : 1 ≤ q * 10000000 := by omega
      have a4 := log_small (i := q * 10000000) (by omega)
      obtain ⟨p', q', e', hq1', hq2', hp1', hp2', hg'⟩ := low_form (a := p * 10000000 + 1) (by omega) a3
      have b1 := Sz_s (i := p') (by omega)
      have b2 := Sz_s (i := q') (by omega)
      simp [a1, a2, a3, a4, e', b1, b2, l4, l1]
      split
      · exact ⟨by omega, fin _ _ _ _ hs4 hp1' hq1' (by omega) (by omega) hg' _ (.inr rfl)⟩
      · exact ⟨by omega, fin _ _ _ _ hs4 hp1' hq1' (by omega) (by omega) hg' _ (.inl ⟨rfl, by omega⟩)⟩
    · rename_i e3
      split
      · rename_i e4
        subst e4
        simp [hs4]
        rintro _ _ src5 rfl hs5 m5 rfl h05 h15
        simp [hs5]
        rintro _ _ src6 rfl hs6 m6 rfl h06 h16
        have a3 : 1 ≤ 1 + m6 := by omega
        have a4 := log_small (i := 1 + m6) (by omega)
        obtain ⟨p', q', e', hq1', hq2', hp1', hp2', hg'⟩ := low_form (a := 1 + m5) (by omega) a3
        have b1 := Sz_s (i := p') (by omega)
        have b2 := Sz_s (i := q') (by omega)
        simp [a3, a4, e', b1, b2, l4, l1]
        split
        · exact ⟨by omega, fin _ _ _ _ hs6 hp1' hq1' (by omega) (by omega) hg' _ (.inr rfl)⟩
        · exact ⟨by omega, fin _ _ _ _ hs6 hp1' hq1' (by omega) (by omega) hg' _ (.inl ⟨rfl, by omega⟩)⟩
      · have b1 := Sz_s (i := p) (by omega)
        have b2 := Sz_s (i := q) (by omega)
        simp [b1, b2, l4, l1]
        split
        · exact ⟨by omega, fin _ _ _ _ hs4 hp1 hq1 (by omega) (by omega) hg _ (.inr rfl)⟩
        · exact ⟨by omega, fin _ _ _ _ hs4 hp1 hq1 (by omega) (by omega) hg _ (.inl ⟨rfl, by omega⟩)⟩
  · rintro e ⟨src, acc, a, b, c, rfl, hs, hlen, hacc⟩
    simp at hlen
    simp [hs, hlen]
    exact hacc
end KL

set_option Elab.async false
set_option linter.all false
set_option maxRecDepth 100000
set_option maxHeartbeats 1000000
namespace KL
open PySem PySem.Spec PyProof.Rows L2 Mp
theorem k_lawsum : Keeps G 3 .no 3 sumS b_law_sum := by
  rintro hv ds hk hl ⟨a, b, c, d, rfl, hb, hd, sa, sb, sc, sd⟩
  cases hv <;> cases hk
  obtain ⟨x, y, g, e1, g1, rfl, rfl, hy, sx, sy⟩ := low_raw a b hb sa sb
  obtain ⟨z, w, g', e2, g2, rfl, rfl, hw, sz, sw⟩ := low_raw c d hd sc sd
  have post := fr_post (f := fun a b c d => a * d - c * b) (g := fun _ b _ d => b * d) (x := x * w - z * y) (y := y * w) (a := g * x) (b := g * y) (c := g' * z) (d := g' * w) (hv := .no) (h := .no) (fun a b c d h h' => Int.mul_pos h h') (fun a b c d a' b' c' d' h1 h2 h3 h4 e e' => by grind) hb hd
    (low_cross (Int.mul_pos hy hw) (Int.mul_pos hb hd) (by grind))
  rw [e1, e2] at post ⊢
  have p1 : 1 ≤ y * w := Int.mul_pos hy hw
  have m1 : Mp.MulOk (-1) z := .inr (.inl ⟨by decide, by decide⟩)
  have sn : Sz (-z) := by unfold Sz at *; simpa using sz
  have m2 : Mp.MulOk (-z) y := sn.mulOk sy
  have ee : x * w + -z * y = x * w - z * y := by grind
  have post' := post
  simp [b_law_sum, env0, pr, sx.mulOk sw, m1, m2, sy.mulOk sw, sy.mul_log sw, p1, ee]
  intro a b c d h1 h2 h3
  exact post' a b c d (congrArg (List.take 2) h1) h2 h3

end KL

set_option Elab.async false
set_option linter.all false
set_option maxRecDepth 100000
set_option maxHeartbeats 1000000
set_option exponentiation.threshold 2000
/-! forms of any place, at one pattern -/
namespace KL
open PySem PySem.Spec PyProof.Rows L2 Mp
theorem fQ_inj {u A m A' m' : Int} (hu : 0 < u) (h : fQ u A m = fQ u A' m') : A = A' ∧ m = m' := by
  unfold fQ at h
  simp only [PyData.tuple.injEq, List.cons.injEq, and_true] at h
  have e1 := low_inv hu hu h.1
  have e2 := low_inv (by omega) (by omega) h.2
  exact ⟨Int.eq_of_mul_eq_mul_right (by omega) e1, by omega⟩
section
variable {hv h : Hdv} {r : R} {x : Str} {u A m A' m' B n d : Int} {ds : List PyData}
theorem fq_pre {f : Int → Int → Int} (hu : 0 < u) (su : Sf u) (s1 : SF A m) (s2 : SF A' m') : (fqS f).pre hv [fQ u A m, fQ u A' m'] := ⟨u, A, m, A', m', rfl, hu, su, s1, s2⟩
@[simp] theorem fsum2_exc {p : PyData} {h : Hdv} : s_fsum2.exc hv ds x p h = False := rfl
@[simp] theorem fless2_exc {p : PyData} {h : Hdv} : s_fless2.exc hv ds x p h = False := rfl
theorem low_eq_of {a b u : Int} (hu : 0 < u) (h : lowD a u = lowD b u) : a = b := Int.eq_of_mul_eq_mul_right (Int.ne_of_gt hu) (low_inv hu hu h)
/-- the same fractions, whatever they are written with -/
theorem low_sum {a b u a' b' u' : Int} (hu : 0 < u) (hu' : 0 < u') (h1 : lowD a u = lowD a' u') (h2 : lowD b u = lowD b' u') : lowD (a + b) u = lowD (a' + b') u' ∧ lowD (a - b) u = lowD (a' - b') u' := by
  have e1 := low_inv hu hu' h1
  have e2 := low_inv hu hu' h2
  exact ⟨low_cross hu hu' (by rw [Int.add_mul, Int.add_mul, e1, e2]), low_cross hu hu' (by rw [Int.sub_mul, Int.sub_mul, e1, e2])⟩
theorem fsum2_post (hu : 0 < u) : s_fsum2.post hv [fQ u A m, fQ u A' m'] r h = (r = .v (fQ u (A + A') (m + m'))) := propext ⟨fun q => q u A m A' m' rfl hu, fun q u2 a b c e hh h2 => by
  rw [q]
  simp only [fQ, List.cons.injEq, PyData.tuple.injEq, and_true] at hh
  obtain ⟨⟨h3, h4⟩, h5, h6⟩ := hh
  have := (low_sum hu h2 h3 h5).1
  have h7 := low_eq_of (by decide) h4
  have h8 := low_eq_of (by decide) h6
  subst h7 h8
  unfold fQ; rw [this]⟩
theorem fless2_post (hu : 0 < u) : s_fless2.post hv [fQ u A m, fQ u A' m'] r h = (r = .v (fQ u (A - A') (m - m'))) := propext ⟨fun q => q u A m A' m' rfl hu, fun q u2 a b c e hh h2 => by
  rw [q]
  simp only [fQ, List.cons.injEq, PyData.tuple.injEq, and_true] at hh
  obtain ⟨⟨h3, h4⟩, h5, h6⟩ := hh
  have := (low_sum hu h2 h3 h5).2
  have h7 := low_eq_of (by decide) h4
  have h8 := low_eq_of (by decide) h6
  subst h7 h8
  unfold fQ; rw [this]⟩
@[simp] theorem value2_pre (hd : 0 < d) : s_value2.pre hv [fQ (4 * d) A m, pr n d] = (SF A m ∧ Pat n d) := propext ⟨fun ⟨A', m', n', d', e, q⟩ => by
  simp only [List.cons.injEq, and_true] at e
  obtain ⟨e1, e2⟩ := e
  obtain ⟨rfl, rfl⟩ := pr_inj e2
  obtain ⟨rfl, rfl⟩ := fQ_inj (by omega) e1
  exact q, fun q => ⟨A, m, n, d, rfl, q⟩⟩
@[simp] theorem value2_post : s_value2.post hv [fQ (4 * d) A m, pr n d] r h = (0 < d ∧ r = .v (lowD (pv n A m) (4 * d))) := propext ⟨fun ⟨A', m', n', d', e, q⟩ => by
  simp only [List.cons.injEq, and_true] at e
  obtain ⟨e1, e2⟩ := e
  obtain ⟨rfl, rfl⟩ := pr_inj e2
  obtain ⟨rfl, rfl⟩ := fQ_inj (by omega) e1
  exact q, fun q => ⟨A, m, n, d, rfl, q⟩⟩
@[simp] theorem value2_exc {p : PyData} {h : Hdv} : s_value2.exc hv ds x p h = False := rfl
@[simp] theorem worth2_pre (hd : 0 < d) : s_worth2.pre hv [fQ (4 * d) A m, pr n d] = (SF A m ∧ Pat n d) := propext ⟨fun ⟨A', m', n', d', e, q⟩ => by
  simp only [List.cons.injEq, and_true] at e
  obtain ⟨e1, e2⟩ := e
  obtain ⟨rfl, rfl⟩ := pr_inj e2
  obtain ⟨rfl, rfl⟩ := fQ_inj (by omega) e1
  exact q, fun q => ⟨A, m, n, d, rfl, q⟩⟩
@[simp] theorem worth2_post : s_worth2.post hv [fQ (4 * d) A m, pr n d] r h = (∃ w, 0 < d ∧ r = .v (.int w) ∧ (0 ≤ w ↔ 0 ≤ pv n A m) ∧ (w ≤ 0 ↔ pv n A m ≤ 0)) := propext ⟨fun ⟨A', m', n', d', w, e, q⟩ => by
  simp only [List.cons.injEq, and_true] at e
  obtain ⟨e1, e2⟩ := e
  obtain ⟨rfl, rfl⟩ := pr_inj e2
  obtain ⟨rfl, rfl⟩ := fQ_inj (by omega) e1
  exact ⟨w, q⟩, fun ⟨w, q⟩ => ⟨A, m, n, d, w, rfl, q⟩⟩
@[simp] theorem worth2_exc {p : PyData} {h : Hdv} : s_worth2.exc hv ds x p h = False := rfl
@[simp] theorem sign2_pre (hd : 0 < d) : s_sign2.pre hv [fQ (4 * d) A m, pr n d, pr n d] = (SF A m ∧ Pat n d) := propext ⟨fun ⟨A', m', n', d', e, q⟩ => by
  simp only [List.cons.injEq, and_true] at e
  obtain ⟨e1, e2, e3⟩ := e
  obtain ⟨rfl, rfl⟩ := pr_inj e2
  obtain ⟨rfl, rfl⟩ := fQ_inj (by omega) e1
  exact q, fun q => ⟨A, m, n, d, rfl, q⟩⟩
@[simp] theorem sign2_post : s_sign2.post hv [fQ (4 * d) A m, pr n d, pr n d] r h = (0 < d ∧ r = .v (sgD (pv n A m) (pv n A m))) := propext ⟨fun ⟨A', m', n', d', e, q⟩ => by
  simp only [List.cons.injEq, and_true] at e
  obtain ⟨e1, e2, e3⟩ := e
  obtain ⟨rfl, rfl⟩ := pr_inj e2
  obtain ⟨rfl, rfl⟩ := fQ_inj (by omega) e1
  exact q, fun q => ⟨A, m, n, d, rfl, q⟩⟩
@[simp] theorem sign2_exc {p : PyData} {h : Hdv} : s_sign2.exc hv ds x p h = False := rfl
end
theorem k_fsum2 : Keeps G 2 .no 2 s_fsum2 b_form_sum2 := by
  rintro hv ds hk hl ⟨u, A, m, A', m', rfl, hu, su, ⟨sk, sm⟩, ⟨sk', sm'⟩⟩
  cases hv <;> cases hk
  have e1 : lowD (A * u + A' * u) (u * u) = lowD (A + A') u := low_cross (Int.mul_pos hu hu) hu (by grind)
  have e2 : lowD (m * 2 + m' * 2) 4 = lowD (m + m') 2 := low_cross (by omega) (by omega) (by omega)
  have post : s_fsum2.post .no [fQ u A m, fQ u A' m'] (.v (fQ u (A + A') (m + m'))) .no := by rw [fsum2_post hu]
  unfold fQ at post ⊢
  simp [b_form_sum2, env0, plus_pre hu hu sk.sz su.sz sk'.sz su.sz, plus_pre p2 p2 sm.sz z2 sm'.sz z2, plus_post hu hu, plus_post p2 p2, e1, e2, post]
theorem k_fless2 : Keeps G 2 .no 2 s_fless2 b_form_less2 := by
  rintro hv ds hk hl ⟨u, A, m, A', m', rfl, hu, su, ⟨sk, sm⟩, ⟨sk', sm'⟩⟩
  cases hv <;> cases hk
  have e1 : lowD (A * u - A' * u) (u * u) = lowD (A - A') u := low_cross (Int.mul_pos hu hu) hu (by grind)
  have e2 : lowD (m * 2 - m' * 2) 4 = lowD (m - m') 2 := low_cross (by omega) (by omega) (by omega)
  have post : s_fless2.post .no [fQ u A m, fQ u A' m'] (.v (fQ u (A - A') (m - m'))) .no := by rw [fless2_post hu]
  unfold fQ at post ⊢
  simp [b_form_less2, env0, minus_pre hu hu sk.sz su.sz sk'.sz su.sz, minus_pre p2 p2 sm.sz z2 sm'.sz z2, minus_post hu hu, minus_post p2 p2, e1, e2, post]
theorem sz4 {d : Int} (h : Sf d) : Sz (4 * d) := sz_mul (i := 3) (j := 330) (by decide) h (by decide)
theorem k_value2 : Keeps G 2 .no 2 s_value2 b_value_of2 := by
  rintro hv ds hk hl ⟨A, m, n, d, rfl, ⟨sk, sm⟩, hp⟩
  cases hv <;> cases hk
  have hd : 0 < d := hp.2.1
  have h2d : 0 < 2 * d := by omega
  have h4d : 0 < 4 * d := by omega
  have e : lowD (A * (2 * d) + m * n * (4 * d)) (4 * d * (2 * d)) = lowD (pv n A m) (4 * d) := low_cross (Int.mul_pos h4d h2d) h4d (by unfold pv; grind)
  have post : s_value2.post .no [fQ (4 * d) A m, pr n d] (.v (lowD (pv n A m) (4 * d))) .no := by rw [value2_post]; exact ⟨hd, rfl⟩
  have sn := hp.2.2.2.1
  have sd := hp.2.2.2.2
  unfold fQ at post ⊢
  rw [hp.low] at post ⊢
  simp [b_value_of2, env0, times_pre p2 hd sm.sz z2 sn.sz sd.sz, times_post p2 hd, plus_pre h4d h2d sk.sz (sz4 sd) (sm.mul sn) (Sf.mul (Sf_small (a := 2) (by decide)) sd), plus_post h4d h2d, e, post]
theorem k_worth2 : Keeps G 4 .no 2 s_worth2 b_worth_sign2 := by
  rintro hv ds hk hl ⟨A, m, n, d, rfl, ⟨sk, sm⟩, hp⟩
  cases hv <;> cases hk
  have hd : 0 < d := hp.2.1
  have sn := hp.2.2.2.1
  have sd := hp.2.2.2.2
  have h4d : 0 < 4 * d := by omega
  have s4 : (4 * d).natAbs < 2 ^ 333 := natAbs_mul_lt (k := 3) (j := 330) (by decide) sd
  have raw : ∃ x y g, lowD A (4 * d) = pr x y ∧ 0 < g ∧ A = g * x ∧ 4 * d = g * y ∧ 0 < y ∧ Sf x ∧ y.natAbs < 2 ^ 333 :=
    ⟨_, _, _, rfl, gcd_pos h4d, (gcd_a A (4 * d)).symm, (gcd_b A (4 * d)).symm, low_b_pos h4d, Nat.lt_of_le_of_lt (Int.natAbs_ediv_le_natAbs _ _) sk, Nat.lt_of_le_of_lt (Int.natAbs_ediv_le_natAbs _ _) s4⟩
  obtain ⟨x, y, g, e1, g1, rfl, e4, hy, sx, sy⟩ := raw
  obtain ⟨z, t, g', e2, g2, rfl, e5, ht, sz, st⟩ := low_rawF (b := 2) m (by omega) sm (Sf_small (by decide))
  have post : s_worth2.post .no [fQ (4 * d) (g * x) (g' * z), pr n d] (.v (.int (x * t * d + z * y * n))) .no := by
    rw [worth2_post]
    have e6 : (g * g' * d) * (x * t * d + z * y * n) = 2 * (d * d * pv n (g * x) (g' * z)) := by unfold pv; grind
    have e7 : 0 < g * g' * d := Int.mul_pos (Int.mul_pos g1 g2) hd
    obtain ⟨q1, q2⟩ := sg_of e7 e6
    have hdd := Int.mul_pos hd hd
    generalize pv n (g * x) (g' * z) = V at *
    refine ⟨_, hd, rfl, q1.trans ⟨fun h => ?_, fun h => Int.mul_nonneg (by omega) h⟩, q2.trans ⟨fun h => ?_, fun h => Int.mul_nonpos_of_nonneg_of_nonpos (by omega) h⟩⟩
    · by_cases k : 0 ≤ V
      · exact k
      · have := Int.mul_neg_of_pos_of_neg hdd (show V < 0 by omega); omega
    · by_cases k : V ≤ 0
      · exact k
      · have := Int.mul_pos hdd (show 0 < V by omega); omega
  unfold fQ at post ⊢
  rw [e1, e2] at post ⊢
  have szy : Sz y := nat_small sy (by decide)
  have m3 : Sz (z * y) := sz_mul sz sy (by decide)
  simp [b_worth_sign2, env0, pr, sx.sz.mulOk st.sz, (sx.mul st).mulOk sd.sz, sz.sz.mulOk szy, m3.mulOk sn.sz]
  simpa [pr] using post
theorem k_sign2 : Keeps G 5 .no 3 s_sign2 b_sign_in2 := by
  rintro hv ds hk hl ⟨A, m, n, d, rfl, sf, hp⟩
  cases hv <;> cases hk
  have hd : 0 < d := hp.2.1
  simp [b_sign_in2, env0, sf, hp, hd]
  rintro _ w rfl p1 p2
  simp [sf, hp, hd]
  rintro _ w' rfl q1 q2
  simp
  generalize pv n A m = V at *
  by_cases h1 : 0 ≤ w
  · have h1' := p1.mp h1
    have h2 := q1.mpr h1'
    have e3 : (0 < w + w') ↔ 0 < V + V := by
      constructor <;> intro z <;> by_cases k : V ≤ 0
      · have := p2.mpr k; have := q2.mpr k; omega
      · omega
      · omega
      · have : ¬ w ≤ 0 := fun z => k (p2.mp z)
        omega
    simp [h1, h2, sgD, h1']
    by_cases z : 0 < w + w'
    · simp [z, e3.mp z, hd]
    · have : ¬ 0 < V + V := fun k => z (e3.mpr k)
      simp [z, this, hd]
  · have h1' : ¬ 0 ≤ V := fun z => h1 (p1.mpr z)
    have h3 : V ≤ 0 := by omega
    have h4 : w ≤ 0 := by omega
    have h5 : w' ≤ 0 := q2.mpr h3
    simp [h1, sgD, h1', h3, h4, h5, hd]
end KL

set_option Elab.async false
set_option linter.all false
set_option maxRecDepth 100000
set_option maxHeartbeats 1000000
set_option exponentiation.threshold 2000
/-! next places at one pattern -/
namespace KL
open PySem PySem.Spec PyProof.Rows L2 Mp
section
variable {hv h : Hdv} {r : R} {x w : Str} {A m A' m' B n d : Int} {ss : List Sq2} {ds : List PyData}
@[simp] theorem next2_pre (hd : 0 < d) : s_next2.pre hv [fQ (4 * d) A m, fQ (4 * d) A' m', pr n d, pr n d] = ((Sq A ∧ Sq m) ∧ (Sq A' ∧ Sq m') ∧ Pt n d) := propext ⟨fun ⟨a, b, c, f, n2, d2, e, q⟩ => by
  simp only [List.cons.injEq, and_true] at e
  obtain ⟨e1, e2, e3, e4⟩ := e
  obtain ⟨rfl, rfl⟩ := pr_inj e3
  obtain ⟨rfl, rfl⟩ := fQ_inj (by omega) e1
  obtain ⟨rfl, rfl⟩ := fQ_inj (by omega) e2
  exact q, fun q => ⟨A, m, A', m', n, d, rfl, q⟩⟩
@[simp] theorem next2_post : s_next2.post hv [fQ (4 * d) A m, fQ (4 * d) A' m', pr n d, pr n d] r h = (0 < d ∧ r = .v (.tuple [.none, fQ (4 * d) A' (m' + 2 * ceilQ (pv n A m) (pv n A' m') n)])) := propext ⟨fun ⟨a, b, c, f, n2, d2, e, q⟩ => by
  simp only [List.cons.injEq, and_true] at e
  obtain ⟨e1, e2, e3, e4⟩ := e
  obtain ⟨rfl, rfl⟩ := pr_inj e3
  obtain ⟨rfl, rfl⟩ := fQ_inj (by omega) e1
  obtain ⟨rfl, rfl⟩ := fQ_inj (by omega) e2
  exact q, fun q => ⟨A, m, A', m', n, d, rfl, q⟩⟩
@[simp] theorem next2_exc {p : PyData} {h : Hdv} : s_next2.exc hv ds x p h = False := rfl
@[simp] theorem word2_pre (hd : 0 < d) : s_word2.pre hv [fQ (4 * d) A 0, fQ (4 * d) B 0, pr n d] = (Sq A ∧ Sq B ∧ Pt n d) := propext ⟨fun ⟨a, b, n2, d2, e, q⟩ => by
  simp only [List.cons.injEq, and_true] at e
  obtain ⟨e1, e2, e3⟩ := e
  obtain ⟨rfl, rfl⟩ := pr_inj e3
  obtain ⟨rfl, _⟩ := fQ_inj (by omega) e1
  obtain ⟨rfl, _⟩ := fQ_inj (by omega) e2
  exact q, fun q => ⟨A, B, n, d, rfl, q⟩⟩
@[simp] theorem word2_post : s_word2.post hv [fQ (4 * d) A 0, fQ (4 * d) B 0, pr n d] r h = (0 < d ∧ r = .v (.str (wordG (B - A) n))) := propext ⟨fun ⟨a, b, n2, d2, e, q⟩ => by
  simp only [List.cons.injEq, and_true] at e
  obtain ⟨e1, e2, e3⟩ := e
  obtain ⟨rfl, rfl⟩ := pr_inj e3
  obtain ⟨rfl, _⟩ := fQ_inj (by omega) e1
  obtain ⟨rfl, _⟩ := fQ_inj (by omega) e2
  exact q, fun q => ⟨A, B, n, d, rfl, q⟩⟩
@[simp] theorem word2_exc {p : PyData} {h : Hdv} : s_word2.exc hv ds x p h = False := rfl
end
theorem lt_add' {a b : Int} {i : Nat} (h : a.natAbs < 2 ^ i) (h' : b.natAbs < 2 ^ i) : (a + b).natAbs < 2 ^ (i + 1) := natAbs_add_lt h h'
theorem pv_lt {A m n : Int} {i : Nat} (hA : A.natAbs < 2 ^ i) (hm : m.natAbs < 2 ^ i) (hn : Sn n) : (pv n A m).natAbs < 2 ^ (i + 1 + 140 + 1) := by
  unfold pv
  have h2 : (2 * m).natAbs < 2 ^ (i + 1) := by rw [Nat.pow_succ]; omega
  have h3 : (2 * m * n).natAbs < 2 ^ (i + 1 + 140) := natAbs_mul_lt (k := i + 1) (j := 140) h2 hn
  exact natAbs_add_lt (nat_small hA (by omega)) h3
theorem mid_self {n d : Int} (hp : Pat n d) : lowD (midN n d n d) (midB d d) = pr n d := by
  have hd := hp.2.1
  have hz : d ≠ 0 := by omega
  unfold midN midB
  rw [if_neg hz, if_neg hz, hp.low]
  exact low_cross (Int.mul_pos (by omega) hd) hd (by grind)
theorem k_next2 : Keeps G 10 .no 4 s_next2 b_next_place2 := by
  rintro hv ds hk hl ⟨A, m, A', m', n, d, rfl, ⟨sk, sm⟩, ⟨sk', sm'⟩, hp, hn, hdd⟩
  cases hv <;> cases hk
  have hd : 0 < d := hp.2.1
  have hn0 : 0 < n := hp.1
  have h4d : 0 < 4 * d := by omega
  have post : s_next2.post .no [fQ (4 * d) A m, fQ (4 * d) A' m', pr n d, pr n d] (.v (.tuple [.none, fQ (4 * d) A' (m' + 2 * ceilQ (pv n A m) (pv n A' m') n)])) .no := by rw [next2_post]; exact ⟨hd, rfl⟩
  have w1 : (pv n A m).natAbs < 2 ^ 292 := pv_lt sk sm hn
  have w2 : (pv n A' m').natAbs < 2 ^ 292 := pv_lt sk' sm' hn
  have lman : (ceilQ (pv n A m) (pv n A' m') n).natAbs < 2 ^ 293 := by
    unfold ceilQ
    exact natAbs_neg_lt (Nat.lt_of_le_of_lt (Int.natAbs_ediv_le_natAbs _ _) (natAbs_neg_lt (natAbs_sub_lt w1 w2)))
  generalize hM : ceilQ (pv n A m) (pv n A' m') n = a at *
  have hMe : a = -((-(pv n A m - pv n A' m')) / (4 * n)) := hM.symm
  have s4y : (4 * d).natAbs < 2 ^ 143 := by
    have : (2 : Nat) ^ 143 = 8 * 2 ^ 140 := by decide
    unfold Sn at hdd; omega
  have sG : (pv n A m * (4 * d) - pv n A' m' * (4 * d)).natAbs < 2 ^ 997 := nat_small (natAbs_sub_lt (natAbs_mul_lt w1 s4y) (natAbs_mul_lt w2 s4y)) (by decide)
  have sB : ((4 * d) * (4 * d)).natAbs < 2 ^ 997 := nat_small (natAbs_mul_lt s4y s4y) (by decide)
  have h16 : 0 < (4 * d) * (4 * d) := Int.mul_pos h4d h4d
  obtain ⟨p, q, g', f1, g2, f2, f3, hq', sp, sq⟩ := low_raw (pv n A m * (4 * d) - pv n A' m' * (4 * d)) ((4 * d) * (4 * d)) h16 (nat_small sG (by decide)) (nat_small sB (by decide))
  have hqn : 0 < q * n := Int.mul_pos hq' hn0
  have hfl : (-p * d) / (q * n) = (-(pv n A m - pv n A' m')) / (4 * n) := by
    refine floor_eq hqn (by omega) ?_
    obtain ⟨V, hV⟩ : ∃ V, V = pv n A m - pv n A' m' := ⟨_, rfl⟩
    rw [← hV]
    have f2' : V * (4 * d) = g' * p := by rw [hV, Int.sub_mul]; exact f2
    have : g' * (-p * d * (4 * n)) = g' * (-V * (q * n)) := by
      have f3' : g' * q = (4 * d) * (4 * d) := f3.symm
      have l : g' * (-p * d * (4 * n)) = -(g' * p) * d * (4 * n) := by grind
      have r : g' * (-V * (q * n)) = -V * n * (g' * q) := by grind
      rw [l, r, ← f2', f3']; grind
    exact Int.eq_of_mul_eq_mul_left (Int.ne_of_gt g2) this
  have sn : Sf n := nat_small hn (by decide)
  have sd : Sf d := nat_small hdd (by decide)
  have s4 : Sf (4 * d) := nat_small s4y (by decide)
  have hlq : (q * n).natAbs.log2 < 9000 := by have := sq.mul_log sn.sz; omega
  have hma : -((-p * d) / (q * n)) = a := by rw [hfl, hMe]
  have c0 : ∀ b : Int, (.tuple [.tuple [.int 0, .int 1], .tuple [.int b, .int 1]] : PyData) = fQ (4 * d) 0 (2 * b) := fun b => by
    have : lowD (2 * b) 2 = pr b 1 := by
      rw [low_cross (c := b) (d := 1) p2 (by omega) (by omega)]
      exact low_of_cop (by simp)
    unfold fQ; rw [this, low_cross (a := 0) (b := 4 * d) (c := 0) (d := 1) h4d (by omega) (by omega), low_of_cop (by simp)]; rfl
  have la2 : (2 * a).natAbs < 2 ^ 318 := by
    have : (2 : Nat) ^ 318 = 4 * 2 ^ 316 := by decide
    have := nat_small lman (show 293 ≤ 316 by decide)
    omega
  have la3 : (2 * (a - 1)).natAbs < 2 ^ 318 := by
    have : (2 : Nat) ^ 318 = 4 * 2 ^ 316 := by decide
    have := nat_small lman (show 293 ≤ 316 by decide)
    omega
  have SFk : SF A m := ⟨nat_small sk (by decide), nat_small sm (by decide)⟩
  have SFk' : SF A' m' := ⟨nat_small sk' (by decide), nat_small sm' (by decide)⟩
  have SA : SF 0 (2 * a) := ⟨Sf_small (by decide), nat_small la2 (by decide)⟩
  have SB : SF 0 (2 * (a - 1)) := ⟨Sf_small (by decide), nat_small la3 (by decide)⟩
  have lm' := nat_small sm' (show 150 ≤ 318 by decide)
  have lm := nat_small sm (show 150 ≤ 320 by decide)
  have lk := nat_small sk (show 150 ≤ 320 by decide)
  have lk' := nat_small sk' (show 150 ≤ 320 by decide)
  have SA2 : SF A' (m' + 2 * a) := ⟨nat_small lk' (by decide), nat_small (natAbs_add_lt lm' la2) (by decide)⟩
  have SB2 : SF A' (m' + 2 * (a - 1)) := ⟨nat_small lk' (by decide), nat_small (natAbs_add_lt lm' la3) (by decide)⟩
  have SA3 : SF (A' - A) (m' + 2 * a - m) := ⟨nat_small (natAbs_sub_lt lk' lk) (by decide), nat_small (natAbs_sub_lt (nat_small (natAbs_add_lt lm' la2) (by decide)) lm) (by decide)⟩
  have SB3 : SF (A - A') (m - (m' + 2 * (a - 1))) := ⟨nat_small (natAbs_sub_lt lk lk') (by decide), nat_small (natAbs_sub_lt lm (nat_small (natAbs_add_lt lm' la3) (by decide))) (by decide)⟩
  have a1 := fq_pre (f := (· + ·)) (hv := .no) h4d s4 SFk' SA
  have a2 := fq_pre (f := (· + ·)) (hv := .no) h4d s4 SFk' SB
  have a3 := fq_pre (f := (· - ·)) (hv := .no) h4d s4 SA2 SFk
  have a4 := fq_pre (f := (· - ·)) (hv := .no) h4d s4 SFk SB2
  have b1 : s_fsum2.pre .no [fQ (4 * d) A' m', fQ (4 * d) 0 (2 * a)] := a1
  have b2 : s_fsum2.pre .no [fQ (4 * d) A' m', fQ (4 * d) 0 (2 * (a - 1))] := a2
  have b3 : s_fless2.pre .no [fQ (4 * d) A' (m' + 2 * a), fQ (4 * d) A m] := a3
  have b4 : s_fless2.pre .no [fQ (4 * d) A m, fQ (4 * d) A' (m' + 2 * (a - 1))] := a4
  simp [b_next_place2, env0, hp, Far, mid_self hp, -seqK_at]
  simp only [seqK_at]
  simp [SFk, SFk', hp, hd, minus_pre h4d h4d (nat_small w1 (by decide)) (nat_small s4y (by decide)) (nat_small w2 (by decide)) (nat_small s4y (by decide)), minus_post h4d h4d, -seqK_at]
  rw [f1]
  simp only [seqK_at]
  have epq : pr p q = .tuple [.int p, .int q] := rfl
  have exy : pr n d = .tuple [.int n, .int d] := rfl
  have exy' : (.tuple [.int n, .int d] : PyData) = pr n d := rfl
  simp [epq, exy, -seqK_at]
  refine ⟨Sz.mulOk (natAbs_neg_lt sp) sd.sz, Sz.mulOk sq sn.sz, ⟨hqn, hlq⟩, ?_⟩
  rw [hma]
  simp only [seqK_at]
  simp [c0, b1, fsum2_post h4d, -seqK_at]
  simp only [seqK_at]
  simp [c0, b2, fsum2_post h4d, -seqK_at]
  simp only [seqK_at]
  simp [b3, b4, fless2_post h4d, -seqK_at]
  simp only [forR, forL, setTg]
  have q1 := isNone_sg (pv n (A' - A) (m' + 2 * a - m)) (pv n (A' - A) (m' + 2 * a - m))
  have q2 := isNone_sg (pv n (A - A') (m - (m' + 2 * (a - 1)))) (pv n (A - A') (m - (m' + 2 * (a - 1))))
  rw [sgX_self] at q1 q2
  simp [exy', hd, SA3, hp, q1]
  simp [exy', hd, SB3, hp, q2]
  simpa [exy', hd] using post
theorem k_word2 : Keeps G 5 .no 3 s_word2 b_match_word2 := by
  rintro hv ds hk hl ⟨A, B, n, d, rfl, sa, sb, hp, an, ad⟩
  cases hv <;> cases hk
  have hn := hp.1
  have hd := hp.2.1
  have post : s_word2.post .no [fQ (4 * d) A 0, fQ (4 * d) B 0, pr n d] (.v (.str (wordG (B - A) n))) .no := by rw [word2_post]; exact ⟨hd, rfl⟩
  have s0 : Sf 0 := Sf_small (by decide)
  have SFa : SF A 0 := ⟨nat_small sa (by decide), s0⟩
  have SFb : SF B 0 := ⟨nat_small sb (by decide), s0⟩
  have v1 : pv n A 0 = A := by unfold pv; omega
  have v2 : pv n B 0 = B := by unfold pv; omega
  have h4d : 0 < 4 * d := by omega
  have s4d : (4 * d).natAbs < 2 ^ 142 := by have := ad; unfold Sn at this; rw [show (142 : Nat) = 140 + 2 by rfl, Nat.pow_add]; omega
  have sG : (B * (4 * d) - A * (4 * d)).natAbs < 2 ^ 700 := nat_small (natAbs_sub_lt (natAbs_mul_lt sb s4d) (natAbs_mul_lt sa s4d)) (by decide)
  have sB : ((4 * d) * (4 * d)).natAbs < 2 ^ 700 := nat_small (natAbs_mul_lt s4d s4d) (by decide)
  have h16 : 0 < (4 * d) * (4 * d) := Int.mul_pos h4d h4d
  obtain ⟨p, q, g', f1, g2, f2, f3, hq', sp, sq⟩ := low_raw (B * (4 * d) - A * (4 * d)) ((4 * d) * (4 * d)) h16 (nat_small sG (by decide)) (nat_small sB (by decide))
  have sn : Sf n := nat_small an (by decide)
  have sd : Sf d := nat_small ad (by decide)
  have hqn : 0 < q * n := Int.mul_pos hq' hn
  have hlq : (q * n).natAbs.log2 < 8000 := sq.mul_log sn.sz
  obtain ⟨Gv, hG⟩ : ∃ Gv, Gv = B - A := ⟨_, rfl⟩
  have hG' : Gv * (4 * d) = g' * p := by rw [← f2, hG, Int.sub_mul]
  have e : lowD (2 * p * d) (q * n) = lowD Gv (2 * n) := by
    refine low_cross hqn (by omega) ?_
    have : g' * (2 * p * d * (2 * n)) = g' * (Gv * (q * n)) := by
      have l : g' * (2 * p * d * (2 * n)) = (g' * p) * (4 * d) * n := by grind
      have r : g' * (Gv * (q * n)) = Gv * n * (g' * q) := by grind
      rw [l, r, ← hG', ← f3]; grind
    exact Int.eq_of_mul_eq_mul_left (Int.ne_of_gt g2) this
  have raw : ∃ x y g, lowD Gv (2 * n) = pr x y ∧ 0 < g ∧ Gv = g * x ∧ 2 * n = g * y ∧ 0 < y ∧ Int.gcd x y = 1 :=
    ⟨_, _, _, rfl, gcd_pos (by omega), (gcd_a _ _).symm, (gcd_b _ _).symm, low_b_pos (by omega), low_cop (by omega)⟩
  obtain ⟨x, y, g, r1, r2, r3, r4, r5, r6⟩ := raw
  obtain ⟨b1, b2⟩ := fin_word hn r3 r4 r2 r5 r6
  rw [← hG] at post
  have epq : pr p q = .tuple [.int p, .int q] := rfl
  have exy : pr x y = .tuple [.int x, .int y] := rfl
  have s2p : Sz (2 * p) := by
    have : Sz p := sp
    unfold Sz at *
    have h1 : p.natAbs < 2 ^ 700 := by
      have := f2
      have hle : p.natAbs ≤ (g' * p).natAbs := by rw [Int.natAbs_mul]; exact Nat.le_mul_of_pos_left _ (by omega)
      rw [← f2] at hle
      exact Nat.lt_of_le_of_lt hle sG
    have : (2 * p).natAbs < 2 ^ 701 := by rw [show (701 : Nat) = 700 + 1 by rfl, Nat.pow_succ]; omega
    exact nat_small this (by decide)
  have enp : pr n d = .tuple [.int n, .int d] := rfl
  simp [b_match_word2, env0, SFa, SFb, hp, hd, v1, v2, minus_pre h4d h4d (nat_small sb (by decide)) (nat_small s4d (by decide)) (nat_small sa (by decide)) (nat_small s4d (by decide)), minus_post h4d h4d, -seqK_at]
  rw [f1]
  simp only [seqK_at]
  simp [epq, enp, -seqK_at]
  refine ⟨(Sz_small (a := 2) (by decide)).mulOk sp, s2p.mulOk sd.sz, sq.mulOk sn.sz, ⟨hqn, hlq⟩, ?_⟩
  rw [e, r1]
  simp only [seqK_at]
  simp [exy, -seqK_at]
  rw [enp] at post
  unfold wordG at post
  by_cases hy : y = 1
  · have hz := b1.mp hy
    have hq := b2 hy
    rw [if_pos hz, hq] at post
    simp [hy]
    by_cases hx : x % 2 = 0
    · rw [if_pos hx] at post
      simp [hx]
      exact post
    · rw [if_neg hx] at post
      simp [hx]
      exact post
  · have hz : ¬ Gv % (2 * n) = 0 := fun z => hy (b1.mpr z)
    rw [if_neg hz] at post
    simp [hy]
    exact post
end KL

set_option Elab.async false
set_option linter.all false
set_option maxRecDepth 100000
set_option maxHeartbeats 1000000
set_option exponentiation.threshold 2000
/-! where is cut to, at one pattern -/
namespace KL
open PySem PySem.Spec PyProof.Rows L2 Mp
theorem spQ_dep {d : Int} {s : Sq2} : (spQ d s).depth ≤ 3 := by simp [spQ, fQ, lowD, pr, PyData.depth, PyData.depthAll]
theorem sh_spQs (d : Int) (ss : List Sq2) : SeqAt.shaped (.list (ss.map (spQ d))) = true := by
  unfold SeqAt.shaped
  have h1 : PyData.canLay0 (.list (ss.map (spQ d))) = true := lay_all fun x hx => by obtain ⟨s, _, rfl⟩ := List.mem_map.mp hx; rfl
  have h2 : PyData.depth (.list (ss.map (spQ d))) ≤ 4 := Nat.succ_le_succ (dep_all fun x hx => by obtain ⟨s, _, rfl⟩ := List.mem_map.mp hx; exact spQ_dep)
  rw [h1, decide_eq_true (Nat.le_trans h2 (by decide))]
  rfl
theorem spQ_inj {d : Int} (hd : 0 < d) {s t : Sq2} (h : spQ d s = spQ d t) : s = t := by
  obtain ⟨a, c⟩ := s
  obtain ⟨a', c'⟩ := t
  unfold spQ at h
  simp only [PyData.tuple.injEq, List.cons.injEq, and_true] at h
  obtain ⟨rfl, _⟩ := fQ_inj (by omega) h.1
  have e2 := low_inv (by omega) (by omega) h.2
  rw [show c = c' by omega]
theorem spQs_inj {d : Int} (hd : 0 < d) : ∀ {ss tt : List Sq2}, ss.map (spQ d) = tt.map (spQ d) → ss = tt
  | [], [], _ => rfl
  | [], _ :: _, h => by simp at h
  | _ :: _, [], h => by simp at h
  | s :: ss, t :: tt, h => by
    simp only [List.map_cons, List.cons.injEq] at h
    rw [spQ_inj hd h.1, spQs_inj hd h.2]
section
variable {hv h : Hdv} {r : R} {x w : Str} {A n d : Int} {ss : List Sq2} {ds : List PyData}
@[simp] theorem goal2_pre (hd : 0 < d) : s_goal2.pre hv [.str w, fQ (4 * d) A 0, .list (ss.map (spQ d)), pr n d, pr n d] = (w ∈ placeT ∧ Sq A ∧ (∀ s ∈ ss, Sq s.1) ∧ ss.length ≤ 200 ∧ Pt n d) := propext ⟨fun ⟨w', a, s2, n2, d2, e, q⟩ => by
  simp only [List.cons.injEq, and_true, PyData.str.injEq, PyData.list.injEq] at e
  obtain ⟨rfl, e2, e3, e4, e5⟩ := e
  obtain ⟨rfl, rfl⟩ := pr_inj e4
  obtain ⟨rfl, _⟩ := fQ_inj (by omega) e2
  obtain rfl := spQs_inj hd e3
  exact q, fun q => ⟨w, A, ss, n, d, rfl, q⟩⟩
@[simp] theorem goal2_post : s_goal2.post hv [.str w, fQ (4 * d) A 0, .list (ss.map (spQ d)), pr n d, pr n d] r h = (∃ B m, 0 < d ∧ r = .v (.tuple [.none, fQ (4 * d) B m]) ∧ SF B m ∧ pv n B m = goalP w A ss n) := propext ⟨fun ⟨w', a, s2, n2, d2, B, m, e, hd, q⟩ => by
  simp only [List.cons.injEq, and_true, PyData.str.injEq, PyData.list.injEq] at e
  obtain ⟨rfl, e2, e3, e4, e5⟩ := e
  obtain ⟨rfl, rfl⟩ := pr_inj e4
  obtain ⟨rfl, _⟩ := fQ_inj (by omega) e2
  obtain rfl := spQs_inj hd e3
  exact ⟨B, m, hd, q⟩, fun ⟨B, m, q⟩ => ⟨w, A, ss, n, d, B, m, rfl, q⟩⟩
@[simp] theorem goal2_exc {p : PyData} {h : Hdv} : s_goal2.exc hv ds x p h = False := rfl
end
theorem fq0 {d : Int} (hd : 0 < d) : (.tuple [.tuple [.int 0, .int 1], .tuple [.int 0, .int 1]] : PyData) = fQ (4 * d) 0 0 := by
  unfold fQ
  rw [low_cross (a := 0) (b := 4 * d) (c := 0) (d := 1) (by omega) (by omega) (by omega), low_cross (a := 0) (b := 2) (c := 0) (d := 1) p2 (by omega) (by omega), low_of_cop (by simp)]; rfl
theorem fqh {d : Int} (hd : 0 < d) : (.tuple [.tuple [.int 0, .int 1], .tuple [.int (-1), .int 2]] : PyData) = fQ (4 * d) 0 (-1) := by
  unfold fQ
  rw [low_cross (a := 0) (b := 4 * d) (c := 0) (d := 1) (by omega) (by omega) (by omega), low_of_cop (a := 0) (b := 1) (by simp), low_of_cop (a := -1) (b := 2) (by decide)]; rfl
theorem ceil_fin {n A S m : Int} : pv n S (m + 2 * ceilQ (pv n A 0) (pv n S m) n) = ceilTo A (S + 2 * m * n) n := by
  have e1 : pv n A 0 = A := by unfold pv; omega
  have e2 : pv n S m = S + 2 * m * n := rfl
  rw [e1, e2]
  unfold ceilTo pv
  generalize ceilQ A (S + 2 * m * n) n = c
  grind
theorem ceil_lt {n A S m : Int} (hA : Sq A) (hS : Sq S) (hm : Sq m) (hn : Sn n) : SF S (m + 2 * ceilQ (pv n A 0) (pv n S m) n) := by
  have w1 : (pv n A 0).natAbs < 2 ^ 292 := pv_lt hA (show Sq 0 from by unfold Sq; decide) hn
  have w2 : (pv n S m).natAbs < 2 ^ 292 := pv_lt hS hm hn
  have lman : (ceilQ (pv n A 0) (pv n S m) n).natAbs < 2 ^ 293 := by
    unfold ceilQ
    exact natAbs_neg_lt (Nat.lt_of_le_of_lt (Int.natAbs_ediv_le_natAbs _ _) (natAbs_neg_lt (natAbs_sub_lt w1 w2)))
  have l2 : (2 * ceilQ (pv n A 0) (pv n S m) n).natAbs < 2 ^ 294 := by
    have : (2 : Nat) ^ 294 = 2 * 2 ^ 293 := by decide
    omega
  exact ⟨nat_small hS (by decide), nat_small (natAbs_add_lt (nat_small hm (by decide)) l2) (by decide)⟩
theorem k_goal2 : Keeps G 6 .no 5 s_goal2 b_goal_of2 := by
  rintro hv ds hk hl ⟨w, A, ss, n, d, rfl, hw, hA, hss, hlen, hpt⟩
  cases hv <;> cases hk
  obtain ⟨hp, hn, hdd⟩ := id hpt
  have hd : 0 < d := hp.2.1
  have h4d : 0 < 4 * d := by omega
  have post : ∀ B m, SF B m → pv n B m = goalP w A ss n → s_goal2.post .no [.str w, fQ (4 * d) A 0, .list (ss.map (spQ d)), pr n d, pr n d] (.v (.tuple [.none, fQ (4 * d) B m])) .no := fun B m h1 h2 => by rw [goal2_post]; exact ⟨B, m, hd, rfl, h1, h2⟩
  have hsh := sh_spQs d ss
  have s4 : Sf (4 * d) := by
    have : (2 : Nat) ^ 143 = 8 * 2 ^ 140 := by decide
    have : (4 * d).natAbs < 2 ^ 143 := by unfold Sn at hdd; omega
    exact nat_small this (by decide)
  have S0 : Sq 0 := by unfold Sq; decide
  have S1 : Sq (-1) := by unfold Sq; decide
  have F1 : SF 0 (-1) := ⟨nat_small S0 (by decide), nat_small S1 (by decide)⟩
  have b0 : s_fsum2.pre .no [fQ (4 * d) 0 0, fQ (4 * d) 0 (-1)] := fq_pre (f := (· + ·)) h4d s4 ⟨F1.1, F1.1⟩ F1
  have last : ss = [] ∨ ∃ i s, ss = i ++ [s] := by
    by_cases h : ss = []
    · exact .inl h
    · exact .inr (snoc_of h)
  simp only [placeT, List.mem_cons, List.not_mem_nil, or_false] at hw
  rcases hw with rfl | rfl | rfl | rfl
  · -- drop
    simp [b_goal_of2, env0, sh_md, sh_hd, sh_w2, n1, n1', n4, n4', eqok_sh hsh sh_nilL, -seqK_at]
    rcases last with rfl | ⟨i, s, rfl⟩
    · have := post A 0 ⟨nat_small hA (by decide), F1.1⟩ (by simp [goalP, pv])
      rw [goal2_post] at this
      simp
      simpa using this
    · have hs := hss s (by simp)
      have hi : (i.map (spQ d) ++ [spQ d s])[i.length]? = some (spQ d s) := by rw [List.getElem?_append_right (by simp)]; simp
      have e : PyData.eqvAll ((i ++ [s]).map (spQ d)) [] = false := by cases i <;> simp
      have b1 : s_fsum2.pre .no [fQ (4 * d) s.1 0, fQ (4 * d) 0 (-1)] := fq_pre (f := (· + ·)) h4d s4 ⟨nat_small hs (by decide), F1.1⟩ F1
      have fin := post s.1 (-1 + 2 * ceilQ (pv n A 0) (pv n s.1 (-1)) n) (ceil_lt hA hs S1 hn) (by rw [ceil_fin]; simp [goalP, n1, n1']; congr 1; omega)
      simp only [List.map_append, List.map_cons, List.map_nil] at e fin ⊢
      simp [e, -seqK_at]
      simp only [seqK_at]
      simp [-seqK_at]
      rw [ixAt_k hi]
      simp [spQ, -seqK_at]
      simp only [seqK_at]
      simp [n4', sh_w2, sh_hd, fqh hd, b1, fsum2_post h4d, -seqK_at]
      simp only [seqK_at]
      simp [n4', sh_w2, sh_hd, fqh hd, b1, fsum2_post h4d, -seqK_at]
      simp only [seqK_at]
      simp [hd, hA, hs, S0, S1, hpt]
      simpa [spQ] using fin
  · -- half
    have fin := post 0 (-1 + 2 * ceilQ (pv n A 0) (pv n 0 (-1)) n) (ceil_lt hA S0 S1 hn) (by rw [ceil_fin]; simp [goalP, n2, n2', n4, n4']; congr 1; omega)
    simp [b_goal_of2, env0, sh_md, sh_hd, sh_w3, n2, n2', n4, n4', fq0 hd, fqh hd, b0, fsum2_post h4d, -seqK_at]
    simp only [seqK_at]
    simp [sh_md, sh_hd, sh_w3, n2, n2', n4, n4', fq0 hd, fqh hd, b0, fsum2_post h4d, -seqK_at]
    simp only [seqK_at]
    simp [sh_md, sh_hd, sh_w3, n2, n2', n4, n4', fq0 hd, fqh hd, b0, fsum2_post h4d, -seqK_at]
    simp only [seqK_at]
    simp [hd, hA, S0, S1, hpt]
    simpa [hd] using fin
  · -- mark
    have fin := post 0 (0 + 2 * ceilQ (pv n A 0) (pv n 0 0) n) (ceil_lt hA S0 S0 hn) (by rw [ceil_fin]; simp [goalP, n3, n3', n5, n5', n6, n6'])
    simp [b_goal_of2, env0, sh_md, sh_hd, sh_w4, n3, n3', n5, n5', n6, n6', fq0 hd, -seqK_at]
    simp only [seqK_at]
    simp [sh_md, sh_hd, sh_w4, n3, n3', n5, n5', n6, n6', fq0 hd, -seqK_at]
    simp only [seqK_at]
    simp [hd, hA, S0, S1, hpt, sh_hd, sh_w4, n3, n3', n5, n5', n6, n6']
    simpa [hd] using fin
  · -- match
    simp [b_goal_of2, env0, sh_md, sh_hd, sh_w1, n1, n1', n2, n2', eqok_sh hsh sh_nilL, -seqK_at]
    rcases last with rfl | ⟨i, s, rfl⟩
    · have := post A 0 ⟨nat_small hA (by decide), F1.1⟩ (by simp [goalP, pv])
      rw [goal2_post] at this
      simp
      simpa using this
    · have hs := hss s (by simp)
      have hi : (i.map (spQ d) ++ [spQ d s])[i.length]? = some (spQ d s) := by rw [List.getElem?_append_right (by simp)]; simp
      have e : PyData.eqvAll ((i ++ [s]).map (spQ d)) [] = false := by cases i <;> simp
      have fin := post s.1 (0 + 2 * ceilQ (pv n A 0) (pv n s.1 0) n) (ceil_lt hA hs S0 hn) (by rw [ceil_fin]; simp [goalP, n1, n1'])
      simp only [List.map_append, List.map_cons, List.map_nil] at e fin ⊢
      simp [e, -seqK_at]
      simp only [seqK_at]
      simp [-seqK_at]
      rw [ixAt_k hi]
      simp [spQ, -seqK_at]
      simp only [seqK_at]
      simp [n1, n1', n2, n2', sh_w1, sh_hd, -seqK_at]
      simp only [seqK_at]
      simp [hd, hA, hs, S0, S1, hpt, sh_w1, sh_hd, n1, n1', n2, n2']
      simpa [spQ] using fin
end KL

set_option Elab.async false
set_option linter.all false
set_option maxRecDepth 100000
set_option maxHeartbeats 1000000
set_option exponentiation.threshold 2000
/-! one step of a roll -/
namespace KL
open PySem PySem.Spec PyProof.Rows L2 Mp
theorem stripQ_inj {d : Int} (hd : 0 < d) {s t : Sq2} (h : stripQ d s = stripQ d t) : s = t := by
  obtain ⟨a, c⟩ := s
  obtain ⟨a', c'⟩ := t
  unfold stripQ at h
  simp only [PyData.tuple.injEq, List.cons.injEq, and_true] at h
  have e1 := low_eq_of (by omega) h.1
  have e2 := low_eq_of (by omega) h.2
  rw [e1, e2]
theorem stripsQ_inj {d : Int} (hd : 0 < d) : ∀ {ss tt : List Sq2}, ss.map (stripQ d) = tt.map (stripQ d) → ss = tt
  | [], [], _ => rfl
  | [], _ :: _, h => by simp at h
  | _ :: _, [], h => by simp at h
  | s :: ss, t :: tt, h => by
    simp only [List.map_cons, List.cons.injEq] at h
    rw [stripQ_inj hd h.1, stripsQ_inj hd h.2]
theorem nowQ_inj {d : Int} (hd : 0 < d) {s t : RSt} (h : nowQ d s = nowQ d t) : s = t := by
  obtain ⟨a, b, c⟩ := s
  obtain ⟨a', b', c'⟩ := t
  unfold nowQ stripsQ at h
  simp only [PyData.tuple.injEq, List.cons.injEq, and_true] at h
  have e1 := low_eq_of (by omega) h.1
  have e2 := low_eq_of (by omega) h.2.1
  have e3 := stripsQ_inj hd h.2.2
  rw [e1, e2, e3]
theorem nowQs_inj {d : Int} (hd : 0 < d) : ∀ {ss tt : List RSt}, ss.map (nowQ d) = tt.map (nowQ d) → ss = tt
  | [], [], _ => rfl
  | [], _ :: _, h => by simp at h
  | _ :: _, [], h => by simp at h
  | s :: ss, t :: tt, h => by
    simp only [List.map_cons, List.cons.injEq] at h
    rw [nowQ_inj hd h.1, nowQs_inj hd h.2]
section
variable {hv h : Hdv} {r : R} {x : Str} {roll n d : Int} {st : RSt} {y : PyData} {ds : List PyData}
theorem gone_pre (hd : 0 < d) : s_gone.pre hv [.int roll, pr n d, nowQ d st, y] = (RPt roll n d ∧ RInv roll n d st ∧ plainB y = true) := propext ⟨fun ⟨roll', n', d', st', y', e, q⟩ => by
  simp only [List.cons.injEq, and_true, PyData.int.injEq] at e
  obtain ⟨rfl, e1, e2, rfl⟩ := e
  obtain ⟨rfl, rfl⟩ := pr_inj e1
  obtain rfl := nowQ_inj hd e2
  exact q, fun q => ⟨roll, n, d, st, y, rfl, q⟩⟩
theorem gone_post : s_gone.post hv [.int roll, pr n d, nowQ d st, y] r h = (0 < d ∧ r = .v (goneD d (goneP roll n d st y))) := propext ⟨fun ⟨roll', n', d', st', y', e, hd, q⟩ => by
  simp only [List.cons.injEq, and_true, PyData.int.injEq] at e
  obtain ⟨rfl, e1, e2, rfl⟩ := e
  obtain ⟨rfl, rfl⟩ := pr_inj e1
  obtain rfl := nowQ_inj hd e2
  exact ⟨hd, q⟩, fun q => ⟨roll, n, d, st, y, rfl, q⟩⟩
@[simp] theorem gone_exc {p : PyData} {h : Hdv} : s_gone.exc hv ds x p h = False := rfl
end
theorem Sq_lt {a b : Int} (h : a.natAbs ≤ 64 * b.natAbs) (hb : Sn b) : Sq a := by
  unfold Sn at hb
  unfold Sq
  have : (2 : Nat) ^ 150 = 1024 * 2 ^ 140 := by decide
  omega
structure RSz (roll n d : Int) (st : RSt) : Prop where
  d0 : 0 < d
  r6 : roll * d ≤ 6 * d
  P : Sq st.P
  W : Sq st.W
  ss : ∀ s ∈ st.ss, Sq s.1 ∧ 1 ≤ s.2 ∧ s.2 ≤ 8
  len : st.ss.length ≤ 24
theorem RInv.sz {roll n d : Int} {st : RSt} (hr : RPt roll n d) (hi : RInv roll n d st) : RSz roll n d st := by
  obtain ⟨r1, r6, ⟨hp, hn, hdd⟩, hdn⟩ := hr
  obtain ⟨p0, p1, w0, w1, l, hss⟩ := hi
  have hd : 0 < d := hp.2.1
  have e : roll * d ≤ 6 * d := Int.mul_le_mul_of_nonneg_right r6 (by omega)
  have e4 : 4 * roll * d ≤ 24 * d := by rw [Int.mul_assoc]; omega
  refine ⟨hd, e, Sq_lt (b := d) (by omega) hdd, Sq_lt (b := d) (by omega) hdd, fun s hs => ?_, ?_⟩
  · obtain ⟨q1, q2, q3, q4⟩ := hss s hs
    exact ⟨Sq_lt (b := d) (by omega) hdd, q3, q4⟩
  · by_cases k : st.ss.length ≤ 24
    · exact k
    · have := Int.mul_le_mul_of_nonneg_right (show (25 : Int) ≤ (st.ss.length : Int) by omega) (show 0 ≤ d by omega)
      omega
theorem fqz {u A : Int} : (.tuple [lowD A u, .tuple [.int 0, .int 1]] : PyData) = fQ u A 0 := by
  unfold fQ
  rw [low_cross (a := 0) (b := 2) (c := 0) (d := 1) p2 (by omega) (by omega), low_of_cop (a := 0) (b := 1) (by simp)]; rfl
def toSp : PyData → PyData
  | .tuple [a, b] => .tuple [.tuple [a, .tuple [.int 0, .int 1]], b]
  | x => x
theorem toSp_q {d : Int} {s : Sq2} : toSp (stripQ d s) = spQ d s := by
  show (.tuple [.tuple [lowD s.1 (4 * d), .tuple [.int 0, .int 1]], lowD s.2 4] : PyData) = _
  rw [fqz]; rfl
/-- is_less((roll, 1), goal) -/
theorem less_low {roll g u : Int} (hu : 0 < u) (sg : Sz g) (su : Sz u) (sr : Sz roll) {hv : Hdv} : s_less.pre hv [.tuple [.int roll, .int 1], lowD g u] ∧ ∀ r h, s_less.post hv [.tuple [.int roll, .int 1], lowD g u] r h = (r = .v (.bool (decide (roll * u < g)))) := by
  obtain ⟨x, y, c, e1, g1, rfl, rfl, hy, sx, sy⟩ := low_raw g u hu sg su
  rw [e1]
  have p : (.tuple [.int roll, .int 1] : PyData) = pr roll 1 := rfl
  rw [p]
  refine ⟨by rw [less_pre]; exact ⟨sr, Sz_1, sx, sy⟩, fun r h => ?_⟩
  rw [less_post]
  have : (roll * y < x * 1) ↔ (roll * (c * y) < c * x) := by
    rw [Int.mul_one]
    have e : roll * (c * y) = c * (roll * y) := by grind
    rw [e]
    exact ⟨fun h => Int.mul_lt_mul_of_pos_left h g1, fun h => Int.lt_of_mul_lt_mul_left h (Int.le_of_lt g1)⟩
  rw [decide_eq_decide.mpr this]
theorem k_gone : Keeps G 13 .no 4 s_gone b_gone_to := by
  rintro hv ds hk hl ⟨roll, n, d, st, x, rfl, hr, hi, hx⟩
  cases hv <;> cases hk
  obtain ⟨hd, r6, sP, sW, hss, hlen⟩ := hi.sz hr
  have post : ∀ v, v = goneD d (goneP roll n d st x) → s_gone.post .no [.int roll, pr n d, nowQ d st, x] (.v v) .no := fun v e => by rw [gone_post]; exact ⟨hd, by rw [e]⟩
  obtain ⟨r1, r7, hpt, hdn⟩ := id hr
  obtain ⟨hp, hn, hdd⟩ := id hpt
  have h4d : 0 < 4 * d := by omega
  have s4d : (4 * d).natAbs < 2 ^ 142 := by have := hdd; unfold Sn at this; rw [show (142 : Nat) = 140 + 2 by rfl, Nat.pow_add]; omega
  have S4 : Sz (4 * d) := nat_small s4d (by decide)
  have SP : Sz st.P := nat_small sP (by decide)
  have SW : Sz st.W := nat_small sW (by decide)
  have sr : Sz roll := Sz_small (by omega)
  have h16 : 0 < 4 * d * (4 * d) := Int.mul_pos h4d h4d
  have eroll : ∀ g : Int, (roll * (4 * d) < g) = (4 * roll * d < g) := fun g => by rw [show roll * (4 * d) = 4 * roll * d by grind]
  rcases plain_of hx with ⟨w, hw, rfl⟩ | ⟨q, q1, q2, rfl⟩
  · have nc := no_cut hw
    have hwo : wOf (.tuple [.str w]) = w := rfl
    simp [b_gone_to, env0, nowQ, stripsQ, nc, -seqK_at]
    simp only [seqK_at]
    simp [nc, -seqK_at]
    refine cmp_map toSp (by simp [line]; omega) ?_ ?_
    · intro y hy K k
      obtain ⟨s, hs, rfl⟩ := List.mem_map.mp hy
      rw [toSp_q] at k
      simp [cturn, stripQ, fqz] at k ⊢
      exact k
    · have hm : (st.ss.map (stripQ d)).map toSp = st.ss.map (spQ d) := by rw [List.map_map]; exact List.map_congr_left fun s _ => toSp_q
      rw [hm]
      have q1 : ∀ s ∈ st.ss, Sq s.1 := fun s hs => (hss s hs).1
      have l200 : st.ss.length ≤ 200 := by omega
      simp [fqz, hd, -seqK_at]
      simp only [seqK_at]
      simp [fqz, hd, hw, sP, l200, hpt, -seqK_at]
      refine ⟨fun a b hab => q1 (a, b) hab, ?_⟩
      rintro _ B m rfl hB hBe
      simp [-seqK_at]
      simp only [seqK_at]
      have SG : (pv n B m).natAbs < 2 ^ 472 := pv_lt hB.1 hB.2 hn
      have hSG : Sz (pv n B m) := nat_small SG (by decide)
      simp [hd, hB, hp, -seqK_at]
      simp only [seqK_at]
      have m1 := minus_pre (hv := .no) h4d h4d hSG S4 SP S4
      have sD : (pv n B m * (4 * d) - st.P * (4 * d)).natAbs < 2 ^ 700 := nat_small (natAbs_sub_lt (nat_small (natAbs_mul_lt SG s4d) (show 472 + 142 ≤ 620 by decide)) (nat_small (natAbs_mul_lt sP s4d) (show 150 + 142 ≤ 620 by decide))) (by decide)
      have s16 : Sz (4 * d * (4 * d)) := nat_small (natAbs_mul_lt s4d s4d) (by decide)
      have m2 := plus_pre (hv := .no) h4d h16 SW S4 (nat_small sD (by decide) : Sz _) s16
      have e1 : lowD (st.W * (4 * d * (4 * d)) + (pv n B m * (4 * d) - st.P * (4 * d)) * (4 * d)) (4 * d * (4 * d * (4 * d))) = lowD (st.W + (pv n B m - st.P)) (4 * d) := low_cross (Int.mul_pos h4d h16) h4d (by grind)
      simp [m1, minus_post h4d h4d, m2, plus_post h4d h16, e1, -seqK_at]
      simp only [seqK_at]
      obtain ⟨l1, l2⟩ := less_low (roll := roll) (g := pv n B m) (u := 4 * d) (hv := .no) h4d hSG S4 sr
      simp [l1, l2]
      by_cases hlt : roll * (4 * d) < pv n B m
      · rw [if_pos hlt]
        refine post _ ?_
        rw [eroll, hBe] at hlt
        simp [goneP, hwo, nc, hlt, goneD]
      · rw [if_neg hlt]
        refine post _ ?_
        rw [eroll, hBe] at hlt
        simp [goneP, hwo, nc, hlt, goneD, nowQ, stripsQ, hBe]
  · have hwo : wOf (.tuple [.str "cut", lowD q 4]) = "cut" := rfl
    have hG : (st.P + q * d).natAbs < 2 ^ 151 := natAbs_add_lt sP (Sq_lt (b := d) (by
      have : (q * d).natAbs = q.natAbs * d.natAbs := Int.natAbs_mul _ _
      have h8 : q.natAbs ≤ 64 := by omega
      rw [this]; exact Nat.mul_le_mul_right _ h8) hdd)
    have hSG : Sz (st.P + q * d) := nat_small hG (by decide)
    have e1 : lowD (st.P * 4 + q * (4 * d)) (4 * d * 4) = lowD (st.P + q * d) (4 * d) := low_cross (by omega) h4d (by grind)
    have m1 := plus_pre (hv := .no) h4d p4 SP S4 (Sz_small (a := q) (by omega)) z4
    have ll : st.ss.length + 1 ≤ 16777216 := by omega
    obtain ⟨l1, l2⟩ := less_low (roll := roll) (g := st.P + q * d) (u := 4 * d) (hv := .no) h4d hSG S4 sr
    simp [b_gone_to, env0, nowQ, stripsQ, m1, plus_post h4d p4, e1, ll, -seqK_at]
    simp only [seqK_at]
    simp [l1, l2, m1, plus_post h4d p4, e1, ll, -seqK_at]
    simp only [seqK_at]
    simp [l1, l2, m1, plus_post h4d p4, e1, ll, -seqK_at]
    simp only [seqK_at]
    simp [l1, l2, m1, plus_post h4d p4, e1, ll, -seqK_at]
    simp only [seqK_at]
    simp [l1, l2]
    by_cases hlt : roll * (4 * d) < st.P + q * d
    · rw [if_pos hlt]
      refine post _ ?_
      rw [eroll] at hlt
      simp [goneP, hwo, q_of, hlt, goneD]
    · rw [if_neg hlt]
      refine post _ ?_
      rw [eroll] at hlt
      simp [goneP, hwo, q_of, hlt, goneD, nowQ, stripsQ, stripQ]
end KL

set_option Elab.async false
set_option linter.all false
set_option maxRecDepth 100000
set_option maxHeartbeats 1000000
set_option exponentiation.threshold 2000
/-! a roll does a script -/
namespace KL
open PySem PySem.Spec PyProof.Rows L2 Mp
theorem plain_b {x : PyData} (h : Plain x) : plainB x = true := by
  rcases h with ⟨w, hw, rfl⟩ | ⟨q, q1, q2, rfl⟩
  · simpa [plainB] using hw
  · have : q = 1 ∨ q = 2 ∨ q = 3 ∨ q = 4 ∨ q = 5 ∨ q = 6 ∨ q = 7 ∨ q = 8 := by omega
    rcases this with rfl | rfl | rfl | rfl | rfl | rfl | rfl | rfl <;> decide
theorem ceil_ge {A S n : Int} (hn : 0 < n) : A ≤ ceilTo A S n := by
  unfold ceilTo ceilQ
  have l1 := Int.ediv_mul_le (-(A - S)) (show 4 * n ≠ 0 by omega)
  generalize (-(A - S)) / (4 * n) = c at *
  have : 4 * n * -c = -(c * (4 * n)) := by grind
  omega
theorem goal_ge {w : Str} {A n : Int} {ss : List Sq2} (hn : 0 < n) : A ≤ goalP w A ss n := by
  unfold goalP
  split
  · split
    · exact Int.le_refl _
    · exact ceil_ge hn
  · exact ceil_ge hn
theorem gone_inv {roll n d : Int} {st t : RSt} {x : PyData} (hr : RPt roll n d) (hi : RInv roll n d st) (hx : plainB x = true) (h : goneP roll n d st x = some t) : RInv roll n d t := by
  obtain ⟨r1, r7, ⟨hp, hn, hdd⟩, hdn⟩ := hr
  obtain ⟨p0, p1, w0, w1, l, hss⟩ := hi
  have hd : 0 < d := hp.2.1
  unfold goneP at h
  split at h
  · rename_i hw
    split at h
    · cases h
    · rename_i hlt
      cases h
      have hq : 1 ≤ qOf x ∧ qOf x ≤ 8 := by
        rcases plain_of hx with ⟨w, hw2, rfl⟩ | ⟨q, q1, q2, rfl⟩
        · have h1 : wOf (.tuple [.str w]) = w := rfl
          rw [h1, no_cut hw2] at hw
          exact hw.elim
        · rw [q_of]; exact ⟨q1, q2⟩
      have e1 : d ≤ qOf x * d := by
        have := Int.mul_le_mul_of_nonneg_right hq.1 (show 0 ≤ d by omega)
        omega
      refine ⟨by show 0 ≤ st.P + _; omega, by show st.P + _ ≤ _; omega, w0, by show st.W ≤ st.P + _; omega, ?_, fun s hs => ?_⟩
      · show ((st.ss ++ [(st.P, qOf x)]).length : Int) * d ≤ st.P + _
        rw [List.length_append, List.length_singleton]
        have : (((st.ss.length + 1 : Nat) : Int)) * d = st.ss.length * d + d := by push_cast; grind
        omega
      · show 0 ≤ s.1 ∧ s.1 ≤ st.P + _ ∧ _
        rcases List.mem_append.mp hs with hs | hs
        · have := hss s hs; omega
        · have := List.mem_singleton.mp hs
          subst this
          exact ⟨p0, by show st.P ≤ _; omega, hq⟩
  · split at h
    · cases h
    · rename_i hlt
      cases h
      have hg := goal_ge (w := wOf x) (A := st.P) (ss := st.ss) hp.1
      generalize goalP (wOf x) st.P st.ss n = g at *
      refine ⟨by show 0 ≤ g; omega, by show g ≤ _; omega, by show 0 ≤ st.W + (g - st.P); omega, by show st.W + (g - st.P) ≤ g; omega, by show (st.ss.length : Int) * d ≤ g; omega, fun s hs => ?_⟩
      have := hss s hs
      show 0 ≤ s.1 ∧ s.1 ≤ g ∧ _
      omega
theorem run_inv {roll n d : Int} (hr : RPt roll n d) : ∀ {l : List PyData} {st : RSt}, RInv roll n d st → (∀ x ∈ l, plainB x = true) → RInv roll n d (runP roll n d l st)
  | [], st, hi, _ => hi
  | x :: r, st, hi, hx => by
    unfold runP
    split
    · exact hi
    · rename_i t ht
      exact run_inv hr (gone_inv hr hi (hx x List.mem_cons_self) ht) fun y hy => hx y (List.mem_cons_of_mem _ hy)
section
variable {hv h : Hdv} {r : R} {x : Str} {roll n d : Int} {st t : RSt} {p : List RSt} {y : PyData} {l ds : List PyData} {q : PyData}
theorem now3 {d : Int} {st : RSt} : nowQ d st = .tuple [lowD st.P (4 * d), lowD st.W (4 * d), stripsQ d st] := rfl
theorem keep_pre : keepS.pre (.ob 0 [.v (.tuple [.int roll, pr n d]), .v (nowQ d st), .o (p.map (nowQ d))]) [nowQ d t] = (p.length < 60) := propext ⟨fun ⟨a, b, c, d', e, p', v, h1, h2, h3, _⟩ => by
  simp only [Ro, Hdv.ob.injEq, List.cons.injEq, Fd.o.injEq, true_and, and_true] at h1
  obtain ⟨_, _, rfl⟩ := h1
  simpa using h3, fun hp => ⟨_, _, _, _, _, _, _, rfl, rfl, by simpa using hp, .inr ⟨_, _, _, rfl⟩⟩⟩
theorem keep_post : keepS.post (.ob 0 [.v (.tuple [.int roll, pr n d]), .v (nowQ d st), .o (p.map (nowQ d))]) [nowQ d t] r h = (r = .v .none ∧ h = .ob 0 [.v (.tuple [.int roll, pr n d]), .v (nowQ d t), .o ((p ++ [st]).map (nowQ d))]) := propext ⟨fun ⟨a, b, c, d', e, p', x, y, z, h1, h2, h3, h4⟩ => by
  simp only [Ro, Hdv.ob.injEq, List.cons.injEq, Fd.o.injEq, Fd.v.injEq, PyData.tuple.injEq, true_and, and_true] at h1
  obtain ⟨⟨rfl, rfl⟩, e2, rfl⟩ := h1
  simp only [List.cons.injEq, and_true] at h2
  refine ⟨h3, h4.trans ?_⟩
  rw [List.map_append, List.map_singleton, e2, h2]; rfl, fun ⟨e1, e2⟩ => ⟨_, _, _, _, _, _, _, _, _, rfl, rfl, e1, by rw [e2, List.map_append]; rfl⟩⟩
theorem keep_exc : keepS.exc (.ob 0 [.v (.tuple [.int roll, pr n d]), .v (nowQ d st), .o (p.map (nowQ d))]) [nowQ d t] x q h = False := propext ⟨fun ⟨e, _⟩ => by
  rw [now3] at e
  simp at e, fun z => z.elim⟩
theorem RoQ_inj {roll' n' d' : Int} {st' : RSt} {p' : List RSt} (hd : 0 < d) (e : RoQ roll n d st p = RoQ roll' n' d' st' p') : roll = roll' ∧ n = n' ∧ d = d' ∧ st = st' ∧ p = p' := by
  unfold RoQ at e
  simp only [Hdv.ob.injEq, List.cons.injEq, Fd.o.injEq, Fd.v.injEq, PyData.tuple.injEq, PyData.int.injEq, true_and, and_true] at e
  obtain ⟨⟨rfl, e1⟩, e2, e3⟩ := e
  obtain ⟨rfl, rfl⟩ := pr_inj e1
  obtain rfl := nowQ_inj hd e2
  obtain rfl := nowQs_inj hd e3
  exact ⟨rfl, rfl, rfl, rfl, rfl⟩
theorem iadd_pre (hd : 0 < d) : s_iadd.pre (.ob 0 [.v (.tuple [.int roll, pr n d]), .v (nowQ d st), .o (p.map (nowQ d))]) [.tuple l] = (ROk roll n d st p ∧ p.length < 60 ∧ scriptB (.tuple l) = true ∧ gdV (.tuple l)) := propext ⟨fun ⟨a, b, c, d', e, p', h1, h2, h3⟩ => by
  obtain ⟨rfl, rfl, rfl, rfl, rfl⟩ := RoQ_inj hd h1
  simp only [List.cons.injEq, PyData.tuple.injEq, and_true] at h2
  subst h2
  exact h3, fun q => ⟨_, _, _, _, _, _, rfl, rfl, q⟩⟩
theorem iadd_post (hd : 0 < d) : s_iadd.post (.ob 0 [.v (.tuple [.int roll, pr n d]), .v (nowQ d st), .o (p.map (nowQ d))]) [.tuple l] r h = (r = .me ∧ h = .ob 0 [.v (.tuple [.int roll, pr n d]), .v (nowQ d (runP roll n d ((spreadD 0 l).map sndD) st)), .o ((p ++ [st]).map (nowQ d))]) := propext ⟨fun ⟨a, b, c, d', e, p', h1, h2, _, h3⟩ => by
  obtain ⟨rfl, rfl, rfl, rfl, rfl⟩ := RoQ_inj hd h1
  simp only [List.cons.injEq, PyData.tuple.injEq, and_true] at h2
  subst h2
  exact h3, fun q => ⟨_, _, _, _, _, _, rfl, rfl, hd, q⟩⟩
@[simp] theorem iadd_exc : s_iadd.exc hv ds x q h = False := rfl
end
theorem k_iadd : Keeps G 6 (.ob 0) 2 s_iadd b_Roll___iadd := by
  rintro hv ds hk hl ⟨roll, n, d, st, p, l, rfl, rfl, ⟨hr, hi, hp, hp60⟩, hl60, hsc, hgd⟩
  obtain ⟨hd, _⟩ := hi.sz hr
  obtain ⟨h8, hst⟩ := script_in hsc
  have hmem : ∀ x ∈ spreadD 0 l, ∃ (j : Nat) (y : PyData), x = .tuple [.int (j : Int), y] ∧ Plain y := fun x hx => spread_mem hst hx
  simp [b_Roll___iadd, env0, RoQ, hgd, hsc]
  have key : ∀ cur, cur = runP roll n d ((spreadD 0 l).map sndD) st → keepS.pre (.ob 0 [.v (.tuple [.int roll, pr n d]), .v (nowQ d st), .o (p.map (nowQ d))]) [nowQ d cur] ∧
      (∀ r h, keepS.post (.ob 0 [.v (.tuple [.int roll, pr n d]), .v (nowQ d st), .o (p.map (nowQ d))]) [nowQ d cur] r h → ∃ gs, h = Hdv.ob 0 gs ∧ s_iadd.post (.ob 0 [.v (.tuple [.int roll, pr n d]), .v (nowQ d st), .o (p.map (nowQ d))]) [.tuple l] R.me (Hdv.ob 0 gs)) ∧
      ∀ x q h, ¬ keepS.exc (.ob 0 [.v (.tuple [.int roll, pr n d]), .v (nowQ d st), .o (p.map (nowQ d))]) [nowQ d cur] x q h := by
    rintro cur rfl
    refine ⟨by rw [keep_pre]; exact hl60, fun r h hq => ?_, fun x q h => by rw [keep_exc]; exact id⟩
    rw [keep_post] at hq
    obtain ⟨_, rfl⟩ := hq
    exact ⟨_, rfl, by rw [iadd_post hd]; exact ⟨rfl, rfl⟩⟩
  refine for_of (fun rem e => ∃ cur a3 a4 a5, e = [Sl.ib 0 [.v (.tuple [.int roll, pr n d]), .v (nowQ d st), .o (p.map (nowQ d))], Sl.v (.tuple l), Sl.v (nowQ d cur), a3, a4, a5] ∧ RInv roll n d cur ∧ runP roll n d (rem.map sndD) cur = runP roll n d ((spreadD 0 l).map sndD) st) ?_ ?_ ?_
  · exact ⟨st, _, _, _, rfl, hi, rfl⟩
  · rintro x0 r0 e K hx ⟨cur, a3, a4, a5, rfl, hc, hrun⟩ hK
    obtain ⟨j, y, rfl, hy⟩ := hmem _ hx
    have hyb := plain_b hy
    simp [L2.atI, gone_pre hd, gone_post, hr, hc, hyb]
    intro _
    simp only [List.map_cons, sndD, runP] at hrun
    cases hg : goneP roll n d cur y with
    | none =>
      rw [hg] at hrun
      simp only [goneD, isn_n, if_true]
      exact key cur hrun
    | some t =>
      rw [hg] at hrun
      simp only [goneD, now3, isn_t, Bool.false_eq_true, if_false]
      exact hK _ ⟨t, _, _, _, rfl, gone_inv hr hc hyb hg, hrun⟩
  · rintro e ⟨cur, a3, a4, a5, rfl, hc, hrun⟩
    simp [runP] at hrun
    simp
    exact key cur hrun
end KL

set_option Elab.async false
set_option linter.all false
set_option maxRecDepth 100000
set_option maxHeartbeats 1000000
set_option exponentiation.threshold 2000
/-! cut (refused), matches, undo as the law uses them -/
namespace KL
open PySem PySem.Spec PyProof.Rows L2 Mp
section
variable {hv h : Hdv} {r : R} {x : Str} {roll n d : Int} {st t : RSt} {p : List RSt} {y : PyData} {l ds : List PyData} {q : PyData}
abbrev FdQ (roll n d : Int) (st : RSt) (p : List RSt) : List Fd := [.v (.tuple [.int roll, pr n d]), .v (nowQ d st), .o (p.map (nowQ d))]
theorem cut_pre : s_cut.pre (.ob 0 [.v (.tuple [.int roll, pr n d]), .v (nowQ d st), .o (p.map (nowQ d))]) [y] = (gdV y ∧ lenB y = false) := propext ⟨fun ⟨a, b, c, d', e, v, h1, h2, h3⟩ => by
  simp only [List.cons.injEq, and_true] at h2
  subst h2
  exact h3, fun q => ⟨_, _, _, _, _, _, rfl, rfl, q⟩⟩
@[simp] theorem cut_post : s_cut.post hv ds r h = False := rfl
@[simp] theorem cut_exc : s_cut.exc hv ds x q h = (x = "InvalidLength" ∧ q = .none ∧ h = hv) := rfl
theorem rmat_pre (hd : 0 < d) : s_rmatches.pre (.ob 0 [.v (.tuple [.int roll, pr n d]), .v (nowQ d st), .o (p.map (nowQ d))]) [] = ROk roll n d st p := propext ⟨fun ⟨_, a, b, c, d', e, h1, h2⟩ => by
  obtain ⟨rfl, rfl, rfl, rfl, rfl⟩ := RoQ_inj hd h1
  exact h2, fun q => ⟨rfl, _, _, _, _, _, rfl, q⟩⟩
theorem rmat_post (hd : 0 < d) : s_rmatches.post (.ob 0 [.v (.tuple [.int roll, pr n d]), .v (nowQ d st), .o (p.map (nowQ d))]) ds r h = (r = .o (wordsQ n st.ss) ∧ h = .ob 0 [.v (.tuple [.int roll, pr n d]), .v (nowQ d st), .o (p.map (nowQ d))]) := propext ⟨fun ⟨a, b, c, d', e, h1, _, h2, h3⟩ => by
  obtain ⟨rfl, rfl, rfl, rfl, rfl⟩ := RoQ_inj hd h1
  exact ⟨h2, h3⟩, fun ⟨e1, e2⟩ => ⟨_, _, _, _, _, rfl, hd, e1, e2⟩⟩
@[simp] theorem rmat_exc : s_rmatches.exc hv ds x q h = False := rfl
theorem stripQ_dep {d : Int} {s : Sq2} : (stripQ d s).depth ≤ 2 := by simp [stripQ, lowD, pr, PyData.depth, PyData.depthAll]
theorem nowQ_lay {d : Int} {st : RSt} : (nowQ d st).canLay0 = true := by
  have : PyData.canLayAll0 (st.ss.map (stripQ d)) = true := lay_all fun x hx => by obtain ⟨s, _, rfl⟩ := List.mem_map.mp hx; rfl
  simp [nowQ, stripsQ, lowD, pr, PyData.canLay0, PyData.canLayAll0, this]
theorem nowQ_dep {d : Int} {st : RSt} : (nowQ d st).depth ≤ 4 := by
  have : PyData.depthAll (st.ss.map (stripQ d)) ≤ 2 := dep_all fun x hx => by obtain ⟨s, _, rfl⟩ := List.mem_map.mp hx; exact stripQ_dep
  simp [nowQ, stripsQ, lowD, pr, PyData.depth, PyData.depthAll]
  omega
theorem sh_nows (d : Int) (p : List RSt) : SeqAt.shaped (.list (p.map (nowQ d))) = true := by
  unfold SeqAt.shaped
  have h1 : PyData.canLay0 (.list (p.map (nowQ d))) = true := lay_all fun x hx => by obtain ⟨s, _, rfl⟩ := List.mem_map.mp hx; exact nowQ_lay
  have h2 : PyData.depth (.list (p.map (nowQ d))) ≤ 5 := Nat.succ_le_succ (dep_all fun x hx => by obtain ⟨s, _, rfl⟩ := List.mem_map.mp hx; exact nowQ_dep)
  rw [h1, decide_eq_true (Nat.le_trans h2 (by decide))]
  rfl
theorem undo_pre : undoS.pre (.ob 0 [.v (.tuple [.int roll, pr n d]), .v (nowQ d st), .o (p.map (nowQ d))]) [] = (p.length ≤ 60) := propext ⟨fun ⟨_, a, b, c, d', e, p', h1, h3, _⟩ => by
  simp only [Ro, Hdv.ob.injEq, List.cons.injEq, Fd.o.injEq, true_and, and_true] at h1
  obtain ⟨_, _, rfl⟩ := h1
  simpa using h3, fun hp => ⟨rfl, _, _, _, _, _, _, rfl, by simpa using hp, sh_nows d p, fun v hv => by obtain ⟨s, _, rfl⟩ := List.mem_map.mp hv; exact ⟨_, _, _, rfl⟩⟩⟩
theorem undo_post : undoS.post (.ob 0 [.v (.tuple [.int roll, pr n d]), .v (nowQ d st), .o ((p ++ [t]).map (nowQ d))]) ds r h = (r = .v .none ∧ h = .ob 0 [.v (.tuple [.int roll, pr n d]), .v (nowQ d t), .o (p.map (nowQ d))]) := propext ⟨fun ⟨a, b, c, d', e, p', x, y, z, h1, h3, h4⟩ => by
  simp only [Ro, Hdv.ob.injEq, List.cons.injEq, Fd.o.injEq, Fd.v.injEq, PyData.tuple.injEq, true_and, and_true, List.map_append, List.map_singleton] at h1
  obtain ⟨⟨rfl, rfl⟩, _, e3⟩ := h1
  obtain ⟨e4, e5⟩ := List.append_inj' e3 rfl
  simp only [List.cons.injEq, and_true] at e5
  refine ⟨h3, h4.trans ?_⟩
  rw [e4, e5]; rfl, fun ⟨e1, e2⟩ => ⟨_, _, _, _, _, _, _, _, _, by rw [List.map_append]; rfl, e1, e2⟩⟩
theorem undo_post0 : undoS.post (.ob 0 [.v (.tuple [.int roll, pr n d]), .v (nowQ d st), .o []]) ds r h = False := propext ⟨fun ⟨a, b, c, d', e, p', x, y, z, h1, h3, h4⟩ => by
  simp [Ro] at h1, fun z => z.elim⟩
theorem undo_exc : undoS.exc (.ob 0 [.v (.tuple [.int roll, pr n d]), .v (nowQ d st), .o ((p ++ [t]).map (nowQ d))]) ds x q h = False := propext ⟨fun ⟨_, _, _, a, b, c, d', e, h1⟩ => by
  simp [Ro] at h1, fun z => z.elim⟩
theorem undo_exc0 : undoS.exc (.ob 0 [.v (.tuple [.int roll, pr n d]), .v (nowQ d st), .o []]) ds x q h = (x = "NothingToUndo" ∧ q = .none ∧ h = .ob 0 [.v (.tuple [.int roll, pr n d]), .v (nowQ d st), .o []]) := propext ⟨fun ⟨h1, h2, h3, _⟩ => ⟨h1, h2, h3⟩, fun ⟨h1, h2, h3⟩ => ⟨h1, h2, h3, _, _, _, _, _, rfl⟩⟩
end
theorem k_cut : Keeps G 3 (.ob 0) 2 s_cut b_Roll_cut := by
  rintro hv ds hk hl ⟨roll, n, d, st, p, v, rfl, rfl, hg, hv⟩
  simp [b_Roll_cut, env0, RoQ, hg, hv]
def toBg : PyData → PyData
  | .tuple [a, _] => .tuple [a, .tuple [.int 0, .int 1]]
  | x => x
theorem toBg_q {d : Int} {s : Sq2} : toBg (stripQ d s) = fQ (4 * d) s.1 0 := by
  show (.tuple [lowD s.1 (4 * d), .tuple [.int 0, .int 1]] : PyData) = _
  rw [fqz]
theorem k_rmatches : Keeps G 6 (.ob 0) 1 s_rmatches b_Roll_matches := by
  rintro hv ds hk hl ⟨rfl, roll, n, d, st, p, rfl, hr, hi, hp, hp60⟩
  obtain ⟨hd, r6, sP, sW, hss, hlen⟩ := hi.sz hr
  have hpt := hr.2.2.1
  simp [b_Roll_matches, env0, RoQ, L2.atI, nowQ, stripsQ]
  refine cmp_map toBg (by simp [line]; omega) ?_ ?_
  · intro y hy K k
    obtain ⟨s, hs, rfl⟩ := List.mem_map.mp hy
    rw [toBg_q] at k
    simp [cturn, stripQ, fqz] at k ⊢
    exact k
  · have hm : (st.ss.map (stripQ d)).map toBg = st.ss.map (fun s => fQ (4 * d) s.1 0) := by rw [List.map_map]; exact List.map_congr_left fun s _ => toBg_q
    rw [hm]
    obtain ⟨e0, he0⟩ : ∃ e0, e0 = [Sl.ib 0 (FdQ roll n d st p), Sl.v (.list (st.ss.map fun s => fQ (4 * d) s.1 0)), Sl.no, Sl.no, Sl.no, Sl.no] := ⟨_, rfl⟩
    simp [cutD_1]
    refine cmp_inv (fun items acc e => ∃ t : List Sq2, items = zipD (t.map fun s => fQ (4 * d) s.1 0) ((t.map fun s => fQ (4 * d) s.1 0).tail) ∧ acc ++ wordsQ n t = wordsQ n st.ss ∧ (∀ s ∈ t, s ∈ st.ss) ∧ acc.length + t.length ≤ 160 ∧ e = e0) ?_ ?_ ?_ ?_
    · exact ⟨_, rfl, rfl, fun _ h => h, by simp; omega, by rw [he0]; rfl⟩
    · rintro x0 r0 acc e K ⟨t, ht, hacc, hin, hl2, rfl⟩ hsome hnone
      match t, ht with
      | [], ht => cases ht
      | [s], ht => cases ht
      | s :: u :: t, ht =>
        simp only [List.map_cons, List.tail_cons, zipD, List.cons.injEq] at ht
        obtain ⟨rfl, rfl⟩ := ht
        have hs := (hss s (hin s List.mem_cons_self)).1
        have hu := (hss u (hin u (by simp))).1
        have fin := hsome (.str (wordG (u.1 - s.1) n)) _ ⟨u :: t, by simp, by rw [← hacc]; simp [wordsQ], fun x hx => hin x (List.mem_cons_of_mem _ hx), by simp at hl2 ⊢; omega, rfl⟩
        rw [he0] at fin ⊢
        simp [cturn, L2.atI, hs, hu, hpt, hd]
        exact fin
    · rintro x0 r0 acc e ⟨t, ht, hacc, hin, hl2, rfl⟩
      show _ < 16777216
      omega
    · rintro acc e ⟨t, ht, hacc, hin, hl2, rfl⟩
      have : wordsQ n t = [] := by
        match t, ht with
        | [], _ => rfl
        | [s], _ => rfl
        | s :: u :: t, ht => cases ht
      rw [this, List.append_nil] at hacc
      have po := fun r h => (rmat_post (ds := []) (h := h) (r := r) (p := p) (st := st) (roll := roll) (n := n) hd)
      rw [he0]
      simp only [FdQ, nowQ, stripsQ] at po ⊢
      simp [po, hacc]
end KL

set_option Elab.async false
set_option linter.all false
set_option maxRecDepth 100000
set_option maxHeartbeats 1000000
set_option exponentiation.threshold 2000
/-! steps done one by one, all taken back -/
namespace KL
open PySem PySem.Spec PyProof.Rows L2 Mp
theorem spread_plains : ∀ {l : List PyData} {i : Nat}, (∀ x ∈ l, plainB x = true) → (spreadD i l).map sndD = l
  | [], i, _ => rfl
  | x :: r, i, h => by
    have ih := spread_plains (l := r) (i := i + 1) fun y hy => h y (List.mem_cons_of_mem _ hy)
    rcases step_inv (d := x) (by simp [stepB, h x List.mem_cons_self]) with ⟨n, inner, rfl, _⟩ | ⟨hp, s, rest, rfl, hne, hr⟩
    · have := h _ List.mem_cons_self
      simp [plainB] at this
    · rw [spread_plain hr, List.map_cons, ih]; rfl
theorem walk_app (roll n d : Int) : ∀ (l m : List PyData) (st : RSt) (p : List RSt), walkP roll n d (l ++ m) st p = walkP roll n d m (walkP roll n d l st p).1 (walkP roll n d l st p).2
  | [], m, st, p => rfl
  | x :: r, m, st, p => walk_app roll n d r m _ _
theorem walk_len (roll n d : Int) : ∀ (l : List PyData) (st : RSt) (p : List RSt), (walkP roll n d l st p).2.length = p.length + l.length
  | [], st, p => rfl
  | x :: r, st, p => by
    show (walkP roll n d r _ (p ++ [st])).2.length = _
    rw [walk_len roll n d r]; simp; omega
theorem walk_ok {roll n d : Int} (hr : RPt roll n d) : ∀ {l : List PyData} {st : RSt} {p : List RSt}, RInv roll n d st → (∀ t ∈ p, RInv roll n d t) → (∀ x ∈ l, plainB x = true) → RInv roll n d (walkP roll n d l st p).1 ∧ ∀ t ∈ (walkP roll n d l st p).2, RInv roll n d t
  | [], st, p, h1, h2, _ => ⟨h1, h2⟩
  | x :: r, st, p, h1, h2, hx => by
    refine walk_ok hr (l := r) (run_inv hr h1 fun y hy => ?_) (fun t ht => ?_) fun y hy => hx y (List.mem_cons_of_mem _ hy)
    · rw [List.mem_singleton.mp hy]; exact hx x List.mem_cons_self
    · rcases List.mem_append.mp ht with ht | ht
      · exact h2 t ht
      · rw [List.mem_singleton.mp ht]; exact h1
/-- one step, as a script -/
theorem one_script {x : PyData} (h : plainB x = true) (g : gd 100 7 x = true) : scriptB (.tuple [x]) = true ∧ gdV (.tuple [x]) := by
  refine ⟨by simp [scriptB, stepB, h], gdV_of (m := 100) (n := 8) ?_ (by decide) (by decide)⟩
  simp [gd, g]
section
variable {hv h : Hdv} {r : R} {x : Str} {roll n d : Int} {st t : RSt} {p : List RSt} {y : PyData} {l ds : List PyData} {q : PyData} {b : Bool}
theorem iadd1_pre (hd : 0 < d) (hr : RPt roll n d) (hi : RInv roll n d st) (hp : ∀ t ∈ p, RInv roll n d t) (hl : p.length < 60) (h1 : plainB y = true) (h2 : gd 100 7 y = true) : s_iadd.pre (.ob 0 [.v (.tuple [.int roll, pr n d]), .v (nowQ d st), .o (p.map (nowQ d))]) [.tuple [y]] := by
  rw [iadd_pre hd]
  exact ⟨⟨hr, hi, hp, by omega⟩, hl, one_script h1 h2⟩
theorem iadd1_post (hd : 0 < d) (h1 : plainB y = true) : s_iadd.post (.ob 0 [.v (.tuple [.int roll, pr n d]), .v (nowQ d st), .o (p.map (nowQ d))]) [.tuple [y]] r h = (r = .me ∧ h = .ob 0 [.v (.tuple [.int roll, pr n d]), .v (nowQ d (runP roll n d [y] st)), .o ((p ++ [st]).map (nowQ d))]) := by
  rw [iadd_post hd, spread_plains (l := [y]) fun x hx => by rw [List.mem_singleton.mp hx]; exact h1]
theorem get3_pre : (getS fun _ _ c _ _ => c).pre (.ob 0 [.v (.tuple [.int roll, pr n d]), .v (nowQ d st), .o (p.map (nowQ d))]) [] := ⟨rfl, _, _, _, _, _, _, rfl⟩
theorem get_post {g : PyData → PyData → PyData → PyData → PyData → PyData} : (getS g).post (.ob 0 [.v (.tuple [.int roll, pr n d]), .v (nowQ d st), .o (p.map (nowQ d))]) ds r h = (h = .ob 0 [.v (.tuple [.int roll, pr n d]), .v (nowQ d st), .o (p.map (nowQ d))] ∧ r = .v (g (.int roll) (pr n d) (lowD st.P (4 * d)) (lowD st.W (4 * d)) (stripsQ d st))) := propext ⟨fun ⟨a, b, c, d', e, p', h1, h2, h3⟩ => by
  simp only [Ro, now3, Hdv.ob.injEq, List.cons.injEq, Fd.o.injEq, Fd.v.injEq, PyData.tuple.injEq, true_and, and_true] at h1
  obtain ⟨⟨rfl, rfl⟩, ⟨rfl, rfl, rfl⟩, rfl⟩ := h1
  exact ⟨h2, h3⟩, fun ⟨e1, e2⟩ => ⟨_, _, _, _, _, _, rfl, e1, e2⟩⟩
theorem get_pre {g : PyData → PyData → PyData → PyData → PyData → PyData} : (getS g).pre (.ob 0 [.v (.tuple [.int roll, pr n d]), .v (nowQ d st), .o (p.map (nowQ d))]) [] = True := propext ⟨fun _ => trivial, fun _ => ⟨rfl, _, _, _, _, _, _, rfl⟩⟩
@[simp] theorem get_exc {g : PyData → PyData → PyData → PyData → PyData → PyData} : (getS g).exc hv ds x q h = False := rfl
end
theorem gd_13 : gdV (.tuple [.int 1, .int 3]) := by show gd 100000 40 _ = true; decide
theorem k_lawdoes : Keeps G 4 (.ob 0) 3 s_does b_law_does := by
  rintro hv ds hk hl ⟨roll, n, d, st, p, l, y, b, rfl, rfl, ⟨hr, hi, hp, hp60⟩, hlen, hg, hx⟩
  obtain ⟨hd, _⟩ := hi.sz hr
  have hall : ∀ x ∈ l ++ [y], gd 100 7 x = true := fun x hx => gd_in hg hx
  simp [b_law_does, env0, RoQ]
  refine for_of (fun rem e => ∃ done cur pc a3, l ++ [y] = done ++ rem ∧ (cur, pc) = walkP roll n d done st p ∧ e = [Sl.ib 0 (FdQ roll n d cur pc), Sl.v (.tuple (l ++ [y])), Sl.v (.bool b), a3]) ?_ ?_ ?_
  · exact ⟨[], st, p, _, rfl, rfl, rfl⟩
  · rintro x0 r0 e K hx0 ⟨done, cur, pc, a3, hdo, hw, rfl⟩ hK
    have hxp := hx x0 hx0
    have hxg := hall x0 hx0
    have hsub : ∀ x ∈ done, plainB x = true := fun x h => hx x (by rw [hdo]; exact List.mem_append_left _ h)
    obtain ⟨w1, w2⟩ := walk_ok hr (l := done) hi hp hsub
    have wl := walk_len roll n d done st p
    rw [← hw] at w1 w2 wl
    have hll : done.length + (r0.length + 1) = l.length + 1 := by
      have := congrArg List.length hdo
      simp at this; omega
    have p1 := iadd1_pre hd hr w1 w2 (by show pc.length < 60; have : pc.length = _ := wl; omega) hxp hxg
    simp [FdQ, p1, line]
    intro r h hq
    rw [iadd1_post hd hxp] at hq
    obtain ⟨rfl, rfl⟩ := hq
    refine ⟨_, rfl, rfl, hK _ ⟨done ++ [x0], runP roll n d [x0] cur, pc ++ [cur], _, by rw [hdo]; simp, ?_, rfl⟩⟩
    rw [walk_app, ← hw]; rfl
  · rintro e ⟨done, cur, pc, a3, hdo, hw, rfl⟩
    rw [List.append_nil] at hdo
    subst hdo
    rw [walk_app] at hw
    obtain ⟨w1, w2⟩ := walk_ok hr (l := l) hi hp fun x h => hx x (List.mem_append_left _ h)
    have wl := walk_len roll n d l st p
    generalize hst : (walkP roll n d l st p).1 = s1 at *
    generalize hsp : (walkP roll n d l st p).2 = p1 at *
    have hw2 : cur = runP roll n d [y] s1 ∧ pc = p1 ++ [s1] := by
      have : walkP roll n d [y] s1 p1 = (runP roll n d [y] s1, p1 ++ [s1]) := rfl
      rw [this] at hw
      exact ⟨congrArg Prod.fst hw, congrArg Prod.snd hw⟩
    obtain ⟨rfl, rfl⟩ := hw2
    have u1 : undoS.pre (.ob 0 [.v (.tuple [.int roll, pr n d]), .v (nowQ d (runP roll n d [y] s1)), .o ((p1 ++ [s1]).map (nowQ d))]) [] := by
      rw [undo_pre]; simp; omega
    simp only [FdQ]
    simp [-List.map_append, u1, undo_exc]
    intro r h hq
    rw [undo_post] at hq
    obtain ⟨rfl, rfl⟩ := hq
    refine ⟨_, rfl, ?_⟩
    cases b with
    | true =>
      have c1 : s_cut.pre (.ob 0 [.v (.tuple [.int roll, pr n d]), .v (nowQ d s1), .o (p1.map (nowQ d))]) [.tuple [.int 1, .int 3]] := by
        rw [cut_pre]; exact ⟨gd_13, by decide⟩
      simp [c1]
      rintro x q h rfl rfl rfl
      exact ⟨_, rfl, roll, n, d, st, p, l, y, rfl, rfl, rfl, rfl, by rw [hst, hsp]; rfl⟩
    | false =>
      simp [get3_pre, get_post]
      exact ⟨roll, n, d, st, p, l, y, rfl, rfl, hd, by rw [hst], by rw [hst, hsp]; rfl⟩
theorem rngD_cons {k : Int} {m : Nat} : rngD k (m + 1) = .int k :: rngD (k + 1) m := by
  unfold rngD
  rw [List.range_succ_eq_map, List.map_cons, List.map_map]
  simp only [List.cons.injEq]
  refine ⟨by simp, List.map_congr_left fun i _ => ?_⟩
  simp only [Function.comp_apply, PyData.int.injEq]
  push_cast; omega
theorem k_lawundone : Keeps G 2 (.ob 0) 1 s_undone b_law_undone := by
  rintro hv ds hk hl ⟨rfl, roll, n, d, st, p, rfl, hr, hi, hp, hp60⟩
  obtain ⟨hd, _⟩ := hi.sz hr
  simp [b_law_undone, env0, RoQ]
  refine for_of (fun rem e => ∃ (k : Nat) (cur : RSt) (pc : List RSt) (a1 : Sl), rem = rngD k (1000 - k) ∧ k + pc.length = p.length ∧ pc.headD cur = p.headD st ∧ e = [Sl.ib 0 (FdQ roll n d cur pc), a1]) ?_ ?_ ?_
  · exact ⟨0, st, p, _, rfl, by simp, rfl, rfl⟩
  · rintro x0 r0 e K hx0 ⟨k, cur, pc, a1, hrem, hk, hh, rfl⟩ hK
    have hk1 : 1000 - k = (1000 - (k + 1)) + 1 := by omega
    rw [hk1, rngD_cons] at hrem
    simp only [List.cons.injEq] at hrem
    obtain ⟨rfl, rfl⟩ := hrem
    have u1 : undoS.pre (.ob 0 (FdQ roll n d cur pc)) [] := by rw [undo_pre]; omega
    rcases List.eq_nil_or_concat pc with rfl | ⟨q, t, rfl⟩
    · simp only [FdQ, List.map_nil] at u1 ⊢
      simp [u1, undo_post0, undo_exc0]
      rintro x q h rfl rfl rfl
      refine ⟨_, rfl, ?_⟩
      have ex : G.exm (Str.ofString "NothingToUndo") (Str.ofString "NothingToUndo") = some true := by decide
      rw [ex, r_hdt]
      refine su_var rfl ?_
      have hk2 : k = p.length := by simpa using hk
      have hh2 : cur = p.headD st := hh
      exact ⟨roll, n, d, st, p, rfl, hd, by rw [hk2], by rw [← hh2]; rfl⟩
    · rw [List.concat_eq_append] at *
      simp only [FdQ] at u1 ⊢
      simp [-List.map_append, u1, undo_exc]
      intro r h hq
      rw [undo_post] at hq
      obtain ⟨rfl, rfl⟩ := hq
      refine ⟨_, rfl, hK _ ⟨k + 1, t, q, _, ?_, ?_, ?_, rfl⟩⟩
      · push_cast; rfl
      · simp at hk; omega
      · rw [← hh]
        cases q <;> rfl
  · rintro e ⟨k, cur, pc, a1, hrem, hk, hh, rfl⟩
    have hk1 : 1000 - k = (1000 - (k + 1)) + 1 := by omega
    rw [hk1, rngD_cons] at hrem
    cases hrem
end KL

set_option Elab.async false
set_option linter.all false
set_option maxRecDepth 100000
set_option maxHeartbeats 1000000
set_option exponentiation.threshold 2000
/-! the forms at one pattern, and step by step -/
namespace KL
open PySem PySem.Spec PyProof.Rows L2 Mp
def absT (n d : Int) (s : Stt) : RSt := ⟨wv s.k s.m n d, wv s.wk s.wm n d, s.ss.map fun t => (wv t.1.1 t.1.2 n d, t.2)⟩
theorem wv_mid {k m n d : Int} (hd : d ≠ 0) : wv k m (midN n d n d) (midB d d) = 2 * d * wv k m n d := by
  unfold midN midB
  rw [if_neg hd, if_neg hd]
  unfold wv; grind
theorem next_at {k m k' m' n d : Int} (hp : Pat n d) {a b : Int} (h : nextG k m k' m' n d n d = .to a b) : wv a b n d = ceilTo (wv k m n d) (wv k' m' n d) n := by
  have hd := hp.2.1
  have hn := hp.1
  simp [nextG, sgN, sgX_self] at h
  obtain ⟨rfl, rfl⟩ := h
  have e : manyI k m k' m' n d n d = ceilQ (wv k m n d) (wv k' m' n d) n := by
    unfold manyI ceilQ
    congr 1
    refine floor_eq ?_ (by omega) ?_
    · have := (mid_pos hp (.inl hp)).1; omega
    · rw [wv_mid (by omega), wv_sub]
      unfold midN
      rw [if_neg (show d ≠ 0 by omega)]
      grind
  rw [e]
  unfold ceilTo
  generalize ceilQ (wv k m n d) (wv k' m' n d) n = c
  unfold wv; grind
theorem last_map {α β : Type} (f : α → β) (l : List α) : (l.map f).getLast? = l.getLast?.map f := by simp
theorem goal_at {w : Str} {n d : Int} {s : Stt} (hp : Pat n d) {a b : Int} (h : goalG w s.k s.m s.ss n d n d = .to a b) : wv a b n d = goalP w (absT n d s).P (absT n d s).ss n := by
  unfold goalG at h
  unfold goalP
  have ess : (absT n d s).ss = s.ss.map fun t : KL.Sp => (wv t.1.1 t.1.2 n d, t.2) := rfl
  rw [ess]
  rw [last_map]
  split at h
  · rename_i hw
    rw [if_pos hw]
    cases hl : s.ss.getLast? with
    | none =>
      rw [hl] at h
      cases h
      rfl
    | some t =>
      rw [hl] at h
      have := next_at hp h
      rw [this]
      show _ = ceilTo _ (if w = "drop" then wv t.1.1 t.1.2 n d - 2 * n else wv t.1.1 t.1.2 n d) n
      by_cases hd : w = "drop"
      · rw [if_pos hd, if_pos hd]
        congr 1
        unfold wv; grind
      · rw [if_neg hd, if_neg hd]; rfl
  · rename_i hw
    rw [if_neg hw]
    have := next_at hp h
    rw [this]
    by_cases hd : w = "half"
    · rw [if_pos hd, if_pos hd]
      congr 1
      unfold wv; grind
    · rw [if_neg hd, if_neg hd]
      congr 1
      unfold wv; grind
/-- every step is done -/
def okP (roll n d : Int) : List PyData → RSt → Prop
  | [], _ => True
  | x :: r, st => ∃ t, goneP roll n d st x = some t ∧ okP roll n d r t
theorem out_at {roll k m n d : Int} : sgM (wv (4 * roll - k) (-m) n d) (wv (4 * roll - k) (-m) n d) = decide (4 * roll * d < wv k m n d) := by
  have e : wv (4 * roll - k) (-m) n d = 4 * roll * d - wv k m n d := by unfold wv; grind
  rw [e]
  generalize wv k m n d = v
  unfold sgM
  by_cases h : 4 * roll * d < v
  · have h1 : ¬ 0 ≤ 4 * roll * d - v := by omega
    have h2 : 4 * roll * d - v ≤ 0 := by omega
    simp [h, h1, h2]
  · have h1 : 0 ≤ 4 * roll * d - v := by omega
    simp [h, h1]
theorem done_run {roll n d : Int} (hp : Pat n d) : ∀ {r : List PyData} {s t : Stt} {i : Option Int}, (∀ x ∈ r, ∃ (j : Nat) (y : PyData), x = .tuple [.int (j : Int), y] ∧ Plain y) →
    doneG roll n d n d r s = .fin i t → runP roll n d (r.map sndD) (absT n d s) = absT n d t ∧ (i = none → okP roll n d (r.map sndD) (absT n d s))
  | [], s, t, i, _, h => by
    simp only [doneG] at h
    cases h
    exact ⟨rfl, fun _ => trivial⟩
  | x :: r, s, t, i, hx, h => by
    obtain ⟨j, y, rfl, hy⟩ := hx x List.mem_cons_self
    obtain ⟨k, m, hg⟩ := step_one (x := y) (s := s) (n := n) (d := d)
    have hs : sndD (.tuple [.int (j : Int), y]) = y := rfl
    simp only [doneG, hs, hg, sgN, sgX_self, Bool.false_eq_true, if_false, out_at, decide_eq_true_eq] at h
    simp only [List.map_cons, hs, runP, okP]
    have ih := @done_run roll n d hp r (stepDo y s k m) t i fun x hx' => hx x (List.mem_cons_of_mem _ hx')
    by_cases hw : wOf y = "cut"
    · have e1 : stepGoal y s n d n d = .to (s.k + qOf y) s.m := by unfold stepGoal; rw [if_pos hw]
      rw [e1] at hg
      cases hg
      have e2 : wv (s.k + qOf y) s.m n d = (absT n d s).P + qOf y * d := by unfold absT wv; grind
      have e3 : absT n d (stepDo y s (s.k + qOf y) s.m) = ⟨(absT n d s).P + qOf y * d, (absT n d s).W, (absT n d s).ss ++ [((absT n d s).P, qOf y)]⟩ := by
        unfold stepDo
        rw [if_pos hw]
        unfold absT
        simp only [List.map_append, List.map_singleton, RSt.mk.injEq, and_true, true_and]
        unfold wv; grind
      rw [e2] at h
      have e4 : goneP roll n d (absT n d s) y = if 4 * roll * d < (absT n d s).P + qOf y * d then none else some (absT n d (stepDo y s (s.k + qOf y) s.m)) := by
        rw [e3]; unfold goneP; rw [if_pos hw]
      rw [e4]
      by_cases hlt : 4 * roll * d < (absT n d s).P + qOf y * d
      · rw [if_pos hlt] at h ⊢
        cases h
        exact ⟨rfl, fun z => by cases z⟩
      · rw [if_neg hlt] at h ⊢
        obtain ⟨q1, q2⟩ := ih h
        exact ⟨q1, fun z => ⟨_, rfl, q2 z⟩⟩
    · have e1 : goalG (wOf y) s.k s.m s.ss n d n d = .to k m := by unfold stepGoal at hg; rw [if_neg hw] at hg; exact hg
      have e2 := goal_at hp e1
      have e3 : absT n d (stepDo y s k m) = ⟨wv k m n d, (absT n d s).W + (wv k m n d - (absT n d s).P), (absT n d s).ss⟩ := by
        unfold stepDo
        rw [if_neg hw]
        unfold absT
        simp only [RSt.mk.injEq, and_true, true_and]
        unfold wv; grind
      rw [e2] at h e3
      have e4 : goneP roll n d (absT n d s) y = if 4 * roll * d < goalP (wOf y) (absT n d s).P (absT n d s).ss n then none else some (absT n d (stepDo y s k m)) := by
        rw [e3]; unfold goneP; rw [if_neg hw]
      rw [e4]
      by_cases hlt : 4 * roll * d < goalP (wOf y) (absT n d s).P (absT n d s).ss n
      · rw [if_pos hlt] at h ⊢
        cases h
        exact ⟨rfl, fun z => by cases z⟩
      · rw [if_neg hlt] at h ⊢
        obtain ⟨q1, q2⟩ := ih h
        exact ⟨q1, fun z => ⟨_, rfl, q2 z⟩⟩
def st0 : RSt := ⟨0, 0, []⟩
theorem abs0 {n d : Int} : absT n d s0 = st0 := by simp [absT, s0, st0, wv]
theorem run_all {roll n d : Int} {l : List PyData} (ho : One roll l n d) (hl : ∀ x ∈ l, plainB x = true) :
    runP roll n d l st0 = absT n d (runG roll l n d).2 ∧ ((runG roll l n d).1 = none → okP roll n d l st0) := by
  obtain ⟨_, hx⟩ := spread_ok ho.2.2.1
  have := done_run ho.2.2.2.2.1 hx (run_eq roll l n d)
  rw [spread_plains hl, abs0] at this
  exact this
theorem ok_app {roll n d : Int} : ∀ {a b : List PyData} {st : RSt}, okP roll n d (a ++ b) st → okP roll n d a st ∧ okP roll n d b (runP roll n d a st) ∧ runP roll n d (a ++ b) st = runP roll n d b (runP roll n d a st)
  | [], b, st, h => ⟨trivial, h, rfl⟩
  | x :: r, b, st, ⟨t, e, h⟩ => by
    obtain ⟨q1, q2, q3⟩ := ok_app (a := r) h
    simp only [List.cons_append, runP, e]
    exact ⟨⟨t, e, q1⟩, q2, q3⟩
theorem walk_run {roll n d : Int} : ∀ {l : List PyData} {st : RSt} {p : List RSt}, okP roll n d l st → (walkP roll n d l st p).1 = runP roll n d l st
  | [], st, p, _ => rfl
  | x :: r, st, p, ⟨t, e, h⟩ => by
    have e1 : runP roll n d [x] st = t := by simp only [runP, e]
    have e2 : runP roll n d (x :: r) st = runP roll n d r t := by simp only [runP, e]
    rw [e2]
    show (walkP roll n d r (runP roll n d [x] st) (p ++ [st])).1 = _
    rw [e1]
    exact walk_run h
theorem walk_head {roll n d : Int} : ∀ {l : List PyData} {st t : RSt} {p : List RSt}, (walkP roll n d l st p).2.headD (walkP roll n d l st p).1 = p.headD st
  | [], st, t, p => rfl
  | x :: r, st, t, p => by
    show (walkP roll n d r _ (p ++ [st])).2.headD (walkP roll n d r _ (p ++ [st])).1 = _
    rw [walk_head (l := r) (t := t)]
    cases p <;> rfl
/-! what the whole tells, told of the state -/
theorem strips_abs {roll n d : Int} {l : List PyData} : stripsG roll l n d = (absT n d (runG roll l n d).2).ss.map (stripQ d) := by
  unfold stripsG absT
  rw [List.map_map]; rfl
theorem waste_abs {roll n d : Int} {l : List PyData} : wasteG roll l n d = lowD (absT n d (runG roll l n d).2).W (4 * d) := rfl
theorem rest_abs {roll n d : Int} {l : List PyData} : restG roll l n d = lowD (4 * roll * d - (absT n d (runG roll l n d).2).P) (4 * d) := rfl
theorem words_abs (n d : Int) : ∀ ss : List KL.Sp, wordsG n d ss = wordsQ n (ss.map fun t => (wv t.1.1 t.1.2 n d, t.2))
  | [] => rfl
  | [a] => rfl
  | a :: b :: r => by
    show _ :: wordsG n d (b :: r) = _ :: wordsQ n ((b :: r).map fun t => (wv t.1.1 t.1.2 n d, t.2))
    rw [words_abs n d (b :: r)]
    simp only [wv_sub]
theorem matches_abs {roll n d : Int} {l : List PyData} : matchesG roll l n d = wordsQ n (absT n d (runG roll l n d).2).ss := words_abs n d _
end KL

set_option Elab.async false
set_option linter.all false
set_option maxRecDepth 100000
set_option maxHeartbeats 1000000
set_option exponentiation.threshold 2000
/-! the law -/
namespace KL
open PySem PySem.Spec PyProof.Rows L2 Mp
theorem cut_last {xs : List PyData} : Mp.cutD xs none (some (-1)) = xs.dropLast := by
  unfold Mp.cutD HT.sIx
  simp [List.dropLast_eq_take]
  try omega
theorem cut_to {xs : List PyData} {k : Nat} : Mp.cutD xs none (some (k : Int)) = xs.take k := by
  unfold Mp.cutD
  rw [HT.sIx_nat, HT.sIx_none]
  rw [Nat.sub_zero, List.drop_zero]
  by_cases h : k ≤ xs.length
  · rw [Nat.min_eq_left h]
  · rw [Nat.min_eq_right (by omega), List.take_of_length_le (Nat.le_refl _), List.take_of_length_le (by omega)]
theorem cut_from {xs : List PyData} {k : Nat} : Mp.cutD xs (some (k : Int)) none = xs.drop k := by
  unfold Mp.cutD
  rw [HT.sIx_nat, HT.sIx_none]
  by_cases h : k ≤ xs.length
  · rw [Nat.min_eq_left h]
    exact List.take_of_length_le (by simp)
  · rw [List.drop_eq_nil_of_le (show xs.length ≤ min k xs.length by omega), List.drop_eq_nil_of_le (show xs.length ≤ k by omega)]
    simp
section
variable {hv h : Hdv} {r : R} {x : Str} {roll n d : Int} {l : List PyData} {f : Int → List PyData → Int → Int → R}
theorem api_one (ho : One roll l n d) : (api f).post hv [.int roll, .tuple l, pr n d] r h = (r = f roll l n d) := by
  rw [api_post]; exact propext ⟨fun h => h.2, fun h => ⟨ho, h⟩⟩
theorem apiX_one (ho : One roll l n d) : apiX (.int roll) (.tuple l) (pr n d) x = False := by
  have h1 := ho.roll
  have h2 := ho.2.2.1
  have h3 := ho.pat
  unfold apiX
  rw [h1, h2, h3]; simp
end
/-- the law's steps: plain ones, at most eight -/
def Gs (s : List PyData) : Prop := (∀ x ∈ s, plainB x = true ∧ gd 8 5 x = true) ∧ s.length ≤ 8
theorem Gs.sc {s : List PyData} (h : Gs s) : scriptB (.tuple s) = true := by
  simp only [scriptB, Bool.and_eq_true, decide_eq_true_eq, List.all_eq_true]
  exact ⟨h.2, fun x hx => by simp [stepB, (h.1 x hx).1]⟩
theorem Gs.gd {s : List PyData} (h : Gs s) : gd 8 6 (.tuple s) = true := by
  simp only [KL.gd, Bool.and_eq_true, decide_eq_true_eq, List.all_eq_true]
  exact ⟨h.2, fun x hx => (h.1 x hx).2⟩
theorem Gs.gdV {s : List PyData} (h : Gs s) : gdV (.tuple s) := gdV_of h.gd (by decide) (by decide)
theorem Gs.sub {s t : List PyData} (h : Gs s) (k : ∀ x ∈ t, x ∈ s) (l : t.length ≤ s.length) : Gs t := ⟨fun x hx => h.1 x (k x hx), by have := h.2; omega⟩
def Pt10 (n d : Int) : Prop := Pat n d ∧ n.natAbs ≤ 10 ^ 10 ∧ d.natAbs ≤ 10 ^ 10 ∧ d ≤ 4 * n
theorem Pt10.sn {n d : Int} (h : Pt10 n d) : Sn n ∧ Sn d := ⟨Nat.lt_of_le_of_lt h.2.1 (by decide), Nat.lt_of_le_of_lt h.2.2.1 (by decide)⟩
theorem Pt10.one {n d roll : Int} {s : List PyData} (h : Pt10 n d) (g : Gs s) (r1 : 1 ≤ roll) (r6 : roll ≤ 6) : One roll s n d := ⟨r1, r6, g.sc, g.gdV, h.1, h.sn.1, h.sn.2, h.2.2.2⟩
theorem Pt10.rpt {n d roll : Int} (h : Pt10 n d) (r1 : 1 ≤ roll) (r6 : roll ≤ 6) : RPt roll n d := ⟨r1, r6, ⟨h.1, h.sn.1, h.sn.2⟩, h.2.2.2⟩
theorem Pt10.gdV {n d : Int} (h : Pt10 n d) : gdV (pr n d) := by
  have h1 : n.natAbs ≤ 10 ^ 41 := Nat.le_trans h.2.1 (by decide)
  have h2 : d.natAbs ≤ 10 ^ 41 := Nat.le_trans h.2.2.1 (by decide)
  show KL.gd 100000 40 (.tuple [.int n, .int d]) = true
  simp only [KL.gd, Bool.and_eq_true, decide_eq_true_eq, List.all_eq_true, List.mem_cons, List.not_mem_nil, or_false]
  refine ⟨by simp, ?_⟩
  rintro x (rfl | rfl)
  · simpa [KL.gd] using h1
  · simpa [KL.gd] using h2
theorem gd_roll {roll : Int} (r1 : 1 ≤ roll) (r6 : roll ≤ 6) : gdV (.int roll) := by
  show KL.gd 100000 40 (.int roll) = true
  simp only [KL.gd, decide_eq_true_eq]
  have : roll.natAbs ≤ 6 := by omega
  exact Nat.le_trans this (by decide)
section
variable {hv h : Hdv} {r : R} {x : Str} {roll n d : Int} {st : RSt} {p : List RSt} {l ds : List PyData} {q : PyData}
theorem getA_post {ps : List PyData} {g : PyData → PyData → PyData → PyData → PyData → PyData} : (getS g).post (.ob 0 [.v (.tuple [.int roll, pr n d]), .v (nowQ d st), .o ps]) ds r h = (h = .ob 0 [.v (.tuple [.int roll, pr n d]), .v (nowQ d st), .o ps] ∧ r = .v (g (.int roll) (pr n d) (lowD st.P (4 * d)) (lowD st.W (4 * d)) (stripsQ d st))) := propext ⟨fun ⟨a, b, c, d', e, p', h1, h2, h3⟩ => by
  simp only [Ro, now3, Hdv.ob.injEq, List.cons.injEq, Fd.o.injEq, Fd.v.injEq, PyData.tuple.injEq, true_and, and_true] at h1
  obtain ⟨⟨rfl, rfl⟩, ⟨rfl, rfl, rfl⟩, rfl⟩ := h1
  exact ⟨h2, h3⟩, fun ⟨e1, e2⟩ => ⟨_, _, _, _, _, _, rfl, e1, e2⟩⟩
theorem getA_pre {ps : List PyData} {g : PyData → PyData → PyData → PyData → PyData → PyData} : (getS g).pre (.ob 0 [.v (.tuple [.int roll, pr n d]), .v (nowQ d st), .o ps]) [] = True := propext ⟨fun _ => trivial, fun _ => ⟨rfl, _, _, _, _, _, _, rfl⟩⟩
theorem self_eq {x : PyData} (h : SeqAt.shaped x = true) : eqOk x x = true ∧ PyData.eqv x x = true := ⟨eqok_sh h h, SeqAt.eqv_refl x (SeqAt.canLay_of_shaped h)⟩
theorem sh_low {a b : Int} : SeqAt.shaped (lowD a b) = true := rfl
theorem sh_strips {d : Int} {st : RSt} : SeqAt.shaped (stripsQ d st) = true := by
  unfold SeqAt.shaped
  have h1 : PyData.canLay0 (stripsQ d st) = true := lay_all fun x hx => by obtain ⟨s, _, rfl⟩ := List.mem_map.mp hx; rfl
  have h2 : PyData.depth (stripsQ d st) ≤ 3 := Nat.succ_le_succ (dep_all fun x hx => by obtain ⟨s, _, rfl⟩ := List.mem_map.mp hx; exact stripQ_dep)
  rw [h1, decide_eq_true (Nat.le_trans h2 (by decide))]
  rfl
theorem word_in (G n : Int) : wordG G n = "same" ∨ wordG G n = "half" ∨ wordG G n = "none" := by
  unfold wordG
  split
  · split
    · exact .inl rfl
    · exact .inr (.inl rfl)
  · exact .inr (.inr rfl)
theorem words_in (n : Int) : ∀ ss : List Sq2, ∀ x ∈ wordsQ n ss, x = .str "same" ∨ x = .str "half" ∨ x = .str "none"
  | [], x, h => by cases h
  | [a], x, h => by cases h
  | a :: b :: r, x, h => by
    rcases List.mem_cons.mp h with rfl | h
    · rcases word_in (b.1 - a.1) n with e | e | e <;> rw [e] <;> simp
    · exact words_in n (b :: r) x h
theorem sh_words {n : Int} {ss : List Sq2} : SeqAt.shaped (.list (wordsQ n ss)) = true := by
  unfold SeqAt.shaped
  have h1 : PyData.canLay0 (.list (wordsQ n ss)) = true := lay_all fun x hx => by rcases words_in n ss x hx with rfl | rfl | rfl <;> decide +kernel
  have h2 : PyData.depth (.list (wordsQ n ss)) ≤ 1 := Nat.succ_le_succ (dep_all fun x hx => by rcases words_in n ss x hx with rfl | rfl | rfl <;> decide +kernel)
  rw [h1, decide_eq_true (Nat.le_trans h2 (by decide))]
  rfl
theorem sum_ok {P u : Int} (hu : 0 < u) (sr : Sz roll) (sP : Sz P) (su : Sz u) : sumS.pre hv [.tuple [.int roll, .int 1], lowD P u, .int (-1)] ∧ ∀ r h, sumS.post hv [.tuple [.int roll, .int 1], lowD P u, .int (-1)] r h → r = .v (lowD (roll * u - P) u) := by
  have e : (.tuple [.int roll, .int 1] : PyData) = lowD roll 1 := (low_of_cop (by simp)).symm
  rw [e]
  refine ⟨⟨roll, 1, P, u, rfl, by decide, hu, sr, Sz_1, sP, su⟩, fun r h q => ?_⟩
  have := q roll 1 P u rfl (by decide) hu
  rw [this, Int.mul_one, Int.one_mul]
@[simp] theorem sum_exc : sumS.exc hv ds x q h = False := rfl
theorem sh_now {d : Int} {st : RSt} : SeqAt.shaped (nowQ d st) = true := by
  unfold SeqAt.shaped
  rw [nowQ_lay, decide_eq_true (Nat.le_trans nowQ_dep (by decide))]; rfl
abbrev mark1 : PyData := .tuple [.str "mark"]
theorem does_pre {b : Bool} (hr : ROk roll n d st p) (hG : Gs l) (hl : p.length + l.length + 1 ≤ 60) : DoesPre (.ob 0 [.v (.tuple [.int roll, pr n d]), .v (nowQ d st), .o (p.map (nowQ d))]) [.tuple (l ++ [mark1]), .bool b] := by
  refine ⟨roll, n, d, st, p, l, mark1, b, rfl, rfl, hr, hl, ?_, fun x hx => ?_⟩
  · have := hG.2
    simp only [KL.gd, Bool.and_eq_true, decide_eq_true_eq, List.all_eq_true]
    refine ⟨by simp; omega, fun x hx => ?_⟩
    rcases List.mem_append.mp hx with hx | hx
    · exact gd_up1 (by decide) (by decide) (hG.1 x hx).2
    · rw [List.mem_singleton.mp hx]; decide +kernel
  · rcases List.mem_append.mp hx with hx | hx
    · exact (hG.1 x hx).1
    · rw [List.mem_singleton.mp hx]; decide +kernel
theorem tried_T (q : s_tried.post hv [.tuple l, .bool true] r h) : r = .v (.str "length!") ∧ h = hv := by
  rcases q with ⟨_, _, _, _, _, _, _, _, e, _⟩ | ⟨h1, h2, _⟩
  · simp at e
  · exact ⟨h2, h1⟩
theorem tried_F (hd : 0 < d) (q : s_tried.post (.ob 0 [.v (.tuple [.int roll, pr n d]), .v (nowQ d st), .o (p.map (nowQ d))]) [.tuple (l ++ [mark1]), .bool false] r h) :
    r = .v (lowD (walkP roll n d l st p).1.P (4 * d)) ∧ h = .ob 0 [.v (.tuple [.int roll, pr n d]), .v (nowQ d (walkP roll n d l st p).1), .o ((walkP roll n d l st p).2.map (nowQ d))] := by
  rcases q with ⟨roll', n', d', st', p', l', y, e1, e, hd', q1, q2⟩ | ⟨_, _, l', e⟩
  · obtain ⟨rfl, rfl, rfl, rfl, rfl⟩ := RoQ_inj hd e1
    simp only [List.cons.injEq, PyData.tuple.injEq, and_true] at e
    obtain ⟨rfl, _⟩ := List.append_inj' e rfl
    exact ⟨q1, q2⟩
  · simp at e
@[simp] theorem tried_exc : s_tried.exc hv ds x q h = False := rfl
theorem undone_pre (hr : ROk roll n d st p) : s_undone.pre (.ob 0 [.v (.tuple [.int roll, pr n d]), .v (nowQ d st), .o (p.map (nowQ d))]) [] := ⟨rfl, _, _, _, _, _, rfl, hr⟩
theorem undone_post (hd : 0 < d) : s_undone.post (.ob 0 [.v (.tuple [.int roll, pr n d]), .v (nowQ d st), .o (p.map (nowQ d))]) ds r h = (r = .v (.int p.length) ∧ h = .ob 0 [.v (.tuple [.int roll, pr n d]), .v (nowQ d (p.headD st)), .o []]) := propext ⟨fun ⟨_, _, _, _, _, e, _, q1, q2⟩ => by
  obtain ⟨rfl, rfl, rfl, rfl, rfl⟩ := RoQ_inj hd e
  exact ⟨q1, q2⟩, fun ⟨q1, q2⟩ => ⟨_, _, _, _, _, rfl, hd, q1, q2⟩⟩
@[simp] theorem undone_exc : s_undone.exc hv ds x q h = False := rfl
theorem eqp_ok {roll n d : Int} {st st' : RSt} {p p' : List RSt} (h : ROk roll n d st p) (h' : ROk roll n d st' p') : G.eqp 0 [.v (.tuple [.int roll, pr n d]), .v (nowQ d st), .o (p.map (nowQ d))] [.v (.tuple [.int roll, pr n d]), .v (nowQ d st'), .o (p'.map (nowQ d))] :=
  ⟨roll, n, d, st, p, roll, n, d, st', p', rfl, rfl, h, h'⟩
theorem eqf_ok {roll n d : Int} {st : RSt} {p p' : List PyData} : G.eqf 0 [.v (.tuple [.int roll, pr n d]), .v (nowQ d st), .o p] [.v (.tuple [.int roll, pr n d]), .v (nowQ d st), .o p'] = true := by
  show (PyData.eqv _ _ && (PyData.eqv (lowD st.P (4 * d)) (lowD st.P (4 * d)) && PyData.eqv (stripsQ d st) (stripsQ d st))) = true
  rw [(self_eq sh_low).2, (self_eq sh_strips).2, (self_eq (x := .tuple [.int roll, pr n d]) rfl).2]; rfl
theorem init_pre (h1 : gdV (.int roll)) (h2 : gdV (pr n d)) (h3 : rollB (.int roll) = true) (h4 : patB (pr n d) = true) : initS.pre (.ob 0 (nosF 3)) [.int roll, pr n d] := ⟨rfl, _, _, rfl, h1, h2, h3, h4⟩
theorem now0 {d : Int} (hd : 0 < d) : nowQ d st0 = .tuple [.tuple [.int 0, .int 1], .tuple [.int 0, .int 1], .tuple []] := by
  show (.tuple [lowD 0 (4 * d), lowD 0 (4 * d), .tuple []] : PyData) = _
  rw [low_cross (a := 0) (b := 4 * d) (c := 0) (d := 1) (by omega) (by omega) (by omega), low_of_cop (by simp)]; rfl
theorem init_post (hd : 0 < d) : initS.post hv [.int roll, pr n d] r h = (r = .v .none ∧ h = .ob 0 [.v (.tuple [.int roll, pr n d]), .v (nowQ d st0), .o []]) := propext ⟨fun ⟨a, b, e, h1, h2⟩ => by
  simp only [List.cons.injEq, and_true] at e
  obtain ⟨rfl, rfl⟩ := e
  exact ⟨h1, by rw [h2, now0 hd]; rfl⟩, fun ⟨h1, h2⟩ => ⟨_, _, rfl, h1, by rw [h2, now0 hd]; rfl⟩⟩
@[simp] theorem init_exc : initS.exc hv ds x q h = False := rfl
theorem iaddS_pre (hd : 0 < d) (hr : ROk roll n d st p) (hl : p.length < 60) (hG : Gs l) : s_iadd.pre (.ob 0 [.v (.tuple [.int roll, pr n d]), .v (nowQ d st), .o (p.map (nowQ d))]) [.tuple l] := by
  rw [iadd_pre hd]; exact ⟨hr, hl, hG.sc, hG.gdV⟩
theorem iaddS_post (hd : 0 < d) (hG : Gs l) : s_iadd.post (.ob 0 [.v (.tuple [.int roll, pr n d]), .v (nowQ d st), .o (p.map (nowQ d))]) [.tuple l] r h = (r = .me ∧ h = .ob 0 [.v (.tuple [.int roll, pr n d]), .v (nowQ d (runP roll n d l st)), .o ((p ++ [st]).map (nowQ d))]) := by
  rw [iadd_post hd, spread_plains fun x hx => (hG.1 x hx).1]
theorem st0_inv (h : 0 < d) (hr : 1 ≤ roll) : RInv roll n d st0 := ⟨Int.le_refl _, Int.mul_nonneg (by omega) (by omega), Int.le_refl _, Int.le_refl _, by simp [st0], fun s hs => by cases hs⟩
theorem opNe_self {x : PyData} {Q : Bool → Prop} (h : SeqAt.shaped x = true) (q : Q false) : eqOk x x = true ∧ Q (!PyData.eqv x x) := by
  refine ⟨eqok_sh h h, ?_⟩
  rw [SeqAt.eqv_refl x (SeqAt.canLay_of_shaped h)]
  exact q
end
theorem out_nil {roll n d : Int} : (runG roll [] n d).1 = none := rfl
theorem isn_opt (o : Option Int) : isNone (optD o) = o.isNone := by cases o <;> rfl
theorem k_law : Keeps G 13 .sc 1 s_law b_law := by
  rintro hv ds hk hl ⟨ns, rfl, rfl, hn⟩
  simp [b_law, env0]
  refine ⟨by split <;> split <;> omega, ?_⟩
  refine for_of (fun rem e => ∃ a1 a2 a3 a4 a5 a6 a7 a8 a9 a10 a11 a12, e = [Sl.sc ns, a1, a2, a3, a4, a5, a6, a7, a8, a9, a10, a11, a12] ∧ ∀ x ∈ rem, ∃ q : Int, x = .int q ∧ 0 ≤ q ∧ q ≤ 20) ?_ ?_ ?_
  · refine ⟨_, _, _, _, _, _, _, _, _, _, _, _, rfl, fun x hx => ?_⟩
    simp only [rngD, List.mem_map, List.mem_range] at hx
    obtain ⟨j, hj, rfl⟩ := hx
    refine ⟨_, rfl, by omega, ?_⟩
    have : (j : Int) < 17 := by
      split at hj <;> split at hj <;> omega
    omega
  · rintro x0 r0 e K hx0 ⟨a1, a2, a3, a4, a5, a6, a7, a8, a9, a10, a11, a12, rfl, hall⟩ hK
    obtain ⟨q, rfl, q0, q1⟩ := hall x0 List.mem_cons_self
    have hall' : ∀ x ∈ r0, ∃ q : Int, x = .int q ∧ 0 ≤ q ∧ q ≤ 20 := fun x hx => hall x (List.mem_cons_of_mem _ hx)
    simp [q0, q1, -seqK_at]
    rintro _ src rfl hs
    simp [-seqK_at]
    simp only [seqK_at]
    simp [hs, -seqK_at]
    rintro _ _ src1 rfl hs1 m1 rfl h01 h11
    simp [hs1, -seqK_at]
    rintro _ _ src2 rfl hs2 pl rfl hpl hpa
    obtain ⟨v0, rfl⟩ : ∃ v0, pl = [v0] := by
      match pl, hpl with
      | [v0], _ => exact ⟨v0, rfl⟩
    obtain ⟨n, d, rfl, hp, n10, d10, hdn⟩ := hpa v0 (by simp)
    simp [hs2, -seqK_at]
    rintro _ _ src3 rfl hs3 l rfl hne hsc hg hl7
    simp [-seqK_at]
    simp only [seqK_at]
    simp [-seqK_at]
    have hl8 := script_in hsc
    refine cmp_filter (fun x => if plainB x = true then some x else none) (by simp [line]; omega) ?_ ?_
    · intro x hx K2 k
      rcases step_inv (hl8.2 x hx) with ⟨n', inner, rfl, _⟩ | ⟨hp2, s, rest, rfl, hne2, hr⟩
      · have : plainB (.tuple [.str "repeat", .int n', .tuple inner]) = false := rfl
        simp [cturn, this] at k ⊢
        exact k
      · rw [if_pos hp2] at k
        have hs2 : (s = ("repeat" : Str)) = False := by
          rcases plain_of hp2 with ⟨w, hw, e⟩ | ⟨q, _, _, e⟩
          · simp at e
            rw [e.1]
            simp only [placeT, List.mem_cons, List.not_mem_nil, or_false] at hw
            rcases hw with rfl | rfl | rfl | rfl <;> exact eq_false (by decide)
          · simp at e
            rw [e.1]
            exact eq_false (by decide)
        simp [cturn, hs2] at k ⊢
        exact k
    · obtain ⟨f, hf⟩ : ∃ f, f = l.filterMap (fun x => if plainB x = true then some x else none) := ⟨_, rfl⟩
      rw [← hf]
      have hfm : ∀ x ∈ f, plainB x = true ∧ x ∈ l := fun x hx => by
        rw [hf] at hx
        obtain ⟨y, hy, e⟩ := List.mem_filterMap.mp hx
        split at e
        · cases e; exact ⟨‹_›, hy⟩
        · cases e
      have hfl : f.length ≤ 7 := by
        have := List.length_filterMap_le (fun x => if plainB x = true then some x else none) l
        rw [← hf] at this
        omega
      have hfl2 : f.length + 1 ≤ 16777216 := by omega
      simp [hfl2, line, -seqK_at]
      simp only [seqK_at]
      simp [-seqK_at]
      have hpt : Pt10 n d := ⟨hp, n10, d10, hdn⟩
      obtain ⟨roll, hroll⟩ : ∃ roll, roll = 1 + m1 := ⟨_, rfl⟩
      rw [← hroll]
      have r1 : 1 ≤ roll := by omega
      have r6 : roll ≤ 6 := by omega
      have hG0 : Gs (f ++ [.tuple [.str "mark"]]) := ⟨fun x hx => by
        rcases List.mem_append.mp hx with hx | hx
        · exact ⟨(hfm x hx).1, gd_in hg (hfm x hx).2⟩
        · rw [List.mem_singleton.mp hx]; exact ⟨by decide +kernel, by decide +kernel⟩, by simp; omega⟩
      refine ⟨by omega, ?_⟩
      refine for_of (fun rem e => ∃ s a4 a5 a6 a7 a8 a9 a12, e = [Sl.sc ns, Sl.v (.int q), Sl.o src3, Sl.v (.tuple s), a4, a5, a6, a7, a8, a9, Sl.v (.int roll), Sl.v (pr n d), a12] ∧ Gs s ∧ ((runG roll s n d).1 = none ∨ s.length ≤ rem.length)) ?_ ?_ ?_
      · exact ⟨_, _, _, _, _, _, _, _, rfl, hG0, .inr (by simp [rngD])⟩
      · rintro x0 rem e K2 hx ⟨s, a4, a5, a6, a7, a8, a9, a12, rfl, hG, hor⟩ hK2
        have ho := hpt.one hG r1 r6
        simp [gd_roll r1 r6, hG.gdV, hpt.gdV, api_one ho, apiX_one ho, outG, isn_opt]
        cases hi : (runG roll s n d).1 with
        | none =>
          simp
          exact hK2 _ ⟨s, _, _, _, _, _, _, _, rfl, hG, .inl hi⟩
        | some i =>
          simp [cut_last]
          refine hK2 _ ⟨s.dropLast, _, _, _, _, _, _, _, rfl, hG.sub (fun x hx => List.dropLast_subset _ hx) (by simp), .inr ?_⟩
          rcases hor with h | h
          · rw [hi] at h; cases h
          · simp at h ⊢; omega
      · rintro e ⟨s, a4, a5, a6, a7, a8, a9, a12, rfl, hG, hor⟩
        have ho := hpt.one hG r1 r6
        have hout : (runG roll s n d).1 = none := by
          rcases hor with h | h
          · exact h
          · have : s = [] := List.length_eq_zero_iff.mp (by simpa using h)
            rw [this]; rfl
        have hd : 0 < d := hp.2.1
        have hpl : ∀ x ∈ s, plainB x = true := fun x hx => (hG.1 x hx).1
        obtain ⟨hrun, hok⟩ := run_all ho hpl
        have hok := hok hout
        obtain ⟨fin, hfin⟩ : ∃ fin, fin = absT n d (runG roll s n d).2 := ⟨_, rfl⟩
        rw [← hfin] at hrun
        have hr := hpt.rpt r1 r6
        have i0 : RInv roll n d st0 := st0_inv hd r1
        have ifin : RInv roll n d fin := by rw [← hrun]; exact run_inv hr i0 hpl
        have ip := init_pre (gd_roll r1 r6) hpt.gdV ho.roll ho.pat
        have a1 := iaddS_pre (p := []) hd ⟨hr, i0, (fun t ht => by cases ht), by decide⟩ (by decide) hG
        simp only [List.map_nil] at a1
        simp [-seqK_at]
        simp only [seqK_at]
        simp [ip, init_post hd, -seqK_at]
        simp only [seqK_at]
        simp [a1, -seqK_at]
        intro r h hq
        have po := iaddS_post (p := []) (roll := roll) (n := n) (st := st0) (r := r) (h := h) hd hG
        simp only [List.map_nil, List.nil_append, hrun] at po
        obtain ⟨ps, hps⟩ : ∃ ps, ps = [st0].map (nowQ d) := ⟨_, rfl⟩
        rw [po, ← hps] at hq
        obtain ⟨rfl, rfl⟩ := hq
        refine ⟨_, rfl, rfl, ?_⟩
        have api1 := fun (f : Int → List PyData → Int → Int → R) (r : R) (h : Hdv) => api_one (hv := .no) (h := h) (r := r) (f := f) ho
        have apix := fun (x : Str) => apiX_one (x := x) ho
        have hS : PyData.tuple (stripsG roll s n d) = stripsQ d fin := by rw [strips_abs, ← hfin]; rfl
        have hW : wasteG roll s n d = lowD fin.W (4 * d) := by rw [waste_abs, ← hfin]
        simp only [seqK_at]
        obtain ⟨_, _, sP, sW, _, _⟩ := ifin.sz hr
        have sdd := hpt.sn.2
        have S4 : Sz (4 * d) := sz4 (nat_small sdd (by decide))
        obtain ⟨eS1, eS2⟩ := self_eq (sh_strips (d := d) (st := fin))
        obtain ⟨eW1, eW2⟩ := self_eq (sh_low (a := fin.W) (b := 4 * d))
        have hR : restG roll s n d = lowD (roll * (4 * d) - fin.P) (4 * d) := by rw [rest_abs, ← hfin]; congr 2; grind
        obtain ⟨eR1, eR2⟩ := self_eq (sh_low (a := roll * (4 * d) - fin.P) (b := 4 * d))
        obtain ⟨sm1, sm2⟩ := sum_ok (hv := .no) (roll := roll) (P := fin.P) (u := 4 * d) (by omega) (Sz_small (by omega)) (nat_small sP (by decide)) S4
        have hM : matchesG roll s n d = wordsQ n fin.ss := by rw [matches_abs, ← hfin]
        obtain ⟨eM1, eM2⟩ := self_eq (sh_words (n := n) (ss := fin.ss))
        have rok : ROk roll n d fin [st0] := ⟨hr, ifin, (fun t ht => by rw [List.mem_singleton.mp ht]; exact i0), by decide⟩
        have rm1 : s_rmatches.pre (.ob 0 [.v (.tuple [.int roll, pr n d]), .v (nowQ d fin), .o ps]) [] := by rw [hps, rmat_pre hd]; exact rok
        have rm2 : ∀ r h, s_rmatches.post (.ob 0 [.v (.tuple [.int roll, pr n d]), .v (nowQ d fin), .o ps]) [] r h = (r = .o (wordsQ n fin.ss) ∧ h = .ob 0 [.v (.tuple [.int roll, pr n d]), .v (nowQ d fin), .o ps]) := fun r h => by rw [hps, rmat_post hd]
        simp [getA_pre, getA_post, gd_roll r1 r6, hG.gdV, hpt.gdV, api1, apix, hS, hW, eS1, eS2, eW1, eW2, -seqK_at]
        simp only [seqK_at]
        simp [getA_pre, getA_post, sm1, -seqK_at]
        intro r h hq
        rw [sm2 r h hq]
        simp [gd_roll r1 r6, hG.gdV, hpt.gdV, api1, apix, hR, eR1, eR2, -seqK_at]
        simp only [seqK_at]
        simp [rm1, rm2, gd_roll r1 r6, hG.gdV, hpt.gdV, api1, apix, hM, eM1, eM2, -seqK_at]
        simp only [seqK_at]
        have hl8 := hG.2
        have c0 : (0 : Int) < s.length + 1 := by omega
        have c1 : (s.length : Int) + 1 < 2 ^ 60 := by omega
        simp [hs3, c0, c1, -seqK_at]
        refine ⟨by omega, ?_⟩
        rintro _ _ src4 rfl hs4 ci rfl hc0 hc1
        obtain ⟨c, rfl⟩ := Int.eq_ofNat_of_zero_le hc0
        simp [-seqK_at]
        simp only [seqK_at]
        simp [cut_to, -seqK_at]
        have hcl : c ≤ s.length := by have := hc1; omega
        obtain ⟨ok1, ok2, rapp⟩ := ok_app (a := s.take c) (b := s.drop c) (by rw [List.take_append_drop]; exact hok)
        rw [List.take_append_drop, hrun] at rapp
        have hGt : Gs (s.take c) := hG.sub (fun x hx => List.mem_of_mem_take hx) (by simp; omega)
        have hGd : Gs (s.drop c) := hG.sub (fun x hx => List.mem_of_mem_drop hx) (by simp)
        refine for_of (fun rem e => ∃ done cur pc a7, s.take c = done ++ rem ∧ (cur, pc) = walkP roll n d done st0 [] ∧ e = [Sl.sc ns, Sl.v (.int q), Sl.o src4, Sl.v (.tuple s), a4, Sl.ob 0 [.v (.tuple [.int roll, pr n d]), .v (nowQ d fin), .o ps], Sl.v (.int (c : Int)), a7, a8, a9, Sl.v (.int roll), Sl.v (pr n d), Sl.ob 0 (FdQ roll n d cur pc)]) ?_ ?_ ?_
        · exact ⟨[], st0, [], _, rfl, rfl, rfl⟩
        · rintro x0 rem e K2 hx0 ⟨done, cur, pc, a7, hdo, hw, rfl⟩ hK2
          obtain ⟨hxp, hxg⟩ := hGt.1 x0 hx0
          have hsub : ∀ x ∈ done, plainB x = true := fun x h => (hGt.1 x (by rw [hdo]; exact List.mem_append_left _ h)).1
          obtain ⟨w1, w2⟩ := walk_ok hr (l := done) (p := []) i0 (fun t ht => by cases ht) hsub
          have wl := walk_len roll n d done st0 []
          rw [← hw] at w1 w2 wl
          have hll : done.length ≤ 8 := by
            have := congrArg List.length hdo
            have := hGt.2
            simp at *; omega
          have p1 := iadd1_pre hd hr w1 w2 (by show pc.length < 60; have : pc.length = _ := wl; simp at this; omega) hxp (gd_up1 (by decide) (by decide) hxg)
          simp [FdQ, p1, line]
          intro r h hq
          rw [iadd1_post hd hxp] at hq
          obtain ⟨rfl, rfl⟩ := hq
          refine ⟨_, rfl, rfl, hK2 _ ⟨done ++ [x0], runP roll n d [x0] cur, pc ++ [cur], _, by rw [hdo]; simp, ?_, rfl⟩⟩
          rw [walk_app, ← hw]; rfl
        · rintro e ⟨done, cur, pc, a7, hdo, hw, rfl⟩
          rw [List.append_nil] at hdo
          subst hdo
          obtain ⟨w1, w2⟩ := walk_ok hr (l := s.take c) (p := []) i0 (fun t ht => by cases ht) fun x hx => (hGt.1 x hx).1
          have wl := walk_len roll n d (s.take c) st0 []
          have wr := walk_run (p := []) ok1
          have wh := walk_head (roll := roll) (n := n) (d := d) (l := s.take c) (st := st0) (t := st0) (p := [])
          rw [← hw] at w1 w2 wl wr wh
          have wl : pc.length = c := by simp at wl; omega
          have w1 : RInv roll n d cur := w1
          have w2 : ∀ t ∈ pc, RInv roll n d t := w2
          have wr : cur = runP roll n d (s.take c) st0 := wr
          have wh : pc.headD cur = st0 := wh
          rw [← wr] at ok2 rapp
          have rokc : ROk roll n d cur pc := ⟨hr, w1, w2, by omega⟩
          have x1 := walk_run (p := pc) ok2
          rw [← rapp] at x1
          have x2 := walk_head (roll := roll) (n := n) (d := d) (l := s.drop c) (st := cur) (t := st0) (p := pc)
          rw [wh] at x2
          have x3 := walk_len roll n d (s.drop c) cur pc
          obtain ⟨x4, x5⟩ := walk_ok hr (l := s.drop c) (p := pc) w1 w2 fun x hx => (hGd.1 x hx).1
          obtain ⟨pe, hpe⟩ : ∃ pe, pe = (walkP roll n d (s.drop c) cur pc).2 := ⟨_, rfl⟩
          rw [x1, ← hpe] at x2
          rw [← hpe] at x3 x5
          have x3 : pe.length = s.length := by rw [x3, wl]; simp; omega
          have roke : ROk roll n d fin pe := ⟨hr, ifin, x5, by omega⟩
          have dT := does_pre (b := true) rokc hGd (by simp; omega)
          have dF := does_pre (b := false) rokc hGd (by simp; omega)
          have tT : s_tried.pre (.ob 0 (FdQ roll n d cur pc)) [.tuple (s.drop c ++ [mark1]), .bool true] := dT
          have tF : s_tried.pre (.ob 0 (FdQ roll n d cur pc)) [.tuple (s.drop c ++ [mark1]), .bool false] := dF
          obtain ⟨pcs, hpcs⟩ : ∃ pcs, pcs = pc.map (nowQ d) := ⟨_, rfl⟩
          simp only [FdQ, ← hpcs] at tT tF ⊢
          have lim : s.length - c + 1 ≤ 16777216 := by omega
          simp only [seqK_at]
          simp [getA_pre, getA_post, line, -seqK_at]
          simp only [seqK_at]
          simp [cut_from, line, lim, -seqK_at]
          simp only [seqK_at]
          simp [tT, -seqK_at]
          intro r h hq
          obtain ⟨rfl, rfl⟩ := tried_T hq
          refine ⟨_, rfl, ?_⟩
          have eN1 : eqOk (.tuple [lowD cur.P (4 * d), lowD cur.W (4 * d), stripsQ d cur]) (.tuple [lowD cur.P (4 * d), lowD cur.W (4 * d), stripsQ d cur]) = true := (self_eq (sh_now (d := d) (st := cur))).1
          have eP2 := (self_eq (sh_low (a := cur.P) (b := 4 * d))).2
          have eW2c := (self_eq (sh_low (a := cur.W) (b := 4 * d))).2
          have eS2c := (self_eq (sh_strips (d := d) (st := cur))).2
          have eF := self_eq (sh_low (a := fin.P) (b := 4 * d))
          simp [getA_pre, getA_post, eN1, eP2, eW2c, eS2c, -seqK_at]
          simp only [seqK_at]
          simp [tF, -seqK_at]
          intro r h hq
          rw [hpcs] at hq
          obtain ⟨rfl, rfl⟩ := tried_F hd hq
          rw [x1, ← hpe]
          refine ⟨_, rfl, ?_⟩
          have e1 : G.eqp 0 [.v (.tuple [.int roll, pr n d]), .v (nowQ d fin), .o (pe.map (nowQ d))] [.v (.tuple [.int roll, pr n d]), .v (nowQ d fin), .o ps] := by
            have := eqp_ok roke rok
            rw [← hps] at this
            exact this
          have u1 : s_undone.pre (.ob 0 [.v (.tuple [.int roll, pr n d]), .v (nowQ d fin), .o (pe.map (nowQ d))]) [] := undone_pre roke
          have u2 : ∀ r h, s_undone.post (.ob 0 [.v (.tuple [.int roll, pr n d]), .v (nowQ d fin), .o (pe.map (nowQ d))]) [] r h = (r = .v (.int s.length) ∧ h = .ob 0 [.v (.tuple [.int roll, pr n d]), .v (nowQ d st0), .o []]) := fun r h => by rw [undone_post hd, x2, x3]
          have u3 : s_undone.pre (.ob 0 [.v (.tuple [.int roll, pr n d]), .v (nowQ d fin), .o ps]) [] := by rw [hps]; exact undone_pre rok
          have u4 : ∀ r h, s_undone.post (.ob 0 [.v (.tuple [.int roll, pr n d]), .v (nowQ d fin), .o ps]) [] r h = (r = .v (.int 1) ∧ h = .ob 0 [.v (.tuple [.int roll, pr n d]), .v (nowQ d st0), .o []]) := fun r h => by rw [hps, undone_post hd]; rfl
          obtain ⟨pes, hpes⟩ : ∃ pes, pes = pe.map (nowQ d) := ⟨_, rfl⟩
          rw [← hpes] at e1 u1 u2 ⊢
          simp [getA_pre, getA_post, e1, eqf_ok, eF, eS1, eS2, -seqK_at]
          simp only [seqK_at]
          simp [u1, u2, -seqK_at]
          have z0 : lowD st0.P (4 * d) = .tuple [.int 0, .int 1] := by
            show lowD 0 (4 * d) = _
            rw [low_cross (a := 0) (b := 4 * d) (c := 0) (d := 1) (by omega) (by omega) (by omega), low_of_cop (by simp)]; rfl
          have ok01 : eqOk (.tuple [.int 0, .int 1]) (.tuple [.int 0, .int 1]) = true := rfl
          have e3 : G.eqp 0 [.v (.tuple [.int roll, pr n d]), .v (nowQ d st0), .o []] [.v (.tuple [.int roll, pr n d]), .v (nowQ d st0), .o []] := eqp_ok (p := []) (p' := []) ⟨hr, i0, (fun t ht => by cases ht), by decide⟩ ⟨hr, i0, (fun t ht => by cases ht), by decide⟩
          simp [getA_pre, getA_post, z0, ok01, u3, u4, e3, eqf_ok]
          exact hK _ ⟨_, _, _, _, _, _, _, _, _, _, _, _, rfl, hall'⟩
  · rintro e ⟨a1, a2, a3, a4, a5, a6, a7, a8, a9, a10, a11, a12, rfl, hall⟩
    simp
    rfl
end KL

set_option Elab.async false
set_option linter.all false
set_option maxRecDepth 100000
set_option maxHeartbeats 1000000
/-! Trying: its defs, each for itself -/
namespace KL
open PySem PySem.Spec PyProof.Rows L2 Mp
abbrev tyI : Stmt := mth 57 0
abbrev tyN : Stmt := mth 57 1
abbrev tyX : Stmt := mth 57 2
abbrev tyA : Stmt := mth 59 16
abbrev t_law_tried : Stmt := top 71
section
variable {X : Cx}
theorem vis_l {sc : Scope} {x : Str} (h : sc.names.lookup x = some .local) : Vis sc x := .inl h
/-- self.f, self a name -/
theorem own_fld {i : Nat} {x f : Str} {p q : Pos} (hN : X.N[i]? = some x) (hS : Vis X.env.scope x) (h1 : (x == ("__debug__" : Str)) = false := by decide) (h2 : (x == ("__classdict__" : Str)) = false := by decide) : PE X (.Attribute (.Name x p) f q) (tFld X.K (tVar i) f) :=
  pe_fld (pe_var hN hS h1 h2) rfl
theorem ps_exit {p1 p2 p3 p4 p5 p6 p7 p8 p9 q1 q2 q3 q4 q5 q6 q7 q8 : Pos} {j : Nat} (hN : X.N = (["self", "kind", "value", "told"] : List Str)) (hS : X.env.scope = defScope tyX) :
    PSs X [.If (.Compare (.Name "kind" p1) [.IsNot] [.Constant .none j p2] p3) [.Assign [.Attribute (.Attribute (.Name "self" p4) "thing" p5) "now" p6] (.Attribute (.Name "self" p7) "now" p8) p9,
      .Assign [.Attribute (.Attribute (.Name "self" q1) "thing" q2) "past" q3] (.Attribute (.Name "self" q4) "past" q5) q6] [] q7]
      (tIfS (tB (tNotN (tVar 1))) (tSeq (sFld X.K (tFld X.K (tVar 0) "thing") (tFld X.K (tVar 0) "now") "now") (sFld X.K (tFld X.K (tVar 0) "thing") (tFld X.K (tVar 0) "past") "past")) tNext) := by
  have v0 : Vis X.env.scope "self" := .inl (by rw [hS]; decide +kernel)
  have v1 : Vis X.env.scope "kind" := .inl (by rw [hS]; decide +kernel)
  have n0 : X.N[0]? = some ("self" : Str) := by rw [hN]; rfl
  have n1 : X.N[1]? = some ("kind" : Str) := by rw [hN]; rfl
  refine pss_one (ps_if (pt_cmp (pc_notN (pe_var n1 v1))) (pss_cons (ps_fld (own_fld n0 v0) (own_fld n0 v0) (sw_tgt fun x p z => Expr.noConfusion z)) (pss_one (ps_fld (own_fld n0 v0) (own_fld n0 v0) (sw_tgt fun x p z => Expr.noConfusion z)))) pss_nil)
theorem ps_enter {p1 p2 p3 : Pos} (hN : X.N = (["self"] : List Str)) (hS : X.env.scope = defScope tyN) : PSs X [.Return (some (.Attribute (.Name "self" p1) "thing" p2)) p3] (tRet (tFld X.K (tVar 0) "thing")) :=
  pss_one (ps_ret (own_fld (by rw [hN]; rfl) (.inl (by rw [hS]; decide +kernel))))
theorem ps_tinit {p1 p2 p3 p4 p5 p6 p7 p8 p9 q1 q2 q3 q4 q5 q6 q7 q8 : Pos} (hN : X.N = (["self", "thing"] : List Str)) (hS : X.env.scope = defScope tyI) (hm : X.mg "list" = none) :
    PSs X [.Assign [.Attribute (.Name "self" p1) "thing" p2] (.Name "thing" p3) p4, .Assign [.Attribute (.Name "self" p5) "now" p6] (.Attribute (.Name "thing" p7) "now" p8) p9,
      .Assign [.Attribute (.Name "self" q1) "past" q2] (.Call (.Name "list" q3) [.Attribute (.Name "thing" q4) "past" q5] [] q6) q7]
      (tSeq (sFld X.K (tVar 0) (tVar 1) "thing") (tSeq (sFld X.K (tVar 0) (tFld X.K (tVar 1) "now") "now") (sFld X.K (tVar 0) (tCB (fun xs H Q => ∃ p ys, xs = [.ref p] ∧ (SqL X.K H p ys ∨ SqT X.K H p ys) ∧ ∀ l, H l = none → Q (.ref l) (upd H l (.lst ys))) (tCons (tFld X.K (tVar 1) "past") tNil)) "past"))) := by
  have v0 : Vis X.env.scope "self" := .inl (by rw [hS]; decide +kernel)
  have v1 : Vis X.env.scope "thing" := .inl (by rw [hS]; decide +kernel)
  have g : L2.Gl X "list" := by show X.env.scope.names.lookup _ = _; rw [hS]; decide +kernel
  have n0 : X.N[0]? = some ("self" : Str) := by rw [hN]; rfl
  have n1 : X.N[1]? = some ("thing" : Str) := by rw [hN]; rfl
  refine pss_cons (ps_fld (pe_var n0 v0) (pe_var n1 v1) (sw_tgt fun x p z => Expr.noConfusion z)) (pss_cons (ps_fld (pe_var n0 v0) (own_fld n1 v1) (sw_tgt fun x p z => Expr.noConfusion z)) (pss_one (ps_fld (pe_var n0 v0) ?_ (sw_tgt fun x p z => Expr.noConfusion z))))
  exact pe_callTy call_list_of g hm (by decide +kernel) (pa_cons (own_fld n1 v1) pa_nil rfl)
end
theorem bd_I : ∃ (p1 p2 p3 p4 p5 p6 p7 p8 p9 q1 q2 q3 q4 q5 q6 q7 : Pos), defBody tyI = [.Assign [.Attribute (.Name "self" p1) "thing" p2] (.Name "thing" p3) p4, .Assign [.Attribute (.Name "self" p5) "now" p6] (.Attribute (.Name "thing" p7) "now" p8) p9,
      .Assign [.Attribute (.Name "self" q1) "past" q2] (.Call (.Name "list" q3) [.Attribute (.Name "thing" q4) "past" q5] [] q6) q7] := ⟨_, _, _, _, _, _, _, _, _, _, _, _, _, _, _, _, rfl⟩
theorem bd_N : ∃ (p1 p2 p3 : Pos), defBody tyN = [.Return (some (.Attribute (.Name "self" p1) "thing" p2)) p3] := ⟨_, _, _, rfl⟩
theorem bd_X : ∃ (j : Nat) (p1 p2 p3 p4 p5 p6 p7 p8 p9 q1 q2 q3 q4 q5 q6 q7 : Pos), defBody tyX = [.If (.Compare (.Name "kind" p1) [.IsNot] [.Constant .none j p2] p3) [.Assign [.Attribute (.Attribute (.Name "self" p4) "thing" p5) "now" p6] (.Attribute (.Name "self" p7) "now" p8) p9,
      .Assign [.Attribute (.Attribute (.Name "self" q1) "thing" q2) "past" q3] (.Attribute (.Name "self" q4) "past" q5) q6] [] q7] := ⟨_, _, _, _, _, _, _, _, _, _, _, _, _, _, _, _, _, rfl⟩
theorem bd_A : ∃ (p1 p2 p3 p4 p5 p6 p7 p8 p9 q1 q2 q3 : Pos), defBody tyA = [.With [⟨.Call (.Name "Trying" p1) [.Name "self" p2] [] p3, some (.Name "thing" p4)⟩] [.Assign [.Name "found" p5] (.Call (.Name "action" p6) [.Name "thing" p7] [] p8) p9] q1, .Return (some (.Name "found" q2)) q3] := ⟨_, _, _, _, _, _, _, _, _, _, _, _, rfl⟩
end KL

set_option Elab.async false
set_option linter.all false
set_option maxRecDepth 100000
set_option maxHeartbeats 1000000
/-! Trying: what its defs promise -/
namespace KL
open PySem PySem.Spec PyProof.Rows L2 Mp
structure Try (K : PySem.W.Frag) (mg : Str → Option Value) (CT CR gI gN gX gA : Addr) (fI fN fX fA : FuncData) : Prop where
  cT : L2.Cls K CT
  tT : NoAttr K CT "thing"
  tN : NoAttr K CT "now"
  tP : NoAttr K CT "past"
  mkT : Mk K CT gI
  mT : mg "Trying" = some (.ref CT)
  eN : PySem.W.findIn K (.ref CT) "__enter__" = some (some (.ref gN))
  iN : PySem.W.isFn K (.ref gN) = true
  eX : PySem.W.findIn K (.ref CT) "__exit__" = some (some (.ref gX))
  iX : PySem.W.isFn K (.ref gX) = true
  FI : Fun K "__init__" "Trying.__init__" tyI gI fI
  FN : Fun K "__enter__" "Trying.__enter__" tyN gN fN
  FX : Fun K "__exit__" "Trying.__exit__" tyX gX fX
  FA : Fun K "attempt" "Roll.attempt" tyA gA fA
  cR : L2.Cls K CR
  rN : NoAttr K CR "now"
  rP : NoAttr K CR "past"
  mA : Meth K CR "attempt" gA
  ls : mg "list" = none
def keptFs (a : Addr) (nv : V) (l2 : Addr) : List (Str × V) := [("thing", .ref a), ("now", nv), ("past", .ref l2)]
def spI (CT CR : Addr) : L2.Sp := fun vs H Q _ => ∃ (x a dx dxa l : Addr) (gs : List (Str × V)) (nv : V) (us : List V), vs = [.ref x, .ref a] ∧ x ≠ a ∧ H x = some (.ins CT dx []) ∧ H a = some (.ins CR dxa gs) ∧ gs.lookup ("now" : Str) = some nv ∧ gs.lookup ("past" : Str) = some (.ref l) ∧ H l = some (.lst us) ∧
  ∀ l2, H l2 = none → Q .non (upd (upd H l2 (.lst us)) x (.ins CT dx (keptFs a nv l2)))
def spN (CT : Addr) : L2.Sp := fun vs H Q _ => ∃ (x dx : Addr) (gs : List (Str × V)) (v : V), vs = [.ref x] ∧ H x = some (.ins CT dx gs) ∧ gs.lookup ("thing" : Str) = some v ∧ Q v H
def spX : L2.Sp := fun vs H Q _ => ∃ (v u t : V), vs = [v, .non, u, t] ∧ Q .non H
def spH (CT CR : Addr) : L2.Sp := fun vs H Q _ => ∃ (x c a dx dxa l2 : Addr) (u t nv : V) (gs : List (Str × V)), vs = [.ref x, .ref c, u, t] ∧ x ≠ a ∧ H x = some (.ins CT dx (keptFs a nv l2)) ∧ H a = some (.ins CR dxa gs) ∧ gs.length < 900 ∧
  Q .non (upd H a (.ins CR dxa (putF "past" (.ref l2) (putF "now" nv gs))))
section
variable {P : Program} {w : World} {K : PySem.W.Frag} {mg : Str → Option Value} {base : Heap} {CT CR gI gN gX gA : Addr} {fI fN fX fA : FuncData}
theorem length_putF (f : Str) (v : V) : ∀ gs : List (Str × V), (putF f v gs).length ≤ gs.length + 1
  | [] => Nat.le_refl _
  | (g, x) :: r => by
    have := length_putF f v r
    unfold putF
    split <;> simp only [List.length_cons] <;> omega
theorem upd4 {H : Hp} {x l2 : Addr} {A B C D : HO} : upd (upd (upd (upd H x A) x B) l2 C) x D = upd (upd H l2 C) x D := by
  funext b
  unfold upd
  split <;> rfl
theorem ok_I (T : Try K mg CT CR gI gN gX gA fI fN fX fA) : FnOk P w K mg base (L2.CX P w) 1 gI fI ["self", "thing"] (spI CT CR) := by
  refine T.FI.okX (k := 0) (N := ["self", "thing"]) ⟨rfl, rfl, rfl, by decide +kernel, rfl, by decide +kernel, by decide +kernel⟩ (fun vs H Q E ⟨_, _, _, _, _, _, _, _, e, _⟩ => by rw [e]; rfl) fun cdv A outer s H vs Q E room ⟨x, a, dx, dxa, l, gs, nv, us, e, xa, hx, ha, hn, hp, hl, q⟩ => ?_
  obtain ⟨p1, p2, p3, p4, p5, p6, p7, p8, p9, q1, q2, q3, q4, q5, q6, q7, eb⟩ := bd_I
  subst e
  rw [eb]
  refine ⟨_, ps_tinit (q8 := q7) rfl rfl T.ls, ?_⟩
  have lx : l ≠ x := fun z => by rw [z, hx] at hl; cases hl
  refine ⟨.ref a, rfl, .ref x, rfl, x, CT, dx, [], rfl, hx, T.cT, T.tT, by decide, ?_⟩
  refine ⟨.ref a, rfl, a, CR, dxa, gs, nv, rfl, (upd_ne (Ne.symm xa)).trans ha, T.cR, T.rN, hn, .ref x, rfl, x, CT, dx, _, rfl, upd_same, T.cT, T.tN, (show (1 : Nat) < 1000 by decide), ?_⟩
  refine ⟨.ref a, rfl, a, CR, dxa, gs, .ref l, rfl, (upd_ne (Ne.symm xa)).trans ((upd_ne (Ne.symm xa)).trans ha), T.cR, T.rP, hp, l, us, rfl, .inl (SqL.of ((upd_ne lx).trans ((upd_ne lx).trans hl))), fun l2 h2 => ?_⟩
  have l2x : l2 ≠ x := fun z => by rw [z, upd_same] at h2; cases h2
  rw [upd_ne l2x, upd_ne l2x] at h2
  refine ⟨.ref x, rfl, x, CT, dx, _, rfl, (upd_ne (Ne.symm l2x)).trans upd_same, T.cT, T.tP, (show (2 : Nat) < 1000 by decide), ?_⟩
  have := q l2 h2
  show Q .non _
  rw [upd4]
  exact this
theorem ok_N (T : Try K mg CT CR gI gN gX gA fI fN fX fA) : FnOk P w K mg base (L2.CX P w) 1 gN fN ["self"] (spN CT) := by
  refine T.FN.okX (k := 0) (N := ["self"]) ⟨rfl, rfl, rfl, by decide +kernel, rfl, by decide +kernel, by decide +kernel⟩ (fun vs H Q E ⟨_, _, _, _, e, _⟩ => by rw [e]; rfl) fun cdv A outer s H vs Q E room ⟨x, dx, gs, v, e, hx, ht, q⟩ => ?_
  obtain ⟨p1, p2, p3, eb⟩ := bd_N
  subst e
  rw [eb]
  refine ⟨_, ps_enter rfl rfl, ?_⟩
  exact ⟨.ref x, rfl, x, CT, dx, gs, v, rfl, hx, T.cT, T.tT, ht, q⟩
theorem ok_X (T : Try K mg CT CR gI gN gX gA fI fN fX fA) : FnOk P w K mg base (L2.CX P w) 1 gX fX ["self", "kind", "value", "told"] spX := by
  refine T.FX.okX (k := 0) (N := ["self", "kind", "value", "told"]) ⟨rfl, rfl, rfl, by decide +kernel, rfl, by decide +kernel, by decide +kernel⟩ (fun vs H Q E ⟨_, _, _, e, _⟩ => by rw [e]; rfl) fun cdv A outer s H vs Q E room ⟨v, u, t, e, q⟩ => ?_
  obtain ⟨j, p1, p2, p3, p4, p5, p6, p7, p8, p9, q1, q2, q3, q4, q5, q6, q7, eb⟩ := bd_X
  subst e
  rw [eb]
  refine ⟨_, ps_exit (q8 := q7) rfl rfl, ?_⟩
  exact ⟨.non, rfl, false, rfl, q⟩
theorem ok_H {X : Cx} (T : Try X.K X.mg CT CR gI gN gX gA fI fN fX fA) (room : Room 1 X.A) : Wx.ExitOk X gX (spH CT CR) := by
  obtain ⟨oc, od, kV, doc, pm, an, cdv, ct, osl, rfl, lk, hcd⟩ := T.FX.ex
  refine Wx.exit_ok (k := 0) (N := ["self", "kind", "value", "told"]) (ps := ["self", "kind", "value", "told"]) lk hcd ⟨rfl, rfl, rfl, by decide +kernel, rfl, by decide +kernel, by decide +kernel⟩ room
    (T.FX.binds fun _ _ _ _ _ _ us hl => match us, hl with | [_, _, _, _], _ => rfl) (fun vs H Q E ⟨_, _, _, _, _, _, _, _, _, _, e, _⟩ => by rw [e]; rfl) fun A outer s H vs Q p ⟨x, c, a, dx, dxa, l2, u, t, nv, gs, e, xa, hx, ha, hgs, q⟩ => ?_
  obtain ⟨j, p1, p2, p3, p4, p5, p6, p7, p8, p9, q1, q2, q3, q4, q5, q6, q7, eb⟩ := bd_X
  subst e
  rw [eb]
  refine ⟨_, ps_exit (q8 := q7) rfl rfl, ?_⟩
  refine ⟨.ref c, rfl, true, rfl, ?_⟩
  refine ⟨.ref x, rfl, x, CT, dx, _, nv, rfl, hx, T.cT, T.tN, rfl, .ref x, rfl, x, CT, dx, _, .ref a, rfl, hx, T.cT, T.tT, rfl, a, CR, dxa, gs, rfl, ha, T.cR, T.rN, by omega, ?_⟩
  have hx2 : ∀ o, upd H a o x = some (.ins CT dx (keptFs a nv l2)) := fun o => (upd_ne xa).trans hx
  have := length_putF "now" nv gs
  refine ⟨.ref x, rfl, x, CT, dx, _, .ref l2, rfl, hx2 _, T.cT, T.tP, rfl, .ref x, rfl, x, CT, dx, _, .ref a, rfl, hx2 _, T.cT, T.tT, rfl, a, CR, dxa, _, rfl, upd_same, T.cR, T.rP, by omega, ?_⟩
  show Q .non _
  rw [upd_upd]
  exact q
end
end KL

set_option Elab.async false
set_option linter.all false
set_option maxRecDepth 100000
set_option maxHeartbeats 1000000
/-! attempt -/
namespace KL
open PySem PySem.Spec PyProof.Rows L2 Mp
/-- the heap in which the lambda is called: the Trying instance x, its dict, the copied list l2 -/
def tryH (CT : Addr) (H : Hp) (x dx l2 a : Addr) (nv : V) (us : List V) : Hp := upd (upd (mk0 H x dx CT) l2 (.lst us)) x (.ins CT dx (keptFs a nv l2))
/-- what the call of attempt asks, of the promise sp of what the lambda calls -/
def TTry (CT CR : Addr) (q : Str) (sp : L2.Sp) (a f c2 : Addr) (ws : List (Option V)) (H1 : Hp) (Q : VK) (E : XK) : Prop := ∃ (dxa l : Addr) (gs : List (Str × V)) (nv sv fv : V) (us : List V), H1 a = some (.ins CR dxa gs) ∧ gs.lookup ("now" : Str) = some nv ∧ gs.lookup ("past" : Str) = some (.ref l) ∧ H1 l = some (.lst us) ∧
  ws = [some sv, some fv] ∧ H1 c2 = some (LamX.CodeO c2 q) ∧ ∀ x dx l2, H1 x = none → H1 dx = none → dx ≠ x → H1 l2 = none → l2 ≠ x → l2 ≠ dx →
    sp [.ref a, sv, fv] (tryH CT H1 x dx l2 a nv us) Q (fun c d H3 => ∃ (c' dxa' : Addr) (gs' : List (Str × V)), c = .ref c' ∧ H3 x = some (.ins CT dx (keptFs a nv l2)) ∧ H3 a = some (.ins CR dxa' gs') ∧ gs'.length < 900 ∧ E c d (upd H3 a (.ins CR dxa' (putF "past" (.ref l2) (putF "now" nv gs')))))
def SpMono (sp : L2.Sp) : Prop := ∀ vs H (Q Q' : VK) (E E' : XK), sp vs H Q E → (∀ v H, Q v H → Q' v H) → (∀ c d H, E c d H → E' c d H) → sp vs H Q' E'
section
variable {P : Program} {w : World} {K : PySem.W.Frag} {mg : Str → Option Value} {base : Heap} {CT CR gI gN gX gA : Addr} {fI fN fX fA : FuncData}
theorem att_ok (T : Try K mg CT CR gI gN gX gA fI fN fX fA) {A : Around} {st : List PySem.Env} {cdg : Value} {k : Nat} {q : Str} {sp : L2.Sp} (hm : SpMono sp) (hk : 2 ≤ k) {p1 p2 p3 p4 p5 p6 p7 p8 p9 q1 q2 q3 : Pos} :
    ∀ (a f c2 : Addr) (ws : List (Option V)) (s1 : Shared) (H1 : Hp) (Q : VK) (E : XK), Room (k + 1) (A.deeper (envOfC "Roll.attempt" (defScope tyA) s1.heap.objs.size gA cdg)) →
      (∀ (W1 : WX) (pn : List (Addr × Obj)) (xe : Value → Shared → Prop) (t1 : TA), Takes ((cxOf (L2.CX P w) P w K mg base ["self", "action", "thing", "found"] "Roll.attempt" (defScope tyA) gA cdg A st s1 H1 E).tr pn xe) W1 →
        PA ((cxOf (L2.CX P w) P w K mg base ["self", "action", "thing", "found"] "Roll.attempt" (defScope tyA) gA cdg A st s1 H1 E).tr pn xe) [.Name "thing" p7] t1 →
        PE ((cxOf (L2.CX P w) P w K mg base ["self", "action", "thing", "found"] "Roll.attempt" (defScope tyA) gA cdg A st s1 H1 E).tr pn xe) (.Call (.Name "action" p6) [.Name "thing" p7] [] p8) (Wx.tAct 1 f c2 q ["one", "some", "fail"] ws (fun E => tCallS sp (fun _ => E) (tCons (tVar 0) (tCons (tVar 1) (tCons (tVar 2) tNil)))) W1 t1)) →
      TTry CT CR q sp a f c2 ws H1 Q E →
      ∃ t, PSs (cxOf (L2.CX P w) P w K mg base ["self", "action", "thing", "found"] "Roll.attempt" (defScope tyA) gA cdg A st s1 H1 E) [.With [⟨.Call (.Name "Trying" p1) [.Name "self" p2] [] p3, some (.Name "thing" p4)⟩] [.Assign [.Name "found" p5] (.Call (.Name "action" p6) [.Name "thing" p7] [] p8) p9] q1, .Return (some (.Name "found" q2)) q3] t ∧
        t { nx := fun _ H' => Q .non H', rt := Q } (L2.start ["self", "action", "thing", "found"] [.ref a, .ref f]) H1 := by
  intro a f c2 ws s1 H1 Q E room act ⟨dxa, l, gs, nv, sv, fv, us, ha, hn, hp, hl, ew, hc, h⟩
  have pass0 : ∀ σ : L2.St, PassesAt (L2.CX P w) (cxOf (L2.CX P w) P w K mg base ["self", "action", "thing", "found"] "Roll.attempt" (defScope tyA) gA cdg A st s1 H1 E) σ C8.E0 := fun σ pins H s e s' I c => by
    obtain ⟨_, _, _, _, _, _, _, _, _, _, _, _, z⟩ := c
    exact z.elim
  have rI := room.mono (show 1 + 1 ≤ k + 1 by omega)
  have r1 := room.mono (show 1 ≤ k + 1 by omega)
  have ls : (defScope tyA).names.lookup ("self" : Str) = some .local := by decide +kernel
  have lt : (defScope tyA).names.lookup ("thing" : Str) = some .local := by decide +kernel
  have lf : (defScope tyA).names.lookup ("found" : Str) = some .local := by decide +kernel
  have gT : (defScope tyA).names.lookup ("Trying" : Str) = some .globalImplicit := by decide +kernel
  have nd : (["self", "action", "thing", "found"] : List Str).Nodup := by decide +kernel
  refine ⟨_, pss_cons (Wx.ps_with (C := CT) (spE := spN CT) (spX := spX) (spH := spH CT CR) (Wout := fun c d _ H => E c d H) (i := 2) rfl rfl rfl (takes_of rfl rfl rfl rfl)
    (pe_nw (C := CT) (sp := spI CT CR) (E := fun _ => C8.E0) T.mkT (ok_I T) rI gT T.mT (T.FI.binds fun _ _ _ _ _ _ us hl => match us, hl with | [_, _], _ => rfl) pass0 (pa_cons (pe_var (i := 0) rfl (.inl ls)) pa_nil rfl) (by decide) rfl rfl)
    T.eN T.iN T.eX T.iX (ok_N T) (T.FN.binds fun _ _ _ _ _ _ us hl => match us, hl with | [_], _ => rfl) (ok_X T) (T.FX.binds fun _ _ _ _ _ _ us hl => match us, hl with | [_, _, _, _], _ => rfl) (ok_H T r1) r1 nd rfl (.inl lt) (.inr lt)
    (fun W pn xe tk po => pss_one (ps_set (i := 3) nd rfl (.inl lf) (act W pn xe _ tk (pa_cons (pe_var (i := 2) rfl (.inl lt)) pa_nil rfl)) rfl (.inr lf)))) (pss_one (ps_ret (pe_var (i := 3) rfl (.inl lf)))), ?_⟩
  refine ⟨.ref a, rfl, fun x dx hx hdx hne => ?_⟩
  have xa : x ≠ a := fun z => by rw [z, ha] at hx; cases hx
  have da : dx ≠ a := fun z => by rw [z, ha] at hdx; cases hdx
  have old : ∀ b, H1 b ≠ none → mk0 H1 x dx CT b = H1 b := fun b hb => (upd_ne (fun z => hb (by rw [z]; exact hx))).trans (upd_ne fun z => hb (by rw [z]; exact hdx))
  refine ⟨x, a, dx, dxa, l, gs, nv, us, rfl, xa, upd_same, (old a (by rw [ha]; simp)).trans ha, hn, hp, (old l (by rw [hl]; simp)).trans hl, fun l2 h2 => ⟨rfl, x, dx, keptFs a nv l2, rfl, upd_same, x, dx, keptFs a nv l2, .ref a, rfl, upd_same, rfl, ?_⟩⟩
  have n1 : l2 ≠ x := fun z => by rw [z] at h2; exact absurd (upd_same.symm.trans h2) (by simp)
  have n2 : l2 ≠ dx := fun z => by rw [z] at h2; exact absurd (((upd_ne hne).trans upd_same).symm.trans h2) (by simp)
  have n3 : H1 l2 = none := by
    have h3 : upd (upd H1 dx (.own x)) x (.ins CT dx []) l2 = none := h2
    rw [upd_ne n1, upd_ne n2] at h3
    exact h3
  have c2x : tryH CT H1 x dx l2 a nv us c2 = some (LamX.CodeO c2 q) := by
    refine (upd_ne ?_).trans ((upd_ne ?_).trans ((old c2 (by rw [hc]; simp)).trans hc))
    · intro z; rw [z, hx] at hc; cases hc
    · intro z; rw [z, n3] at hc; cases hc
  refine ⟨rfl, .ref a, rfl, .ref a, rfl, c2x, ?_⟩
  subst ew
  refine ⟨.ref a, rfl, sv, rfl, fv, rfl, ?_⟩
  refine hm _ _ _ _ _ _ (h x dx l2 hx hdx hne n3 n1 n2) (fun v H3 hq => ⟨.ref x, .non, .non, rfl, v, rfl, hq⟩) fun c d H3 ⟨c', dxa', gs', e, e1, e2, e3, e4⟩ => ⟨c', e, fun u t _ => ⟨x, c', a, dx, dxa', l2, .ref u, t, nv, gs', rfl, xa, e1, e2, e3, rfl, e4⟩⟩
end
end KL

set_option Elab.async false
set_option linter.all false
set_option maxRecDepth 100000
set_option maxHeartbeats 1000000
/-! the heap around the call of attempt -/
namespace KL
open PySem PySem.Spec PyProof.Rows L2 Mp
abbrev rollN : List Str := ["both", "now", "past"]
theorem prom_mono {K : PySem.W.Frag} {cls : Cls} {mg : Str → Option Value} {k : HdK} {n : Nat} {s : FSpec} : SpMono (prom K cls mg k n s) := by
  intro vs H Q Q' E E' ⟨hv, ds, O, io, rest, h1, h2, h3, h4, h5, h6, h7, h8, h9, h10⟩ i j
  exact ⟨hv, ds, O, io, rest, h1, h2, h3, h4, h5, h6, h7, h8, fun r h v H' O' p l => i _ _ (h9 r h v H' O' p l), fun x p h C d H' O' e m y l => j _ _ _ (h10 x p h C d H' O' e m y l)⟩
section
variable {K : PySem.W.Frag} {cls : Cls} {mg : Str → Option Value} {CT CR P c2 a f : Addr} {q : Str} {O : List Addr} {H H1 : Hp} {Q : VK} {E : XK} {hv : Hdv} {ds : List PyData} {sv fv : V}
theorem try_heap (hR : cls 0 = some (CR, rollN)) (hT : cls.T = [(P, q)]) (hd : headOk K cls H O hv [.ref a, sv, fv] (some a) [sv, fv]) (rp : Reps K (hid O H) [sv, fv] ds) (oin : ∀ b ∈ O, H b ≠ none) (sep : Sep H O [] [] [] H O) (tb : Tb cls.T H O) (pre : DoesPre hv ds)
    (post : ∀ r h v H' O', s_tried.post hv ds r h → Left K cls (some a) H O H' O' v r h → Q v H') (st : Wx.LamStep P q H H1) (tabs : LamX.Tabs cls.T H1) (hc2 : H1 c2 = some (LamX.CodeO c2 q))
    (hE : ∀ c d H5, mg "InvalidLength" = some (.ref c) → Q (.str "length!") H5 → E (.ref c) d H5) :
    TTry CT CR q (prom K cls mg (.ob 0) 3 s_does) a f c2 [some sv, some fv] H1 Q E := by
  obtain ⟨roll, n, d, rs, pp, ll, yy, bb, rfl, rfl, rok, hlen, hgd, hpl⟩ := id pre
  have ob0 : ObOk K cls H O (fun _ => True) a 0 [.v (.tuple [.int roll, pr n d]), .v (nowQ d rs), .o (pp.map (nowQ d))] := by
    obtain ⟨a', e, _, ob⟩ := hd
    cases e
    exact ob
  obtain ⟨C, dxa, names, gs, hC, ha, hdx, aO, keys, fok⟩ := id ob0
  rw [hR] at hC
  cases hC
  obtain ⟨ub, hb1, hb2, rb⟩ : ∃ u, gs.lookup ("both" : Str) = some u ∧ ("both" : Str) ≠ past ∧ Rep K (hid O H) u _ := fok.1
  obtain ⟨nv, hn1, hn2, rn⟩ : ∃ u, gs.lookup ("now" : Str) = some u ∧ ("now" : Str) ≠ past ∧ Rep K (hid O H) u _ := fok.2.1
  obtain ⟨l, us, _, hp1, hl, lO, _, rus⟩ : ∃ l ws, ("past" : Str) = past ∧ gs.lookup ("past" : Str) = some (.ref l) ∧ H l = some (.lst ws) ∧ l ∈ O ∧ True ∧ Reps K (hid O H) ws _ := fok.2.2.1
  have PO : P ∈ O := tb.2 (P, q) (by rw [hT]; exact List.mem_cons_self)
  have hPt : ∃ ps, H P = some (.tbl ps) := by
    obtain ⟨ps, e, _⟩ := tb.1 (P, q) (by rw [hT]; exact List.mem_cons_self)
    exact ⟨ps, e⟩
  obtain ⟨ptb, hPt⟩ := hPt
  have notP : ∀ b ∈ O, noTbl H b → b ≠ P := fun b _ nb z => nb ptb (by rw [z]; exact hPt)
  have aP : a ≠ P := notP a aO (noTbl_ins ha)
  have lP : l ≠ P := notP l lO (noTbl_lst hl)
  have old1 : ∀ b, b ≠ P → H b ≠ none → H1 b = H b := fun b n1 n2 => st.old n1 n2
  have ha1 : H1 a = some (.ins CR dxa gs) := (old1 a aP (by rw [ha]; simp)).trans ha
  have hl1 : H1 l = some (.lst us) := (old1 l lP (by rw [hl]; simp)).trans hl
  refine ⟨dxa, l, gs, nv, sv, fv, us, ha1, hn1, hp1, hl1, rfl, hc2, fun x dx l2 hx hdx hne h2 l2x l2d => ?_⟩
  -- the heap of the call
  have hxH : H x = none := st.none hx
  have hdxH : H dx = none := st.none hdx
  have h2H : H l2 = none := st.none h2
  have xa : x ≠ a := fun z => by rw [z, ha] at hxH; cases hxH
  have da : dx ≠ a := fun z => by rw [z, ha] at hdxH; cases hdxH
  have l2a : l2 ≠ a := fun z => by rw [z, ha] at h2H; cases h2H
  have l2P : l2 ≠ P := fun z => by rw [z, hPt] at h2H; cases h2H
  have xP : x ≠ P := fun z => by rw [z, hPt] at hxH; cases hxH
  have H2of : ∀ b, H1 b ≠ none → tryH CT H1 x dx l2 a nv us b = H1 b := fun b hb =>
    (upd_ne fun z => hb (by rw [z]; exact hx)).trans ((upd_ne fun z => hb (by rw [z]; exact h2)).trans ((upd_ne fun z => hb (by rw [z]; exact hx)).trans (upd_ne fun z => hb (by rw [z]; exact hdx))))
  have H2x : tryH CT H1 x dx l2 a nv us x = some (.ins CT dx (keptFs a nv l2)) := upd_same
  have H2l : tryH CT H1 x dx l2 a nv us l2 = some (.lst us) := (upd_ne l2x).trans upd_same
  generalize tryH CT H1 x dx l2 a nv us = H2 at H2of H2x H2l
  have nn1 : ∀ b, H b ≠ none → H1 b ≠ none := fun b hb z => hb (st.none z)
  have old2 : ∀ b, b ≠ P → H b ≠ none → H2 b = H b := fun b n1 n2 => (H2of b (nn1 b n2)).trans (old1 b n1 n2)
  have nn2 : ∀ b, H b ≠ none → H2 b ≠ none := fun b hb => by rw [H2of b (nn1 b hb)]; exact nn1 b hb
  have ha2 : H2 a = some (.ins CR dxa gs) := (old2 a aP (by rw [ha]; simp)).trans ha
  have P2 : ∃ ps, H2 P = some (.tbl ps) := by
    obtain ⟨ps, e, _⟩ := tabs (P, q) (by rw [hT]; exact List.mem_cons_self)
    exact ⟨ps, (H2of P (by rw [e]; simp)).trans e⟩
  have sub1 : Sub H1 H2 := fun b o e => (H2of b (by rw [e]; simp)).trans e
  have sub2 : Sub (hid O H) (hid (l2 :: O) H2) := hid_mono (fun b hb => (List.mem_cons.mp hb).elim (fun z => .inr (by rw [z]; exact h2H)) .inl) fun b o nb e => (old2 b (fun z => nb (by rw [z]; exact PO)) (by rw [e]; simp)).trans e
  have tb2 : Tb cls.T H2 (l2 :: O) := ⟨tabs.ext sub1, fun p hp => List.mem_cons_of_mem _ (tb.2 p hp)⟩
  have sep2 : Sep H2 (l2 :: O) [] [] [] H2 (l2 :: O) := by
    refine Mp.Sep.self (H0 := H) (O0 := O) (sep.step (env' := []) (σ' := []) (T' := []) (fun b hb => ?_) (fun b ws e => ⟨ws, ?_⟩) (fun b hb => ?_) (fun i u e => by simp at e) (fun t ht => by cases ht))
    · rcases List.mem_cons.mp hb with rfl | hb
      · exact .inr fun l' h => not_fld_lst H2l h
      · by_cases z : b = P
        · obtain ⟨ps, e⟩ := P2
          rw [z]
          exact .inr fun l' ⟨_, _, _, e2, _⟩ => by rw [e] at e2; cases e2
        · exact .inl ⟨hb, old2 b z (oin b hb)⟩
    · exact (old2 b (fun z => by rw [z, hPt] at e; cases e) (by rw [e]; simp)).trans e
    · exact (List.mem_cons.mp hb).elim (fun z => .inr (by rw [z]; exact h2H)) .inl
  have oin2 : ∀ b ∈ l2 :: O, H2 b ≠ none := fun b hb => by
    rcases List.mem_cons.mp hb with rfl | hb
    · rw [H2l]; simp
    · exact nn2 b (oin b hb)
  have ob2 : ObOk K cls H2 (l2 :: O) (fun _ => True) a 0 _ := ob0.mono sub2 fun b hb _ nt => ⟨old2 b (notP b hb nt) (oin b hb), List.mem_cons_of_mem _ hb⟩
  -- of the caller's: what is no part here
  have fldA : ∀ b, fld H2 a b → fld H a b := fun b => (fld_cong (old2 a aP (by rw [ha]; simp))).mp
  have partOld : ∀ b, H b ≠ none → ¬ partOf cls.T (some a) H O b → ¬ partOf cls.T (some a) H2 (l2 :: O) b := fun b hb nb z => by
    rcases z with z | ⟨a', e, z1, z2⟩ | z
    · exact nb (.inl z)
    · cases e
      refine nb (.inr (.inl ⟨a, rfl, ?_, fldA b z2⟩))
      rcases List.mem_cons.mp z1 with z | z
      · exact absurd (by rw [z]; exact h2H) hb
      · exact z
    · exact nb (.inr (.inr z))
  have neP : ∀ b, ¬ partOf cls.T (some a) H O b → b ≠ P := fun b nb z => nb (.inr (.inr ⟨(P, q), by rw [hT]; exact List.mem_cons_self, z.symm⟩))
  have fldOld : ∀ b ∈ l2 :: O, ∀ l', fld H2 b l' → b ∈ O ∧ fld H b l' := fun b hb l' h => by
    rcases List.mem_cons.mp hb with rfl | hb
    · exact absurd h (not_fld_lst H2l)
    · by_cases z : b = P
      · obtain ⟨ps, e⟩ := P2
        obtain ⟨_, _, _, e2, _⟩ := h
        rw [z, e] at e2; cases e2
      · exact ⟨hb, (fld_cong (old2 b z (oin b hb))).mp h⟩
  have notSole : ∀ b, b ≠ a → b ≠ P → (∀ l', fld H a l' → l' ≠ b) → ¬ partOf cls.T (some a) H2 (l2 :: O) b := fun b n1 n2 n3 z => by
    rcases z with z | ⟨a', e, z1, z2⟩ | ⟨p, hp, z⟩
    · exact n1 (Option.some.inj z).symm
    · cases e
      exact n3 b (fldA b z2) rfl
    · rw [hT] at hp
      rcases List.mem_cons.mp hp with rfl | hp
      · exact n2 z.symm
      · cases hp
  have fldA0 : ∀ b, H b = none → ∀ l', fld H a l' → l' ≠ b := fun b hb l' h z => by
    obtain ⟨ws, e⟩ := sep.wf a aO l' h
    rw [z, hb] at e; cases e
  refine ⟨RoQ roll n d rs pp, _, l2 :: O, some a, [sv, fv], rfl, rfl, ⟨a, rfl, rfl, ob2⟩, ?_, oin2, sep2, tb2, pre, fun r h v H3 O3 hp L => ?_, fun cx p h C' d' H3 O3 he hm hpk L => ?_⟩
  · exact Reps.mono sub2 rp
  · -- no error
    refine post r h v H3 O3 (.inl hp) ?_
    obtain ⟨_, _, _, _, _, _, _, _, _, _, rfl, rfl⟩ := hp
    refine ⟨fun b u e nb => ?_, fun b hb => L.keep0 b (nn2 b hb), fun b hb => L.sub b (List.mem_cons_of_mem _ hb), fun b hb => ?_, L.oin, L.res, ⟨fun b hb l' h => ?_, L.sep.wf, L.sep.one, L.sep.sl, L.sep.tm⟩, L.hd, fun c fs e => ?_, L.tb⟩
    · exact L.keep b u ((old2 b (neP b nb) (by rw [e]; simp)).trans e) (partOld b (by rw [e]; simp) nb)
    · rcases L.new b hb with z | z
      · exact (List.mem_cons.mp z).elim (fun z => .inr (by rw [z]; exact h2H)) .inl
      · refine .inr ?_
        cases e : H b with
        | none => rfl
        | some o => exact absurd z (nn2 b (by rw [e]; simp))
    · rcases L.sep.nf b hb l' h with ⟨z1, z2⟩ | z
      · exact .inl (fldOld b z1 l' z2)
      · refine .inr ?_
        cases e : H l' with
        | none => rfl
        | some o => exact absurd z (nn2 l' (by rw [e]; simp))
    · obtain ⟨a', ea, ob⟩ := L.ob c fs e
      cases ea
      refine ⟨a, rfl, ob.impN fun l' _ _ z => ?_⟩
      rcases z with z | z
      · refine .inl ?_
        cases e : H l' with
        | none => rfl
        | some o => exact absurd z (nn2 l' (by rw [e]; simp))
      · exact .inr (fldA l' z)
  · -- an error
    obtain ⟨roll', n', d'', st', p', ll', yy', ev, ed, rfl, _, eh⟩ := he
    have e1 : (PyData.tuple [.int roll, pr n d]) = .tuple [.int roll', pr n' d''] := by
      simp only [RoQ, Hdv.ob.injEq, List.cons.injEq, Fd.v.injEq] at ev
      exact ev.2.1
    have kx : H3 x = some (.ins CT dx (keptFs a nv l2)) := L.keep x _ H2x (notSole x xa xP (fldA0 x hxH))
    have kl : H3 l2 = some (.lst us) := L.keep l2 _ H2l (notSole l2 l2a l2P (fldA0 l2 h2H))
    obtain ⟨a', ea, ob3⟩ := L.ob _ _ eh
    cases ea
    obtain ⟨C3, dx3, names3, gs3, hC3, ha3, hdx3, aO3, keys3, fok3⟩ := id ob3
    rw [hR] at hC3
    cases hC3
    obtain ⟨ub3, hb3, _, rb3⟩ : ∃ u, gs3.lookup ("both" : Str) = some u ∧ ("both" : Str) ≠ past ∧ Rep K (hid O3 H3) u _ := fok3.1
    have le3 : gs3.length ≤ 3 := keys_le keys3
    refine ⟨C', dx3, gs3, rfl, kx, ha3, by omega, hE C' d' _ hm (post _ (RoQ roll n d rs pp) _ _ O3 (.inr ⟨rfl, rfl, _, by rw [← ed]⟩) ?_)⟩
    have lk5 : ∀ g, (putF "past" (V.ref l2) (putF "now" nv gs3)).lookup g = if g = ("past" : Str) then some (.ref l2) else if g = ("now" : Str) then some nv else gs3.lookup g := fun g => by rw [lookup_putF, lookup_putF]
    have keys5 := keys_put (f := "past") (y := .ref l2) (keys_put (f := "now") (y := nv) keys3 (by decide +kernel)) (by decide +kernel)
    have lkP : (putF "past" (V.ref l2) (putF "now" nv gs3)).lookup past = some (.ref l2) := by rw [lk5]; exact if_pos rfl
    have lkN : (putF "past" (V.ref l2) (putF "now" nv gs3)).lookup ("now" : Str) = some nv := by rw [lk5, if_neg (by decide +kernel), if_pos rfl]
    have lkB : (putF "past" (V.ref l2) (putF "now" nv gs3)).lookup ("both" : Str) = some ub3 := by rw [lk5, if_neg (by decide +kernel), if_neg (by decide +kernel)]; exact hb3
    generalize putF "past" (V.ref l2) (putF "now" nv gs3) = gs5 at lk5 keys5 lkP lkN lkB
    have of5 : ∀ b, b ≠ a → upd H3 a (.ins CR dx3 gs5) b = H3 b := fun b n => upd_ne n
    have a5 : upd H3 a (.ins CR dx3 gs5) a = some (.ins CR dx3 gs5) := upd_same
    have hid5 : hid O3 (upd H3 a (.ins CR dx3 gs5)) = hid O3 H3 := hid_upd aO3
    have tb5 : Tb cls.T (upd H3 a (.ins CR dx3 gs5)) O3 := L.tb.ins ha3 fun _ h => h
    generalize upd H3 a (.ins CR dx3 gs5) = H5 at of5 a5 hid5 tb5
    have fld5 : ∀ l', fld H5 a l' → l' = l2 := fun l' ⟨_, _, _, e, e2⟩ => by
      rw [a5] at e
      cases e
      rw [lkP] at e2
      cases e2
      rfl
    have fld5o : ∀ b, b ≠ a → ∀ l', fld H5 b l' → fld H3 b l' := fun b n l' => (fld_cong (of5 b n)).mp
    have noneOf : ∀ b, H2 b = none → H b = none := fun b z => by
      cases e : H b with
      | none => rfl
      | some o => exact absurd z (nn2 b (by rw [e]; simp))
    have keep5 : ∀ b u, H b = some u → ¬ partOf cls.T (some a) H O b → H5 b = some u := fun b u e nb => by
      rw [of5 b fun z => nb (.inl (by rw [z]))]
      exact L.keep b u ((old2 b (neP b nb) (by rw [e]; simp)).trans e) (partOld b (by rw [e]; simp) nb)
    have l2O3 : l2 ∈ O3 := L.sub l2 List.mem_cons_self
    have kl5 : H5 l2 = some (.lst us) := (of5 l2 l2a).trans kl
    have new5 : ∀ b ∈ O3, b ∈ O ∨ H b = none := fun b hb => by
      rcases L.new b hb with z | z
      · exact (List.mem_cons.mp z).elim (fun z => .inr (by rw [z]; exact h2H)) .inl
      · exact .inr (noneOf b z)
    -- nobody else has l2
    have alone : ∀ b ∈ O3, b ≠ a → ¬ fld H5 b l2 := fun b hb n h => by
      rcases L.sep.nf b hb l2 (fld5o b n l2 h) with ⟨z1, z2⟩ | z
      · obtain ⟨z3, z4⟩ := fldOld b z1 l2 z2
        obtain ⟨ws, e⟩ := sep.wf b z3 l2 z4
        rw [h2H] at e
        cases e
      · rw [H2l] at z
        cases z
    have sub5 : Sub (hid O H) (hid O3 H5) := hid_mono new5 fun b o nb e => keep5 b o e fun z => by
      rcases z with z | ⟨a', _, z1, _⟩ | ⟨p, hp, z⟩
      · exact nb (by rw [← Option.some.inj z]; exact aO)
      · exact nb z1
      · exact nb (by rw [← z]; exact tb.2 p hp)
    refine ⟨keep5, fun b hb => ?_, fun b hb => L.sub b (List.mem_cons_of_mem _ hb), new5, fun b hb => ?_, .str _, ⟨fun b hb l' h => ?_, fun b hb l' h => ?_, fun b hb b' hb' l' hl' h h' => ?_, fun i u e => by simp at e, fun t ht k => ?_⟩, (fun xs e => by cases e), fun c fs e => ?_, tb5⟩
    · by_cases z : b = a
      · rw [z, a5]; simp
      · rw [of5 b z]; exact L.keep0 b (nn2 b hb)
    · by_cases z : b = a
      · rw [z, a5]; simp
      · rw [of5 b z]; exact L.oin b hb
    · by_cases z : b = a
      · subst z
        rw [fld5 l' h]
        exact .inr h2H
      · rcases L.sep.nf b hb l' (fld5o b z l' h) with ⟨z1, z2⟩ | z
        · exact .inl (fldOld b z1 l' z2)
        · exact .inr (noneOf l' z)
    · by_cases z : b = a
      · subst z
        rw [fld5 l' h]
        exact ⟨us, kl5⟩
      · obtain ⟨ws, e⟩ := L.sep.wf b hb l' (fld5o b z l' h)
        exact ⟨ws, (of5 l' fun z => by rw [z, ha3] at e; cases e).trans e⟩
    · by_cases z : b = a
      · by_cases z' : b' = a
        · rw [z, z']
        · subst z
          rw [fld5 l' h] at h'
          exact absurd h' (alone b' hb' z')
      · by_cases z' : b' = a
        · subst z'
          rw [fld5 l' h'] at h
          exact absurd h (alone b hb z)
        · exact L.sep.one b hb b' hb' l' hl' (fld5o b z l' h) (fld5o b' z' l' h')
    · rcases List.mem_cons.mp ht with rfl | ht
      · cases k
      · cases ht
    · cases e
      refine ⟨a, rfl, CR, dx3, rollN, gs5, hR, a5, by rw [hid5]; exact hdx3, aO3, keys5, ⟨ub3, lkB, hb2, ?_⟩, ⟨nv, lkN, hn2, rn.mono sub5⟩, ⟨l2, us, rfl, lkP, kl5, l2O3, .inl h2H, Reps.mono sub5 rus⟩, trivial⟩
      rw [hid5, e1]
      exact rb3
end
end KL

set_option Elab.async false
set_option linter.all false
set_option maxRecDepth 100000
set_option maxHeartbeats 1000000
/-! _law_tried -/
namespace KL
open PySem PySem.Spec PyProof.Rows L2 Mp NdefX
def lamPm : Arguments := match defBody t_law_tried with
  | [.Try [.Return (some (.Call _ [.Lambda pm _ _ _] _ _)) _] _ _ _ _] => pm
  | _ => defArgs t_law_tried
def lamSc : Scope := match defBody t_law_tried with
  | [.Try [.Return (some (.Call _ [.Lambda _ _ sc _] _ _)) _] _ _ _ _] => sc
  | _ => defScope t_law_tried
theorem bd_T : ∃ (j : Nat) (p1 p2 p3 p4 p5 p6 p7 p8 p9 q1 q2 q3 q4 q5 q6 : Pos), defBody t_law_tried = [.Try [.Return (some (.Call (.Attribute (.Name "thing" p1) "attempt" p2) [.Lambda lamPm (.Call (.Name "_law_does" p3) [.Name "one" p4, .Name "some" p5, .Name "fail" p6] [] p7) lamSc p8] [] p9)) q1] [.ExceptHandler (some (.Name "InvalidLength" q2)) none [.Return (some (.Constant (.str "length!") j q3)) q4] q5] [] [] q6] ∧ (p2.endLine == p9.line) = true :=
  ⟨_, _, _, _, _, _, _, _, _, _, _, _, _, _, _, _, by rfl, by rfl⟩
theorem lam_sc : NScope ["one", "some", "fail"] ["one"] ["some", "fail"] lamSc := nscope_by (by decide +kernel)
theorem lam_fr : ∀ y ∈ lamSc.names, y.2 = .free → (defScope t_law_tried).names.lookup y.1 = some .cell ∨ (defScope t_law_tried).names.lookup y.1 = some .free := by decide +kernel
theorem lam_fr2 : ∀ y ∈ (["some", "fail"] : List Str), (y, NameKind.free) ∈ lamSc.names := by decide +kernel
theorem lam_gl : lamSc.names.lookup ("_law_does" : Str) = some .globalImplicit := by decide +kernel
theorem lam_1 : lamSc.names.lookup ("one" : Str) = some .local := by decide +kernel
theorem lam_2 : lamSc.names.lookup ("some" : Str) = some .free := by decide +kernel
theorem lam_3 : lamSc.names.lookup ("fail" : Str) = some .free := by decide +kernel
theorem sc_tried : FnScope ["thing", "some", "fail"] ["thing", "some", "fail"] (defScope t_law_tried) := ⟨rfl, rfl, rfl, by decide +kernel, rfl, by decide +kernel, by decide +kernel⟩
def qL : Str := ("_law_tried" : Str) ++ ".<locals>." ++ "<lambda>"
section
variable {P : Program} {w : World} {K : PySem.W.Frag} {mg : Str → Option Value} {base : Heap} {CT CR gI gN gX gA : Addr} {fI fN fX fA : FuncData} {cls : Mp.Cls}
theorem tried_ok {f c Pt : Addr} {oc kV doc pm ct : Value} {od an : Option Addr} {osl : Array (Option Value)} (lk : K.lookup f = some ⟨oc, od, .func (PySem.W.fnOf "_law_tried" "_law_tried" (defArgs t_law_tried) (defBody t_law_tried) (defScope t_law_tried) .none kV doc pm an (.ref c) ct), osl⟩)
    (hcd : PySem.W.codeIn K (.ref c) "_law_tried" = true) (T : Try K mg CT CR gI gN gX gA fI fN fX fA) (kn : Kn G cls 13 P w K mg base) (hR : cls 0 = some (CR, rollN)) (hT : cls.T = [(Pt, qL)]) (B : LamX.TabB base mg c Pt) :
    FnOk P w K mg base (L2.CX P w) 16 f (PySem.W.fnOf "_law_tried" "_law_tried" (defArgs t_law_tried) (defBody t_law_tried) (defScope t_law_tried) .none kV doc pm an (.ref c) ct) ["thing", "some", "fail"] (prom K cls mg (.ob 0) 3 s_tried) := by
  obtain ⟨fD, fdD, mD, kD, bD, okD⟩ := kn.fn 61 _ rfl (by decide)
  obtain ⟨CE, CE', mE, mE', eE⟩ := kn.exm "InvalidLength" "InvalidLength" true (by decide +kernel)
  rw [mE] at mE'
  cases mE'
  obtain ⟨oA, odA, kVA, docA, pmA, anA, cdA, ctA, oslA, rfl, lkA, hcA⟩ := id T.FA.ex
  have bA : Binds K (PySem.W.fnOf "attempt" "Roll.attempt" (defArgs tyA) (defBody tyA) (defScope tyA) .none kVA docA pmA anA cdA ctA) ["self", "action"] [] := T.FA.binds fun _ _ _ _ _ _ us hl => match us, hl with | [_, _], _ => rfl
  have okD : FnOk P w K mg base (L2.CX P w) 9 fD fdD ["thing", "some", "fail"] (prom K cls mg (.ob 0) 3 s_does) := okD
  have gE : (defScope t_law_tried).names.lookup ("InvalidLength" : Str) = some .globalImplicit := by decide +kernel
  have vT : (defScope t_law_tried).names.lookup ("thing" : Str) = some .local := by decide +kernel
  have vA : (defScope tyA).names.lookup ("action" : Str) = some .local := by decide +kernel
  refine fn_of lk hcd sc_tried (fun vs H Q E ⟨hv, ds, O, io, rest, h1, h2, _⟩ => h2) fun A outer s H vs Q E room hsp => ?_
  obtain ⟨hv, ds, O, io, rest, h1, h2, h3, h4, h5, sep, tb, pre, post, _⟩ := hsp
  obtain ⟨j, p1, p2, p3, p4, p5, p6, p7, p8, p9, q1, q2, q3, q4, q5, q6, eb, epos⟩ := bd_T
  obtain ⟨a1, a2, a3, a4, a5, a6, a7, a8, a9, c1, c2, c3, eA⟩ := bd_A
  rw [eb]
  refine ⟨_, pss_one (ps_try_only (c := .ref CE) (tb := fun W => tRet (Wx.tLam CR "attempt" cls.T Pt qL [1, 2] (TTry CT CR qL (prom K cls mg (.ob 0) 3 s_does)) (WE W) (tVar 0))) (Wout := fun c d _ H => E c d H) rfl rfl ⟨gE, by decide, .inl mE⟩ (takes_of rfl rfl rfl rfl)
    (fun W pn xe tk po => pss_one (ps_ret ?_)) (fun a oe cls d pn _ _ => pss_one (ps_ret pe_str))), ?_⟩
  · refine Wx.pe_lam (k := 13) (tb := fun E => tCallS (prom K cls mg (.ob 0) 3 s_does) (fun _ => E) (tCons (tVar 0) (tCons (tVar 1) (tCons (tVar 2) tNil)))) (N := ["one", "some", "fail"]) (fr := ["some", "fail"]) (p1 := "one") (i1 := 1) (a1 := "action") (Ng := ["self", "action", "thing", "found"]) (psg := ["self", "action"]) (e0 := .Name "thing" a7) (np := a6) (cp := a8) (pe_var (i := 0) rfl (.inl vT)) T.cR T.mA lkA hcA ⟨rfl, rfl, rfl, by decide +kernel, rfl, by decide +kernel, by decide +kernel⟩ bA rfl room tk B rfl
      (by rw [hT]; exact List.mem_cons_self) (fun p hp _ => ?_) (by rfl) lam_fr (fun ok => Caps.made ok lam_fr lam_fr2 (by rfl)) lam_sc (fun _ _ _ _ _ _ => rfl) (fun F f A outer s1 H1 E hsc hr => ?_) rfl (.inl vA) (by decide) (by decide) (fun _ => rfl) (fun _ => rfl) (fun a f c2 ws s1 H1 Q E hr act tt => ?_) rfl rfl (Mp.mcall_eq rfl rfl (show (1 : Nat) < 30 by decide) epos)
    · rw [hT] at hp
      rcases List.mem_cons.mp hp with rfl | hp
      · rfl
      · cases hp
    · have e1 : F.scope.names.lookup ("one" : Str) = some .local := by rw [hsc]; exact lam_1
      have e2 : F.scope.names.lookup ("some" : Str) = some .free := by rw [hsc]; exact lam_2
      have e3 : F.scope.names.lookup ("fail" : Str) = some .free := by rw [hsc]; exact lam_3
      have eg : F.scope.names.lookup ("_law_does" : Str) = some .globalImplicit := by rw [hsc]; exact lam_gl
      exact pe_callS (okD.mono (by omega)) hr eg mD kD bD (fun σ => passAt (takes_of (E := E) rfl rfl rfl rfl) σ) (pa_cons (pe_var (i := 0) rfl (.inl e1)) (pa_cons (pe_var (i := 1) rfl (.inr (.inr e2))) (pa_cons (pe_var (i := 2) rfl (.inr (.inr e3))) pa_nil rfl) rfl) rfl)
    · rw [eA]
      exact att_ok T prom_mono (by omega) a f c2 ws s1 H1 Q E hr act tt
  · obtain ⟨roll, n, d, rs, pp, ll, yy, bb, rfl, rfl, rok, hlen, hgd, hpl⟩ := id pre
    obtain ⟨a, rfl, rfl, ob⟩ := id h3
    obtain ⟨sv, fv, rfl⟩ : ∃ sv fv, rest = [sv, fv] := by
      cases h4 with
      | cons r1 r2 => cases r2 with
        | cons r2 r3 => cases r3; exact ⟨_, _, rfl⟩
    obtain ⟨C, dxa, names, gs, hC, ha, hdx, aO, keys, fok⟩ := id ob
    rw [hR] at hC
    cases hC
    refine ⟨.ref a, rfl, a, dxa, gs, rfl, ha, ?_, tb.1, fun f2 c2 H1 st tabs hf hc => ?_⟩
    · cases e : gs.lookup ("attempt" : Str) with
      | none => rfl
      | some u => exact absurd (keys.2 _ _ e) (by decide +kernel)
    · refine try_heap hR hT h3 h4 h5 sep tb pre post st tabs hc fun c' d' H5 hm hq => ?_
      rw [mE] at hm
      cases hm
      exact ⟨true, eE, fun _ a _ => hq, fun z => by cases z⟩
end
end KL

set_option Elab.async false
set_option linter.all false
set_option maxRecDepth 100000
set_option maxHeartbeats 1000000
/-! == of two rolls -/
namespace KL
open PySem PySem.Spec PyProof.Rows L2 Mp
abbrev tyQ : Stmt := mth 59 24
theorem bd_Q : ∃ (j j1 j2 j3 j4 k1 k2 : Nat) (p1 p2 p3 p4 p5 p6 p7 p8 p9 q1 q2 q3 q4 q5 q6 q7 q8 q9 r1 r2 r3 r4 r5 r6 r7 r8 r9 u1 u2 u3 u4 u5 : Pos), defBody tyQ = [.If (.UnaryOp .Not (.Call (.Name "isinstance" p1) [.Name "other" p2, .Name "Roll" p3] [] p4) p5) [.Return (some (.Constant (.bool false) j p6)) p7] [] p8,
    .Return (some (.Compare (.Tuple [.Attribute (.Name "self" p9) "both" q1, .Subscript (.Attribute (.Name "self" q2) "now" q3) (.Constant (.int 0) j1 q4) q5, .Subscript (.Attribute (.Name "self" q6) "now" q7) (.Constant (.int 2) j2 q8) q9] k1 r1) [.Eq]
      [.Tuple [.Attribute (.Name "other" r2) "both" r3, .Subscript (.Attribute (.Name "other" r4) "now" r5) (.Constant (.int 0) j3 r6) r7, .Subscript (.Attribute (.Name "other" r8) "now" r9) (.Constant (.int 2) j4 u1) u2] k2 u3] u4)) u5] :=
  ⟨_, _, _, _, _, _, _, _, _, _, _, _, _, _, _, _, _, _, _, _, _, _, _, _, _, _, _, _, _, _, _, _, _, _, _, _, _, _, _, rfl⟩
/-- nothing is known: enough for an operator on plain values -/
def Gn : GE := ⟨fun _ => [], fun _ => none, fun _ => none, fun _ _ _ => False, fun _ _ _ => false, fun _ => none, fun _ => none, fun _ => ⟨fun _ _ => False, fun _ _ _ _ => False, fun _ _ _ _ _ => False⟩, [], fun _ _ => none⟩
abbrev noC : Mp.Cls := ⟨fun _ => none, []⟩
section
variable {P : Program} {w : World} {K : PySem.W.Frag} {mg : Str → Option Value} {base : Heap} {CR gQ : Addr} {fQ : FuncData} {cls : Mp.Cls}
theorem kn_no (h : ∀ x ∈ bltNames, mg x = none) {L : Nat} : Kn Gn noC L P w K mg base := by
  refine ⟨fun k x d e => ?_, fun k fi e => ?_, fun x e => ?_, fun x y b e => ?_, h, fun c C n e => ?_, fun c l e => ?_, fun k mi e => ?_⟩ <;> cases e
theorem good0 {H H' : Hp} (s : Sub H H') : Good ⟨K, H, [], none, noC⟩ [] [] [] H' [] := by
  refine ⟨rfl, fun a h => ?_, fun a h => ?_, fun a h => ?_, fun a h => ?_, fun b u e _ => s b u e, fun b h z => h (s.free z), fun a h => ?_, fun i s e => ?_, fun t h => ?_, fun i j s u _ e => ?_, fun i s e => ?_, .nil, fun i s e => ?_, ⟨fun a h => ?_, fun a h => ?_, fun a h => ?_, fun i s e => ?_, fun t h => ?_⟩, fun p h => ?_, fun p h => ?_⟩
  all_goals first
    | cases h
    | (simp at e)
def eqTup (roll n d : Int) (st : RSt) : PyData := .tuple [.tuple [.int roll, pr n d], lowD st.P (4 * d), stripsQ d st]
theorem sh_eqTup {roll n d : Int} {st : RSt} : SeqAt.shaped (eqTup roll n d st) = true := by
  unfold SeqAt.shaped
  have h1 : PyData.canLay0 (eqTup roll n d st) = true := by
    have := (Bool.and_eq_true_iff.mp (sh_strips (d := d) (st := st))).1
    simp only [eqTup, PyData.canLay0, PyData.canLayAll0, this, lowD, pr]
    rfl
  have h2 : PyData.depth (eqTup roll n d st) ≤ 4 := by
    refine Nat.succ_le_succ (dep_all fun x hx => ?_)
    simp only [List.mem_cons, List.not_mem_nil, or_false] at hx
    rcases hx with rfl | rfl | rfl
    · simp [pr, PyData.depth, PyData.depthAll]
    · simp [lowD, pr, PyData.depth, PyData.depthAll]
    · exact Nat.succ_le_succ (dep_all fun x hx => by obtain ⟨s, _, rfl⟩ := List.mem_map.mp hx; exact stripQ_dep)
  rw [h1, decide_eq_true (Nat.le_trans h2 (by decide))]
  rfl
theorem RoQ_fs {roll n d roll' n' d' : Int} {st st' : RSt} {p p' : List RSt} {fs : List Fd} (h : RoQ roll n d st p = .ob 0 fs) : fs = [.v (.tuple [.int roll, pr n d]), .v (nowQ d st), .o (p.map (nowQ d))] := by
  simp only [RoQ, Hdv.ob.injEq] at h
  exact h.2.symm
/-- what the fields tell -/
theorem ob_flds {H : Hp} {O : List Addr} {N : Addr → Prop} {a : Addr} {roll n d : Int} {st : RSt} {p : List RSt} (hR : cls 0 = some (CR, rollN)) (ob : ObOk K cls H O N a 0 [.v (.tuple [.int roll, pr n d]), .v (nowQ d st), .o (p.map (nowQ d))]) :
    ∃ (dx q : Addr) (gs : List (Str × V)) (u x y z : V), H a = some (.ins CR dx gs) ∧ gs.lookup ("both" : Str) = some u ∧ gs.lookup ("now" : Str) = some (.ref q) ∧ SqT K H q [x, y, z] ∧ Rep K H u (.tuple [.int roll, pr n d]) ∧ Rep K H x (lowD st.P (4 * d)) ∧ Rep K H z (stripsQ d st) := by
  obtain ⟨C, dx, names, gs, hC, ha, _, _, _, fok⟩ := ob
  rw [hR] at hC
  cases hC
  obtain ⟨u, h1, _, r1⟩ : ∃ u, gs.lookup ("both" : Str) = some u ∧ ("both" : Str) ≠ past ∧ Rep K (hid O H) u _ := fok.1
  obtain ⟨v, h2, _, r2⟩ : ∃ u, gs.lookup ("now" : Str) = some u ∧ ("now" : Str) ≠ past ∧ Rep K (hid O H) u _ := fok.2.1
  obtain ⟨q, xs, rfl, hq, rs⟩ := r2.tup_inv
  cases rs with
  | cons rx rs => cases rs with
    | cons ry rs => cases rs with
      | cons rz rs =>
        cases rs
        exact ⟨dx, q, gs, u, _, _, _, ha, h1, h2, (hid_sub O H).sqT hq, r1.mono (hid_sub O H), rx.mono (hid_sub O H), rz.mono (hid_sub O H)⟩
theorem eq_ok (F : Fun K "__eq__" "Roll.__eq__" tyQ gQ fQ) (hR : cls 0 = some (CR, rollN)) (hi : C8.InsC K CR) (mR : mg "Roll" = some (.ref CR)) (blt : ∀ x ∈ bltNames, mg x = none) (nb : NoAttr K CR "both") (nn : NoAttr K CR "now") :
    FnOk P w K mg base (L2.CX P w) 1 gQ fQ ["self", "other"] (eqSp K cls 0 (eqpR 0) (eqfR 0)) := by
  refine F.okX (k := 0) (N := ["self", "other"]) ⟨rfl, rfl, rfl, by decide +kernel, rfl, by decide +kernel, by decide +kernel⟩ (fun vs H Q E ⟨_, _, _, _, _, _, _, e, _⟩ => by rw [e]; rfl) fun cdv A outer s H vs Q E room ⟨a, b, fs, gs, O, N, N', e, oa, ob, hp, q⟩ => ?_
  subst e
  obtain ⟨roll, n, d, st, p, roll', n', d', st', p', e1, e2, _, _⟩ := hp
  have e1 := RoQ_fs (roll' := 0) (n' := 0) (d' := 0) (st' := st) (p' := p) e1
  have e2 := RoQ_fs (roll' := 0) (n' := 0) (d' := 0) (st' := st) (p' := p) e2
  subst e1
  subst e2
  obtain ⟨dxa, qa, ga, ua, xa, ya, za, ha, ba, na, ta, r1, r2, r3⟩ := ob_flds hR oa
  obtain ⟨dxb, qb, gb, ub, xb, yb, zb, hb, bb, nb', tb, s1, s2, s3⟩ := ob_flds hR ob
  obtain ⟨j, j1, j2, j3, j4, k1, k2, p1, p2, p3, p4, p5, p6, p7, p8, p9, q1, q2, q3, q4, q5, q6, q7, q8, q9, r1', r2', r3', r4', r5', r6', r7', r8', r9', u1, u2, u3, u4, u5, eb⟩ := bd_Q
  rw [eb]
  have ls : (defScope tyQ).names.lookup ("self" : Str) = some .local := by decide +kernel
  have lo : (defScope tyQ).names.lookup ("other" : Str) = some .local := by decide +kernel
  have gi : (defScope tyQ).names.lookup ("isinstance" : Str) = some .globalImplicit := by decide +kernel
  have gR : (defScope tyQ).names.lookup ("Roll" : Str) = some .globalImplicit := by decide +kernel
  have C : Ctx Gn ⟨K, H, [], none, noC⟩ ["self", "other"] 0 (defScope tyQ) (fun c d _ H => E c d H) (cxOf (L2.CX P w) P w K mg base ["self", "other"] "Roll.__eq__" (defScope tyQ) gQ cdv A outer s H E) :=
    ⟨rfl, rfl, rfl, rfl, (by show (["self", "other"] : List Str).Nodup; decide +kernel), room, takes_of rfl rfl rfl rfl, kn_no blt⟩
  refine ⟨_, pss_cons (ps_if (pt_not (pt_val (pe_callB (C8.call_isC hi) gi (blt _ (by decide)) (by decide +kernel) (pa_cons (pe_var (i := 1) rfl (.inl lo)) (pa_cons (C8.pe_gc (v := .ref CR) gR ⟨_, mR, rfl⟩) pa_nil rfl) rfl)) fun _ => rfl)) (pss_one (ps_ret pe_bl)) pss_nil)
    (pss_one (ps_ret (pe_cmpR (cmp_ok C .Eq) (pe_tup (pa_cons (pe_fld (pe_var (i := 0) rfl (.inl ls)) rfl) (pa_cons (pe_ix ix_tup (pe_fld (pe_var (i := 0) rfl (.inl ls)) rfl) pe_int fun _ _ => rfl) (pa_cons (pe_ix ix_tup (pe_fld (pe_var (i := 0) rfl (.inl ls)) rfl) pe_int fun _ _ => rfl) pa_nil rfl) rfl) rfl))
      (pe_tup (pa_cons (pe_fld (pe_var (i := 1) rfl (.inl lo)) rfl) (pa_cons (pe_ix ix_tup (pe_fld (pe_var (i := 1) rfl (.inl lo)) rfl) pe_int fun _ _ => rfl) (pa_cons (pe_ix ix_tup (pe_fld (pe_var (i := 1) rfl (.inl lo)) rfl) pe_int fun _ _ => rfl) pa_nil rfl) rfl) rfl)) (by rfl)))), ?_⟩
  refine ⟨.ref b, rfl, b, dxb, gb, rfl, hb, true, rfl, ?_⟩
  refine ⟨.ref a, rfl, a, CR, dxa, ga, ua, rfl, ha, hi.cl, nb, ba, .ref a, rfl, a, CR, dxa, ga, .ref qa, rfl, ha, hi.cl, nn, na, qa, _, 0, xa, rfl, rfl, ta, rfl, .ref a, rfl, a, CR, dxa, ga, .ref qa, rfl, ha, hi.cl, nn, na, qa, _, 2, za, rfl, rfl, ta, rfl, (show (3 : Nat) ≤ sizeLine by decide), fun t1 h1 => ?_⟩
  have m1 : Sub H (upd H t1 (.tup [ua, xa, za])) := Sub.upd h1
  refine ⟨.ref b, rfl, b, CR, dxb, gb, ub, rfl, m1 _ _ hb, hi.cl, nb, bb, .ref b, rfl, b, CR, dxb, gb, .ref qb, rfl, m1 _ _ hb, hi.cl, nn, nb', qb, _, 0, xb, rfl, rfl, m1.sqT tb, rfl, .ref b, rfl, b, CR, dxb, gb, .ref qb, rfl, m1 _ _ hb, hi.cl, nn, nb', qb, _, 2, zb, rfl, rfl, m1.sqT tb, rfl, (show (3 : Nat) ≤ sizeLine by decide), fun t2 h2 => ?_⟩
  have m2 : Sub (upd H t1 (.tup [ua, xa, za])) (upd (upd H t1 (.tup [ua, xa, za])) t2 (.tup [ub, xb, zb])) := Sub.upd h2
  have ra : Rep K (upd (upd H t1 (.tup [ua, xa, za])) t2 (.tup [ub, xb, zb])) (.ref t1) (eqTup roll n d st) := .tup (.inl (.inl (m2 _ _ upd_same))) (.cons (r1.mono (m1.trans m2)) (.cons (r2.mono (m1.trans m2)) (.cons (r3.mono (m1.trans m2)) .nil)))
  have rb : Rep K (upd (upd H t1 (.tup [ua, xa, za])) t2 (.tup [ub, xb, zb])) (.ref t2) (eqTup roll' n' d' st') := .tup (.inl (.inl upd_same)) (.cons (s1.mono (m1.trans m2)) (.cons (s2.mono (m1.trans m2)) (.cons (s3.mono (m1.trans m2)) .nil)))
  have g := good0 (K := K) (m1.trans m2)
  have hidn : hid [] (upd (upd H t1 (.tup [ua, xa, za])) t2 (.tup [ub, xb, zb])) = upd (upd H t1 (.tup [ua, xa, za])) t2 (.tup [ub, xb, zb]) := funext fun b => hid_out List.not_mem_nil
  refine ⟨[], [], [], [], .v (eqTup roll n d st), .v (eqTup roll' n' d' st'), _, _, fun r => r = .v (.bool (PyData.eqv (eqTup roll n d st) (eqTup roll' n' d' st'))), (g.pushV (by rw [hidn]; exact ra)).pushV (by rw [hidn]; exact rb), rfl, rfl, ⟨eqok_sh sh_eqTup sh_eqTup, rfl⟩, fun r v H' O' g' hr => ?_⟩
  subst hr
  obtain rfl := g'.topB
  have e : PyData.eqv (eqTup roll n d st) (eqTup roll' n' d' st') = eqfR 0 [.v (.tuple [.int roll, pr n d]), .v (nowQ d st), .o (p.map (nowQ d))] [.v (.tuple [.int roll', pr n' d']), .v (nowQ d' st'), .o (p'.map (nowQ d'))] := by
    simp only [eqTup, eqfR, nowQ, PyData.eqv, PyData.eqvAll, Bool.and_true]
  rw [e]
  refine q H' fun b u hb => g'.keep b u hb fun z => ?_
  rcases z with z | ⟨_, z, _⟩ | ⟨_, z, _⟩ <;> cases z
end
end KL

set_option Elab.async false
set_option linter.all false
set_option maxRecDepth 100000
set_option maxHeartbeats 1000000
/-! the facts, the levels, the end of k52 -/
namespace KL
open PySem PySem.Spec PyProof.Rows L2 Mp
def Has (K : PySem.W.Frag) (mg : Str → Option Value) (x : Str) (st : Stmt) (ps : List Str) : Prop := ∃ (f : Addr) (fd : FuncData), mg x = some (.ref f) ∧ Fun K x x st f fd ∧ Binds K fd ps []
abbrev Bnd (x : Str) (st : Stmt) (ps : List Str) : Prop := ∀ (kV doc pm : Value) (an : Option Addr) (cdv ct : Value) (us : List Value), us.length = ps.length → bindArgs (PySem.W.fnOf x x (defArgs st) (defBody st) (defScope st) .none kV doc pm an cdv ct) ⟨us, []⟩ = pure (ps.zip us)
theorem has_mk {K : PySem.W.Frag} {h : Heap} {mg : Str → Option Value} {x : Str} {st : Stmt} {ps : List Str} {f : Addr} {od an : Option Addr} {sl : Array (Option Value)} {oc kV dc pm cd ct : Value} (hb : Bnd x st ps) (X : K.In h) (Gn : h.Ns mainGlobals mg)
    (a1 : PySem.W.nsIn K mainGlobals x = some (some (.ref f))) (l1 : K.lookup f = some ⟨oc, od, .func (PySem.W.fnOf x x (defArgs st) (defBody st) (defScope st) .none kV dc pm an cd ct), sl⟩) (c1 : PySem.W.codeIn K cd x = true) (k1 : PySem.W.keepIn K (.ref f) = true) : Has K mg x st ps :=
  ⟨f, _, PySem.W.mg_of X Gn a1, fun_mk l1 c1 k1, (fun_mk l1 c1 k1).binds hb⟩
def HasC (K : PySem.W.Frag) (mg : Str → Option Value) (x : Str) (d : PyData) : Prop := ∃ v u, mg x = some u ∧ RelV v u ∧ Rep K (fun _ => none) v d
theorem rep_K {K : PySem.W.Frag} {H : Hp} {a : Addr} {od : Option Addr} {its : List Value} {n : Nat} {sl : Array (Option Value)} {xs : List V} {ds : List PyData} (e : K.lookup a = some ⟨.type "tuple", od, .seq its.toArray n, sl⟩) (hs : its.length ≤ 1000) (hv : Vals xs its) (r : Reps K H xs ds) : Rep K H (.ref a) (.tuple ds) :=
  .tup (.inr ⟨_, its.toArray, n, e, rfl, rfl, by rw [sizeLine_eq]; simp; omega, by simpa using hv⟩) r
theorem pair_K {K : PySem.W.Frag} {H : Hp} {a : Addr} {od : Option Addr} {t1 t2 : Tok} {n : Nat} {sl : Array (Option Value)} {i j : Int} (e : K.lookup a = some ⟨.type "tuple", od, .seq #[.int i t1, .int j t2] n, sl⟩) : Rep K H (.ref a) (.tuple [.int i, .int j]) :=
  rep_K (its := [.int i t1, .int j t2]) (xs := [.int i, .int j]) e (by simp) (.cons ⟨t1, rfl⟩ (.cons ⟨t2, rfl⟩ .nil)) (.cons (.int i) (.cons (.int j) .nil))
theorem con_strs {K : PySem.W.Frag} {h : Heap} {mg : Str → Option Value} {x : Str} {a : Addr} {od : Option Addr} {s1 s2 s3 s4 r1 r2 r3 r4 : Str} {t1 t2 t3 t4 : Tok} {n : Nat} {sl : Array (Option Value)} (X : K.In h) (Gn : h.Ns mainGlobals mg) (a1 : PySem.W.nsIn K mainGlobals x = some (some (.ref a)))
    (e : K.lookup a = some ⟨.type "tuple", od, .seq #[.str s1 t1, .str s2 t2, .str s3 t3, .str s4 t4] n, sl⟩) (hs : (s1 == r1 && s2 == r2 && s3 == r3 && s4 == r4) = true) : HasC K mg x (.tuple [.str r1, .str r2, .str r3, .str r4]) := by
  simp only [Bool.and_eq_true, beq_iff_eq] at hs
  obtain ⟨⟨⟨rfl, rfl⟩, rfl⟩, rfl⟩ := hs
  exact ⟨.ref a, _, PySem.W.mg_of X Gn a1, rfl, rep_K (its := [.str s1 t1, .str s2 t2, .str s3 t3, .str s4 t4]) (xs := [.str s1, .str s2, .str s3, .str s4]) e (by simp) (.cons ⟨t1, rfl⟩ (.cons ⟨t2, rfl⟩ (.cons ⟨t3, rfl⟩ (.cons ⟨t4, rfl⟩ .nil)))) (.cons (.str _) (.cons (.str _) (.cons (.str _) (.cons (.str _) .nil))))⟩
theorem con_int {K : PySem.W.Frag} {h : Heap} {mg : Str → Option Value} {x : Str} {i : Int} {t : Tok} (X : K.In h) (Gn : h.Ns mainGlobals mg) (a : PySem.W.nsIn K mainGlobals x = some (some (.int i t))) : HasC K mg x (.int i) := ⟨.int i, _, PySem.W.mg_of X Gn a, ⟨t, rfl⟩, .int i⟩
theorem con_tup {K : PySem.W.Frag} {h : Heap} {mg : Str → Option Value} {x : Str} {a : Addr} {d : PyData} (X : K.In h) (Gn : h.Ns mainGlobals mg) (e : PySem.W.nsIn K mainGlobals x = some (some (.ref a))) (r : Rep K (fun _ => none) (.ref a) d) : HasC K mg x d := ⟨.ref a, _, PySem.W.mg_of X Gn e, rfl, r⟩
def HasX (K : PySem.W.Frag) (mg : Str → Option Value) (x : Str) : Prop := ∃ (C : Addr) (bmB : List Value) (B newId initId : String), mg x = some (.ref C) ∧ ExcBaseFacts B newId initId bmB ∧ PySem.W.excIn K C bmB newId = true ∧ PySem.W.keepIn K (.ref C) = true ∧
    PySem.W.subIn K (.ref C) (.type "BaseException") = some true ∧ PySem.W.typeIn K (.ref C) = some (.type "type")
theorem exm_me {K : PySem.W.Frag} {C : Addr} (h1 : PySem.W.subIn K (.ref C) (.type "BaseException") = some true) (h2 : PySem.W.isClsIn K C = true) (h3 : PySem.W.typeIn K (.ref C) = some (.type "type")) (h4 : PySem.W.subIn K (.ref C) (.ref C) = some true) : PySem.W.exmOne K (.ref C) (.ref C) = some true := by
  have h2' : (PySem.W.clsIn K C).isSome = true := h2
  simp [PySem.W.exmOne, PySem.W.kitCls, h1, h2', h3, h4]
theorem hasX_mk {K : PySem.W.Frag} {h : Heap} {mg : Str → Option Value} {x : Str} {C : Addr} (X : K.In h) (Gn : h.Ns mainGlobals mg) (a : PySem.W.nsIn K mainGlobals x = some (some (.ref C))) (q : PySem.W.excIn K C [.type "ValueError", .type "Exception", .type "BaseException", .type "object"] "ValueError.__new__" = true)
    (k : PySem.W.keepIn K (.ref C) = true) (s : PySem.W.subIn K (.ref C) (.type "BaseException") = some true) (t : PySem.W.typeIn K (.ref C) = some (.type "type")) : HasX K mg x := ⟨C, _, _, _, _, PySem.W.mg_of X Gn a, PySem.F.excBase_ValueError, q, k, s, t⟩
def HasE (K : PySem.W.Frag) (mg : Str → Option Value) (x y : Str) (b : Bool) : Prop := ∃ C C' : Addr, mg x = some (.ref C) ∧ mg y = some (.ref C') ∧ PySem.W.exmOne K (.ref C) (.ref C') = some b
theorem hasE_mk {K : PySem.W.Frag} {h : Heap} {mg : Str → Option Value} {x y : Str} {b : Bool} {C C' : Addr} (X : K.In h) (Gn : h.Ns mainGlobals mg) (a : PySem.W.nsIn K mainGlobals x = some (some (.ref C))) (a' : PySem.W.nsIn K mainGlobals y = some (some (.ref C')))
    (s : PySem.W.subIn K (.ref C') (.type "BaseException") = some true) (t : PySem.W.typeIn K (.ref C') = some (.type "type")) (ci : PySem.W.isClsIn K C' = true) (e : PySem.W.subIn K (.ref C) (.ref C') = some b) : HasE K mg x y b := by
  refine ⟨C, C', PySem.W.mg_of X Gn a, PySem.W.mg_of X Gn a', ?_⟩
  have h2' : (PySem.W.clsIn K C').isSome = true := ci
  simp [PySem.W.exmOne, PySem.W.kitCls, s, h2', t, e]
theorem con_strs3 {K : PySem.W.Frag} {h : Heap} {mg : Str → Option Value} {x : Str} {a : Addr} {od : Option Addr} {s1 s2 s3 r1 r2 r3 : Str} {t1 t2 t3 : Tok} {n : Nat} {sl : Array (Option Value)} (X : K.In h) (Gn : h.Ns mainGlobals mg) (a1 : PySem.W.nsIn K mainGlobals x = some (some (.ref a)))
    (e : K.lookup a = some ⟨.type "tuple", od, .seq #[.str s1 t1, .str s2 t2, .str s3 t3] n, sl⟩) (hs : (s1 == r1 && s2 == r2 && s3 == r3) = true) : HasC K mg x (.tuple [.str r1, .str r2, .str r3]) := by
  simp only [Bool.and_eq_true, beq_iff_eq] at hs
  obtain ⟨⟨rfl, rfl⟩, rfl⟩ := hs
  exact ⟨.ref a, _, PySem.W.mg_of X Gn a1, rfl, rep_K (its := [.str s1 t1, .str s2 t2, .str s3 t3]) (xs := [.str s1, .str s2, .str s3]) e (by simp) (.cons ⟨t1, rfl⟩ (.cons ⟨t2, rfl⟩ (.cons ⟨t3, rfl⟩ .nil))) (.cons (.str _) (.cons (.str _) (.cons (.str _) .nil)))⟩

theorem k_never {n m : Nat} {p : Ss} : Keeps G n (.ob 0) m neverS p := fun _ _ _ _ h => h.elim
/-- a def of a class -/
def HasM (K : PySem.W.Frag) (x q : Str) (st : Stmt) (ps : List Str) (S : Addr → Prop) : Prop := ∃ (f : Addr) (fd : FuncData), Fun K x q st f fd ∧ Binds K fd ps [] ∧ S f
abbrev BndM (x q : Str) (st : Stmt) (ps : List Str) : Prop := ∀ (kV doc pm : Value) (an : Option Addr) (cdv ct : Value) (us : List Value), us.length = ps.length → bindArgs (PySem.W.fnOf x q (defArgs st) (defBody st) (defScope st) .none kV doc pm an cdv ct) ⟨us, []⟩ = pure (ps.zip us)
theorem hasM_mk {K : PySem.W.Frag} {x q : Str} {st : Stmt} {ps : List Str} {S : Addr → Prop} {f : Addr} {od an : Option Addr} {sl : Array (Option Value)} {oc kV dc pm cd ct : Value} (hb : BndM x q st ps) (s : S f)
    (l1 : K.lookup f = some ⟨oc, od, .func (PySem.W.fnOf x q (defArgs st) (defBody st) (defScope st) .none kV dc pm an cd ct), sl⟩) (c1 : PySem.W.codeIn K cd q = true) (k1 : PySem.W.keepIn K (.ref f) = true) : HasM K x q st ps S :=
  ⟨f, _, fun_mk l1 c1 k1, (fun_mk l1 c1 k1).binds hb, s⟩
abbrev SMeth (K : PySem.W.Frag) (C : Addr) (x : Str) (f : Addr) : Prop := Meth K C x f
abbrev SProp (K : PySem.W.Frag) (C : Addr) (x : Str) (f : Addr) : Prop := ∃ p, PropOf K C x p f
abbrev SInit (K : PySem.W.Frag) (C : Addr) (f : Addr) : Prop := Mk K C f
abbrev SAug (K : PySem.W.Frag) (C : Addr) (x : Str) (f : Addr) : Prop := PySem.W.selfFirst K C = true ∧ PySem.W.findIn K (.ref C) x = some (some (.ref f)) ∧ PySem.W.isFn K (.ref f) = true
abbrev SOp (K : PySem.W.Frag) (C : Addr) (x : Str) (f : Addr) : Prop := PySem.W.findIn K (.ref C) x = some (some (.ref f)) ∧ PySem.W.isFn K (.ref f) = true
/-- a def of a class, with one default -/
def HasD (K : PySem.W.Frag) (x q : Str) (st : Stmt) (S : Addr → Prop) : Prop := ∃ (f : Addr) (fd : FuncData) (v : V), FunD K x q (defArgs st) (defBody st) (defScope st) [v] [] f fd ∧ S f
theorem hasD_mk {K : PySem.W.Frag} {x q : Str} {st : Stmt} {S : Addr → Prop} {f t d : Addr} {od od2 an : Option Addr} {sl sl2 : Array (Option Value)} {oc oc2 kV dc pm cd ct : Value} {n : Nat} (s : S f)
    (l1 : K.lookup f = some ⟨oc, od, .func (PySem.W.fnOf x q (defArgs st) (defBody st) (defScope st) (.ref t) kV dc pm an cd ct), sl⟩) (c1 : PySem.W.codeIn K cd q = true) (k1 : PySem.W.keepIn K (.ref f) = true) (l2 : K.lookup t = some ⟨oc2, od2, .seq #[.ref d] n, sl2⟩) : HasD K x q st S :=
  ⟨f, _, .ref d, ⟨⟨oc, od, .ref t, kV, dc, pm, an, cd, ct, sl, rfl, l1, c1, .inr ⟨by simp, t, _, [.ref d], n, rfl, l2, rfl, .cons rfl .nil⟩, .inl rfl⟩, k1⟩, s⟩
section
variable {P : Program} {w : World} {K : PySem.W.Frag} {mg : Str → Option Value} {base : Heap}
theorem def_okD {cls : Mp.Cls} {L : Nat} {x qual : Str} {st : Stmt} {f : Addr} {fd : FuncData} {dvs : List V} {kws : List (Str × V)} {N ps : List Str} {k : HdK} {s : FSpec} {p : Ss} (F : FunD K x qual (defArgs st) (defBody st) (defScope st) dvs kws f fd) (S : FnScope N ps (defScope st)) (kn : Kn G cls L P w K mg base)
    (chk : chkSs G N L (defScope st) p (defBody st) = true) (keeps : Keeps G N.length k ps.length s p) : FnOk P w K mg base (L2.CX P w) (L + 1) f fd ps (prom K cls mg k ps.length s) := by
  refine FunD.ok F S (fun vs H Q E ⟨hv, ds, O, io, rest, h1, h2, _⟩ => h2) fun cdv A outer s0 H vs Q E room ⟨hv, ds, O, io, rest, h1, h2, h3, h4, h5, hsp, htb, h6, h7, h8⟩ => ?_
  have hpl : ps.length ≤ N.length := by have := congrArg List.length S.pre; rw [List.length_take] at this; omega
  refine ⟨_, sndSs (F := ⟨K, H, O, io, cls⟩) (W := fun cls d _ H' => E cls d H') p ⟨⟨rfl, rfl, rfl, rfl, S.nd, room, takes_of rfl rfl rfl rfl, kn⟩, rfl, rfl, passes_of rfl, fun _ => rfl, S.kind⟩ chk, ?_⟩
  exact body_ok keeps h1 h2 hpl h3 h4 h5 hsp htb h6 h7 h8
end
/-- _law_tried: its code object, that one's table -/
def HasT (K : PySem.W.Frag) (mg : Str → Option Value) (c Pt : Addr) : Prop := ∃ (f : Addr) (oc kV doc pm ct : Value) (od an : Option Addr) (osl : Array (Option Value)), mg "_law_tried" = some (.ref f) ∧ PySem.W.keepIn K (.ref f) = true ∧
  K.lookup f = some ⟨oc, od, .func (PySem.W.fnOf "_law_tried" "_law_tried" (defArgs t_law_tried) (defBody t_law_tried) (defScope t_law_tried) .none kV doc pm an (.ref c) ct), osl⟩ ∧ PySem.W.codeIn K (.ref c) "_law_tried" = true ∧
  (∃ (e : Value) (dd : Option Addr) (vs : Array Value) (sl : Array (Option Value)), K.lookup c = some ⟨e, dd, .fields vs, sl⟩ ∧ vs[11]? = some (.ref Pt)) ∧ PySem.W.codeHdIn K c Pt = true ∧ K.lookup Pt = none
def HasTry (K : PySem.W.Frag) (mg : Str → Option Value) (CR : Addr) : Prop := ∃ (CT gI gN gX gA : Addr) (fI fN fX fA : FuncData), Try K mg CT CR gI gN gX gA fI fN fX fA
structure Facts (K : PySem.W.Frag) (mg : Str → Option Value) (CR c Pt : Addr) : Prop where
  h_lowest : Has K mg "lowest" t_lowest ["top", "below"]
  h_plus : Has K mg "plus" t_plus ["one", "other"]
  h_minus : Has K mg "minus" t_minus ["one", "other"]
  h_times : Has K mg "times" t_times ["one", "other"]
  h_is_less : Has K mg "is_less" t_is_less ["one", "other"]
  h_is_whole : Has K mg "is_whole" t_is_whole ["value", "low", "high"]
  h_is_fraction : Has K mg "is_fraction" t_is_fraction ["value"]
  h_is_length : Has K mg "is_length" t_is_length ["value"]
  h_is_plain_step : Has K mg "is_plain_step" t_is_plain_step ["value"]
  h_is_right_step : Has K mg "is_right_step" t_is_right_step ["value"]
  h_is_right_script : Has K mg "is_right_script" t_is_right_script ["value"]
  h_is_right_pattern : Has K mg "is_right_pattern" t_is_right_pattern ["value"]
  h_need_roll : Has K mg "need_roll" t_need_roll ["value"]
  h_need_script : Has K mg "need_script" t_need_script ["value"]
  h_need_pattern : Has K mg "need_pattern" t_need_pattern ["value"]
  h_spread : Has K mg "spread" t_spread ["script"]
  h_worth_sign : Has K mg "worth_sign" t_worth_sign ["form", "pattern"]
  h_sign_in : Has K mg "sign_in" t_sign_in ["form", "low", "high"]
  h_edge_of : Has K mg "edge_of" t_edge_of ["form"]
  h_form_sum : Has K mg "form_sum" t_form_sum ["one", "other"]
  h_form_less : Has K mg "form_less" t_form_less ["one", "other"]
  h_value_of : Has K mg "value_of" t_value_of ["form", "pattern"]
  h_middle : Has K mg "middle" t_middle ["low", "high"]
  h_next_place : Has K mg "next_place" t_next_place ["cut", "start", "low", "high"]
  h_goal_of : Has K mg "goal_of" t_goal_of ["word", "cut", "strips", "low", "high"]
  h_done_in : Has K mg "done_in" t_done_in ["roll", "script", "low", "high"]
  h_pieces_in : Has K mg "pieces_in" t_pieces_in ["roll", "script", "low", "high"]
  h_at_pattern : Has K mg "at_pattern" t_at_pattern ["roll", "script", "pattern"]
  h_match_word : Has K mg "match_word" t_match_word ["one", "other", "pattern"]
  h_strips_of : Has K mg "strips_of" t_strips_of ["roll", "script", "pattern"]
  h_strips : Has K mg "strips" t_strips ["roll", "script", "pattern"]
  h_waste : Has K mg "waste" t_waste ["roll", "script", "pattern"]
  h_rest : Has K mg "rest" t_rest ["roll", "script", "pattern"]
  h_out_at : Has K mg "out_at" t_out_at ["roll", "script", "pattern"]
  h_matches : Has K mg "matches" t_matches ["roll", "script", "pattern"]
  h_gone_to : Has K mg "gone_to" t_gone_to ["roll", "pattern", "now", "step"]
  h_law_source : Has K mg "_law_source" t_law_source ["script", "k"]
  h_law_pick : Has K mg "_law_pick" t_law_pick ["source", "many"]
  h_law_chosen : Has K mg "_law_chosen" t_law_chosen ["source", "things"]
  h_law_lowest : Has K mg "_law_lowest" t_law_lowest ["top", "below"]
  h_law_single : Has K mg "_law_single" t_law_single ["source"]
  h_law_some : Has K mg "_law_some" t_law_some ["source", "most"]
  h_law_less : Has K mg "_law_less" t_law_less ["one", "other"]
  h_law_patterns : Has K mg "_law_patterns" t_law_patterns ["source", "many"]
  h_law_sum : Has K mg "_law_sum" t_law_sum ["one", "other", "factor"]
  h_law_does : Has K mg "_law_does" t_law_does ["thing", "some", "fail"]
  h_law_undone : Has K mg "_law_undone" t_law_undone ["thing"]
  h_law : Has K mg "law" t_law ["script"]
  m_Roll___init : HasM K "__init__" "Roll.__init__" t_Roll___init ["self", "roll", "pattern"] (SInit K CR)
  m_Roll_length : HasM K "length" "Roll.length" t_Roll_length ["self"] (SProp K CR "length")
  m_Roll_pattern : HasM K "pattern" "Roll.pattern" t_Roll_pattern ["self"] (SProp K CR "pattern")
  m_Roll_place : HasM K "place" "Roll.place" t_Roll_place ["self"] (SProp K CR "place")
  m_Roll_waste : HasM K "waste" "Roll.waste" t_Roll_waste ["self"] (SProp K CR "waste")
  m_Roll_strips : HasM K "strips" "Roll.strips" t_Roll_strips ["self"] (SProp K CR "strips")
  m_Roll_keep : HasM K "keep" "Roll.keep" t_Roll_keep ["self", "later"] (SMeth K CR "keep")
  m_Roll_cut : HasD K "cut" "Roll.cut" t_Roll_cut (SMeth K CR "cut")
  m_Roll_away : HasM K "away" "Roll.away" t_Roll_away ["self", "word"] (SMeth K CR "away")
  m_Roll_mark : HasM K "mark" "Roll.mark" t_Roll_mark ["self"] (SMeth K CR "mark")
  m_Roll_half : HasM K "half" "Roll.half" t_Roll_half ["self"] (SMeth K CR "half")
  m_Roll_match : HasM K "match" "Roll.match" t_Roll_match ["self"] (SMeth K CR "match")
  m_Roll_drop : HasM K "drop" "Roll.drop" t_Roll_drop ["self"] (SMeth K CR "drop")
  m_Roll_matches : HasM K "matches" "Roll.matches" t_Roll_matches ["self"] (SMeth K CR "matches")
  m_Roll_undo : HasM K "undo" "Roll.undo" t_Roll_undo ["self"] (SMeth K CR "undo")
  m_Roll___iadd : HasM K "__iadd__" "Roll.__iadd__" t_Roll___iadd ["self", "script"] (SAug K CR "__iadd__")
  m_eq : HasM K "__eq__" "Roll.__eq__" tyQ ["self", "other"] (SOp K CR "__eq__")
  tried : HasT K mg c Pt
  try_ : HasTry K mg CR
  mR : mg "Roll" = some (.ref CR)
  cR : L2.Cls K CR
  nB : NoAttr K CR "both"
  nN : NoAttr K CR "now"
  nP : NoAttr K CR "past"
  isC : C8.InsC K CR
  c0 : HasC K mg "MOST_STEPS" c_0
  c1 : HasC K mg "LEAST_PATTERN" c_1
  c2 : HasC K mg "PLACES" c_2
  c3 : HasC K mg "LENGTHS" c_3
  c4 : HasC K mg "NOUGHT" c_4
  c5 : HasC K mg "HALF" c_5
  c6 : HasC K mg "ENDLESS" c_6
  x0 : HasX K mg "InvalidRoll"
  x1 : HasX K mg "InvalidScript"
  x2 : HasX K mg "InvalidPattern"
  x3 : HasX K mg "InvalidIndex"
  x4 : HasX K mg "InvalidLength"
  x5 : HasX K mg "RollOut"
  x6 : HasX K mg "NothingToUndo"
  e0 : HasE K mg "NothingToUndo" "NothingToUndo" true
  e1 : HasE K mg "InvalidLength" "InvalidLength" true
  blt : ∀ x ∈ bltNames, mg x = none
theorem bn_lowest : Bnd "lowest" t_lowest ["top", "below"] := fun _ _ _ _ _ _ us hl => match us, hl with | [_, _], _ => rfl
theorem bn_plus : Bnd "plus" t_plus ["one", "other"] := fun _ _ _ _ _ _ us hl => match us, hl with | [_, _], _ => rfl
theorem bn_minus : Bnd "minus" t_minus ["one", "other"] := fun _ _ _ _ _ _ us hl => match us, hl with | [_, _], _ => rfl
theorem bn_times : Bnd "times" t_times ["one", "other"] := fun _ _ _ _ _ _ us hl => match us, hl with | [_, _], _ => rfl
theorem bn_is_less : Bnd "is_less" t_is_less ["one", "other"] := fun _ _ _ _ _ _ us hl => match us, hl with | [_, _], _ => rfl
theorem bn_is_whole : Bnd "is_whole" t_is_whole ["value", "low", "high"] := fun _ _ _ _ _ _ us hl => match us, hl with | [_, _, _], _ => rfl
theorem bn_is_fraction : Bnd "is_fraction" t_is_fraction ["value"] := fun _ _ _ _ _ _ us hl => match us, hl with | [_], _ => rfl
theorem bn_is_length : Bnd "is_length" t_is_length ["value"] := fun _ _ _ _ _ _ us hl => match us, hl with | [_], _ => rfl
theorem bn_is_plain_step : Bnd "is_plain_step" t_is_plain_step ["value"] := fun _ _ _ _ _ _ us hl => match us, hl with | [_], _ => rfl
theorem bn_is_right_step : Bnd "is_right_step" t_is_right_step ["value"] := fun _ _ _ _ _ _ us hl => match us, hl with | [_], _ => rfl
theorem bn_is_right_script : Bnd "is_right_script" t_is_right_script ["value"] := fun _ _ _ _ _ _ us hl => match us, hl with | [_], _ => rfl
theorem bn_is_right_pattern : Bnd "is_right_pattern" t_is_right_pattern ["value"] := fun _ _ _ _ _ _ us hl => match us, hl with | [_], _ => rfl
theorem bn_need_roll : Bnd "need_roll" t_need_roll ["value"] := fun _ _ _ _ _ _ us hl => match us, hl with | [_], _ => rfl
theorem bn_need_script : Bnd "need_script" t_need_script ["value"] := fun _ _ _ _ _ _ us hl => match us, hl with | [_], _ => rfl
theorem bn_need_pattern : Bnd "need_pattern" t_need_pattern ["value"] := fun _ _ _ _ _ _ us hl => match us, hl with | [_], _ => rfl
theorem bn_spread : Bnd "spread" t_spread ["script"] := fun _ _ _ _ _ _ us hl => match us, hl with | [_], _ => rfl
theorem bn_worth_sign : Bnd "worth_sign" t_worth_sign ["form", "pattern"] := fun _ _ _ _ _ _ us hl => match us, hl with | [_, _], _ => rfl
theorem bn_sign_in : Bnd "sign_in" t_sign_in ["form", "low", "high"] := fun _ _ _ _ _ _ us hl => match us, hl with | [_, _, _], _ => rfl
theorem bn_edge_of : Bnd "edge_of" t_edge_of ["form"] := fun _ _ _ _ _ _ us hl => match us, hl with | [_], _ => rfl
theorem bn_form_sum : Bnd "form_sum" t_form_sum ["one", "other"] := fun _ _ _ _ _ _ us hl => match us, hl with | [_, _], _ => rfl
theorem bn_form_less : Bnd "form_less" t_form_less ["one", "other"] := fun _ _ _ _ _ _ us hl => match us, hl with | [_, _], _ => rfl
theorem bn_value_of : Bnd "value_of" t_value_of ["form", "pattern"] := fun _ _ _ _ _ _ us hl => match us, hl with | [_, _], _ => rfl
theorem bn_middle : Bnd "middle" t_middle ["low", "high"] := fun _ _ _ _ _ _ us hl => match us, hl with | [_, _], _ => rfl
theorem bn_next_place : Bnd "next_place" t_next_place ["cut", "start", "low", "high"] := fun _ _ _ _ _ _ us hl => match us, hl with | [_, _, _, _], _ => rfl
theorem bn_goal_of : Bnd "goal_of" t_goal_of ["word", "cut", "strips", "low", "high"] := fun _ _ _ _ _ _ us hl => match us, hl with | [_, _, _, _, _], _ => rfl
theorem bn_done_in : Bnd "done_in" t_done_in ["roll", "script", "low", "high"] := fun _ _ _ _ _ _ us hl => match us, hl with | [_, _, _, _], _ => rfl
theorem bn_pieces_in : Bnd "pieces_in" t_pieces_in ["roll", "script", "low", "high"] := fun _ _ _ _ _ _ us hl => match us, hl with | [_, _, _, _], _ => rfl
theorem bn_at_pattern : Bnd "at_pattern" t_at_pattern ["roll", "script", "pattern"] := fun _ _ _ _ _ _ us hl => match us, hl with | [_, _, _], _ => rfl
theorem bn_match_word : Bnd "match_word" t_match_word ["one", "other", "pattern"] := fun _ _ _ _ _ _ us hl => match us, hl with | [_, _, _], _ => rfl
theorem bn_strips_of : Bnd "strips_of" t_strips_of ["roll", "script", "pattern"] := fun _ _ _ _ _ _ us hl => match us, hl with | [_, _, _], _ => rfl
theorem bn_strips : Bnd "strips" t_strips ["roll", "script", "pattern"] := fun _ _ _ _ _ _ us hl => match us, hl with | [_, _, _], _ => rfl
theorem bn_waste : Bnd "waste" t_waste ["roll", "script", "pattern"] := fun _ _ _ _ _ _ us hl => match us, hl with | [_, _, _], _ => rfl
theorem bn_rest : Bnd "rest" t_rest ["roll", "script", "pattern"] := fun _ _ _ _ _ _ us hl => match us, hl with | [_, _, _], _ => rfl
theorem bn_out_at : Bnd "out_at" t_out_at ["roll", "script", "pattern"] := fun _ _ _ _ _ _ us hl => match us, hl with | [_, _, _], _ => rfl
theorem bn_matches : Bnd "matches" t_matches ["roll", "script", "pattern"] := fun _ _ _ _ _ _ us hl => match us, hl with | [_, _, _], _ => rfl
theorem bn_gone_to : Bnd "gone_to" t_gone_to ["roll", "pattern", "now", "step"] := fun _ _ _ _ _ _ us hl => match us, hl with | [_, _, _, _], _ => rfl
theorem bn_law_source : Bnd "_law_source" t_law_source ["script", "k"] := fun _ _ _ _ _ _ us hl => match us, hl with | [_, _], _ => rfl
theorem bn_law_pick : Bnd "_law_pick" t_law_pick ["source", "many"] := fun _ _ _ _ _ _ us hl => match us, hl with | [_, _], _ => rfl
theorem bn_law_chosen : Bnd "_law_chosen" t_law_chosen ["source", "things"] := fun _ _ _ _ _ _ us hl => match us, hl with | [_, _], _ => rfl
theorem bn_law_lowest : Bnd "_law_lowest" t_law_lowest ["top", "below"] := fun _ _ _ _ _ _ us hl => match us, hl with | [_, _], _ => rfl
theorem bn_law_single : Bnd "_law_single" t_law_single ["source"] := fun _ _ _ _ _ _ us hl => match us, hl with | [_], _ => rfl
theorem bn_law_some : Bnd "_law_some" t_law_some ["source", "most"] := fun _ _ _ _ _ _ us hl => match us, hl with | [_, _], _ => rfl
theorem bn_law_less : Bnd "_law_less" t_law_less ["one", "other"] := fun _ _ _ _ _ _ us hl => match us, hl with | [_, _], _ => rfl
theorem bn_law_patterns : Bnd "_law_patterns" t_law_patterns ["source", "many"] := fun _ _ _ _ _ _ us hl => match us, hl with | [_, _], _ => rfl
theorem bn_law_sum : Bnd "_law_sum" t_law_sum ["one", "other", "factor"] := fun _ _ _ _ _ _ us hl => match us, hl with | [_, _, _], _ => rfl
theorem bn_law_does : Bnd "_law_does" t_law_does ["thing", "some", "fail"] := fun _ _ _ _ _ _ us hl => match us, hl with | [_, _, _], _ => rfl
theorem bn_law_undone : Bnd "_law_undone" t_law_undone ["thing"] := fun _ _ _ _ _ _ us hl => match us, hl with | [_], _ => rfl
theorem bn_law : Bnd "law" t_law ["script"] := fun _ _ _ _ _ _ us hl => match us, hl with | [_], _ => rfl
theorem bn_Roll___init : BndM "__init__" "Roll.__init__" t_Roll___init ["self", "roll", "pattern"] := fun _ _ _ _ _ _ us hl => match us, hl with | [_, _, _], _ => rfl
theorem bn_Roll_length : BndM "length" "Roll.length" t_Roll_length ["self"] := fun _ _ _ _ _ _ us hl => match us, hl with | [_], _ => rfl
theorem bn_Roll_pattern : BndM "pattern" "Roll.pattern" t_Roll_pattern ["self"] := fun _ _ _ _ _ _ us hl => match us, hl with | [_], _ => rfl
theorem bn_Roll_place : BndM "place" "Roll.place" t_Roll_place ["self"] := fun _ _ _ _ _ _ us hl => match us, hl with | [_], _ => rfl
theorem bn_Roll_waste : BndM "waste" "Roll.waste" t_Roll_waste ["self"] := fun _ _ _ _ _ _ us hl => match us, hl with | [_], _ => rfl
theorem bn_Roll_strips : BndM "strips" "Roll.strips" t_Roll_strips ["self"] := fun _ _ _ _ _ _ us hl => match us, hl with | [_], _ => rfl
theorem bn_Roll_keep : BndM "keep" "Roll.keep" t_Roll_keep ["self", "later"] := fun _ _ _ _ _ _ us hl => match us, hl with | [_, _], _ => rfl
theorem bn_Roll_away : BndM "away" "Roll.away" t_Roll_away ["self", "word"] := fun _ _ _ _ _ _ us hl => match us, hl with | [_, _], _ => rfl
theorem bn_Roll_mark : BndM "mark" "Roll.mark" t_Roll_mark ["self"] := fun _ _ _ _ _ _ us hl => match us, hl with | [_], _ => rfl
theorem bn_Roll_half : BndM "half" "Roll.half" t_Roll_half ["self"] := fun _ _ _ _ _ _ us hl => match us, hl with | [_], _ => rfl
theorem bn_Roll_match : BndM "match" "Roll.match" t_Roll_match ["self"] := fun _ _ _ _ _ _ us hl => match us, hl with | [_], _ => rfl
theorem bn_Roll_drop : BndM "drop" "Roll.drop" t_Roll_drop ["self"] := fun _ _ _ _ _ _ us hl => match us, hl with | [_], _ => rfl
theorem bn_Roll_matches : BndM "matches" "Roll.matches" t_Roll_matches ["self"] := fun _ _ _ _ _ _ us hl => match us, hl with | [_], _ => rfl
theorem bn_Roll_undo : BndM "undo" "Roll.undo" t_Roll_undo ["self"] := fun _ _ _ _ _ _ us hl => match us, hl with | [_], _ => rfl
theorem bn_Roll___iadd : BndM "__iadd__" "Roll.__iadd__" t_Roll___iadd ["self", "script"] := fun _ _ _ _ _ _ us hl => match us, hl with | [_, _], _ => rfl
theorem bn_eq : BndM "__eq__" "Roll.__eq__" tyQ ["self", "other"] := fun _ _ _ _ _ _ us hl => match us, hl with | [_, _], _ => rfl
theorem bn_cut {K : PySem.W.Frag} {f : Addr} {fd : FuncData} {v : V} (F : FunD K "cut" "Roll.cut" (defArgs t_Roll_cut) (defBody t_Roll_cut) (defScope t_Roll_cut) [v] [] f fd) : Binds K fd ["self", "length"] [] := by
  obtain ⟨ds, r, b⟩ := F.binds1 (ps := ["self", "length"]) 2 1 (by simp) rfl fun T kV doc pm an cdv ct us its h1 h2 => match us, its, h1, h2 with | [_, _], [_], _, _ => ⟨_, rfl, rfl⟩
  cases r
  exact b
theorem bn_I : BndM "__init__" "Trying.__init__" tyI ["self", "thing"] := fun _ _ _ _ _ _ us hl => match us, hl with | [_, _], _ => rfl
theorem sc_lowest : FnScope n_lowest ["top", "below"] (defScope t_lowest) := ⟨rfl, rfl, rfl, by decide +kernel, rfl, by decide +kernel, by decide +kernel⟩
theorem sc_plus : FnScope n_plus ["one", "other"] (defScope t_plus) := ⟨rfl, rfl, rfl, by decide +kernel, rfl, by decide +kernel, by decide +kernel⟩
theorem sc_minus : FnScope n_minus ["one", "other"] (defScope t_minus) := ⟨rfl, rfl, rfl, by decide +kernel, rfl, by decide +kernel, by decide +kernel⟩
theorem sc_times : FnScope n_times ["one", "other"] (defScope t_times) := ⟨rfl, rfl, rfl, by decide +kernel, rfl, by decide +kernel, by decide +kernel⟩
theorem sc_is_less : FnScope n_is_less ["one", "other"] (defScope t_is_less) := ⟨rfl, rfl, rfl, by decide +kernel, rfl, by decide +kernel, by decide +kernel⟩
theorem sc_is_whole : FnScope n_is_whole ["value", "low", "high"] (defScope t_is_whole) := ⟨rfl, rfl, rfl, by decide +kernel, rfl, by decide +kernel, by decide +kernel⟩
theorem sc_is_fraction : FnScope n_is_fraction ["value"] (defScope t_is_fraction) := ⟨rfl, rfl, rfl, by decide +kernel, rfl, by decide +kernel, by decide +kernel⟩
theorem sc_is_length : FnScope n_is_length ["value"] (defScope t_is_length) := ⟨rfl, rfl, rfl, by decide +kernel, rfl, by decide +kernel, by decide +kernel⟩
theorem sc_is_plain_step : FnScope n_is_plain_step ["value"] (defScope t_is_plain_step) := ⟨rfl, rfl, rfl, by decide +kernel, rfl, by decide +kernel, by decide +kernel⟩
theorem sc_is_right_step : FnScope n_is_right_step ["value"] (defScope t_is_right_step) := ⟨rfl, rfl, rfl, by decide +kernel, rfl, by decide +kernel, by decide +kernel⟩
theorem sc_is_right_script : FnScope n_is_right_script ["value"] (defScope t_is_right_script) := ⟨rfl, rfl, rfl, by decide +kernel, rfl, by decide +kernel, by decide +kernel⟩
theorem sc_is_right_pattern : FnScope n_is_right_pattern ["value"] (defScope t_is_right_pattern) := ⟨rfl, rfl, rfl, by decide +kernel, rfl, by decide +kernel, by decide +kernel⟩
theorem sc_need_roll : FnScope n_need_roll ["value"] (defScope t_need_roll) := ⟨rfl, rfl, rfl, by decide +kernel, rfl, by decide +kernel, by decide +kernel⟩
theorem sc_need_script : FnScope n_need_script ["value"] (defScope t_need_script) := ⟨rfl, rfl, rfl, by decide +kernel, rfl, by decide +kernel, by decide +kernel⟩
theorem sc_need_pattern : FnScope n_need_pattern ["value"] (defScope t_need_pattern) := ⟨rfl, rfl, rfl, by decide +kernel, rfl, by decide +kernel, by decide +kernel⟩
theorem sc_spread : FnScope n_spread ["script"] (defScope t_spread) := ⟨rfl, rfl, rfl, by decide +kernel, rfl, by decide +kernel, by decide +kernel⟩
theorem sc_worth_sign : FnScope n_worth_sign ["form", "pattern"] (defScope t_worth_sign) := ⟨rfl, rfl, rfl, by decide +kernel, rfl, by decide +kernel, by decide +kernel⟩
theorem sc_sign_in : FnScope n_sign_in ["form", "low", "high"] (defScope t_sign_in) := ⟨rfl, rfl, rfl, by decide +kernel, rfl, by decide +kernel, by decide +kernel⟩
theorem sc_edge_of : FnScope n_edge_of ["form"] (defScope t_edge_of) := ⟨rfl, rfl, rfl, by decide +kernel, rfl, by decide +kernel, by decide +kernel⟩
theorem sc_form_sum : FnScope n_form_sum ["one", "other"] (defScope t_form_sum) := ⟨rfl, rfl, rfl, by decide +kernel, rfl, by decide +kernel, by decide +kernel⟩
theorem sc_form_less : FnScope n_form_less ["one", "other"] (defScope t_form_less) := ⟨rfl, rfl, rfl, by decide +kernel, rfl, by decide +kernel, by decide +kernel⟩
theorem sc_value_of : FnScope n_value_of ["form", "pattern"] (defScope t_value_of) := ⟨rfl, rfl, rfl, by decide +kernel, rfl, by decide +kernel, by decide +kernel⟩
theorem sc_middle : FnScope n_middle ["low", "high"] (defScope t_middle) := ⟨rfl, rfl, rfl, by decide +kernel, rfl, by decide +kernel, by decide +kernel⟩
theorem sc_next_place : FnScope n_next_place ["cut", "start", "low", "high"] (defScope t_next_place) := ⟨rfl, rfl, rfl, by decide +kernel, rfl, by decide +kernel, by decide +kernel⟩
theorem sc_goal_of : FnScope n_goal_of ["word", "cut", "strips", "low", "high"] (defScope t_goal_of) := ⟨rfl, rfl, rfl, by decide +kernel, rfl, by decide +kernel, by decide +kernel⟩
theorem sc_done_in : FnScope n_done_in ["roll", "script", "low", "high"] (defScope t_done_in) := ⟨rfl, rfl, rfl, by decide +kernel, rfl, by decide +kernel, by decide +kernel⟩
theorem sc_pieces_in : FnScope n_pieces_in ["roll", "script", "low", "high"] (defScope t_pieces_in) := ⟨rfl, rfl, rfl, by decide +kernel, rfl, by decide +kernel, by decide +kernel⟩
theorem sc_at_pattern : FnScope n_at_pattern ["roll", "script", "pattern"] (defScope t_at_pattern) := ⟨rfl, rfl, rfl, by decide +kernel, rfl, by decide +kernel, by decide +kernel⟩
theorem sc_match_word : FnScope n_match_word ["one", "other", "pattern"] (defScope t_match_word) := ⟨rfl, rfl, rfl, by decide +kernel, rfl, by decide +kernel, by decide +kernel⟩
theorem sc_strips_of : FnScope n_strips_of ["roll", "script", "pattern"] (defScope t_strips_of) := ⟨rfl, rfl, rfl, by decide +kernel, rfl, by decide +kernel, by decide +kernel⟩
theorem sc_strips : FnScope n_strips ["roll", "script", "pattern"] (defScope t_strips) := ⟨rfl, rfl, rfl, by decide +kernel, rfl, by decide +kernel, by decide +kernel⟩
theorem sc_waste : FnScope n_waste ["roll", "script", "pattern"] (defScope t_waste) := ⟨rfl, rfl, rfl, by decide +kernel, rfl, by decide +kernel, by decide +kernel⟩
theorem sc_rest : FnScope n_rest ["roll", "script", "pattern"] (defScope t_rest) := ⟨rfl, rfl, rfl, by decide +kernel, rfl, by decide +kernel, by decide +kernel⟩
theorem sc_out_at : FnScope n_out_at ["roll", "script", "pattern"] (defScope t_out_at) := ⟨rfl, rfl, rfl, by decide +kernel, rfl, by decide +kernel, by decide +kernel⟩
theorem sc_matches : FnScope n_matches ["roll", "script", "pattern"] (defScope t_matches) := ⟨rfl, rfl, rfl, by decide +kernel, rfl, by decide +kernel, by decide +kernel⟩
theorem sc_gone_to : FnScope n_gone_to ["roll", "pattern", "now", "step"] (defScope t_gone_to) := ⟨rfl, rfl, rfl, by decide +kernel, rfl, by decide +kernel, by decide +kernel⟩
theorem sc_law_source : FnScope n_law_source ["script", "k"] (defScope t_law_source) := ⟨rfl, rfl, rfl, by decide +kernel, rfl, by decide +kernel, by decide +kernel⟩
theorem sc_law_pick : FnScope n_law_pick ["source", "many"] (defScope t_law_pick) := ⟨rfl, rfl, rfl, by decide +kernel, rfl, by decide +kernel, by decide +kernel⟩
theorem sc_law_chosen : FnScope n_law_chosen ["source", "things"] (defScope t_law_chosen) := ⟨rfl, rfl, rfl, by decide +kernel, rfl, by decide +kernel, by decide +kernel⟩
theorem sc_law_lowest : FnScope n_law_lowest ["top", "below"] (defScope t_law_lowest) := ⟨rfl, rfl, rfl, by decide +kernel, rfl, by decide +kernel, by decide +kernel⟩
theorem sc_law_single : FnScope n_law_single ["source"] (defScope t_law_single) := ⟨rfl, rfl, rfl, by decide +kernel, rfl, by decide +kernel, by decide +kernel⟩
theorem sc_law_some : FnScope n_law_some ["source", "most"] (defScope t_law_some) := ⟨rfl, rfl, rfl, by decide +kernel, rfl, by decide +kernel, by decide +kernel⟩
theorem sc_law_less : FnScope n_law_less ["one", "other"] (defScope t_law_less) := ⟨rfl, rfl, rfl, by decide +kernel, rfl, by decide +kernel, by decide +kernel⟩
theorem sc_law_patterns : FnScope n_law_patterns ["source", "many"] (defScope t_law_patterns) := ⟨rfl, rfl, rfl, by decide +kernel, rfl, by decide +kernel, by decide +kernel⟩
theorem sc_law_sum : FnScope n_law_sum ["one", "other", "factor"] (defScope t_law_sum) := ⟨rfl, rfl, rfl, by decide +kernel, rfl, by decide +kernel, by decide +kernel⟩
theorem sc_law_does : FnScope n_law_does ["thing", "some", "fail"] (defScope t_law_does) := ⟨rfl, rfl, rfl, by decide +kernel, rfl, by decide +kernel, by decide +kernel⟩
theorem sc_law_undone : FnScope n_law_undone ["thing"] (defScope t_law_undone) := ⟨rfl, rfl, rfl, by decide +kernel, rfl, by decide +kernel, by decide +kernel⟩
theorem sc_law : FnScope n_law ["script"] (defScope t_law) := ⟨rfl, rfl, rfl, by decide +kernel, rfl, by decide +kernel, by decide +kernel⟩
theorem sc_Roll___init : FnScope n_Roll___init ["self", "roll", "pattern"] (defScope t_Roll___init) := ⟨rfl, rfl, rfl, by decide +kernel, rfl, by decide +kernel, by decide +kernel⟩
theorem sc_Roll_length : FnScope n_Roll_length ["self"] (defScope t_Roll_length) := ⟨rfl, rfl, rfl, by decide +kernel, rfl, by decide +kernel, by decide +kernel⟩
theorem sc_Roll_pattern : FnScope n_Roll_pattern ["self"] (defScope t_Roll_pattern) := ⟨rfl, rfl, rfl, by decide +kernel, rfl, by decide +kernel, by decide +kernel⟩
theorem sc_Roll_place : FnScope n_Roll_place ["self"] (defScope t_Roll_place) := ⟨rfl, rfl, rfl, by decide +kernel, rfl, by decide +kernel, by decide +kernel⟩
theorem sc_Roll_waste : FnScope n_Roll_waste ["self"] (defScope t_Roll_waste) := ⟨rfl, rfl, rfl, by decide +kernel, rfl, by decide +kernel, by decide +kernel⟩
theorem sc_Roll_strips : FnScope n_Roll_strips ["self"] (defScope t_Roll_strips) := ⟨rfl, rfl, rfl, by decide +kernel, rfl, by decide +kernel, by decide +kernel⟩
theorem sc_Roll_keep : FnScope n_Roll_keep ["self", "later"] (defScope t_Roll_keep) := ⟨rfl, rfl, rfl, by decide +kernel, rfl, by decide +kernel, by decide +kernel⟩
theorem sc_Roll_cut : FnScope n_Roll_cut ["self", "length"] (defScope t_Roll_cut) := ⟨rfl, rfl, rfl, by decide +kernel, rfl, by decide +kernel, by decide +kernel⟩
theorem sc_Roll_away : FnScope n_Roll_away ["self", "word"] (defScope t_Roll_away) := ⟨rfl, rfl, rfl, by decide +kernel, rfl, by decide +kernel, by decide +kernel⟩
theorem sc_Roll_mark : FnScope n_Roll_mark ["self"] (defScope t_Roll_mark) := ⟨rfl, rfl, rfl, by decide +kernel, rfl, by decide +kernel, by decide +kernel⟩
theorem sc_Roll_half : FnScope n_Roll_half ["self"] (defScope t_Roll_half) := ⟨rfl, rfl, rfl, by decide +kernel, rfl, by decide +kernel, by decide +kernel⟩
theorem sc_Roll_match : FnScope n_Roll_match ["self"] (defScope t_Roll_match) := ⟨rfl, rfl, rfl, by decide +kernel, rfl, by decide +kernel, by decide +kernel⟩
theorem sc_Roll_drop : FnScope n_Roll_drop ["self"] (defScope t_Roll_drop) := ⟨rfl, rfl, rfl, by decide +kernel, rfl, by decide +kernel, by decide +kernel⟩
theorem sc_Roll_matches : FnScope n_Roll_matches ["self"] (defScope t_Roll_matches) := ⟨rfl, rfl, rfl, by decide +kernel, rfl, by decide +kernel, by decide +kernel⟩
theorem sc_Roll_undo : FnScope n_Roll_undo ["self"] (defScope t_Roll_undo) := ⟨rfl, rfl, rfl, by decide +kernel, rfl, by decide +kernel, by decide +kernel⟩
theorem sc_Roll___iadd : FnScope n_Roll___iadd ["self", "script"] (defScope t_Roll___iadd) := ⟨rfl, rfl, rfl, by decide +kernel, rfl, by decide +kernel, by decide +kernel⟩
theorem d_lowest : chkSs G n_lowest 0 (defScope t_lowest) b_lowest (defBody t_lowest) = true := by decide +kernel
theorem d_plus : chkSs G n_plus 1 (defScope t_plus) b_plus (defBody t_plus) = true := by decide +kernel
theorem d_minus : chkSs G n_minus 1 (defScope t_minus) b_minus (defBody t_minus) = true := by decide +kernel
theorem d_times : chkSs G n_times 1 (defScope t_times) b_times (defBody t_times) = true := by decide +kernel
theorem d_is_less : chkSs G n_is_less 0 (defScope t_is_less) b_is_less (defBody t_is_less) = true := by decide +kernel
theorem d_is_whole : chkSs G n_is_whole 0 (defScope t_is_whole) b_is_whole (defBody t_is_whole) = true := by decide +kernel
theorem d_is_fraction : chkSs G n_is_fraction 1 (defScope t_is_fraction) b_is_fraction (defBody t_is_fraction) = true := by decide +kernel
theorem d_is_length : chkSs G n_is_length 2 (defScope t_is_length) b_is_length (defBody t_is_length) = true := by decide +kernel
theorem d_is_plain_step : chkSs G n_is_plain_step 3 (defScope t_is_plain_step) b_is_plain_step (defBody t_is_plain_step) = true := by decide +kernel
theorem d_is_right_step : chkSs G n_is_right_step 4 (defScope t_is_right_step) b_is_right_step (defBody t_is_right_step) = true := by decide +kernel
theorem d_is_right_script : chkSs G n_is_right_script 5 (defScope t_is_right_script) b_is_right_script (defBody t_is_right_script) = true := by decide +kernel
theorem d_is_right_pattern : chkSs G n_is_right_pattern 2 (defScope t_is_right_pattern) b_is_right_pattern (defBody t_is_right_pattern) = true := by decide +kernel
theorem d_need_roll : chkSs G n_need_roll 1 (defScope t_need_roll) b_need_roll (defBody t_need_roll) = true := by decide +kernel
theorem d_need_script : chkSs G n_need_script 6 (defScope t_need_script) b_need_script (defBody t_need_script) = true := by decide +kernel
theorem d_need_pattern : chkSs G n_need_pattern 3 (defScope t_need_pattern) b_need_pattern (defBody t_need_pattern) = true := by decide +kernel
theorem d_spread : chkSs G n_spread 0 (defScope t_spread) b_spread (defBody t_spread) = true := by decide +kernel
theorem d_worth_sign : chkSs G n_worth_sign 0 (defScope t_worth_sign) b_worth_sign (defBody t_worth_sign) = true := by decide +kernel
theorem d_sign_in : chkSs G n_sign_in 1 (defScope t_sign_in) b_sign_in (defBody t_sign_in) = true := by decide +kernel
theorem d_edge_of : chkSs G n_edge_of 1 (defScope t_edge_of) b_edge_of (defBody t_edge_of) = true := by decide +kernel
theorem d_form_sum : chkSs G n_form_sum 2 (defScope t_form_sum) b_form_sum (defBody t_form_sum) = true := by decide +kernel
theorem d_form_less : chkSs G n_form_less 2 (defScope t_form_less) b_form_less (defBody t_form_less) = true := by decide +kernel
theorem d_value_of : chkSs G n_value_of 2 (defScope t_value_of) b_value_of (defBody t_value_of) = true := by decide +kernel
theorem d_middle : chkSs G n_middle 2 (defScope t_middle) b_middle (defBody t_middle) = true := by decide +kernel
theorem d_next_place : chkSs G n_next_place 3 (defScope t_next_place) b_next_place (defBody t_next_place) = true := by decide +kernel
theorem d_goal_of : chkSs G n_goal_of 4 (defScope t_goal_of) b_goal_of (defBody t_goal_of) = true := by decide +kernel
theorem d_done_in : chkSs G n_done_in 5 (defScope t_done_in) b_done_in (defBody t_done_in) = true := by decide +kernel
theorem d_pieces_in : chkSs G n_pieces_in 6 (defScope t_pieces_in) b_pieces_in (defBody t_pieces_in) = true := by decide +kernel
theorem d_at_pattern : chkSs G n_at_pattern 7 (defScope t_at_pattern) b_at_pattern (defBody t_at_pattern) = true := by decide +kernel
theorem d_match_word : chkSs G n_match_word 3 (defScope t_match_word) b_match_word (defBody t_match_word) = true := by decide +kernel
theorem d_strips_of : chkSs G n_strips_of 8 (defScope t_strips_of) b_strips_of (defBody t_strips_of) = true := by decide +kernel
theorem d_strips : chkSs G n_strips 9 (defScope t_strips) b_strips (defBody t_strips) = true := by decide +kernel
theorem d_waste : chkSs G n_waste 8 (defScope t_waste) b_waste (defBody t_waste) = true := by decide +kernel
theorem d_rest : chkSs G n_rest 8 (defScope t_rest) b_rest (defBody t_rest) = true := by decide +kernel
theorem d_out_at : chkSs G n_out_at 8 (defScope t_out_at) b_out_at (defBody t_out_at) = true := by decide +kernel
theorem d_matches : chkSs G n_matches 8 (defScope t_matches) b_matches (defBody t_matches) = true := by decide +kernel
theorem d_gone_to : chkSs G n_gone_to 5 (defScope t_gone_to) b_gone_to (defBody t_gone_to) = true := by decide +kernel
theorem d_Roll___init : chkSs G n_Roll___init 4 (defScope t_Roll___init) b_Roll___init (defBody t_Roll___init) = true := by decide +kernel
theorem d_Roll_length : chkSs G n_Roll_length 0 (defScope t_Roll_length) b_Roll_length (defBody t_Roll_length) = true := by decide +kernel
theorem d_Roll_pattern : chkSs G n_Roll_pattern 0 (defScope t_Roll_pattern) b_Roll_pattern (defBody t_Roll_pattern) = true := by decide +kernel
theorem d_Roll_place : chkSs G n_Roll_place 0 (defScope t_Roll_place) b_Roll_place (defBody t_Roll_place) = true := by decide +kernel
theorem d_Roll_waste : chkSs G n_Roll_waste 0 (defScope t_Roll_waste) b_Roll_waste (defBody t_Roll_waste) = true := by decide +kernel
theorem d_Roll_strips : chkSs G n_Roll_strips 0 (defScope t_Roll_strips) b_Roll_strips (defBody t_Roll_strips) = true := by decide +kernel
theorem d_Roll_keep : chkSs G n_Roll_keep 0 (defScope t_Roll_keep) b_Roll_keep (defBody t_Roll_keep) = true := by decide +kernel
theorem d_Roll_cut : chkSs G n_Roll_cut 6 (defScope t_Roll_cut) b_Roll_cut (defBody t_Roll_cut) = true := by decide +kernel
theorem d_Roll_away : chkSs G n_Roll_away 6 (defScope t_Roll_away) b_Roll_away (defBody t_Roll_away) = true := by decide +kernel
theorem d_Roll_mark : chkSs G n_Roll_mark 7 (defScope t_Roll_mark) b_Roll_mark (defBody t_Roll_mark) = true := by decide +kernel
theorem d_Roll_half : chkSs G n_Roll_half 7 (defScope t_Roll_half) b_Roll_half (defBody t_Roll_half) = true := by decide +kernel
theorem d_Roll_match : chkSs G n_Roll_match 7 (defScope t_Roll_match) b_Roll_match (defBody t_Roll_match) = true := by decide +kernel
theorem d_Roll_drop : chkSs G n_Roll_drop 7 (defScope t_Roll_drop) b_Roll_drop (defBody t_Roll_drop) = true := by decide +kernel
theorem d_Roll_matches : chkSs G n_Roll_matches 4 (defScope t_Roll_matches) b_Roll_matches (defBody t_Roll_matches) = true := by decide +kernel
theorem d_Roll_undo : chkSs G n_Roll_undo 0 (defScope t_Roll_undo) b_Roll_undo (defBody t_Roll_undo) = true := by decide +kernel
theorem d_Roll___iadd : chkSs G n_Roll___iadd 7 (defScope t_Roll___iadd) b_Roll___iadd (defBody t_Roll___iadd) = true := by decide +kernel
theorem d_law_source : chkSs G n_law_source 0 (defScope t_law_source) b_law_source (defBody t_law_source) = true := by decide +kernel
theorem d_law_pick : chkSs G n_law_pick 0 (defScope t_law_pick) b_law_pick (defBody t_law_pick) = true := by decide +kernel
theorem d_law_chosen : chkSs G n_law_chosen 1 (defScope t_law_chosen) b_law_chosen (defBody t_law_chosen) = true := by decide +kernel
theorem d_law_lowest : chkSs G n_law_lowest 0 (defScope t_law_lowest) b_law_lowest (defBody t_law_lowest) = true := by decide +kernel
theorem d_law_single : chkSs G n_law_single 2 (defScope t_law_single) b_law_single (defBody t_law_single) = true := by decide +kernel
theorem d_law_some : chkSs G n_law_some 3 (defScope t_law_some) b_law_some (defBody t_law_some) = true := by decide +kernel
theorem d_law_less : chkSs G n_law_less 0 (defScope t_law_less) b_law_less (defBody t_law_less) = true := by decide +kernel
theorem d_law_patterns : chkSs G n_law_patterns 1 (defScope t_law_patterns) b_law_patterns (defBody t_law_patterns) = true := by decide +kernel
theorem d_law_sum : chkSs G n_law_sum 1 (defScope t_law_sum) b_law_sum (defBody t_law_sum) = true := by decide +kernel
theorem d_law_does : chkSs G n_law_does 8 (defScope t_law_does) b_law_does (defBody t_law_does) = true := by decide +kernel
theorem d_law_undone : chkSs G n_law_undone 1 (defScope t_law_undone) b_law_undone (defBody t_law_undone) = true := by decide +kernel
theorem d_law : chkSs G n_law 16 (defScope t_law) b_law (defBody t_law) = true := by decide +kernel
theorem d_worth_sign2 : chkSs G n_worth_sign 0 (defScope t_worth_sign) b_worth_sign2 (defBody t_worth_sign) = true := by decide +kernel
theorem d_sign_in2 : chkSs G n_sign_in 1 (defScope t_sign_in) b_sign_in2 (defBody t_sign_in) = true := by decide +kernel
theorem d_form_sum2 : chkSs G n_form_sum 2 (defScope t_form_sum) b_form_sum2 (defBody t_form_sum) = true := by decide +kernel
theorem d_form_less2 : chkSs G n_form_less 2 (defScope t_form_less) b_form_less2 (defBody t_form_less) = true := by decide +kernel
theorem d_value_of2 : chkSs G n_value_of 2 (defScope t_value_of) b_value_of2 (defBody t_value_of) = true := by decide +kernel
theorem d_next_place2 : chkSs G n_next_place 3 (defScope t_next_place) b_next_place2 (defBody t_next_place) = true := by decide +kernel
theorem d_goal_of2 : chkSs G n_goal_of 4 (defScope t_goal_of) b_goal_of2 (defBody t_goal_of) = true := by decide +kernel
theorem d_match_word2 : chkSs G n_match_word 3 (defScope t_match_word) b_match_word2 (defBody t_match_word) = true := by decide +kernel
def clsOf (CR Pt : Addr) : Mp.Cls := ⟨fun k => if k = 0 then some (CR, rollN) else none, [(Pt, qL)]⟩
section
variable {P : Program} {w : World} {K : PySem.W.Frag} {mg : Str → Option Value} {base : Heap} {CR c Pt : Addr}
def Ok (P : Program) (w : World) (K : PySem.W.Frag) (mg : Str → Option Value) (base : Heap) (cls : Mp.Cls) (k : Nat) (fi : FnI) : Prop := ∃ (f : Addr) (fd : FuncData), mg fi.name = some (.ref f) ∧ PySem.W.keepIn K (.ref f) = true ∧ Binds K fd fi.pars [] ∧ FnOk P w K mg base (L2.CX P w) fi.lev f fd fi.pars (prom K cls mg fi.hd fi.pars.length (G.fns k))
def OkM (P : Program) (w : World) (K : PySem.W.Frag) (mg : Str → Option Value) (base : Heap) (cls : Mp.Cls) (k : Nat) (mi : MtI) : Prop := ∃ (C : Addr) (names : List Str) (f : Addr) (fd : FuncData), cls mi.cls = some (C, names) ∧ Binds K fd mi.pars [] ∧ FnOk P w K mg base (L2.CX P w) mi.lev f fd mi.pars (prom K cls mg (.ob mi.cls) mi.pars.length (G.fns k)) ∧
    (match mi.kind with
      | .meth => Meth K C mi.name f ∧ mi.name ∉ names
      | .prop => ∃ p, PropOf K C mi.name p f
      | .init => Mk K C f ∧ mg mi.name = some (.ref C)
      | .iadd => PySem.W.selfFirst K C = true ∧ PySem.W.findIn K (.ref C) "__iadd__" = some (some (.ref f)) ∧ PySem.W.isFn K (.ref f) = true)
theorem oks (T : Facts K mg CR c Pt) (B : LamX.TabB base mg c Pt) : ∀ (k : Nat) (fi : FnI), G.fni k = some fi → Kn G (clsOf CR Pt) (fi.lev - 1) P w K mg base → Ok P w K mg base (clsOf CR Pt) k fi
  | 0, _, rfl, kn => by
    obtain ⟨f, fd, m, F, b⟩ := T.h_lowest
    exact ⟨f, fd, m, F.kp, b, def_ok F sc_lowest kn d_lowest k_low⟩
  | 1, _, rfl, kn => by
    obtain ⟨f, fd, m, F, b⟩ := T.h_plus
    exact ⟨f, fd, m, F.kp, b, def_ok F sc_plus kn d_plus k_plus⟩
  | 2, _, rfl, kn => by
    obtain ⟨f, fd, m, F, b⟩ := T.h_minus
    exact ⟨f, fd, m, F.kp, b, def_ok F sc_minus kn d_minus k_minus⟩
  | 3, _, rfl, kn => by
    obtain ⟨f, fd, m, F, b⟩ := T.h_times
    exact ⟨f, fd, m, F.kp, b, def_ok F sc_times kn d_times k_times⟩
  | 4, _, rfl, kn => by
    obtain ⟨f, fd, m, F, b⟩ := T.h_is_less
    exact ⟨f, fd, m, F.kp, b, def_ok F sc_is_less kn d_is_less k_less⟩
  | 5, _, rfl, kn => by
    obtain ⟨f, fd, m, F, b⟩ := T.h_is_whole
    exact ⟨f, fd, m, F.kp, b, def_ok F sc_is_whole kn d_is_whole k_whole⟩
  | 6, _, rfl, kn => by
    obtain ⟨f, fd, m, F, b⟩ := T.h_is_fraction
    exact ⟨f, fd, m, F.kp, b, def_ok F sc_is_fraction kn d_is_fraction k_frac⟩
  | 7, _, rfl, kn => by
    obtain ⟨f, fd, m, F, b⟩ := T.h_is_length
    exact ⟨f, fd, m, F.kp, b, def_ok F sc_is_length kn d_is_length k_len⟩
  | 8, _, rfl, kn => by
    obtain ⟨f, fd, m, F, b⟩ := T.h_is_plain_step
    exact ⟨f, fd, m, F.kp, b, def_ok F sc_is_plain_step kn d_is_plain_step k_plain⟩
  | 9, _, rfl, kn => by
    obtain ⟨f, fd, m, F, b⟩ := T.h_is_right_step
    exact ⟨f, fd, m, F.kp, b, def_ok F sc_is_right_step kn d_is_right_step k_step⟩
  | 10, _, rfl, kn => by
    obtain ⟨f, fd, m, F, b⟩ := T.h_is_right_script
    exact ⟨f, fd, m, F.kp, b, def_ok F sc_is_right_script kn d_is_right_script k_script⟩
  | 11, _, rfl, kn => by
    obtain ⟨f, fd, m, F, b⟩ := T.h_is_right_pattern
    exact ⟨f, fd, m, F.kp, b, def_ok F sc_is_right_pattern kn d_is_right_pattern k_pat⟩
  | 12, _, rfl, kn => by
    obtain ⟨f, fd, m, F, b⟩ := T.h_need_roll
    exact ⟨f, fd, m, F.kp, b, def_ok F sc_need_roll kn d_need_roll k_needr⟩
  | 13, _, rfl, kn => by
    obtain ⟨f, fd, m, F, b⟩ := T.h_need_script
    exact ⟨f, fd, m, F.kp, b, def_ok F sc_need_script kn d_need_script k_need⟩
  | 14, _, rfl, kn => by
    obtain ⟨f, fd, m, F, b⟩ := T.h_need_pattern
    exact ⟨f, fd, m, F.kp, b, def_ok F sc_need_pattern kn d_need_pattern k_needp⟩
  | 15, _, rfl, kn => by
    obtain ⟨f, fd, m, F, b⟩ := T.h_spread
    exact ⟨f, fd, m, F.kp, b, def_ok F sc_spread kn d_spread k_spread⟩
  | 16, _, rfl, kn => by
    obtain ⟨f, fd, m, F, b⟩ := T.h_worth_sign
    exact ⟨f, fd, m, F.kp, b, def_ok F sc_worth_sign kn d_worth_sign k_worth⟩
  | 17, _, rfl, kn => by
    obtain ⟨f, fd, m, F, b⟩ := T.h_sign_in
    exact ⟨f, fd, m, F.kp, b, def_ok F sc_sign_in kn d_sign_in k_sign⟩
  | 18, _, rfl, kn => by
    obtain ⟨f, fd, m, F, b⟩ := T.h_edge_of
    exact ⟨f, fd, m, F.kp, b, def_ok F sc_edge_of kn d_edge_of k_edge⟩
  | 19, _, rfl, kn => by
    obtain ⟨f, fd, m, F, b⟩ := T.h_form_sum
    exact ⟨f, fd, m, F.kp, b, def_ok F sc_form_sum kn d_form_sum k_fsum⟩
  | 20, _, rfl, kn => by
    obtain ⟨f, fd, m, F, b⟩ := T.h_form_less
    exact ⟨f, fd, m, F.kp, b, def_ok F sc_form_less kn d_form_less k_fless⟩
  | 21, _, rfl, kn => by
    obtain ⟨f, fd, m, F, b⟩ := T.h_value_of
    exact ⟨f, fd, m, F.kp, b, def_ok F sc_value_of kn d_value_of k_value⟩
  | 22, _, rfl, kn => by
    obtain ⟨f, fd, m, F, b⟩ := T.h_middle
    exact ⟨f, fd, m, F.kp, b, def_ok F sc_middle kn d_middle k_middle⟩
  | 23, _, rfl, kn => by
    obtain ⟨f, fd, m, F, b⟩ := T.h_next_place
    exact ⟨f, fd, m, F.kp, b, def_ok F sc_next_place kn d_next_place k_next⟩
  | 24, _, rfl, kn => by
    obtain ⟨f, fd, m, F, b⟩ := T.h_goal_of
    exact ⟨f, fd, m, F.kp, b, def_ok F sc_goal_of kn d_goal_of k_goal⟩
  | 25, _, rfl, kn => by
    obtain ⟨f, fd, m, F, b⟩ := T.h_done_in
    exact ⟨f, fd, m, F.kp, b, def_ok F sc_done_in kn d_done_in k_done⟩
  | 26, _, rfl, kn => by
    obtain ⟨f, fd, m, F, b⟩ := T.h_pieces_in
    exact ⟨f, fd, m, F.kp, b, def_ok F sc_pieces_in kn d_pieces_in k_pieces1⟩
  | 27, _, rfl, kn => by
    obtain ⟨f, fd, m, F, b⟩ := T.h_at_pattern
    exact ⟨f, fd, m, F.kp, b, def_ok F sc_at_pattern kn d_at_pattern k_at⟩
  | 28, _, rfl, kn => by
    obtain ⟨f, fd, m, F, b⟩ := T.h_match_word
    exact ⟨f, fd, m, F.kp, b, def_ok F sc_match_word kn d_match_word k_word⟩
  | 29, _, rfl, kn => by
    obtain ⟨f, fd, m, F, b⟩ := T.h_strips_of
    exact ⟨f, fd, m, F.kp, b, def_ok F sc_strips_of kn d_strips_of k_strips_of⟩
  | 30, _, rfl, kn => by
    obtain ⟨f, fd, m, F, b⟩ := T.h_strips
    exact ⟨f, fd, m, F.kp, b, def_ok F sc_strips kn d_strips k_strips⟩
  | 31, _, rfl, kn => by
    obtain ⟨f, fd, m, F, b⟩ := T.h_waste
    exact ⟨f, fd, m, F.kp, b, def_ok F sc_waste kn d_waste k_waste⟩
  | 32, _, rfl, kn => by
    obtain ⟨f, fd, m, F, b⟩ := T.h_rest
    exact ⟨f, fd, m, F.kp, b, def_ok F sc_rest kn d_rest k_rest⟩
  | 33, _, rfl, kn => by
    obtain ⟨f, fd, m, F, b⟩ := T.h_out_at
    exact ⟨f, fd, m, F.kp, b, def_ok F sc_out_at kn d_out_at k_out⟩
  | 34, _, rfl, kn => by
    obtain ⟨f, fd, m, F, b⟩ := T.h_matches
    exact ⟨f, fd, m, F.kp, b, def_ok F sc_matches kn d_matches k_matches⟩
  | 35, _, rfl, kn => by
    obtain ⟨f, fd, m, F, b⟩ := T.h_gone_to
    exact ⟨f, fd, m, F.kp, b, def_ok F sc_gone_to kn d_gone_to k_gone⟩
  | 36, _, e, _ => by cases e
  | 37, _, e, _ => by cases e
  | 38, _, e, _ => by cases e
  | 39, _, e, _ => by cases e
  | 40, _, e, _ => by cases e
  | 41, _, e, _ => by cases e
  | 42, _, e, _ => by cases e
  | 43, _, e, _ => by cases e
  | 44, _, e, _ => by cases e
  | 45, _, e, _ => by cases e
  | 46, _, e, _ => by cases e
  | 47, _, e, _ => by cases e
  | 48, _, e, _ => by cases e
  | 49, _, e, _ => by cases e
  | 50, _, e, _ => by cases e
  | 51, _, e, _ => by cases e
  | 52, _, rfl, kn => by
    obtain ⟨f, fd, m, F, b⟩ := T.h_law_source
    exact ⟨f, fd, m, F.kp, b, def_ok F sc_law_source kn d_law_source k_source⟩
  | 53, _, rfl, kn => by
    obtain ⟨f, fd, m, F, b⟩ := T.h_law_pick
    exact ⟨f, fd, m, F.kp, b, def_ok F sc_law_pick kn d_law_pick k_pick⟩
  | 54, _, rfl, kn => by
    obtain ⟨f, fd, m, F, b⟩ := T.h_law_chosen
    exact ⟨f, fd, m, F.kp, b, def_ok F sc_law_chosen kn d_law_chosen k_chosen⟩
  | 55, _, rfl, kn => by
    obtain ⟨f, fd, m, F, b⟩ := T.h_law_lowest
    exact ⟨f, fd, m, F.kp, b, def_ok F sc_law_lowest kn d_law_lowest k_lawlow⟩
  | 56, _, rfl, kn => by
    obtain ⟨f, fd, m, F, b⟩ := T.h_law_single
    exact ⟨f, fd, m, F.kp, b, def_ok F sc_law_single kn d_law_single k_single⟩
  | 57, _, rfl, kn => by
    obtain ⟨f, fd, m, F, b⟩ := T.h_law_some
    exact ⟨f, fd, m, F.kp, b, def_ok F sc_law_some kn d_law_some k_some⟩
  | 58, _, rfl, kn => by
    obtain ⟨f, fd, m, F, b⟩ := T.h_law_less
    exact ⟨f, fd, m, F.kp, b, def_ok F sc_law_less kn d_law_less k_lawless⟩
  | 59, _, rfl, kn => by
    obtain ⟨f, fd, m, F, b⟩ := T.h_law_patterns
    exact ⟨f, fd, m, F.kp, b, def_ok F sc_law_patterns kn d_law_patterns k_patterns⟩
  | 60, _, rfl, kn => by
    obtain ⟨f, fd, m, F, b⟩ := T.h_law_sum
    exact ⟨f, fd, m, F.kp, b, def_ok F sc_law_sum kn d_law_sum k_lawsum⟩
  | 61, _, rfl, kn => by
    obtain ⟨f, fd, m, F, b⟩ := T.h_law_does
    exact ⟨f, fd, m, F.kp, b, def_ok F sc_law_does kn d_law_does k_lawdoes⟩
  | 62, _, rfl, kn => by
    obtain ⟨f, oc, kV, doc, pm, ct, od, an, osl, m, kp, lk, hcd, _, _, _⟩ := T.tried
    obtain ⟨CT, gI, gN, gX, gA, fI, fN, fX, fA, Y⟩ := T.try_
    exact ⟨f, _, m, kp, .all fun us hl => (match us, hl with | [_, _, _], _ => rfl), tried_ok lk hcd Y (kn.mono (by decide)) rfl rfl B⟩
  | 63, _, rfl, kn => by
    obtain ⟨f, fd, m, F, b⟩ := T.h_law_undone
    exact ⟨f, fd, m, F.kp, b, def_ok F sc_law_undone kn d_law_undone k_lawundone⟩
  | 64, _, rfl, kn => by
    obtain ⟨f, fd, m, F, b⟩ := T.h_law
    exact ⟨f, fd, m, F.kp, b, def_ok F sc_law kn d_law k_law⟩
  | 65, _, rfl, kn => by
    obtain ⟨f, fd, m, F, b⟩ := T.h_worth_sign
    exact ⟨f, fd, m, F.kp, b, def_ok F sc_worth_sign kn d_worth_sign2 k_worth2⟩
  | 66, _, rfl, kn => by
    obtain ⟨f, fd, m, F, b⟩ := T.h_sign_in
    exact ⟨f, fd, m, F.kp, b, def_ok F sc_sign_in kn d_sign_in2 k_sign2⟩
  | 67, _, rfl, kn => by
    obtain ⟨f, fd, m, F, b⟩ := T.h_form_sum
    exact ⟨f, fd, m, F.kp, b, def_ok F sc_form_sum kn d_form_sum2 k_fsum2⟩
  | 68, _, rfl, kn => by
    obtain ⟨f, fd, m, F, b⟩ := T.h_form_less
    exact ⟨f, fd, m, F.kp, b, def_ok F sc_form_less kn d_form_less2 k_fless2⟩
  | 69, _, rfl, kn => by
    obtain ⟨f, fd, m, F, b⟩ := T.h_value_of
    exact ⟨f, fd, m, F.kp, b, def_ok F sc_value_of kn d_value_of2 k_value2⟩
  | 70, _, rfl, kn => by
    obtain ⟨f, fd, m, F, b⟩ := T.h_next_place
    exact ⟨f, fd, m, F.kp, b, def_ok F sc_next_place kn d_next_place2 k_next2⟩
  | 71, _, rfl, kn => by
    obtain ⟨f, fd, m, F, b⟩ := T.h_goal_of
    exact ⟨f, fd, m, F.kp, b, def_ok F sc_goal_of kn d_goal_of2 k_goal2⟩
  | 72, _, rfl, kn => by
    obtain ⟨f, fd, m, F, b⟩ := T.h_match_word
    exact ⟨f, fd, m, F.kp, b, def_ok F sc_match_word kn d_match_word2 k_word2⟩
  | n + 73, fi, e, _ => by
    have : (tab[n + 73]? : Option (Option FnI)) = none := List.getElem?_eq_none (by show tab.length ≤ n + 73; simp [tab])
    rw [show G.fni (n + 73) = (tab[n + 73]?).join from rfl, this] at e
    cases e
theorem oksM (T : Facts K mg CR c Pt) : ∀ (k : Nat) (mi : MtI), G.mti k = some mi → Kn G (clsOf CR Pt) (mi.lev - 1) P w K mg base → OkM P w K mg base (clsOf CR Pt) k mi
  | 0, _, e, _ => by cases e
  | 1, _, e, _ => by cases e
  | 2, _, e, _ => by cases e
  | 3, _, e, _ => by cases e
  | 4, _, e, _ => by cases e
  | 5, _, e, _ => by cases e
  | 6, _, e, _ => by cases e
  | 7, _, e, _ => by cases e
  | 8, _, e, _ => by cases e
  | 9, _, e, _ => by cases e
  | 10, _, e, _ => by cases e
  | 11, _, e, _ => by cases e
  | 12, _, e, _ => by cases e
  | 13, _, e, _ => by cases e
  | 14, _, e, _ => by cases e
  | 15, _, e, _ => by cases e
  | 16, _, e, _ => by cases e
  | 17, _, e, _ => by cases e
  | 18, _, e, _ => by cases e
  | 19, _, e, _ => by cases e
  | 20, _, e, _ => by cases e
  | 21, _, e, _ => by cases e
  | 22, _, e, _ => by cases e
  | 23, _, e, _ => by cases e
  | 24, _, e, _ => by cases e
  | 25, _, e, _ => by cases e
  | 26, _, e, _ => by cases e
  | 27, _, e, _ => by cases e
  | 28, _, e, _ => by cases e
  | 29, _, e, _ => by cases e
  | 30, _, e, _ => by cases e
  | 31, _, e, _ => by cases e
  | 32, _, e, _ => by cases e
  | 33, _, e, _ => by cases e
  | 34, _, e, _ => by cases e
  | 35, _, e, _ => by cases e
  | 36, _, rfl, kn => by
    obtain ⟨f, fd, F, b, S⟩ := T.m_Roll___init
    exact ⟨CR, rollN, f, fd, rfl, b, def_ok F sc_Roll___init kn d_Roll___init k_init, ⟨S, T.mR⟩⟩
  | 37, _, rfl, kn => by
    obtain ⟨f, fd, F, b, S⟩ := T.m_Roll_length
    exact ⟨CR, rollN, f, fd, rfl, b, def_ok F sc_Roll_length kn d_Roll_length k_length, S⟩
  | 38, _, rfl, kn => by
    obtain ⟨f, fd, F, b, S⟩ := T.m_Roll_pattern
    exact ⟨CR, rollN, f, fd, rfl, b, def_ok F sc_Roll_pattern kn d_Roll_pattern k_pattern, S⟩
  | 39, _, rfl, kn => by
    obtain ⟨f, fd, F, b, S⟩ := T.m_Roll_place
    exact ⟨CR, rollN, f, fd, rfl, b, def_ok F sc_Roll_place kn d_Roll_place k_place, S⟩
  | 40, _, rfl, kn => by
    obtain ⟨f, fd, F, b, S⟩ := T.m_Roll_waste
    exact ⟨CR, rollN, f, fd, rfl, b, def_ok F sc_Roll_waste kn d_Roll_waste k_waste2, S⟩
  | 41, _, rfl, kn => by
    obtain ⟨f, fd, F, b, S⟩ := T.m_Roll_strips
    exact ⟨CR, rollN, f, fd, rfl, b, def_ok F sc_Roll_strips kn d_Roll_strips k_strips2, S⟩
  | 42, _, rfl, kn => by
    obtain ⟨f, fd, F, b, S⟩ := T.m_Roll_keep
    exact ⟨CR, rollN, f, fd, rfl, b, def_ok F sc_Roll_keep kn d_Roll_keep k_keep, ⟨S, by decide +kernel⟩⟩
  | 43, _, rfl, kn => by
    obtain ⟨f, fd, v, F, S⟩ := T.m_Roll_cut
    exact ⟨CR, rollN, f, fd, rfl, bn_cut F, def_okD F sc_Roll_cut kn d_Roll_cut k_cut, ⟨S, by decide +kernel⟩⟩
  | 44, _, rfl, kn => by
    obtain ⟨f, fd, F, b, S⟩ := T.m_Roll_away
    exact ⟨CR, rollN, f, fd, rfl, b, def_ok F sc_Roll_away kn d_Roll_away k_never, ⟨S, by decide +kernel⟩⟩
  | 45, _, rfl, kn => by
    obtain ⟨f, fd, F, b, S⟩ := T.m_Roll_mark
    exact ⟨CR, rollN, f, fd, rfl, b, def_ok F sc_Roll_mark kn d_Roll_mark k_never, ⟨S, by decide +kernel⟩⟩
  | 46, _, rfl, kn => by
    obtain ⟨f, fd, F, b, S⟩ := T.m_Roll_half
    exact ⟨CR, rollN, f, fd, rfl, b, def_ok F sc_Roll_half kn d_Roll_half k_never, ⟨S, by decide +kernel⟩⟩
  | 47, _, rfl, kn => by
    obtain ⟨f, fd, F, b, S⟩ := T.m_Roll_match
    exact ⟨CR, rollN, f, fd, rfl, b, def_ok F sc_Roll_match kn d_Roll_match k_never, ⟨S, by decide +kernel⟩⟩
  | 48, _, rfl, kn => by
    obtain ⟨f, fd, F, b, S⟩ := T.m_Roll_drop
    exact ⟨CR, rollN, f, fd, rfl, b, def_ok F sc_Roll_drop kn d_Roll_drop k_never, ⟨S, by decide +kernel⟩⟩
  | 49, _, rfl, kn => by
    obtain ⟨f, fd, F, b, S⟩ := T.m_Roll_matches
    exact ⟨CR, rollN, f, fd, rfl, b, def_ok F sc_Roll_matches kn d_Roll_matches k_rmatches, ⟨S, by decide +kernel⟩⟩
  | 50, _, rfl, kn => by
    obtain ⟨f, fd, F, b, S⟩ := T.m_Roll_undo
    exact ⟨CR, rollN, f, fd, rfl, b, def_ok F sc_Roll_undo kn d_Roll_undo k_undo, ⟨S, by decide +kernel⟩⟩
  | 51, _, rfl, kn => by
    obtain ⟨f, fd, F, b, S⟩ := T.m_Roll___iadd
    exact ⟨CR, rollN, f, fd, rfl, b, def_ok F sc_Roll___iadd kn d_Roll___iadd k_iadd, S⟩
  | 52, _, e, _ => by cases e
  | 53, _, e, _ => by cases e
  | 54, _, e, _ => by cases e
  | 55, _, e, _ => by cases e
  | 56, _, e, _ => by cases e
  | 57, _, e, _ => by cases e
  | 58, _, e, _ => by cases e
  | 59, _, e, _ => by cases e
  | 60, _, e, _ => by cases e
  | 61, _, e, _ => by cases e
  | 62, _, e, _ => by cases e
  | 63, _, e, _ => by cases e
  | 64, _, e, _ => by cases e
  | n + 65, mi, e, _ => by
    have : (mtab[n + 65]? : Option (Option MtI)) = none := List.getElem?_eq_none (by show mtab.length ≤ n + 65; simp [mtab])
    rw [show G.mti (n + 65) = (mtab[n + 65]?).join from rfl, this] at e
    cases e
theorem lev_pos : ∀ fi ∈ tab, ∀ f, fi = some f → 1 ≤ f.lev := by
  intro fi h f e
  have : (tab.all fun x => match x with | some f => decide (1 ≤ f.lev) | none => true) = true := by decide +kernel
  have := List.all_eq_true.mp this fi h
  rw [e] at this
  exact of_decide_eq_true this
theorem levM_pos : ∀ fi ∈ mtab, ∀ f, fi = some f → 1 ≤ f.lev := by
  intro fi h f e
  have : (mtab.all fun x => match x with | some f => decide (1 ≤ f.lev) | none => true) = true := by decide +kernel
  have := List.all_eq_true.mp this fi h
  rw [e] at this
  exact of_decide_eq_true this
theorem join_mem {α : Type} {l : List (Option α)} {k : Nat} {x : α} (h : (l[k]?).join = some x) : some x ∈ l := by
  cases e : l[k]? with
  | none => rw [e] at h; cases h
  | some y => rw [e] at h; exact List.mem_of_getElem? (by rw [e]; exact congrArg some h)
theorem kn (T : Facts K mg CR c Pt) (B : LamX.TabB base mg c Pt) : ∀ L, Kn G (clsOf CR Pt) L P w K mg base
  | 0 => by
    refine ⟨fun k x d e => ?_, fun k fi e l => ?_, fun x h => ?_, fun x y b e => ?_, T.blt, fun k C names e => ?_, fun k l e h => ?_, fun k mi e l => ?_⟩
    · match k, e with
      | 0, e => cases e; exact T.c0
      | 1, e => cases e; exact T.c1
      | 2, e => cases e; exact T.c2
      | 3, e => cases e; exact T.c3
      | 4, e => cases e; exact T.c4
      | 5, e => cases e; exact T.c5
      | 6, e => cases e; exact T.c6
      | n + 7, e => exact absurd (show (none : Option (Str × PyData)) = some (x, d) from e) (by simp)
    · have := lev_pos _ (join_mem (show (tab[k]?).join = some fi from e)) fi rfl
      omega
    · have h : (["InvalidRoll", "InvalidScript", "InvalidPattern", "InvalidIndex", "InvalidLength", "RollOut", "NothingToUndo"] : List Str).contains x = true := h
      simp only [List.contains_cons, List.contains_nil, Bool.or_false, Bool.or_eq_true, beq_iff_eq] at h
      rcases h with rfl | rfl | rfl | rfl | rfl | rfl | rfl
      · exact T.x0
      · exact T.x1
      · exact T.x2
      · exact T.x3
      · exact T.x4
      · exact T.x5
      · exact T.x6
    · have e : exmT x y = some b := e
      unfold exmT at e
      obtain ⟨t, ht, rfl⟩ := Option.map_eq_some_iff.mp e
      have h1 := List.find?_some ht
      have h2 := List.mem_of_find?_eq_some ht
      simp only [Bool.and_eq_true, beq_iff_eq] at h1
      obtain ⟨rfl, rfl⟩ := h1
      simp only [exmL, List.mem_cons, List.not_mem_nil, or_false] at h2
      rcases h2 with rfl | rfl
      · exact T.e0
      · exact T.e1
    · have e : (if k = 0 then some (CR, rollN) else none) = some (C, names) := e
      split at e
      · rename_i hk
        subst hk
        cases e
        refine ⟨T.cR, rfl, by decide +kernel, by decide +kernel, fun f hf => ?_⟩
        simp only [rollN, List.mem_cons, List.not_mem_nil, or_false] at hf
        rcases hf with rfl | rfl | rfl
        · exact T.nB
        · exact T.nN
        · exact T.nP
      · cases e
    · have e : (if k = 0 then some 1 else none) = some l := e
      split at e
      · cases e; omega
      · cases e
    · have := levM_pos _ (join_mem (show (mtab[k]?).join = some mi from e)) mi rfl
      omega
  | L + 1 => by
    have ih := kn T B L
    refine ⟨ih.con, fun k fi e l => ?_, ih.exc, ih.exm, T.blt, ih.cl, fun k l e h => ?_, fun k mi e l => ?_⟩
    · by_cases h : fi.lev ≤ L
      · exact ih.fn k fi e h
      · exact oks T B k fi e (by rw [show fi.lev - 1 = L by omega]; exact ih)
    · have e : (if k = 0 then some 1 else none) = some l := e
      split at e
      · rename_i hk
        subst hk
        cases e
        obtain ⟨f, fd, F, b, S1, S2⟩ := T.m_eq
        exact ⟨CR, rollN, f, fd, _, rfl, S1, S2, b, eq_ok F rfl T.isC T.mR T.blt T.nB T.nN⟩
      · cases e
    · by_cases h : mi.lev ≤ L
      · exact ih.mt k mi e h
      · exact oksM T k mi e (by rw [show mi.lev - 1 = L by omega]; exact ih)
def spLaw (K : PySem.W.Frag) (Pt : Addr) : L2.Sp := fun vs H Q _ => ∃ (a : Addr) (ns : List Int), vs = [.ref a] ∧ SqL K H a (ns.map V.int) ∧ ns.length ≤ 63 ∧ H Pt = some (.tbl #[]) ∧ ∀ H', Q (.bl true) H'
theorem sql_hid {K : PySem.W.Frag} {H : Hp} {a Pt : Addr} {xs : List V} (h : SqL K H a xs) (hP : H Pt = some (.tbl #[])) : SqL K (hid [Pt] H) a xs := by
  rcases h with h | h
  · have n : a ≠ Pt := fun z => by
      subst z
      rcases h with h | ⟨o, h⟩
      · rw [hP] at h; cases h
      · rw [hP] at h; cases h
    have e : hid [Pt] H a = H a := hid_out fun z => n (List.mem_singleton.mp z)
    rcases h with h | ⟨o, h⟩
    · exact .inl (.inl (e.trans h))
    · exact .inl (.inr ⟨o, e.trans h⟩)
  · exact .inr h
theorem law_ok (T : Facts K mg CR c Pt) {fa : Addr} (hfa : mg "law" = some (.ref fa)) : ∃ fd : FuncData, (∀ (s : Shared) (u : Value), BindsTo s fd ⟨[u], []⟩ [("script", u)]) ∧ ∀ base : Heap, LamX.TabB base mg c Pt → FnOk P w K mg base (L2.CX P w) 17 fa fd ["script"] (spLaw K Pt) := by
  obtain ⟨f, fd, m, F, b⟩ := T.h_law
  rw [hfa] at m
  cases m
  refine ⟨fd, fun s u => ?_, fun base B => (def_ok F sc_law (kn T B 16) d_law k_law).imp fun vs H Q E ⟨a, ns, e, hS, hl, hP, q⟩ => ?_⟩
  · obtain ⟨oc, od, kV, doc, pm, an, cdv, ct, osl, rfl, lk, hcd⟩ := F.ex
    exact .of_eq rfl
  · subst e
    refine ⟨.sc ns, [], [Pt], none, [], rfl, rfl, ⟨a, rfl, rfl, sql_hid hS hP⟩, .nil, fun b h => ?_, ⟨fun b h l hf => .inl ⟨h, hf⟩, fun b h l hf => ?_, fun b h b' h' l hl hf hf' => ?_, fun i u e => ?_, fun t ht => ?_⟩, ⟨fun p hp => ?_, fun p hp => ?_⟩, ⟨ns, rfl, rfl, hl⟩, fun r h v H' O' hp l => ?_, fun x p h C d H' O' he => he.elim⟩
    · rw [List.mem_singleton.mp h, hP]; simp
    · obtain ⟨_, _, _, e, _⟩ := hf
      rw [List.mem_singleton.mp h, hP] at e
      cases e
    · rw [List.mem_singleton.mp h, List.mem_singleton.mp h']
    · simp at e
    · cases ht
    · rw [List.mem_singleton.mp hp]
      exact LamX.TabS.nil hP
    · rw [List.mem_singleton.mp hp]; exact List.mem_cons_self
    · have hp : r = .v (.bool true) := hp
      subst hp
      have := l.res
      have hv : v = .bl true := Rep.bl_inv this
      rw [hv]
      exact q H'
end
end KL

set_option Elab.async false
set_option linter.all false
set_option maxRecDepth 100000
set_option maxHeartbeats 1000000
/-! the end of k52 -/
namespace KL
open PySem PySem.Spec PyProof.Rows L2 Mp
theorem walkNm {law : PySem.W.OpenLaw} {most room : Nat} {pr : Program} {loose : List Str} {XP : (Str → Option Value) → Heap → Prop} {YP : World → Heap → Prop} {dl : DefRec} {K : Params → PySem.W.Frag} {CX : World → CXT} {x : Str} (nm : Str) (h1 : law.most = some most) (h2 : most ≤ sizeLine) (h3 : dl.params.defaults = [])
    (h4 : Room room callerA) (h5 : ((recsOf pr).any fun e => e.name == nm) = true) (h6 : ∀ (w : World) (h : Heap), YP w h → (K w.params).In h)
    (F : ∀ (w : World) (mg : Str → Option Value) (fa : Addr) (h : Heap), YP w h → (K w.params).In h → h.Ns mainGlobals mg → mg dl.name = some (.ref fa) → (∀ f, mg nm = some (.ref f) → LamX.OwnTab (K w.params) f h) → LamX.LawAtS law w (K w.params) (CX w) room most x mg fa h)
    (hCX : ∀ (w : World) (H : Hp) (s : Shared) (e : Value) (s' : Shared), CX w [] H s (fun _ _ _ => False) e s' → False) : PySem.W.WalkO pr loose XP YP law.row.toRowW dl [] (fun f vs => PySem.call f vs) := by
  refine Att.attach_callB h1 h3 fun w s0 st mg mb fa o pm cd doc a vs ns Gd Y ho hd hcd hmg hobj hints hlen hbits hg => ?_
  have KX := h6 w _ Y
  obtain ⟨fd, cs, sp, hT, nT, C, hb, hsp, hF⟩ := F w mg fa _ Y KX Gd.T.g hmg fun f hf c Pt o1 fd1 e dd v1 sl z1 z2 z3 z4 z5 => by
    obtain ⟨dL, m1, m2⟩ := List.any_eq_true.mp h5
    obtain ⟨a2, o2, fd2, c2, P2, w1, w2, w3, w4, w5, w6⟩ := Gd.T.tab dL m1
    rw [beq_iff_eq.mp m2, hf] at w1
    cases w1
    have y1 := KX _ _ z1
    rw [w2] at y1
    cases y1
    cases w3.symm.trans z2
    cases w4.symm.trans z3
    obtain ⟨⟨oc, vc, e1, _, e3, e4⟩, hP⟩ := w6
    have y2 := KX _ _ z4
    rw [e1] at y2
    cases y2
    cases e3
    cases e4.symm.trans z5
    exact hP
  exact LamX.law_callTs KX Gd.T.g Gd.T.b Gd.T.builtins Gd.T.nolimit hg hT nT C Gd.T.bmain hobj hints (Nat.le_trans hlen h2) h4 hF hb (fun H hH hS => hsp H a ns hlen hbits hH hS) fun H e s' => hCX w H st e s'
theorem kit_self {K : PySem.W.Frag} {t : Value} : PySem.W.kitOne K t t = some true := by unfold PySem.W.kitOne; rw [if_pos (by simp)]
theorem prop_mk {K : PySem.W.Frag} {C p f : Addr} {x : Str} {vs : List Value} (a : PySem.W.findIn K (.ref C) x = some (some (.ref p))) (b : PySem.W.specialIn K (.ref p) "__get__" = some (some (.builtin "property.__get__"))) (c : PySem.W.takesIn K (.ref p) = some true) (r : PySem.W.recIn K p "property" = some vs) (v : vs.head? = some (.ref f)) : SProp K C x f := by
  cases vs with
  | nil => cases v
  | cons y ys => cases v; exact ⟨p, a, b, c, ys, r⟩
theorem end_at {law : PySem.W.OpenLaw} {w : World} {K : PySem.W.Frag} {mg : Str → Option Value} {h : Heap} {CR c Pt fa : Addr} (T : Facts K mg CR c Pt) (KX : K.In h) (own : ∀ f, mg "_law_tried" = some (.ref f) → LamX.OwnTab K f h) (hfa : mg "law" = some (.ref fa)) :
    LamX.LawAtS law w K (L2.CX law.prog w) 17 63 "script" mg fa h := by
  obtain ⟨fd, hb, hF⟩ := law_ok (P := law.prog) (w := w) T hfa
  obtain ⟨f, oc, kV, doc, pm, ct, od, an, osl, m, kp, lk, hcd, ⟨e, dd, vs, sl, lc, hv⟩, hh, nP⟩ := T.tried
  refine ⟨fd, [(c, Pt)], spLaw K Pt, fun p hp => ?_, fun p hp => ?_, fun p hp => ?_, hb, fun H a ns hl _ hH hS => ⟨a, ns, rfl, hS, hl, hH (c, Pt) List.mem_cons_self, fun _ => rfl⟩, fun base _ _ hB => hF base (hB (c, Pt) List.mem_cons_self)⟩
  · rw [List.mem_singleton.mp hp]
    exact own f m c Pt _ _ e dd vs sl lk rfl rfl lc hv
  · rw [List.mem_singleton.mp hp]; exact nP
  · rw [List.mem_singleton.mp hp]; exact PySem.W.codeHd_of_K KX hh
/-! what the end fills in -/
section
variable {K : PySem.W.Frag} {h : Heap} {mg : Str → Option Value}
theorem tried_mk {f c Pt : Addr} {oc kV doc pm ct e : Value} {od an dd : Option Addr} {osl sl : Array (Option Value)} {vs : Array Value} (X : K.In h) (Gn : h.Ns mainGlobals mg) (a : PySem.W.nsIn K mainGlobals "_law_tried" = some (some (.ref f)))
    (l : K.lookup f = some ⟨oc, od, .func (PySem.W.fnOf "_law_tried" "_law_tried" (defArgs t_law_tried) (defBody t_law_tried) (defScope t_law_tried) .none kV doc pm an (.ref c) ct), osl⟩) (ci : PySem.W.codeIn K (.ref c) "_law_tried" = true) (k : PySem.W.keepIn K (.ref f) = true)
    (lc : K.lookup c = some ⟨e, dd, .fields vs, sl⟩) (vp : vs[11]? = some (.ref Pt)) (hh : PySem.W.codeHdIn K c Pt = true) (nP : K.lookup Pt = none) : HasT K mg c Pt := ⟨f, oc, kV, doc, pm, ct, od, an, osl, PySem.W.mg_of X Gn a, k, l, ci, ⟨e, dd, vs, sl, lc, vp⟩, hh, nP⟩
theorem try_mk {CR CT gI gN gX gA : Addr} {oI oN oX oA kI kN kX kA dI dN dX dA mI mN mX mA cI cN cX cA tI tN tX tA : Value} {odI odN odX odA anI anN anX anA : Option Addr} {sI sN sX sA : Array (Option Value)} (X : K.In h) (Gn : h.Ns mainGlobals mg)
    (a : PySem.W.nsIn K mainGlobals "Trying" = some (some (.ref CT))) (pg : PySem.W.plainGet K CT Str.empty = true) (hd : PySem.W.hasDictIn K CT = true) (po : PySem.W.plainOver K CT = true) (sa : PySem.W.findIn K (.ref CT) "__setattr__" = some (some (.builtin "object.__setattr__")))
    (n1 : PySem.W.findIn K (.ref CT) "thing" = some none) (n2 : PySem.W.findIn K (.ref CT) "now" = some none) (n3 : PySem.W.findIn K (.ref CT) "past" = some none) (mk : PySem.W.makesIn K CT = true) (kc : PySem.W.keepIn K (.ref CT) = true)
    (fI : PySem.W.findIn K (.ref CT) "__init__" = some (some (.ref gI))) (iI : PySem.W.isFn K (.ref gI) = true) (lI : K.lookup gI = some ⟨oI, odI, .func (PySem.W.fnOf "__init__" "Trying.__init__" (defArgs tyI) (defBody tyI) (defScope tyI) .none kI dI mI anI cI tI), sI⟩) (qI : PySem.W.codeIn K cI "Trying.__init__" = true) (pI : PySem.W.keepIn K (.ref gI) = true)
    (fN : PySem.W.findIn K (.ref CT) "__enter__" = some (some (.ref gN))) (iN : PySem.W.isFn K (.ref gN) = true) (lN : K.lookup gN = some ⟨oN, odN, .func (PySem.W.fnOf "__enter__" "Trying.__enter__" (defArgs tyN) (defBody tyN) (defScope tyN) .none kN dN mN anN cN tN), sN⟩) (qN : PySem.W.codeIn K cN "Trying.__enter__" = true) (pN : PySem.W.keepIn K (.ref gN) = true)
    (fX : PySem.W.findIn K (.ref CT) "__exit__" = some (some (.ref gX))) (iX : PySem.W.isFn K (.ref gX) = true) (lX : K.lookup gX = some ⟨oX, odX, .func (PySem.W.fnOf "__exit__" "Trying.__exit__" (defArgs tyX) (defBody tyX) (defScope tyX) .none kX dX mX anX cX tX), sX⟩) (qX : PySem.W.codeIn K cX "Trying.__exit__" = true) (pX : PySem.W.keepIn K (.ref gX) = true)
    (fA : PySem.W.findIn K (.ref CR) "attempt" = some (some (.ref gA))) (iA : PySem.W.isFn K (.ref gA) = true) (lA : K.lookup gA = some ⟨oA, odA, .func (PySem.W.fnOf "attempt" "Roll.attempt" (defArgs tyA) (defBody tyA) (defScope tyA) .none kA dA mA anA cA tA), sA⟩) (qA : PySem.W.codeIn K cA "Roll.attempt" = true) (pA : PySem.W.keepIn K (.ref gA) = true)
    (cR : L2.Cls K CR) (rN : NoAttr K CR "now") (rP : NoAttr K CR "past") (ls : mg "list" = none) : HasTry K mg CR :=
  ⟨CT, gI, gN, gX, gA, _, _, _, _, ⟨pg, hd, po, sa⟩, n1, n2, n3, ⟨mk, fI, iI, kc⟩, PySem.W.mg_of X Gn a, fN, iN, fX, iX, fun_mk lI qI pI, fun_mk lN qN pN, fun_mk lX qX pX, fun_mk lA qA pA, cR, rN, rP, ⟨fA, iA, pA⟩, ls⟩
end
end KL

open PySem PySem.W PyProof.Rows
set_option maxHeartbeats 0 in
theorem PySem.Challenge.cw_rollstrips_k52_whole_rolls_and_scripts_holds : PySem.Challenge.rw_rollstrips_k52_whole_rolls_and_scripts.Holds := by
  w_on; o_law; k_head; (case hw => w_witness2)
  k_fill
  refine KL.walkNm (law := PySem.Challenge.rw_rollstrips_k52_whole_rolls_and_scripts) (most := 63) (room := 17) (x := "script") (CX := fun w => L2.CX (PySem.Challenge.rw_rollstrips_k52_whole_rolls_and_scripts).prog w) "_law_tried" rfl (by decide) rfl ⟨rfl, by decide, by decide⟩ (by rfl) (fun w h Y => PySem.W.km_in_of Y) ?F (fun _ _ _ _ _ h => by obtain ⟨_, _, _, _, _, _, _, _, _, _, _, _, z⟩ := h; exact z)
  case F =>
    intro w mg fa h Y KX Gn hmg own
    refine' KL.end_at (h := h) ?T KX own hmg
    case T =>
      refine' ⟨?h_lowest, ?h_plus, ?h_minus, ?h_times, ?h_is_less, ?h_is_whole, ?h_is_fraction, ?h_is_length, ?h_is_plain_step, ?h_is_right_step, ?h_is_right_script, ?h_is_right_pattern, ?h_need_roll, ?h_need_script, ?h_need_pattern, ?h_spread, ?h_worth_sign, ?h_sign_in, ?h_edge_of, ?h_form_sum, ?h_form_less, ?h_value_of, ?h_middle, ?h_next_place, ?h_goal_of, ?h_done_in, ?h_pieces_in, ?h_at_pattern, ?h_match_word, ?h_strips_of, ?h_strips, ?h_waste, ?h_rest, ?h_out_at, ?h_matches, ?h_gone_to, ?h_law_source, ?h_law_pick, ?h_law_chosen, ?h_law_lowest, ?h_law_single, ?h_law_some, ?h_law_less, ?h_law_patterns, ?h_law_sum, ?h_law_does, ?h_law_undone, ?h_law, ?m_Roll___init, ?m_Roll_length, ?m_Roll_pattern, ?m_Roll_place, ?m_Roll_waste, ?m_Roll_strips, ?m_Roll_keep, ?m_Roll_cut, ?m_Roll_away, ?m_Roll_mark, ?m_Roll_half, ?m_Roll_match, ?m_Roll_drop, ?m_Roll_matches, ?m_Roll_undo, ?m_Roll___iadd, ?m_eq, ?tried, ?try_, ?mR, ?cR, ?nB, ?nN, ?nP, ?isC, ?c0, ?c1, ?c2, ?c3, ?c4, ?c5, ?c6, ?x0, ?x1, ?x2, ?x3, ?x4, ?x5, ?x6, ?e0, ?e1, ?blt⟩
      (case mR => refine' PySem.W.mg_of KX Gn ?a; (case a => k_is))
      (case cR => refine' ⟨?a, ?b, ?c, ?d⟩; (case a => k_is); (case b => k_is); (case c => k_is); (case d => k_is))
      (case nB => refine' (show PySem.W.findIn _ _ _ = _ from ?a); (case a => k_is))
      (case nN => refine' (show PySem.W.findIn _ _ _ = _ from ?a); (case a => k_is))
      (case nP => refine' (show PySem.W.findIn _ _ _ = _ from ?a); (case a => k_is))
      (case isC => refine' ⟨⟨?a, ?b, ?c, ?d⟩, ?e, ?f, ?g, ?i, KL.kit_self⟩; (case a => k_is); (case b => k_is); (case c => k_is); (case d => k_is); (case e => k_is); (case f => k_is); (case g => k_is); (case i => k_is))
      (case tried => refine' KL.tried_mk KX Gn ?a ?l ?ci ?k ?lc ?vp ?hh ?np; (case a => k_is); (case l => k_is); (case ci => k_is); (case k => k_is); (case lc => k_is); (case vp => rfl); (case hh => kernel_rfl); (case np => kernel_rfl))
      (case try_ => refine' KL.try_mk KX Gn ?a ?pg ?hd ?po ?sa ?n1 ?n2 ?n3 ?mk ?kc ?fI ?iI ?lI ?qI ?pI ?fN ?iN ?lN ?qN ?pN ?fX ?iX ?lX ?qX ?pX ?fA ?iA ?lA ?qA ?pA ⟨?y1, ?y2, ?y3, ?y4⟩ ?r1 ?r2 ?ls; (case a => k_is); (case pg => k_is); (case hd => k_is); (case po => k_is); (case sa => k_is); (case n1 => k_is); (case n2 => k_is); (case n3 => k_is); (case mk => k_is); (case kc => k_is); (case fI => k_is); (case iI => k_is); (case lI => k_is); (case qI => k_is); (case pI => k_is); (case fN => k_is); (case iN => k_is); (case lN => k_is); (case qN => k_is); (case pN => k_is); (case fX => k_is); (case iX => k_is); (case lX => k_is); (case qX => k_is); (case pX => k_is); (case fA => k_is); (case iA => k_is); (case lA => k_is); (case qA => k_is); (case pA => k_is); (case y1 => k_is); (case y2 => k_is); (case y3 => k_is); (case y4 => k_is); (case r1 => refine' (show PySem.W.findIn _ _ _ = _ from ?a); (case a => k_is)); (case r2 => refine' (show PySem.W.findIn _ _ _ = _ from ?a); (case a => k_is)); (case ls => exact PySem.W.mg_none_of KX Gn (by k_is)))
      (case h_lowest => refine' KL.has_mk KL.bn_lowest KX Gn ?a ?l ?c ?k; (case a => k_is); (case l => k_is); (case c => k_is); (case k => k_is))
      (case h_plus => refine' KL.has_mk KL.bn_plus KX Gn ?a ?l ?c ?k; (case a => k_is); (case l => k_is); (case c => k_is); (case k => k_is))
      (case h_minus => refine' KL.has_mk KL.bn_minus KX Gn ?a ?l ?c ?k; (case a => k_is); (case l => k_is); (case c => k_is); (case k => k_is))
      (case h_times => refine' KL.has_mk KL.bn_times KX Gn ?a ?l ?c ?k; (case a => k_is); (case l => k_is); (case c => k_is); (case k => k_is))
      (case h_is_less => refine' KL.has_mk KL.bn_is_less KX Gn ?a ?l ?c ?k; (case a => k_is); (case l => k_is); (case c => k_is); (case k => k_is))
      (case h_is_whole => refine' KL.has_mk KL.bn_is_whole KX Gn ?a ?l ?c ?k; (case a => k_is); (case l => k_is); (case c => k_is); (case k => k_is))
      (case h_is_fraction => refine' KL.has_mk KL.bn_is_fraction KX Gn ?a ?l ?c ?k; (case a => k_is); (case l => k_is); (case c => k_is); (case k => k_is))
      (case h_is_length => refine' KL.has_mk KL.bn_is_length KX Gn ?a ?l ?c ?k; (case a => k_is); (case l => k_is); (case c => k_is); (case k => k_is))
      (case h_is_plain_step => refine' KL.has_mk KL.bn_is_plain_step KX Gn ?a ?l ?c ?k; (case a => k_is); (case l => k_is); (case c => k_is); (case k => k_is))
      (case h_is_right_step => refine' KL.has_mk KL.bn_is_right_step KX Gn ?a ?l ?c ?k; (case a => k_is); (case l => k_is); (case c => k_is); (case k => k_is))
      (case h_is_right_script => refine' KL.has_mk KL.bn_is_right_script KX Gn ?a ?l ?c ?k; (case a => k_is); (case l => k_is); (case c => k_is); (case k => k_is))
      (case h_is_right_pattern => refine' KL.has_mk KL.bn_is_right_pattern KX Gn ?a ?l ?c ?k; (case a => k_is); (case l => k_is); (case c => k_is); (case k => k_is))
      (case h_need_roll => refine' KL.has_mk KL.bn_need_roll KX Gn ?a ?l ?c ?k; (case a => k_is); (case l => k_is); (case c => k_is); (case k => k_is))
      (case h_need_script => refine' KL.has_mk KL.bn_need_script KX Gn ?a ?l ?c ?k; (case a => k_is); (case l => k_is); (case c => k_is); (case k => k_is))
      (case h_need_pattern => refine' KL.has_mk KL.bn_need_pattern KX Gn ?a ?l ?c ?k; (case a => k_is); (case l => k_is); (case c => k_is); (case k => k_is))
      (case h_spread => refine' KL.has_mk KL.bn_spread KX Gn ?a ?l ?c ?k; (case a => k_is); (case l => k_is); (case c => k_is); (case k => k_is))
      (case h_worth_sign => refine' KL.has_mk KL.bn_worth_sign KX Gn ?a ?l ?c ?k; (case a => k_is); (case l => k_is); (case c => k_is); (case k => k_is))
      (case h_sign_in => refine' KL.has_mk KL.bn_sign_in KX Gn ?a ?l ?c ?k; (case a => k_is); (case l => k_is); (case c => k_is); (case k => k_is))
      (case h_edge_of => refine' KL.has_mk KL.bn_edge_of KX Gn ?a ?l ?c ?k; (case a => k_is); (case l => k_is); (case c => k_is); (case k => k_is))
      (case h_form_sum => refine' KL.has_mk KL.bn_form_sum KX Gn ?a ?l ?c ?k; (case a => k_is); (case l => k_is); (case c => k_is); (case k => k_is))
      (case h_form_less => refine' KL.has_mk KL.bn_form_less KX Gn ?a ?l ?c ?k; (case a => k_is); (case l => k_is); (case c => k_is); (case k => k_is))
      (case h_value_of => refine' KL.has_mk KL.bn_value_of KX Gn ?a ?l ?c ?k; (case a => k_is); (case l => k_is); (case c => k_is); (case k => k_is))
      (case h_middle => refine' KL.has_mk KL.bn_middle KX Gn ?a ?l ?c ?k; (case a => k_is); (case l => k_is); (case c => k_is); (case k => k_is))
      (case h_next_place => refine' KL.has_mk KL.bn_next_place KX Gn ?a ?l ?c ?k; (case a => k_is); (case l => k_is); (case c => k_is); (case k => k_is))
      (case h_goal_of => refine' KL.has_mk KL.bn_goal_of KX Gn ?a ?l ?c ?k; (case a => k_is); (case l => k_is); (case c => k_is); (case k => k_is))
      (case h_done_in => refine' KL.has_mk KL.bn_done_in KX Gn ?a ?l ?c ?k; (case a => k_is); (case l => k_is); (case c => k_is); (case k => k_is))
      (case h_pieces_in => refine' KL.has_mk KL.bn_pieces_in KX Gn ?a ?l ?c ?k; (case a => k_is); (case l => k_is); (case c => k_is); (case k => k_is))
      (case h_at_pattern => refine' KL.has_mk KL.bn_at_pattern KX Gn ?a ?l ?c ?k; (case a => k_is); (case l => k_is); (case c => k_is); (case k => k_is))
      (case h_match_word => refine' KL.has_mk KL.bn_match_word KX Gn ?a ?l ?c ?k; (case a => k_is); (case l => k_is); (case c => k_is); (case k => k_is))
      (case h_strips_of => refine' KL.has_mk KL.bn_strips_of KX Gn ?a ?l ?c ?k; (case a => k_is); (case l => k_is); (case c => k_is); (case k => k_is))
      (case h_strips => refine' KL.has_mk KL.bn_strips KX Gn ?a ?l ?c ?k; (case a => k_is); (case l => k_is); (case c => k_is); (case k => k_is))
      (case h_waste => refine' KL.has_mk KL.bn_waste KX Gn ?a ?l ?c ?k; (case a => k_is); (case l => k_is); (case c => k_is); (case k => k_is))
      (case h_rest => refine' KL.has_mk KL.bn_rest KX Gn ?a ?l ?c ?k; (case a => k_is); (case l => k_is); (case c => k_is); (case k => k_is))
      (case h_out_at => refine' KL.has_mk KL.bn_out_at KX Gn ?a ?l ?c ?k; (case a => k_is); (case l => k_is); (case c => k_is); (case k => k_is))
      (case h_matches => refine' KL.has_mk KL.bn_matches KX Gn ?a ?l ?c ?k; (case a => k_is); (case l => k_is); (case c => k_is); (case k => k_is))
      (case h_gone_to => refine' KL.has_mk KL.bn_gone_to KX Gn ?a ?l ?c ?k; (case a => k_is); (case l => k_is); (case c => k_is); (case k => k_is))
      (case h_law_source => refine' KL.has_mk KL.bn_law_source KX Gn ?a ?l ?c ?k; (case a => k_is); (case l => k_is); (case c => k_is); (case k => k_is))
      (case h_law_pick => refine' KL.has_mk KL.bn_law_pick KX Gn ?a ?l ?c ?k; (case a => k_is); (case l => k_is); (case c => k_is); (case k => k_is))
      (case h_law_chosen => refine' KL.has_mk KL.bn_law_chosen KX Gn ?a ?l ?c ?k; (case a => k_is); (case l => k_is); (case c => k_is); (case k => k_is))
      (case h_law_lowest => refine' KL.has_mk KL.bn_law_lowest KX Gn ?a ?l ?c ?k; (case a => k_is); (case l => k_is); (case c => k_is); (case k => k_is))
      (case h_law_single => refine' KL.has_mk KL.bn_law_single KX Gn ?a ?l ?c ?k; (case a => k_is); (case l => k_is); (case c => k_is); (case k => k_is))
      (case h_law_some => refine' KL.has_mk KL.bn_law_some KX Gn ?a ?l ?c ?k; (case a => k_is); (case l => k_is); (case c => k_is); (case k => k_is))
      (case h_law_less => refine' KL.has_mk KL.bn_law_less KX Gn ?a ?l ?c ?k; (case a => k_is); (case l => k_is); (case c => k_is); (case k => k_is))
      (case h_law_patterns => refine' KL.has_mk KL.bn_law_patterns KX Gn ?a ?l ?c ?k; (case a => k_is); (case l => k_is); (case c => k_is); (case k => k_is))
      (case h_law_sum => refine' KL.has_mk KL.bn_law_sum KX Gn ?a ?l ?c ?k; (case a => k_is); (case l => k_is); (case c => k_is); (case k => k_is))
      (case h_law_does => refine' KL.has_mk KL.bn_law_does KX Gn ?a ?l ?c ?k; (case a => k_is); (case l => k_is); (case c => k_is); (case k => k_is))
      (case h_law_undone => refine' KL.has_mk KL.bn_law_undone KX Gn ?a ?l ?c ?k; (case a => k_is); (case l => k_is); (case c => k_is); (case k => k_is))
      (case h_law => refine' KL.has_mk KL.bn_law KX Gn ?a ?l ?c ?k; (case a => k_is); (case l => k_is); (case c => k_is); (case k => k_is))
      (case m_Roll___init => refine' KL.hasM_mk KL.bn_Roll___init ⟨?s2, ?s1, ?s3, ?s4⟩ ?l ?c ?k; (case s1 => k_is); (case s2 => k_is); (case s3 => k_is); (case s4 => k_is); (case l => k_is); (case c => k_is); (case k => k_is))
      (case m_Roll_length => refine' KL.hasM_mk KL.bn_Roll_length (KL.prop_mk ?s1 ?s2 ?s3 ?s4 ?s5) ?l ?c ?k; (case s1 => k_is); (case s2 => k_is); (case s3 => k_is); (case s4 => k_is); (case s5 => rfl); (case l => k_is); (case c => k_is); (case k => k_is))
      (case m_Roll_pattern => refine' KL.hasM_mk KL.bn_Roll_pattern (KL.prop_mk ?s1 ?s2 ?s3 ?s4 ?s5) ?l ?c ?k; (case s1 => k_is); (case s2 => k_is); (case s3 => k_is); (case s4 => k_is); (case s5 => rfl); (case l => k_is); (case c => k_is); (case k => k_is))
      (case m_Roll_place => refine' KL.hasM_mk KL.bn_Roll_place (KL.prop_mk ?s1 ?s2 ?s3 ?s4 ?s5) ?l ?c ?k; (case s1 => k_is); (case s2 => k_is); (case s3 => k_is); (case s4 => k_is); (case s5 => rfl); (case l => k_is); (case c => k_is); (case k => k_is))
      (case m_Roll_waste => refine' KL.hasM_mk KL.bn_Roll_waste (KL.prop_mk ?s1 ?s2 ?s3 ?s4 ?s5) ?l ?c ?k; (case s1 => k_is); (case s2 => k_is); (case s3 => k_is); (case s4 => k_is); (case s5 => rfl); (case l => k_is); (case c => k_is); (case k => k_is))
      (case m_Roll_strips => refine' KL.hasM_mk KL.bn_Roll_strips (KL.prop_mk ?s1 ?s2 ?s3 ?s4 ?s5) ?l ?c ?k; (case s1 => k_is); (case s2 => k_is); (case s3 => k_is); (case s4 => k_is); (case s5 => rfl); (case l => k_is); (case c => k_is); (case k => k_is))
      (case m_Roll_keep => refine' KL.hasM_mk KL.bn_Roll_keep ⟨?s1, ?s2, ?s3⟩ ?l ?c ?k; (case s1 => k_is); (case s2 => k_is); (case s3 => k_is); (case l => k_is); (case c => k_is); (case k => k_is))
      (case m_Roll_cut => refine' KL.hasD_mk ⟨?s1, ?s2, ?s3⟩ ?l ?c ?k ?d; (case s1 => k_is); (case s2 => k_is); (case s3 => k_is); (case l => k_is); (case c => k_is); (case k => k_is); (case d => k_is))
      (case m_Roll_away => refine' KL.hasM_mk KL.bn_Roll_away ⟨?s1, ?s2, ?s3⟩ ?l ?c ?k; (case s1 => k_is); (case s2 => k_is); (case s3 => k_is); (case l => k_is); (case c => k_is); (case k => k_is))
      (case m_Roll_mark => refine' KL.hasM_mk KL.bn_Roll_mark ⟨?s1, ?s2, ?s3⟩ ?l ?c ?k; (case s1 => k_is); (case s2 => k_is); (case s3 => k_is); (case l => k_is); (case c => k_is); (case k => k_is))
      (case m_Roll_half => refine' KL.hasM_mk KL.bn_Roll_half ⟨?s1, ?s2, ?s3⟩ ?l ?c ?k; (case s1 => k_is); (case s2 => k_is); (case s3 => k_is); (case l => k_is); (case c => k_is); (case k => k_is))
      (case m_Roll_match => refine' KL.hasM_mk KL.bn_Roll_match ⟨?s1, ?s2, ?s3⟩ ?l ?c ?k; (case s1 => k_is); (case s2 => k_is); (case s3 => k_is); (case l => k_is); (case c => k_is); (case k => k_is))
      (case m_Roll_drop => refine' KL.hasM_mk KL.bn_Roll_drop ⟨?s1, ?s2, ?s3⟩ ?l ?c ?k; (case s1 => k_is); (case s2 => k_is); (case s3 => k_is); (case l => k_is); (case c => k_is); (case k => k_is))
      (case m_Roll_matches => refine' KL.hasM_mk KL.bn_Roll_matches ⟨?s1, ?s2, ?s3⟩ ?l ?c ?k; (case s1 => k_is); (case s2 => k_is); (case s3 => k_is); (case l => k_is); (case c => k_is); (case k => k_is))
      (case m_Roll_undo => refine' KL.hasM_mk KL.bn_Roll_undo ⟨?s1, ?s2, ?s3⟩ ?l ?c ?k; (case s1 => k_is); (case s2 => k_is); (case s3 => k_is); (case l => k_is); (case c => k_is); (case k => k_is))
      (case m_Roll___iadd => refine' KL.hasM_mk KL.bn_Roll___iadd ⟨?s2, ?s1, ?s3⟩ ?l ?c ?k; (case s1 => k_is); (case s2 => k_is); (case s3 => k_is); (case l => k_is); (case c => k_is); (case k => k_is))
      (case m_eq => refine' KL.hasM_mk KL.bn_eq ⟨?s1, ?s2⟩ ?l ?c ?k; (case s1 => k_is); (case s2 => k_is); (case l => k_is); (case c => k_is); (case k => k_is))
      (case c0 => refine' KL.con_int KX Gn ?a; (case a => k_is))
      (case c1 => refine' KL.con_tup KX Gn ?a (KL.pair_K ?p0); (case a => k_is); (case p0 => k_is))
      (case c2 => refine' KL.con_strs KX Gn ?a ?b ?sq; (case a => k_is); (case b => k_is); (case sq => decide +kernel))
      (case c3 => refine' KL.con_tup KX Gn ?a (KL.rep_K (its := [.ref _, .ref _, .ref _, .ref _, .ref _, .ref _, .ref _, .ref _]) (xs := [.ref _, .ref _, .ref _, .ref _, .ref _, .ref _, .ref _, .ref _]) ?p0 (by simp) (.cons rfl (.cons rfl (.cons rfl (.cons rfl (.cons rfl (.cons rfl (.cons rfl (.cons rfl .nil)))))))) (.cons (KL.pair_K ?p1) (.cons (KL.pair_K ?p2) (.cons (KL.pair_K ?p3) (.cons (KL.pair_K ?p4) (.cons (KL.pair_K ?p5) (.cons (KL.pair_K ?p6) (.cons (KL.pair_K ?p7) (.cons (KL.pair_K ?p8) .nil))))))))); (case a => k_is); (case p0 => k_is); (case p1 => k_is); (case p2 => k_is); (case p3 => k_is); (case p4 => k_is); (case p5 => k_is); (case p6 => k_is); (case p7 => k_is); (case p8 => k_is))
      (case c4 => refine' KL.con_tup KX Gn ?a (KL.rep_K (its := [.ref _, .ref _]) (xs := [.ref _, .ref _]) ?p0 (by simp) (.cons rfl (.cons rfl .nil)) (.cons (KL.pair_K ?p1) (.cons (KL.pair_K ?p2) .nil))); (case a => k_is); (case p0 => k_is); (case p1 => k_is); (case p2 => k_is))
      (case c5 => refine' KL.con_tup KX Gn ?a (KL.pair_K ?p0); (case a => k_is); (case p0 => k_is))
      (case c6 => refine' KL.con_tup KX Gn ?a (KL.pair_K ?p0); (case a => k_is); (case p0 => k_is))
      (case x0 => refine' KL.hasX_mk KX Gn ?xa ?xq ?xk ?xs ?xt; (case xa => k_is); (case xq => k_exc); (case xk => k_is); (case xs => k_is); (case xt => k_is))
      (case x1 => refine' KL.hasX_mk KX Gn ?xa ?xq ?xk ?xs ?xt; (case xa => k_is); (case xq => k_exc); (case xk => k_is); (case xs => k_is); (case xt => k_is))
      (case x2 => refine' KL.hasX_mk KX Gn ?xa ?xq ?xk ?xs ?xt; (case xa => k_is); (case xq => k_exc); (case xk => k_is); (case xs => k_is); (case xt => k_is))
      (case x3 => refine' KL.hasX_mk KX Gn ?xa ?xq ?xk ?xs ?xt; (case xa => k_is); (case xq => k_exc); (case xk => k_is); (case xs => k_is); (case xt => k_is))
      (case x4 => refine' KL.hasX_mk KX Gn ?xa ?xq ?xk ?xs ?xt; (case xa => k_is); (case xq => k_exc); (case xk => k_is); (case xs => k_is); (case xt => k_is))
      (case x5 => refine' KL.hasX_mk KX Gn ?xa ?xq ?xk ?xs ?xt; (case xa => k_is); (case xq => k_exc); (case xk => k_is); (case xs => k_is); (case xt => k_is))
      (case x6 => refine' KL.hasX_mk KX Gn ?xa ?xq ?xk ?xs ?xt; (case xa => k_is); (case xq => k_exc); (case xk => k_is); (case xs => k_is); (case xt => k_is))
      (case e0 => refine' KL.hasE_mk KX Gn ?xa ?xb ?xs ?xt ?xi ?xe; (case xa => k_is); (case xb => k_is); (case xs => k_is); (case xt => k_is); (case xi => k_is); (case xe => first | rfl | k_is))
      (case e1 => refine' KL.hasE_mk KX Gn ?xa ?xb ?xs ?xt ?xi ?xe; (case xa => k_is); (case xb => k_is); (case xs => k_is); (case xt => k_is); (case xi => k_is); (case xe => first | rfl | k_is))
      (case blt =>
        intro x hx
        simp only [Mp.bltNames, List.mem_cons, List.not_mem_nil, or_false] at hx
        rcases hx with rfl | rfl | rfl | rfl | rfl | rfl | rfl | rfl | rfl | rfl | rfl | rfl | rfl | rfl | rfl <;> exact PySem.W.mg_none_of KX Gn (by k_is))

