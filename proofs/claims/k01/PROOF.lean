import PyProof.Rows.All
import Wide.All
import OpenK.AllK
import Wide.FinOn
import PyProof.EqAt
import PyProof.EqKinds
import PyProof.TupleCall
import PyProof.Draws
import HandS.ForMost
import HandS.Zip
import HandS.Exc
import HandS.TryOnly
import HandS.TryMany
import HandS.ExcOwn
import HandS.WordsExc
import HandS.TupAny
import HandS.TupMul
import HandS.Wide
import HandS.IsInst
import HandS.Deep
import HandS.Style
import HandS.Walk
import PySem.Challenge.RW_rollstrips_k01_steps_and_scripts_recogni
set_option Elab.async false
set_option linter.all false
set_option maxRecDepth 100000
set_option maxHeartbeats 1000000
/-! Mp, part 0: enumerate of a tuple; a walk over a list or a tuple, whichever it is. -/
namespace MpW
open PySem PySem.Spec PyProof.Rows
open PySem.Sem (wp)
theorem drawsT {prog : Program} {w : World} {A : Around} (hh : A.handled = none) (it l : Addr) (hne : l ≠ it) (items : Array Value) :
    Draws prog w A it [it, l] items.size (fun i v => items[i]? = some v) (fun i h => h.IsTupleIter it l i ∧ h.IsTuple l items) where
  live := fun _ _ st => let ⟨o, ho, _⟩ := st.1; ⟨o, ho⟩
  frame := fun _ _ _ st hk => ⟨st.1.at fun o e => hk it (by simp) o e, st.2.at fun o e => hk l (by simp) o e⟩
  item := fun i s Q E hi st hQ => by
    refine RZ.nextOf_tuple_item st.1 st.2 (x := items[i]) (by simp [hi]) fun h' hit' hs' => ?_
    exact hQ _ h' s.toks (by simp [hi]) ⟨hit', st.2.extBut hs'.extBut hne⟩ hs'
  done := fun s Q E st hE => RZ.nextOf_tuple_end hh st.1 st.2 (by simp) hE
theorem meets_enumT (l : Addr) (items : Array Value) :
    Meets (Builtin.«enumerate.__new__» ⟨[.type "enumerate", .ref l], []⟩) (fun _ R s => s.heap.IsTuple l items ∧
      R (.ok (.ret (.ref (s.heap.push { cls := .type "tuple_iterator", data := .fields #[.ref l, .int 0 0] }).objs.size)))
        { s with heap := (s.heap.push { cls := .type "tuple_iterator", data := .fields #[.ref l, .int 0 0] }).push { cls := .type "enumerate", data := .fields #[.none, .bool false, .ref s.heap.objs.size, rawInt 0, .none, .none] } }) :=
  .of_wp fun prog w A R s h => by
    obtain ⟨hp, g, d, tk, os⟩ := s; obtain ⟨hL, h⟩ := h
    have hsub := sub_enumerate
    obtain ⟨⟨c, dct, dt, sl⟩, hl, hc, n, hd⟩ := id hL
    replace hc : c = .type "tuple" := hc
    replace hd : dt = .seq items n := hd
    subst hc hd
    have hL : Heap.IsTuple (Shared.heap ⟨hp, g, d, tk, os⟩) l items := ⟨_, hl, rfl, n, rfl⟩
    wp_walk using AutoSeq1.wpAny_loadPart' hl
    refine wpAny_stack_any fun st => wpAny_pure ?_
    split
    · rename_i c _ _ _ _ _
      cases (c == Value.type "enumerate")
      · wp_walk using AutoSeq1.wpAny_loadPart' hl, wpAny_pyIter_tuple hL
        exact ⟨_, rfl, h⟩
      · wp_walk using AutoSeq1.wpAny_loadPart' hl, wpAny_pyIter_tuple hL
        exact ⟨_, rfl, h⟩
    · wp_walk using AutoSeq1.wpAny_loadPart' hl, wpAny_pyIter_tuple hL
      exact ⟨_, rfl, h⟩
section
variable {prog : Program} {w : World} {A : Around} {E : Value → Shared → Prop} {s : Shared}
theorem call_enumT {l : Addr} {items : Array Value} {Q : Value → Shared → Prop} (hL : s.heap.IsTuple l items)
    (h : ∀ h', IsEnum h' (s.heap.objs.size + 1) s.heap.objs.size 0 .none → h'.IsTupleIter s.heap.objs.size l 0 → h'.objs.size = s.heap.objs.size + 2 →
      (∀ b o, s.heap.get? b = some o → h'.get? b = some o) → Q (.ref (s.heap.objs.size + 1)) { s with heap := h' }) :
    wpAny (model prog w) A (call (.type "enumerate") [.ref l]) Q E s := by
  refine callType_new F.called_enumerate (by decide) (F.typeCall_enumerate_1 _) (F.newCall_enumerate_1 _) (fun obj => F.args_object_init_2 obj _) F.entry_enumerate_new
    (meets_enumT l items) ⟨hL, ?_⟩
  have hz : (s.heap.push { cls := .type "tuple_iterator", data := .fields #[.ref l, .int 0 0] }).objs.size = s.heap.objs.size + 1 := Heap.size_push ..
  show _ ∧ _
  rw [hz]
  have he : IsEnum ((s.heap.push { cls := .type "tuple_iterator", data := .fields #[.ref l, .int 0 0] }).push
      { cls := .type "enumerate", data := .fields #[.none, .bool false, .ref s.heap.objs.size, rawInt 0, .none, .none] }) (s.heap.objs.size + 1) s.heap.objs.size 0 .none := by
    have := Heap.get?_push_size (s.heap.push { cls := .type "tuple_iterator", data := .fields #[.ref l, .int 0 0] })
      (o := { cls := .type "enumerate", data := .fields #[.none, .bool false, .ref s.heap.objs.size, rawInt 0, .none, .none] }) rfl
    rw [hz] at this; exact this
  refine ⟨⟨_, he, rfl⟩, h _ he ⟨_, Heap.get?_push_of_some _ (Heap.get?_push_size _ rfl), rfl, rfl⟩ (by rw [Heap.size_push, hz]) fun b o y => Heap.get?_push_of_some _ (Heap.get?_push_of_some _ y)⟩
end
end MpW
namespace MpW
open PySem PySem.Spec PyProof.Rows L2
abbrev St := L2.St
/-- the tuple at a, each item in a new pair -/
def IteT (K : PySem.W.Frag) (a : Addr) : It :=
  ⟨fun i H => ∃ (xs : List V) (x : V), SqT K H a xs ∧ xs[i]? = some x, fun i H v H' => ∃ T x, v = .ref T ∧ H T = none ∧ H' = upd H T (.tup [.int (i : Nat), x]) ∧ ∀ xs, SqT K H a xs → xs[i]? = some x, fun i H => ∃ xs : List V, SqT K H a xs ∧ xs.length ≤ i⟩
theorem turn_enumT {P : Program} {w : World} {K : PySem.W.Frag} {elts : List Expr} {kk : Nat} {tpos : Pos} (a e it : Addr) (hai : a ≠ it) (hae : a ≠ e) :
    Turn P w K (.Tuple elts kk tpos) (IteT K a) [e, it] e (fun i h => (∃ old, IsEnum h e it ((i : Nat) : Int) old) ∧ h.IsTupleIter it a i ∧ e ≠ it) where
  mem := by simp
  obj := fun i h st b hb => by
    obtain ⟨⟨old, he⟩, ⟨o, ho, hc, hd⟩, _⟩ := st
    have e' : b = e ∨ b = it := by simpa using hb
    rcases e' with z | z
    · rw [z]; exact ⟨_, he, fun v q => nomatch q⟩
    · rw [z]; exact ⟨o, ho, fun v q => by rw [hd] at q; cases q⟩
  keep := fun i h h' st k => let ⟨⟨old, he⟩, hi, hne⟩ := st; ⟨⟨old, k e (by simp) _ he⟩, hi.at fun o q => k it (by simp) o q, hne⟩
  item := by
    intro X hP hw hK hc i pins s σ H E I hf st hg
    subst hP hw hK
    obtain ⟨⟨old, he⟩, hit, hne⟩ := st
    obtain ⟨xs, x, hq, hx⟩ := hg
    obtain ⟨its, rv, p, hz⟩ := I.tuple hq
    obtain ⟨u, hu, ru⟩ := rv.get hx
    have p' : s.heap.IsTuple a its.toArray := p
    have hel : e < s.heap.objs.size := Heap.lt_size he
    have hil : it < s.heap.objs.size := by obtain ⟨_, q, _⟩ := hit; exact Heap.lt_size q
    have hlt : i < its.toArray.size := by
      have := (List.getElem?_eq_some_iff.mp hu).1
      simpa using this
    have D := drawsT (prog := X.prog) (w := X.w) (A := X.A.in1) (show X.A.in1.handled = none from I.ok.hd hc) it a hai its.toArray
    refine wpAny_pyNext_enum_itemD D he ⟨hit, p'⟩ hlt hne (by simp [hne, Ne.symm hae]) fun u' h' tk hu' ho hit' hT hsz hk => ?_
    have eu : u' = u := by
      have : its.toArray[i]? = some u := by simpa using hu
      rw [hu'] at this; exact Option.some.inj this
    subst eu
    refine ⟨_, rfl, wpAny_letOwnedTupleGo_enum (s := { s with heap := h', toks := tk + 1 }) ho fun h'' he' sb => ?_⟩
    have hT2 : h''.get? s.heap.objs.size = some { cls := .type "tuple", data := .seq #[.int i tk, u'] } := (sb.2 _ (Nat.ne_of_gt hel)).trans hT
    have new : ObjOk X.prog X.w (upd H s.heap.objs.size (.tup [.int (i : Nat), x])) h'' s.heap.objs.size (.tup [.int (i : Nat), x]) :=
      ⟨by show 2 ≤ sizeLine; decide, [.int i tk, u'], .cons ⟨_, rfl⟩ (.cons ru .nil), ⟨_, hT2, rfl, _, rfl⟩⟩
    have I1 : Inv X pins σ (upd H s.heap.objs.size (.tup [.int (i : Nat), x])) { s with heap := h'', toks := tk + 1 } :=
      I.turnedNew (ch := [e, it]) (fun b ob hb q => (sb.2 b (fun z => hb (by simp [z]))).trans (hk b ob (fun z => hb (by simp [z])) (fun z => hb (by simp [z])) q)) hf (Nat.le_refl _) new
    refine ⟨.ref s.heap.objs.size, _, I1, rfl, ⟨_, x, rfl, I.hok.fresh (Nat.le_refl _), rfl, fun ys hy => by rw [I.tuple_inj hy hq]; exact hx⟩, ⟨⟨u', ?_⟩, hit'.1.at fun o q => (sb.2 it (Ne.symm hne)).trans q, hne⟩, fun b hb => ?_⟩
    · have e1 : ((i + 1 : Nat) : Int) = (i : Int) + 1 := by omega
      rw [e1]; exact he'
    · have hb' : b < s.heap.objs.size := by
        have e' : b = e ∨ b = it := by simpa using hb
        rcases e' with z | z
        · rw [z]; exact hel
        · rw [z]; exact hil
      rw [upd_ne (Nat.ne_of_lt hb')]
      exact (hf b hb).1
  done := by
    intro X hP hw hK hc i pins s σ H E I hf st hg
    subst hP hw hK
    obtain ⟨⟨old, he⟩, hit, hne⟩ := st
    obtain ⟨xs, hq, hx⟩ := hg
    obtain ⟨its, rv, p, hz⟩ := I.tuple hq
    have p' : s.heap.IsTuple a its.toArray := p
    obtain ⟨f0, f1, f2, f3, f4, f5⟩ := hf it (by simp)
    have hl := rv.length
    have hh : X.A.in1.handled = none := I.ok.hd hc
    have hT : s.TypeIs (.ref e) "enumerate" := ⟨_, he, rfl⟩
    unfold pyNext
    refine wpAny_bind (wpAny_attempt (wpAny_callSpecial?_slot (name := Str.ofString "__next__") hT F.slot_enumerate_next
      (wpAny_call_entry F.slot_enumerate_next hT F.entry_enumerate_next ?_ (F.args_enumerate_next_1 _))))
    show wpAny _ _ (field (.ref e) 2 >>= _) _ _ _
    refine wpAny_bind (wpAny_field he rfl (x := .ref it) rfl ?_)
    refine wpAny_bind (RZ.nextOf_tuple_end hh hit p' (by simp; omega) fun h' x he' hx' => ?_)
    obtain ⟨o, ho, hcl⟩ := hx'
    refine wpAny_bind (wpAny_isInstance (T := "StopIteration") (b := true) ⟨o, ho, hcl⟩ isSubtype_stop ?_)
    exact wpAny_pure ⟨rfl, I.turned (t' := s.toks) (fun b o hb q => he' b o hb q) f0 f1 f3 f4 f5⟩
  self := fun A i s Q E st h => let ⟨⟨_, he⟩, _⟩ := st; wpAny_pyIter_enum he h
/-- enumerate of a list or a tuple -/
def iEnumA (K : PySem.W.Frag) (ta : TA) : TI := fun σ H R => ta σ H fun vs H1 => ∃ a xs, vs = [.ref a] ∧ ((SqL K H1 a xs ∧ R (Ite K a) H1) ∨ (SqT K H1 a xs ∧ R (IteT K a) H1))
theorem pi_enumA {X : Cx} {e : Expr} {ta : TA} {p pos tpos : Pos} {elts : List Expr} {kk : Nat} (hg : Gl X "enumerate") (hm : X.mg "enumerate" = none) (ha : PA X [e] ta) (hs : starEach [e] X.env = [(false, eval e X.env)] := by rfl) :
    PI X (.Tuple elts kk tpos) (.Call (.Name "enumerate" p) [e] [] pos) (iEnumA X.K ta) := by
  refine ⟨fun pins s σ H R I h => ?_⟩
  refine Call_ (ld_blt I hg hm boot_enumerate (PyProof.Rows.callWith_type1 (thn (ha.run pos pins s σ H _ I h) fun us s1 ⟨vs, H1, I1, r1, q1⟩ => ?_) hs rfl))
  obtain ⟨a, xs, ex, q⟩ := q1
  subst ex
  cases r1 with
  | cons r rr =>
    cases rr
    cases r
    have fp : ∀ b, b ∈ [s1.heap.objs.size + 1, s1.heap.objs.size] → FpOk X pins H1 b := fun b hb => by
      have e' : b = s1.heap.objs.size + 1 ∨ b = s1.heap.objs.size := by simpa using hb
      have hle : s1.heap.objs.size ≤ b := by
        rcases e' with z | z
        · rw [z]; exact Nat.le_add_right _ _
        · rw [z]; exact Nat.le_refl _
      exact I1.fpOk hle (I1.hok.fresh hle)
    rcases q with ⟨hq, q⟩ | ⟨hq, q⟩
    · obtain ⟨its, rv, p', hz⟩ := I1.list hq
      refine call_enumerate_list p'.isList fun h' he hit hsz hk => wpAny_pyIter_enum he ?_
      have I2 : Inv X pins σ H1 { s1 with heap := h' } := I1.kept (t' := s1.toks) hk
      exact ⟨s1.heap.objs.size + 1, [s1.heap.objs.size + 1, s1.heap.objs.size], _, _, H1, rfl, I2, turn_enum a (s1.heap.objs.size + 1) s1.heap.objs.size, ⟨⟨.none, he⟩, hit, Nat.succ_ne_self _⟩, fp, q⟩
    · obtain ⟨its, rv, p', hz⟩ := I1.tuple hq
      have p2 : s1.heap.IsTuple a its.toArray := p'
      obtain ⟨o1, ho1, _⟩ := id p2
      have hal := Heap.lt_size ho1
      refine call_enumT p2 fun h' he hit hsz hk => wpAny_pyIter_enum he ?_
      have I2 : Inv X pins σ H1 { s1 with heap := h' } := I1.kept (t' := s1.toks) hk
      exact ⟨s1.heap.objs.size + 1, [s1.heap.objs.size + 1, s1.heap.objs.size], _, _, H1, rfl, I2, turn_enumT a (s1.heap.objs.size + 1) s1.heap.objs.size (Nat.ne_of_lt hal) (Nat.ne_of_lt (Nat.lt_succ_of_lt hal)), ⟨⟨.none, he⟩, hit, Nat.succ_ne_self _⟩, fp, q⟩
/-- a list or a tuple -/
def iSeqA (K : PySem.W.Frag) (tl : TE) : TI := fun σ H R => tl σ H fun x H1 => ∃ a, x = .ref a ∧ (((∃ xs, SqL K H1 a xs) ∧ R (Itl K a) H1) ∨ ((∃ xs, SqT K H1 a xs) ∧ R (Itt K a) H1))
theorem pi_seqA {X : Cx} {tg l : Expr} {tl : TE} (hl : PE X l tl) : PI X tg l (iSeqA X.K tl) := by
  refine ⟨fun pins s σ H R I h => ?_⟩
  refine thn (hl.run pins s σ H _ I h) fun v s1 ⟨x, H1, I1, r1, q1⟩ => ?_
  obtain ⟨a, e, q⟩ := q1
  subst e
  cases r1
  rcases q with ⟨⟨xs, hq⟩, q⟩ | ⟨⟨xs, hq⟩, q⟩
  · obtain ⟨its, rv, p, hz⟩ := I1.list hq
    refine wpAny_pyIter_list p.isList ?_
    refine ⟨s1.heap.objs.size, [s1.heap.objs.size], _, _, H1, rfl, I1.kept (t' := s1.toks) fun b o e => Heap.get?_push_of_some _ e, turn_list a _, ⟨_, Heap.get?_push_size _ rfl, rfl, rfl⟩, fun b hb => ?_, q⟩
    have e : b = s1.heap.objs.size := by simpa using hb
    subst e
    exact I1.fpOk (Nat.le_refl _) (I1.hok.fresh (Nat.le_refl _))
  · obtain ⟨its, rv, p, hz⟩ := I1.tuple hq
    refine wpAny_pyIter_tuple (show s1.heap.IsTuple a its.toArray from p) ?_
    refine ⟨s1.heap.objs.size, [s1.heap.objs.size], _, _, H1, rfl, I1.kept (t' := s1.toks) fun b o e => Heap.get?_push_of_some _ e, turn_tuple a _, ⟨_, Heap.get?_push_size _ rfl, rfl, rfl⟩, fun b hb => ?_, q⟩
    have e : b = s1.heap.objs.size := by simpa using hb
    subst e
    exact I1.fpOk (Nat.le_refl _) (I1.hok.fresh (Nat.le_refl _))
end MpW

set_option Elab.async false
set_option linter.all false
set_option maxRecDepth 100000
set_option maxHeartbeats 1000000
/-! Mp: a small Python of plain values over the hand layer. Part 1: data in the heap, what is owned. -/
namespace Mp
open PySem PySem.Spec PyProof.Rows L2
abbrev St := L2.St

/-! ### data in the heap -/
mutual
inductive Rep (K : PySem.W.Frag) (H : Hp) : V → PyData → Prop
  | non : Rep K H .non .none
  | bl (b : Bool) : Rep K H (.bl b) (.bool b)
  | int (i : Int) : Rep K H (.int i) (.int i)
  | str (x : Str) : Rep K H (.str x) (.str x)
  | lst {a : Addr} {xs : List V} {ds : List PyData} : H a = some (.lst xs) → Reps K H xs ds → Rep K H (.ref a) (.list ds)
  | tup {a : Addr} {xs : List V} {ds : List PyData} : SqT K H a xs → Reps K H xs ds → Rep K H (.ref a) (.tuple ds)
inductive Reps (K : PySem.W.Frag) (H : Hp) : List V → List PyData → Prop
  | nil : Reps K H [] []
  | cons {v : V} {vs : List V} {d : PyData} {ds : List PyData} : Rep K H v d → Reps K H vs ds → Reps K H (v :: vs) (d :: ds)
end
section
variable {K : PySem.W.Frag} {H H' : Hp}
mutual
theorem Rep.dp : ∀ {v : V} {d : PyData}, Rep K H v d → Dp K H v d
  | _, _, .non => .non
  | _, _, .bl b => .bl b
  | _, _, .int i => .int i
  | _, _, .str x => .str x
  | _, _, .lst h r => .lst (SqL.of h) (Reps.dp r)
  | _, _, .tup h r => .tup h (Reps.dp r)
theorem Reps.dp : ∀ {vs : List V} {ds : List PyData}, Reps K H vs ds → DpAll K H vs ds
  | _, _, .nil => .nil
  | _, _, .cons h r => .cons (Rep.dp h) (Reps.dp r)
end
def Sub (H H' : Hp) : Prop := ∀ a o, H a = some o → H' a = some o
theorem Sub.refl (H : Hp) : Sub H H := fun _ _ h => h
theorem Sub.trans {A B C : Hp} (x : Sub A B) (y : Sub B C) : Sub A C := fun a o h => y a o (x a o h)
theorem Sub.sqT {a : Addr} {xs : List V} (e : Sub H H') (h : SqT K H a xs) : SqT K H' a xs := by
  rcases h with (h | ⟨o, h⟩) | h
  · exact .inl (.inl (e _ _ h))
  · exact .inl (.inr ⟨o, e _ _ h⟩)
  · exact .inr h
theorem Sub.sqL {a : Addr} {xs : List V} (e : Sub H H') (h : SqL K H a xs) : SqL K H' a xs := by
  rcases h with (h | ⟨o, h⟩) | h
  · exact .inl (.inl (e _ _ h))
  · exact .inl (.inr ⟨o, e _ _ h⟩)
  · exact .inr h
theorem Sub.free {a : Addr} (e : Sub H H') (h : H' a = none) : H a = none := by
  cases q : H a with
  | none => rfl
  | some o => rw [e a o q] at h; cases h
theorem Sub.upd {H : Hp} {p : Addr} {o : HO} (h : H p = none) : Sub H (upd H p o) := fun a u e => by
  rw [upd_ne (ne_of_none e h)]
  exact e
mutual
theorem Rep.mono (e : Sub H H') : ∀ {v : V} {d : PyData}, Rep K H v d → Rep K H' v d
  | _, _, .non => .non
  | _, _, .bl b => .bl b
  | _, _, .int i => .int i
  | _, _, .str x => .str x
  | _, _, .lst h r => .lst (e _ _ h) (Reps.mono e r)
  | _, _, .tup h r => .tup (e.sqT h) (Reps.mono e r)
theorem Reps.mono (e : Sub H H') : ∀ {vs : List V} {ds : List PyData}, Reps K H vs ds → Reps K H' vs ds
  | _, _, .nil => .nil
  | _, _, .cons h r => .cons (Rep.mono e h) (Reps.mono e r)
end
theorem Reps.length : ∀ {vs : List V} {ds : List PyData}, Reps K H vs ds → vs.length = ds.length
  | _, _, .nil => rfl
  | _, _, .cons _ r => by rw [List.length_cons, List.length_cons, Reps.length r]
theorem Reps.at : ∀ {vs : List V} {ds : List PyData} {i : Nat} {v : V} {d : PyData}, Reps K H vs ds → vs[i]? = some v → ds[i]? = some d → Rep K H v d
  | _, _, i, _, _, .nil, h, _ => by simp at h
  | _, _, 0, _, _, .cons r _, h, g => by simp at h g; subst h; subst g; exact r
  | _, _, i + 1, v, d, .cons _ r, h, g => Reps.at (i := i) r (by simpa using h) (by simpa using g)
theorem Reps.get {vs : List V} {ds : List PyData} {i : Nat} {d : PyData} (r : Reps K H vs ds) (h : ds[i]? = some d) : ∃ v, vs[i]? = some v ∧ Rep K H v d := by
  have hl := r.length
  have hi : i < vs.length := by rw [hl]; exact (List.getElem?_eq_some_iff.mp h).1
  exact ⟨vs[i], List.getElem?_eq_getElem hi, r.at (List.getElem?_eq_getElem hi) h⟩
theorem Reps.of : ∀ {vs : List V} {ds : List PyData}, vs.length = ds.length → (∀ (i : Nat) v d, vs[i]? = some v → ds[i]? = some d → Rep K H v d) → Reps K H vs ds
  | [], [], _, _ => .nil
  | v :: vs, d :: ds, hl, h => .cons (h 0 v d rfl rfl) (Reps.of (by simpa using hl) fun i v d a b => h (i + 1) v d (by simpa using a) (by simpa using b))
  | [], _ :: _, hl, _ => by simp at hl
  | _ :: _, [], hl, _ => by simp at hl
theorem Reps.append {vs ws : List V} {ds es : List PyData} (r : Reps K H vs ds) (q : Reps K H ws es) : Reps K H (vs ++ ws) (ds ++ es) := by
  have l1 := r.length
  refine Reps.of (by rw [List.length_append, List.length_append, l1, q.length]) fun i v d a b => ?_
  by_cases hi : i < vs.length
  · rw [List.getElem?_append_left hi] at a
    rw [List.getElem?_append_left (by omega)] at b
    exact r.at a b
  · rw [List.getElem?_append_right (by omega)] at a
    rw [List.getElem?_append_right (by omega), ← l1] at b
    exact q.at a b
theorem Reps.one {v : V} {d : PyData} (h : Rep K H v d) : Reps K H [v] [d] := .cons h .nil
theorem Reps.take {vs : List V} {ds : List PyData} (n : Nat) (r : Reps K H vs ds) : Reps K H (vs.take n) (ds.take n) := by
  refine Reps.of (by simp [r.length]) fun i v d a b => ?_
  rw [List.getElem?_take] at a b
  split at a
  · rename_i h; rw [if_pos h] at b; exact r.at a b
  · cases a
theorem Reps.drop {vs : List V} {ds : List PyData} (n : Nat) (r : Reps K H vs ds) : Reps K H (vs.drop n) (ds.drop n) := by
  refine Reps.of (by simp [r.length]) fun i v d a b => ?_
  rw [List.getElem?_drop] at a b
  exact r.at a b
theorem Reps.reverse {vs : List V} {ds : List PyData} (r : Reps K H vs ds) : Reps K H vs.reverse ds.reverse := by
  have l1 := r.length
  refine Reps.of (by simp [l1]) fun i v d a b => ?_
  have hi : i < vs.length := by simpa using (List.getElem?_eq_some_iff.mp a).1
  rw [List.getElem?_reverse hi] at a
  rw [List.getElem?_reverse (by omega), ← l1] at b
  exact r.at a b
theorem Reps.dropLast {vs : List V} {ds : List PyData} (r : Reps K H vs ds) : Reps K H vs.dropLast ds.dropLast := by
  rw [List.dropLast_eq_take, List.dropLast_eq_take, r.length]
  exact r.take _
theorem Reps.set {vs : List V} {ds : List PyData} {v : V} {d : PyData} (n : Nat) (r : Reps K H vs ds) (h : Rep K H v d) : Reps K H (vs.set n v) (ds.set n d) := by
  have l1 := r.length
  refine Reps.of (by simp [l1]) fun i x y a b => ?_
  by_cases hi : n = i
  · subst hi
    have hn : n < vs.length := by simpa using (List.getElem?_eq_some_iff.mp a).1
    rw [List.getElem?_set_self hn] at a
    rw [List.getElem?_set_self (by omega)] at b
    cases a; cases b; exact h
  · rw [List.getElem?_set_ne hi] at a b
    exact r.at a b
theorem Reps.replicate {vs : List V} {ds : List PyData} (r : Reps K H vs ds) : ∀ k : Nat, Reps K H (List.replicate k vs).flatten (List.replicate k ds).flatten
  | 0 => .nil
  | k + 1 => by
    rw [List.replicate_succ, List.replicate_succ, List.flatten_cons, List.flatten_cons]
    exact r.append (Reps.replicate r k)
theorem Reps.nil_iff {vs : List V} {ds : List PyData} (r : Reps K H vs ds) : vs = [] ↔ ds = [] := by
  cases r with
  | nil => simp
  | cons => simp
theorem Rep.int_inv {v : V} {i : Int} (h : Rep K H v (.int i)) : v = .int i := by cases h; rfl
theorem Rep.bl_inv {v : V} {i : Bool} (h : Rep K H v (.bool i)) : v = .bl i := by cases h; rfl
theorem Rep.str_inv {v : V} {i : Str} (h : Rep K H v (.str i)) : v = .str i := by cases h; rfl
theorem Rep.non_inv {v : V} (h : Rep K H v .none) : v = .non := by cases h; rfl
theorem Rep.lst_inv {v : V} {ds : List PyData} (h : Rep K H v (.list ds)) : ∃ a xs, v = .ref a ∧ H a = some (.lst xs) ∧ Reps K H xs ds := by
  cases h with
  | lst h r => exact ⟨_, _, rfl, h, r⟩
theorem Rep.tup_inv {v : V} {ds : List PyData} (h : Rep K H v (.tuple ds)) : ∃ a xs, v = .ref a ∧ SqT K H a xs ∧ Reps K H xs ds := by
  cases h with
  | tup h r => exact ⟨_, _, rfl, h, r⟩
theorem Rep.dict_inv {v : V} {ds : List (PyData × PyData)} (h : Rep K H v (.dict ds)) : False := by cases h
theorem Reps.ints : ∀ (ns : List Int), Reps K H (ns.map V.int) (ns.map PyData.int)
  | [] => .nil
  | n :: r => .cons (.int n) (Reps.ints r)
theorem Reps.ints_inv : ∀ {vs : List V} {ns : List Int}, Reps K H vs (ns.map PyData.int) → vs = ns.map V.int
  | _, [], .nil => rfl
  | _, n :: ns, .cons h r => by rw [h.int_inv, Reps.ints_inv r]; rfl
theorem Reps.bls_inv : ∀ {vs : List V} {ns : List Bool}, Reps K H vs (ns.map PyData.bool) → vs = ns.map V.bl
  | _, [], .nil => rfl
  | _, n :: ns, .cons h r => by rw [h.bl_inv, Reps.bls_inv r]; rfl
theorem Reps.strs_inv : ∀ {vs : List V} {ns : List Str}, Reps K H vs (ns.map PyData.str) → vs = ns.map V.str
  | _, [], .nil => rfl
  | _, n :: ns, .cons h r => by rw [h.str_inv, Reps.strs_inv r]; rfl
end

/-! ### hidden addresses -/
def hid (O : List Addr) (H : Hp) : Hp := fun a => if a ∈ O then none else H a
theorem hid_in {O : List Addr} {H : Hp} {a : Addr} (h : a ∈ O) : hid O H a = none := if_pos h
theorem hid_out {O : List Addr} {H : Hp} {a : Addr} (h : a ∉ O) : hid O H a = H a := if_neg h
theorem hid_some {O : List Addr} {H : Hp} {a : Addr} {o : HO} (h : hid O H a = some o) : a ∉ O ∧ H a = some o := by
  unfold hid at h
  split at h
  · cases h
  · exact ⟨‹_›, h⟩
theorem hid_sub (O : List Addr) (H : Hp) : Sub (hid O H) H := fun a o h => (hid_some h).2
theorem hid_mono {O O' : List Addr} {H H' : Hp} (hO : ∀ a, a ∈ O' → a ∈ O ∨ H a = none) (hH : ∀ a o, a ∉ O → H a = some o → H' a = some o) : Sub (hid O H) (hid O' H') := fun a o h => by
  obtain ⟨n, e⟩ := hid_some h
  rw [hid_out fun z => ?_]
  · exact hH a o n e
  · rcases hO a z with q | q
    · exact n q
    · rw [e] at q; cases q
theorem hid_upd {O : List Addr} {H : Hp} {a : Addr} {o : HO} (h : a ∈ O) : hid O (upd H a o) = hid O H := by
  funext b
  unfold hid
  split
  · rfl
  · rw [upd_ne]
    intro e
    subst e
    exact absurd h ‹_›
theorem hid_new {O : List Addr} {H : Hp} {p : Addr} {o : HO} (h : H p = none) : hid (p :: O) (upd H p o) = hid O H := by
  funext b
  unfold hid
  by_cases hb : b = p
  · subst hb
    simp [h]
  · simp [hb, upd_ne hb]

/-! ### slots and results -/
inductive Sl where
  /-- not assigned, or forgotten -/
  | no
  /-- a value -/
  | v (d : PyData)
  /-- a list that nothing else knows -/
  | o (ds : List PyData)
  /-- a list that the caller handed in to be changed (slot 0) -/
  | io (ds : List PyData)
  /-- the script -/
  | sc (ns : List Int)
inductive R where
  | v (d : PyData)
  | o (ds : List PyData)
  /-- what the slot i holds -/
  | b (i : Nat)
abbrev Env := List Sl
/-- the frame's ground: the heap at the entry, what is hidden there, the list handed in -/
structure Cf where
  K : PySem.W.Frag
  H0 : Hp
  O0 : List Addr
  io : Option Addr
def SlOk (F : Cf) (H : Hp) (O : List Addr) (s : Sl) (x : Option V) : Prop := match s with
  | .no => True
  | .v d => ∃ v, x = some v ∧ Rep F.K (hid O H) v d
  | .o ds => ∃ a vs, x = some (.ref a) ∧ H a = some (.lst vs) ∧ a ∈ O ∧ F.H0 a = none ∧ Reps F.K (hid O H) vs ds
  | .io ds => ∃ a vs, x = some (.ref a) ∧ F.io = some a ∧ H a = some (.lst vs) ∧ a ∈ O ∧ Reps F.K (hid O H) vs ds
  | .sc ns => ∃ a, x = some (.ref a) ∧ SqL F.K (hid O H) a (ns.map V.int)
def TOk (F : Cf) (σ : St) (H : Hp) (O : List Addr) (t : V × R) : Prop := match t.2 with
  | .v d => Rep F.K (hid O H) t.1 d
  | .o ds => ∃ a vs, t.1 = .ref a ∧ H a = some (.lst vs) ∧ a ∈ O ∧ F.H0 a = none ∧ Reps F.K (hid O H) vs ds
  | .b i => σ[i]? = some (some t.1)
def isO : Sl → Bool
  | .o _ => true
  | _ => false
def isRO : R → Bool
  | .o _ => true
  | _ => false
structure Good (F : Cf) (env : Env) (σ : St) (T : List (V × R)) (H : Hp) (O : List Addr) : Prop where
  len : env.length = σ.length
  oin : ∀ a ∈ O, H a ≠ none
  o0 : ∀ a ∈ F.O0, a ∈ O
  h0 : ∀ a ∈ F.O0, F.H0 a ≠ none
  ion : ∀ a, F.io = some a → a ∈ F.O0
  keep : ∀ b u, F.H0 b = some u → F.io ≠ some b → H b = some u
  keep0 : ∀ b, F.H0 b ≠ none → H b ≠ none
  new : ∀ a ∈ O, a ∈ F.O0 ∨ F.H0 a = none
  sl : ∀ (i : Nat) s, env[i]? = some s → SlOk F H O s ((σ[i]?).getD none)
  tm : ∀ t ∈ T, TOk F σ H O t
  dss : ∀ (i j : Nat) s u, i ≠ j → env[i]? = some s → isO s = true → env[j]? = some u → isO u = true → (σ[i]?).getD none ≠ (σ[j]?).getD none
  dst : ∀ (i : Nat) s, env[i]? = some s → isO s = true → ∀ t ∈ T, isRO t.2 = true → (σ[i]?).getD none ≠ some t.1
  dtt : T.Pairwise fun t u => isRO t.2 = true → isRO u.2 = true → t.1 ≠ u.1
  one : ∀ (i : Nat) ds, env[i]? = some (.io ds) → i = 0
theorem SlOk.mono {F : Cf} {H H' : Hp} {O O' : List Addr} {s : Sl} {x : Option V} (h : SlOk F H O s x) (e : Sub (hid O H) (hid O' H'))
    (k : ∀ a vs, a ∈ O → x = some (.ref a) → (isO s = true ∨ F.io = some a) → H a = some (.lst vs) → H' a = some (.lst vs) ∧ a ∈ O') : SlOk F H' O' s x := by
  cases s with
  | no => trivial
  | v d => obtain ⟨v, h1, h2⟩ := h; exact ⟨v, h1, h2.mono e⟩
  | o ds => obtain ⟨a, vs, h1, h2, h3, h4, h5⟩ := h; exact ⟨a, vs, h1, (k a vs h3 h1 (.inl rfl) h2).1, (k a vs h3 h1 (.inl rfl) h2).2, h4, h5.mono e⟩
  | io ds => obtain ⟨a, vs, h1, h2, h3, h4, h5⟩ := h; exact ⟨a, vs, h1, h2, (k a vs h4 h1 (.inr h2) h3).1, (k a vs h4 h1 (.inr h2) h3).2, h5.mono e⟩
  | sc ns => obtain ⟨a, h1, h2⟩ := h; exact ⟨a, h1, e.sqL h2⟩
theorem TOk.mono {F : Cf} {σ : St} {H H' : Hp} {O O' : List Addr} {t : V × R} (h : TOk F σ H O t) (e : Sub (hid O H) (hid O' H'))
    (k : ∀ a vs, a ∈ O → t.1 = .ref a → isRO t.2 = true → H a = some (.lst vs) → H' a = some (.lst vs) ∧ a ∈ O') : TOk F σ H' O' t := by
  obtain ⟨v, r⟩ := t
  cases r with
  | v d => exact Rep.mono e h
  | o ds => obtain ⟨a, vs, h1, h2, h3, h4, h5⟩ := h; exact ⟨a, vs, h1, (k a vs h3 h1 rfl h2).1, (k a vs h3 h1 rfl h2).2, h4, h5.mono e⟩
  | b i => exact h
section
variable {F : Cf} {env : Env} {σ : St} {T : List (V × R)} {H H' : Hp} {O O' : List Addr}
/-- the heap grows, what is hidden stays -/
theorem Good.grow (g : Good F env σ T H O) (k : Sub H H') : Good F env σ T H' O := by
  have e : Sub (hid O H) (hid O H') := hid_mono (fun a h => .inl h) fun a o _ h => k a o h
  exact ⟨g.len, fun a ha z => g.oin a ha (k.free z), g.o0, g.h0, g.ion, fun b u h n => k b u (g.keep b u h n), fun b h z => g.keep0 b h (k.free z), g.new,
    fun i s h => (g.sl i s h).mono e fun a vs ha _ _ q => ⟨k a _ q, ha⟩, fun t ht => (g.tm t ht).mono e fun a vs ha _ _ q => ⟨k a _ q, ha⟩, g.dss, g.dst, g.dtt, g.one⟩
theorem Good.pushV {x : V} {d : PyData} (g : Good F env σ T H O) (h : Rep F.K (hid O H) x d) : Good F env σ ((x, .v d) :: T) H O :=
  ⟨g.len, g.oin, g.o0, g.h0, g.ion, g.keep, g.keep0, g.new, g.sl, fun t ht => by
    rcases List.mem_cons.mp ht with rfl | ht
    · exact h
    · exact g.tm t ht, g.dss, fun i s h1 h2 t ht h3 => by
    rcases List.mem_cons.mp ht with rfl | ht
    · cases h3
    · exact g.dst i s h1 h2 t ht h3, List.Pairwise.cons (fun t _ h => by cases h) g.dtt, g.one⟩
theorem Good.pushB {x : V} {i : Nat} (g : Good F env σ T H O) (h : σ[i]? = some (some x)) : Good F env σ ((x, .b i) :: T) H O :=
  ⟨g.len, g.oin, g.o0, g.h0, g.ion, g.keep, g.keep0, g.new, g.sl, fun t ht => by
    rcases List.mem_cons.mp ht with rfl | ht
    · exact h
    · exact g.tm t ht, g.dss, fun i s h1 h2 t ht h3 => by
    rcases List.mem_cons.mp ht with rfl | ht
    · cases h3
    · exact g.dst i s h1 h2 t ht h3, List.Pairwise.cons (fun t _ h => by cases h) g.dtt, g.one⟩
theorem Good.pop {t : V × R} (g : Good F env σ (t :: T) H O) : Good F env σ T H O :=
  ⟨g.len, g.oin, g.o0, g.h0, g.ion, g.keep, g.keep0, g.new, g.sl, fun t ht => g.tm t (List.mem_cons_of_mem _ ht), g.dss, fun i s h1 h2 t ht h3 => g.dst i s h1 h2 t (List.mem_cons_of_mem _ ht) h3, (List.pairwise_cons.mp g.dtt).2, g.one⟩
/-- an address of what is owned -/
theorem Good.own_ne (g : Good F env σ T H O) {p : Addr} (hp : H p = none) : (∀ (i : Nat) s, env[i]? = some s → isO s = true → (σ[i]?).getD none ≠ some (.ref p)) ∧ ∀ t ∈ T, isRO t.2 = true → t.1 ≠ .ref p := by
  constructor
  · intro i s h1 h2 z
    have := g.sl i s h1
    cases s with
    | o ds =>
      obtain ⟨a, vs, q1, q2, _⟩ := this
      rw [z] at q1
      cases q1
      rw [hp] at q2; cases q2
    | _ => cases h2
  · intro t ht h2 z
    have := g.tm t ht
    obtain ⟨v, r⟩ := t
    cases r with
    | o ds =>
      obtain ⟨a, vs, q1, q2, _⟩ := this
      have z' : v = .ref p := z
      have q1' : v = .ref a := q1
      rw [z'] at q1'
      cases q1'
      rw [hp] at q2; cases q2
    | _ => cases h2
theorem Good.free0 (g : Good F env σ T H O) {p : Addr} (hp : H p = none) : F.H0 p = none := by
  cases q : F.H0 p with
  | none => rfl
  | some u => exact absurd hp (g.keep0 p (by rw [q]; simp))
/-- a new list, owned -/
theorem Good.pushO {p : Addr} {vs : List V} {ds : List PyData} (g : Good F env σ T H O) (hp : H p = none) (h : Reps F.K (hid O H) vs ds) : Good F env σ ((.ref p, .o ds) :: T) (upd H p (.lst vs)) (p :: O) := by
  have eq : hid (p :: O) (upd H p (.lst vs)) = hid O H := hid_new hp
  have e : Sub (hid O H) (hid (p :: O) (upd H p (.lst vs))) := by rw [eq]; exact Sub.refl _
  have ne : ∀ a, H a ≠ none → a ≠ p := fun a h z => h (by rw [z]; exact hp)
  obtain ⟨o1, o2⟩ := g.own_ne hp
  have g0 := g.free0 hp
  refine ⟨g.len, fun a ha => ?_, fun a ha => List.mem_cons_of_mem _ (g.o0 a ha), g.h0, g.ion, fun b u h n => ?_, fun b h => ?_, fun a ha => ?_, fun i s h => (g.sl i s h).mono e fun a vs ha _ _ q => ⟨?_, List.mem_cons_of_mem _ ha⟩,
    fun t ht => ?_, g.dss, fun i s h1 h2 t ht h3 => ?_, List.Pairwise.cons (fun t ht _ h3 z => o2 t ht h3 z.symm) g.dtt, g.one⟩
  · rcases List.mem_cons.mp ha with rfl | ha
    · rw [upd_same]; simp
    · rw [upd_ne (ne a (g.oin a ha))]; exact g.oin a ha
  · rw [upd_ne]
    · exact g.keep b u h n
    · exact ne b (g.keep0 b (by rw [h]; simp))
  · rw [upd_ne (ne b (g.keep0 b h))]
    exact g.keep0 b h
  · rcases List.mem_cons.mp ha with rfl | ha
    · exact .inr g0
    · exact g.new a ha
  · rw [upd_ne (ne a (by rw [q]; simp))]; exact q
  · rcases List.mem_cons.mp ht with rfl | ht
    · exact ⟨p, vs, rfl, upd_same, List.mem_cons_self, g0, by rw [eq]; exact h⟩
    · exact (g.tm t ht).mono e fun a vs ha _ _ q => ⟨by rw [upd_ne (ne a (by rw [q]; simp))]; exact q, List.mem_cons_of_mem _ ha⟩
  · rcases List.mem_cons.mp ht with rfl | ht
    · exact o1 i s h1 h2
    · exact g.dst i s h1 h2 t ht h3
/-- a new tuple -/
theorem Good.pushT {p : Addr} {vs : List V} {ds : List PyData} (g : Good F env σ T H O) (hp : H p = none) (h : Reps F.K (hid O H) vs ds) : Good F env σ ((.ref p, .v (.tuple ds)) :: T) (upd H p (.tup vs)) O := by
  have hO : p ∉ O := fun z => g.oin p z hp
  refine (g.grow (Sub.upd hp)).pushV (.tup (.inl (.inl ?_)) (h.mono (hid_mono (fun a h => .inl h) fun a o _ q => Sub.upd hp a o q)))
  rw [hid_out hO, upd_same]
def rm (O : List Addr) (a : Addr) : List Addr := O.filter fun x => decide (x ≠ a)
theorem mem_rm {O : List Addr} {a b : Addr} : b ∈ rm O a ↔ b ∈ O ∧ b ≠ a := by
  unfold rm
  rw [List.mem_filter, decide_eq_true_eq]
theorem not_rm {O : List Addr} {a : Addr} : a ∉ rm O a := fun z => (mem_rm.mp z).2 rfl
theorem Good.rm_hid {a : Addr} : Sub (hid O H) (hid (rm O a) H) := hid_mono (fun b h => .inl (mem_rm.mp h).1) fun _ _ _ h => h
theorem Good.io_ne (g : Good F env σ T H O) {a : Addr} (h0 : F.H0 a = none) : F.io ≠ some a := fun z => g.h0 a (g.ion a z) h0
/-- an owned list on the stack becomes a value -/
theorem Good.shareT {x : V} {ds : List PyData} (g : Good F env σ ((x, .o ds) :: T) H O) : ∃ O', Good F env σ ((x, .v (.list ds)) :: T) H O' := by
  obtain ⟨a, vs, rfl, h2, h3, h4, h5⟩ := g.tm _ List.mem_cons_self
  have h2 : H a = some (.lst vs) := h2
  have h3 : a ∈ O := h3
  have h4 : F.H0 a = none := h4
  have h5 : Reps F.K (hid O H) vs ds := h5
  have d1 := (List.pairwise_cons.mp g.dtt).1
  have e : Sub (hid O H) (hid (rm O a) H) := Good.rm_hid
  refine ⟨rm O a, ⟨g.len, fun b hb => g.oin b (mem_rm.mp hb).1, fun b hb => mem_rm.mpr ⟨g.o0 b hb, fun z => g.h0 b hb (by rw [z]; exact h4)⟩, g.h0, g.ion, g.keep, g.keep0, fun b hb => g.new b (mem_rm.mp hb).1,
    fun i s h => (g.sl i s h).mono e fun b ws hb e1 e2 q => ⟨q, mem_rm.mpr ⟨hb, fun z => ?_⟩⟩, fun t ht => ?_, g.dss, fun i s h1 h2 t ht h3 => ?_, List.Pairwise.cons (fun t _ h => by cases h) (List.pairwise_cons.mp g.dtt).2, g.one⟩⟩
  · subst z
    rcases e2 with e2 | e2
    · exact g.dst i s h e2 _ List.mem_cons_self rfl e1
    · exact g.io_ne h4 e2
  · rcases List.mem_cons.mp ht with rfl | ht
    · refine .lst (xs := vs) ?_ (h5.mono e)
      rw [hid_out not_rm]
      exact h2
    · exact (g.tm t (List.mem_cons_of_mem _ ht)).mono e fun b ws hb e1 e2 q => ⟨q, mem_rm.mpr ⟨hb, fun z => d1 t ht rfl e2 (by rw [e1, z])⟩⟩
  · rcases List.mem_cons.mp ht with rfl | ht
    · cases h3
    · exact g.dst i s h1 h2 t (List.mem_cons_of_mem _ ht) h3
theorem getD_get {v : V} {i : Nat} (h : (σ[i]?).getD none = some v) : σ[i]? = some (some v) := by
  cases q : σ[i]? with
  | none => rw [q] at h; cases h
  | some y => rw [q] at h; simp at h; rw [h]
theorem get_getD {v : V} {i : Nat} (h : σ[i]? = some (some v)) : (σ[i]?).getD none = some v := by rw [h]; rfl
/-- an owned list in a slot becomes a value -/
theorem Good.shareS {i : Nat} {ds : List PyData} (g : Good F env σ T H O) (hi : env[i]? = some (.o ds)) : ∃ O', Good F (env.set i (.v (.list ds))) σ T H O' := by
  obtain ⟨a, vs, h1, h2, h3, h4, h5⟩ := g.sl i _ hi
  have e : Sub (hid O H) (hid (rm O a) H) := Good.rm_hid
  have hil : i < env.length := (List.getElem?_eq_some_iff.mp hi).1
  have old : ∀ (j : Nat) s, (env.set i (.v (.list ds)))[j]? = some s → (j = i ∧ s = .v (.list ds)) ∨ (j ≠ i ∧ env[j]? = some s) := fun j s h => by
    by_cases hj : j = i
    · subst hj
      rw [List.getElem?_set_self hil] at h
      cases h; exact .inl ⟨rfl, rfl⟩
    · rw [List.getElem?_set_ne (Ne.symm hj)] at h
      exact .inr ⟨hj, h⟩
  refine ⟨rm O a, ⟨by simpa using g.len, fun b hb => g.oin b (mem_rm.mp hb).1, fun b hb => mem_rm.mpr ⟨g.o0 b hb, fun z => g.h0 b hb (by rw [z]; exact h4)⟩, g.h0, g.ion, g.keep, g.keep0, fun b hb => g.new b (mem_rm.mp hb).1,
    fun j s h => ?_, fun t ht => ?_, fun j k s u hjk hj hs hk hu => ?_, fun j s hj hs t ht h3 => ?_, g.dtt, fun j ds' h => ?_⟩⟩
  · rcases old j s h with ⟨rfl, rfl⟩ | ⟨hj, h⟩
    · refine ⟨.ref a, h1, .lst (xs := vs) ?_ (h5.mono e)⟩
      rw [hid_out not_rm]
      exact h2
    · refine (g.sl j s h).mono e fun b ws hb e1 e2 q => ⟨q, mem_rm.mpr ⟨hb, fun z => ?_⟩⟩
      subst z
      rcases e2 with e2 | e2
      · exact g.dss j i s _ hj h e2 hi rfl (e1.trans h1.symm)
      · exact g.io_ne h4 e2
  · exact (g.tm t ht).mono e fun b ws hb e1 e2 q => ⟨q, mem_rm.mpr ⟨hb, fun z => g.dst i _ hi rfl t ht e2 (by rw [h1, e1, z])⟩⟩
  · rcases old j s hj with ⟨rfl, rfl⟩ | ⟨_, hj⟩
    · cases hs
    · rcases old k u hk with ⟨rfl, rfl⟩ | ⟨_, hk⟩
      · cases hu
      · exact g.dss j k s u hjk hj hs hk hu
  · rcases old j s hj with ⟨rfl, rfl⟩ | ⟨_, hj⟩
    · cases hs
    · exact g.dst j s hj hs t ht h3
  · rcases old j _ h with ⟨_, h⟩ | ⟨_, h⟩
    · cases h
    · exact g.one j _ h
end
end Mp

set_option Elab.async false
set_option linter.all false
set_option maxRecDepth 100000
set_option maxHeartbeats 1000000
/-! Mp, part 2: the small language, its weakest preconditions, the check against the kit's trees. -/
namespace Mp
open PySem

inductive Bf where
  | abs | int | str | all | any | tuple | list | max2 | min2 | bool
  deriving DecidableEq
inductive Tg where
  | nm (i : Nat)
  | tp (is : List Nat)
mutual
inductive P where
  | var (i : Nat) | int (i : Int) | bl (b : Bool) | non | str (s : Str)
  | con (k : Nat)
  | bin (op : Operator) (a b : P)
  | neg (a : P)
  | cmp (op : CmpOp) (a b : P)
  | chn (op op' : CmpOp) (a b c : P)
  | bop (isAnd : Bool) (es : Ps)
  | not (a : P)
  | ife (t a b : P)
  | tup (es : Ps)
  | lst (es : Ps)
  | ix (a i : P)
  | sl (a : P) (lo hi : Po)
  | rev (a : P)
  | call (k : Nat) (es : Ps)
  | callIo (k : Nat) (i : Nat) (es : Ps)
  | callSc (k : Nat) (i : Nat) (es : Ps)
  | blt (f : Bf) (es : Ps)
  | len (a : P)
  | isin (a : P) (t : String)
  | comp (own : List Nat) (w : Wk) (tg : Tg) (c : Po) (elt : P)
  | pop (i : Nat)
  /-- never come to -/
  | dead
inductive Ps where
  | nil
  | cons (a : P) (r : Ps)
inductive Po where
  | none
  | some (a : P)
inductive Wk where
  | seq (a : P)
  | rng1 (a : P)
  | rng2 (a b : P)
  | enum (a : P)
  | zip (a b : P)
end
/-- what an except suite hands back -/
inductive Su where
  | bl (b : Bool) | int (i : Int) | str (s : Str) | non
mutual
inductive S where
  | asg (i : Nat) (e : P)
  | asgT (is : List Nat) (e : P)
  | par (is : List Nat) (es : Ps)
  | setIx (i : Nat) (ix e : P)
  | app (i : Nat) (e : P)
  | ite (t : P) (a b : Ss)
  | whl (t : P) (b : Ss)
  | for_ (tg : Tg) (w : Wk) (b : Ss)
  | ret (e : P)
  | raise (x : Str)
  | brk
  | cont
  | pass
  | try_ (b : Ss) (hs : List (Str × Su))
  /-- an expression whose value is dropped -/
  | xp (e : P)
inductive Ss where
  | nil
  | cons (a : S) (r : Ss)
end

/-! ### specs -/
/-- the first argument, where it is no plain value -/
inductive Hdv where
  | no
  | io (ds : List PyData)
  | sc (ns : List Int)
inductive HdK where
  | no | io | sc
  deriving DecidableEq
structure FSpec where
  pre : Hdv → List PyData → Prop
  post : Hdv → List PyData → R → Hdv → Prop
  exc : Hdv → List PyData → Str → Prop
/-- a def of the module: its name, its first argument's kind, its level, its parameters -/
structure FnI where
  name : Str
  hd : HdK
  lev : Nat
  pars : List Str
structure GE where
  con : Nat → Option (Str × PyData)
  fni : Nat → Option FnI
  fns : Nat → FSpec
  excs : List Str
  /-- class raised, class named in a clause -/
  exm : Str → Str → Option Bool

/-! ### values -/
def Sl.d : Sl → Option PyData
  | .v d => some d
  | .o ds => some (.list ds)
  | .io ds => some (.list ds)
  | _ => none
def R.d (env : Env) : R → Option PyData
  | .v d => some d
  | .o ds => some (.list ds)
  | .b i => match env[i]? with
    | some s => s.d
    | none => none
/-- .. the script's too: for len and items -/
def R.q (env : Env) : R → Option PyData
  | .b i => match env[i]? with
    | some (.sc ns) => some (.list (ns.map .int))
    | some s => s.d
    | none => none
  | r => r.d env
/-- as a value that may be kept by anyone -/
def R.sh (env : Env) : R → Option (PyData × Env)
  | .v d => some (d, env)
  | .o ds => some (.list ds, env)
  | .b i => match env[i]? with
    | some (.v d) => some (d, env)
    | some (.o ds) => some (.list ds, env.set i (.v (.list ds)))
    | _ => none
def MulOk (i j : Int) : Prop := (i.natAbs.log2 + j.natAbs.log2 < 1000000) ∨ (-(2 ^ 64) < i ∧ i < 2 ^ 64) ∨ (-(2 ^ 64) < j ∧ j < 2 ^ 64)
def line : Nat := 16777216
def opB (op : Operator) (x y : PyData) (Q : R → Prop) : Prop := match op, x, y with
  | .Add, .int i, .int j => Q (.v (.int (i + j)))
  | .Add, .list xs, .list ys => xs.length + ys.length ≤ line ∧ Q (.o (xs ++ ys))
  | .Add, .tuple xs, .tuple ys => xs.length + ys.length ≤ line ∧ Q (.v (.tuple (xs ++ ys)))
  | .Add, .str a, .str b => a.length + b.length ≤ line ∧ Q (.v (.str (a ++ b)))
  | .Sub, .int i, .int j => Q (.v (.int (i - j)))
  | .Mult, .int i, .int j => MulOk i j ∧ Q (.v (.int (i * j)))
  | .Mult, .list xs, .int k => (-(2 ^ 63) ≤ k ∧ k < 2 ^ 63 ∧ xs.length * k.toNat ≤ line) ∧ Q (.o (List.replicate k.toNat xs).flatten)
  | .Mult, .tuple xs, .int k => (xs ≠ [] ∧ 2 ≤ k ∧ k ≤ 1000 ∧ xs.length ≤ 1000) ∧ Q (.v (.tuple (List.replicate k.toNat xs).flatten))
  | .FloorDiv, .int i, .int j => (0 < j ∧ j.natAbs.log2 < 9000) ∧ Q (.v (.int (i / j)))
  | .Mod, .int i, .int j => 0 < j ∧ Q (.v (.int (i % j)))
  | .Pow, .int i, .int j => (0 ≤ j ∧ j ≤ 1000000 ∧ i.natAbs < 2 ^ 64) ∧ Q (.v (.int (i ^ j.toNat)))
  | _, _, _ => False
def isNone : PyData → Bool
  | .none => true
  | _ => false
/-- flat values of which == tells as the data do, whatever they are -/
def scalD : PyData → PyData → Bool
  | .none, .none => true | .none, .int _ => true | .int _, .none => true | .none, .bool _ => true | .bool _, .none => true | .none, .str _ => true | .str _, .none => true
  | .int _, .int _ => true | .bool _, .bool _ => true | .str _, .str _ => true
  | .int _, .str _ => true | .str _, .int _ => true | .bool _, .str _ => true | .str _, .bool _ => true
  | _, _ => false
def eqOk (x y : PyData) : Bool := scalD x y || (SeqAt.shaped x && SeqAt.shaped y)
def opC (op : CmpOp) (x y : PyData) (Q : Bool → Prop) : Prop := match op, x, y with
  | .Eq, x, y => eqOk x y = true ∧ Q (PyData.eqv x y)
  | .NotEq, x, y => eqOk x y = true ∧ Q (!PyData.eqv x y)
  | .Lt, .int i, .int j => Q (decide (i < j))
  | .LtE, .int i, .int j => Q (decide (i ≤ j))
  | .Gt, .int i, .int j => Q (decide (j < i))
  | .GtE, .int i, .int j => Q (decide (j ≤ i))
  | .Is, x, .none => Q (isNone x)
  | .IsNot, x, .none => Q (!isNone x)
  | .In, x, .list ds => (SeqAt.shaped x = true ∧ SeqAt.shaped (.list ds) = true) ∧ Q (ds.any fun z => PyData.eqv z x)
  | .In, x, .tuple ds => (SeqAt.shaped x = true ∧ SeqAt.shaped (.tuple ds) = true) ∧ Q (ds.any fun z => PyData.eqv z x)
  | .NotIn, x, .list ds => (SeqAt.shaped x = true ∧ SeqAt.shaped (.list ds) = true) ∧ Q (!ds.any fun z => PyData.eqv z x)
  | .NotIn, x, .tuple ds => (SeqAt.shaped x = true ∧ SeqAt.shaped (.tuple ds) = true) ∧ Q (!ds.any fun z => PyData.eqv z x)
  | _, _, _ => False
/-- the place of an index of any sign -/
def ixAt (xs : List PyData) (i : Int) (Q : PyData → Prop) : Prop := match L2.atI xs i with
  | some d => Q d
  | none => False
def opI (x i : PyData) (Q : R → Prop) : Prop := match x, i with
  | .list ds, .int k => ixAt ds k fun d => Q (.v d)
  | .tuple ds, .int k => ixAt ds k fun d => Q (.v d)
  | .str z, .int k => z.length ≤ line ∧ (match L2.atI z.cps.toList k with
    | some c => Q (.v (.str ⟨#[c]⟩))
    | none => False)
  | _, _ => False
def cutD {α : Type} (xs : List α) (lo hi : Option Int) : List α := (xs.drop (HT.sIx xs.length 0 lo)).take (HT.sIx xs.length xs.length hi - HT.sIx xs.length 0 lo)
def opS (x : PyData) (lo hi : Option Int) (Q : R → Prop) : Prop := match x with
  | .list ds => Q (.o (cutD ds lo hi))
  | .tuple ds => Q (.v (.tuple (cutD ds lo hi)))
  | _ => False
def tyOf : PyData → Option String
  | .none => some "NoneType"
  | .bool _ => some "bool"
  | .int _ => some "int"
  | .str _ => some "str"
  | .list _ => some "list"
  | .tuple _ => some "tuple"
  | .dict _ => none
def isTy (d : PyData) (t : String) : Option Bool := match tyOf d with
  | some s => L2.kitB s t
  | none => none
def opLen (x : PyData) (Q : Int → Prop) : Prop := match x with
  | .list ds => Q ds.length
  | .tuple ds => Q ds.length
  | .str z => z.length ≤ line ∧ Q z.length
  | _ => False
def bools? : List PyData → Option (List Bool)
  | [] => some []
  | .bool b :: r => match bools? r with
    | some bs => some (b :: bs)
    | none => none
  | _ :: _ => none
def withBs (x : Option (List Bool)) (Q : List Bool → Prop) : Prop := match x with
  | some bs => Q bs
  | none => False
def opF (f : Bf) (xs : List PyData) (Q : R → Prop) : Prop := match f, xs with
  | .abs, [.int i] => Q (.v (.int (if i < 0 then -i else i)))
  | .int, [.int i] => Q (.v (.int i))
  | .int, [.bool k] => Q (.v (.int (if k then 1 else 0)))
  | .bool, [.int i] => Q (.v (.bool (i != 0)))
  | .bool, [.bool k] => Q (.v (.bool k))
  | .str, [.int i] => i.natAbs.log2 < 1920 ∧ Q (.v (.str (toString i)))
  | .all, [.list ds] => withBs (bools? ds) fun bs => Q (.v (.bool (bs.all id)))
  | .any, [.list ds] => withBs (bools? ds) fun bs => Q (.v (.bool (bs.any id)))
  | .tuple, [.list ds] => Q (.v (.tuple ds))
  | .tuple, [.tuple ds] => Q (.v (.tuple ds))
  | .list, [.list ds] => Q (.o ds)
  | .list, [.tuple ds] => Q (.o ds)
  | .max2, [.int i, .int j] => Q (.v (.int (if j > i then j else i)))
  | .min2, [.int i, .int j] => Q (.v (.int (if j < i then j else i)))
  | _, _ => False
def enumD : Nat → List PyData → List PyData
  | _, [] => []
  | i, d :: r => .tuple [.int (i : Nat), d] :: enumD (i + 1) r
def zipD : List PyData → List PyData → List PyData
  | x :: xs, y :: ys => .tuple [x, y] :: zipD xs ys
  | _, _ => []
def rngD (lo : Int) (n : Nat) : List PyData := (List.range n).map fun i => .int (lo + (i : Nat))
def setMany : List Nat → List PyData → Env → Env
  | i :: is, d :: ds, env => setMany is ds (env.set i (.v d))
  | _, _, env => env
def setTg (tg : Tg) (d : PyData) (env : Env) (Q : Env → Prop) : Prop := match tg, d with
  | .nm i, d => Q (env.set i (.v d))
  | .tp is, .tuple ds => ds.length = is.length ∧ Q (setMany is ds env)
  | .tp _, _ => False
def wipeE (env : Env) : List Nat → Env
  | [] => env
  | i :: is => (wipeE env is).set i .no
def compL (turn : PyData → Env → (Option PyData → Env → Prop) → Prop) : List PyData → List PyData → Env → (List PyData → Env → Prop) → Prop
  | [], acc, env, Q => Q acc env
  | d :: r, acc, env, Q => turn d env fun x env' => match x with
    | some y => acc.length < line ∧ compL turn r (acc ++ [y]) env' Q
    | none => compL turn r acc env' Q
def forL (turn : PyData → Env → (Env → Prop) → Prop) : List PyData → Env → (Env → Prop) → Prop
  | [], env, Q => Q env
  | d :: r, env, Q => turn d env fun env' => forL turn r env' Q
def withD (x : Option PyData) (Q : PyData → Prop) : Prop := match x with
  | some d => Q d
  | none => False
def withS (x : Option (PyData × Env)) (Q : PyData → Env → Prop) : Prop := match x with
  | some (d, e) => Q d e
  | none => False
def asB (r : R) (Q : Bool → Prop) : Prop := match r with
  | .v (.bool b) => Q b
  | _ => False
def asI (x : Option PyData) (Q : Int → Prop) : Prop := match x with
  | some (.int i) => Q i
  | _ => False
def seqOf (x : Option (PyData × Env)) (Q : List PyData → Env → Prop) : Prop := match x with
  | some (.list ds, e) => Q ds e
  | some (.tuple ds, e) => Q ds e
  | _ => False
/-- a slot that holds a list which may be changed; the slot behind the change -/
def ioSlot (s : Option Sl) (Q : List PyData → (List PyData → Sl) → Prop) : Prop := match s with
  | some (.o xs) => Q xs .o
  | some (.io xs) => Q xs .io
  | _ => False
def ixSet (ds : List PyData) (n : Int) (Q : Nat → Prop) : Prop := match L2.ixN ds.length n with
  | some j => Q j
  | none => False
def scSlot (s : Option Sl) (Q : List Int → Prop) : Prop := match s with
  | some (.sc ns) => Q ns
  | _ => False
abbrev EX := Str → Env → Prop
def noEx : EX := fun _ _ => False
/-! ### weakest preconditions of expressions -/
section
variable (G : GE)
mutual
def wpE : P → Env → (R → Env → Prop) → EX → Prop
  | .var i, env, Q, _ => match env[i]? with
    | some (.v d) => Q (.v d) env
    | some (.o _) => Q (.b i) env
    | some (.io _) => Q (.b i) env
    | some (.sc _) => Q (.b i) env
    | _ => False
  | .int i, env, Q, _ => Q (.v (.int i)) env
  | .bl b, env, Q, _ => Q (.v (.bool b)) env
  | .non, env, Q, _ => Q (.v .none) env
  | .str s, env, Q, _ => Q (.v (.str s)) env
  | .con k, env, Q, _ => (match G.con k with
    | some (_, d) => Q (.v d) env
    | none => False)
  | .bin op a b, env, Q, E => wpE a env (fun x env1 => wpE b env1 (fun y env2 => withD (x.d env2) fun d => withD (y.d env2) fun e => opB op d e fun r => Q r env2) E) E
  | .neg a, env, Q, E => wpE a env (fun x env1 => asI (x.d env1) fun i => Q (.v (.int (-i))) env1) E
  | .cmp op a b, env, Q, E => wpE a env (fun x env1 => wpE b env1 (fun y env2 => withD (x.d env2) fun d => withD (y.d env2) fun e => opC op d e fun r => Q (.v (.bool r)) env2) E) E
  | .chn op op' a b c, env, Q, E => wpE a env (fun x env1 => wpE b env1 (fun y env2 => withD (x.d env2) fun d => withD (y.d env2) fun e => opC op d e fun r =>
      if r = true then wpE c env2 (fun z env3 => withD (y.d env3) fun e' => withD (z.d env3) fun g => opC op' e' g fun r' => Q (.v (.bool r')) env3) E else Q (.v (.bool false)) env2) E) E
  | .bop k es, env, Q, E => wpBop k es env Q E
  | .not a, env, Q, E => wpE a env (fun x env1 => asB x fun b => Q (.v (.bool (!b))) env1) E
  | .ife t a b, env, Q, E => wpE t env (fun x env1 => asB x fun k => if k = true then wpE a env1 Q E else wpE b env1 Q E) E
  | .tup es, env, Q, E => wpEs es env (fun ds env1 => ds.length ≤ line ∧ Q (.v (.tuple ds)) env1) E
  | .lst es, env, Q, E => wpEs es env (fun ds env1 => ds.length ≤ line ∧ Q (.o ds) env1) E
  | .ix a i, env, Q, E => wpE a env (fun x env1 => wpE i env1 (fun y env2 => withD (x.q env2) fun d => withD (y.d env2) fun e => opI d e fun r => Q r env2) E) E
  | .sl a lo hi, env, Q, E => wpE a env (fun x env1 => wpPo lo env1 (fun l env2 => wpPo hi env2 (fun u env3 => withD (x.d env3) fun d => opS d l u fun r => Q r env3) E) E) E
  | .rev a, env, Q, E => wpE a env (fun x env1 => match x.d env1 with
    | some (.list ds) => Q (.o ds.reverse) env1
    | _ => False) E
  | .call k es, env, Q, E => wpEs es env (fun ds env1 => (G.fns k).pre .no ds ∧ (∀ r h, (G.fns k).post .no ds r h → Q r env1) ∧ ∀ x, (G.fns k).exc .no ds x → E x env1) E
  | .callIo k i es, env, Q, E => ioSlot env[i]? (fun _ _ => wpEs es env (fun ds env1 => ioSlot env1[i]? fun xs mk =>
      (G.fns k).pre (.io xs) ds ∧ (∀ r h, (G.fns k).post (.io xs) ds r h → ∃ ys, h = .io ys ∧ Q r (env1.set i (mk ys))) ∧ ∀ x, ¬ (G.fns k).exc (.io xs) ds x) E)
  | .callSc k i es, env, Q, E => scSlot env[i]? (fun _ => wpEs es env (fun ds env1 => scSlot env1[i]? fun ns =>
      (G.fns k).pre (.sc ns) ds ∧ (∀ r h, (G.fns k).post (.sc ns) ds r h → Q r env1) ∧ ∀ x, (G.fns k).exc (.sc ns) ds x → E x env1) E)
  | .len a, env, Q, E => wpE a env (fun x env1 => withD (x.q env1) fun d => opLen d fun n => Q (.v (.int n)) env1) E
  | .blt f es, env, Q, E => wpBs es env (fun ds env1 => opF f ds fun r => Q r env1) E
  | .isin a t, env, Q, E => wpE a env (fun x env1 => withD (x.d env1) fun d => match isTy d t with
    | some b => Q (.v (.bool b)) env1
    | none => False) E
  | .comp own w tg c elt, env, Q, E => wpW w env (fun items env1 =>
      compL (fun d env2 K => setTg tg d env2 fun env3 => wpPc c env3 (fun b env4 => if b = true then wpE elt env4 (fun r env5 => withS (r.sh env5) fun y env6 => K (some y) (wipeE env6 own)) noEx else K none (wipeE env4 own)) noEx)
        items [] (wipeE env1 own) fun ds env' => Q (.o ds) env') E
  | .pop i, env, Q, _ => (match env[i]? with
    | some (.o ds) => (match ds.getLast? with
      | some d => Q (.v d) (env.set i (.o ds.dropLast))
      | none => False)
    | _ => False)
  | .dead, _, _, _ => False
def wpEs : Ps → Env → (List PyData → Env → Prop) → EX → Prop
  | .nil, env, Q, _ => Q [] env
  | .cons a r, env, Q, E => wpE a env (fun x env1 => withS (x.sh env1) fun d env2 => wpEs r env2 (fun ds env3 => Q (d :: ds) env3) E) E
/-- read, not kept -/
def wpBs : Ps → Env → (List PyData → Env → Prop) → EX → Prop
  | .nil, env, Q, _ => Q [] env
  | .cons a r, env, Q, E => wpE a env (fun x env1 => wpBs r env1 (fun ds env2 => withD (x.d env2) fun d => Q (d :: ds) env2) E) E
def wpBop (k : Bool) : Ps → Env → (R → Env → Prop) → EX → Prop
  | .nil, _, _, _ => False
  | .cons a .nil, env, Q, E => wpE a env Q E
  | .cons a (.cons b r), env, Q, E => wpE a env (fun x env1 => asB x fun c => if c = k then wpBop k (.cons b r) env1 Q E else Q (.v (.bool c)) env1) E
/-- an optional part of a slice -/
def wpPo : Po → Env → (Option Int → Env → Prop) → EX → Prop
  | .none, env, Q, _ => Q none env
  | .some a, env, Q, E => wpE a env (fun x env1 => asI (x.d env1) fun i => Q (some i) env1) E
/-- an optional condition -/
def wpPc : Po → Env → (Bool → Env → Prop) → EX → Prop
  | .none, env, Q, _ => Q true env
  | .some a, env, Q, E => wpE a env (fun x env1 => asB x fun b => Q b env1) E
def wpW : Wk → Env → (List PyData → Env → Prop) → EX → Prop
  | .seq a, env, Q, E => wpE a env (fun x env1 => seqOf (x.sh env1) Q) E
  | .rng1 a, env, Q, E => wpE a env (fun x env1 => asI (x.d env1) fun n => (-(2 ^ 62) ≤ n ∧ n < 2 ^ 62) ∧ Q (rngD 0 n.toNat) env1) E
  | .rng2 a b, env, Q, E => wpE a env (fun x env1 => wpE b env1 (fun y env2 => asI (x.d env2) fun m => asI (y.d env2) fun n => (-(2 ^ 62) ≤ m ∧ m < 2 ^ 62 ∧ -(2 ^ 62) ≤ n ∧ n < 2 ^ 62) ∧ Q (rngD m (n - m).toNat) env2) E) E
  | .enum a, env, Q, E => wpE a env (fun x env1 => seqOf (x.sh env1) fun ds env2 => Q (enumD 0 ds) env2) E
  | .zip a b, env, Q, E => wpE a env (fun x env1 => withS (x.sh env1) fun d env2 => wpE b env2 (fun y env3 => withS (y.sh env3) fun e env4 => (match d, e with
    | .list ds, .list es => Q (zipD ds es) env4
    | .tuple ds, .tuple es => Q (zipD ds es) env4
    | _, _ => False)) E) E
end
end
/-! ### .. of statements -/
structure Pst where
  nx : Env → Prop
  rt : R → Env → Prop
  bk : Env → Prop
  ct : Env → Prop
  ex : EX
def store (i : Nat) (r : R) (env : Env) (Q : Env → Prop) : Prop := match r with
  | .v d => Q (env.set i (.v d))
  | .o ds => Q (env.set i (.o ds))
  | .b j => withS ((R.b j).sh env) fun d env1 => Q (env1.set i (.v d))
/-- what a def hands back: an owned list goes out as owned -/
def give (r : R) (env : Env) (Q : R → Env → Prop) : Prop := match r with
  | .v d => Q (.v d) env
  | .o ds => Q (.o ds) env
  | .b j => match env[j]? with
    | some (.v d) => Q (.v d) env
    | some (.o ds) => Q (.o ds) (env.set j .no)
    | _ => False
def Su.d : Su → PyData
  | .bl b => .bool b
  | .int i => .int i
  | .str s => .str s
  | .non => .none
def handle (G : GE) (D : Pst) (x : Str) (env : Env) : List (Str × Su) → Prop
  | [] => D.ex x env
  | (y, s) :: r => match G.exm x y with
    | some true => D.rt (.v s.d) env
    | some false => handle G D x env r
    | none => False
section
variable (G : GE)
mutual
def wpS : S → Env → Pst → Prop
  | .asg i e, env, D => wpE G e env (fun r env1 => store i r env1 D.nx) D.ex
  | .asgT is e, env, D => wpE G e env (fun r env1 => withS (r.sh env1) fun d env2 => (match d with
    | .tuple ds => ds.length = is.length ∧ D.nx (setMany is ds env2)
    | .list ds => ds.length = is.length ∧ D.nx (setMany is ds env2)
    | _ => False)) D.ex
  | .par is es, env, D => wpEs G es env (fun ds env1 => ds.length = is.length ∧ D.nx (setMany is ds env1)) D.ex
  | .setIx i ix e, env, D => wpE G e env (fun r env1 => withS (r.sh env1) fun d env2 => ioSlot env2[i]? fun _ _ => wpE G ix env2 (fun k env3 => asI (k.d env3) fun n => ioSlot env3[i]? fun ds mk => ixSet ds n fun j => D.nx (env3.set i (mk (ds.set j d)))) D.ex) D.ex
  | .app i e, env, D => ioSlot env[i]? fun _ _ => wpE G e env (fun r env1 => withS (r.sh env1) fun d env2 => ioSlot env2[i]? fun ds mk => ds.length < line ∧ D.nx (env2.set i (mk (ds ++ [d])))) D.ex
  | .ite t a b, env, D => wpE G t env (fun x env1 => asB x fun k => if k = true then wpSs a env1 D else wpSs b env1 D) D.ex
  | .whl t b, env, D => ∃ W : Nat → Env → Prop, (∃ m, W m env) ∧ ∀ m e, W m e →
      wpE G t e (fun x e1 => asB x fun k => if k = true then wpSs b e1 { D with nx := fun e2 => ∃ m', m' < m ∧ W m' e2, ct := fun e2 => ∃ m', m' < m ∧ W m' e2, bk := D.nx } else D.nx e1) D.ex
  | .for_ tg w b, env, D => wpW G w env (fun items env1 => forL (fun d e K => setTg tg d e fun e1 => wpSs b e1 { D with nx := K, ct := K, bk := D.nx }) items env1 D.nx) D.ex
  | .ret e, env, D => wpE G e env (fun r env1 => give r env1 D.rt) D.ex
  | .raise x, env, D => D.ex x env
  | .brk, env, D => D.bk env
  | .cont, env, D => D.ct env
  | .pass, env, D => D.nx env
  | .try_ b hs, env, D => wpSs b env { D with ex := fun x e => handle G D x e hs }
  | .xp e, env, D => wpE G e env (fun _ env1 => D.nx env1) D.ex
def wpSs : Ss → Env → Pst → Prop
  | .nil, env, D => D.nx env
  | .cons a r, env, D => wpS a env { D with nx := fun e => wpSs r e D }
end
end

/-! ### the check against the kit's trees -/
mutual
/-- what may stand as a test -/
def okT : P → Bool
  | .ife _ _ _ => false
  | .not a => okT a
  | .bop _ es => okTs es
  | _ => true
def okTs : Ps → Bool
  | .nil => true
  | .cons a r => okT a && okTs r
end
def okPo : Po → Bool
  | .none => true
  | .some a => okT a
def Tg.ix : Tg → List Nat
  | .nm i => [i]
  | .tp is => is
def notStar : Expr → Bool
  | .Starred .. => false
  | _ => true
def notSet : Expr → Bool
  | .Set .. => false
  | _ => true
def visB (sc : Scope) (x : Str) : Bool := match sc.names.lookup x with
  | some .local => true
  | some .cell => true
  | some .free => true
  | _ => false
def locB (sc : Scope) (x : Str) : Bool := match sc.names.lookup x with
  | some .local => true
  | some .cell => true
  | _ => false
def glB (sc : Scope) (x : Str) : Bool := decide (sc.names.lookup x = some .globalImplicit) && !(x == ("__debug__" : Str))
def varB (N : List Str) (sc : Scope) (i : Nat) (x : Str) : Bool := decide (N[i]? = some x) && visB sc x && !(x == ("__debug__" : Str)) && !(x == ("__classdict__" : Str))
def Bf.name : Bf → Str
  | .abs => "abs" | .int => "int" | .str => "str" | .all => "all" | .any => "any" | .tuple => "tuple" | .list => "list" | .max2 => "max" | .min2 => "min" | .bool => "bool"
def Bf.ar : Bf → Nat
  | .max2 => 2 | .min2 => 2 | _ => 1
def tyName : String → Bool
  | "int" => true | "bool" => true | "str" => true | "tuple" => true | "list" => true
  | _ => false
/-- a comprehension's scope as it runs -/
def blkSc (scope sc : Scope) : Scope := L2.relS scope sc
def tgB (N : List Str) (sc : Scope) : Tg → Expr → Bool
  | .nm i, e => (match e with
    | .Name x _ => decide (N[i]? = some x) && decide (sc.names.lookup x = some .local)
    | _ => false)
  | .tp is, e => (match e with
    | .Tuple es _ _ => namesB is es
    | _ => false)
where namesB : List Nat → List Expr → Bool
  | [], [] => true
  | i :: is, e :: es => (match e with
    | .Name x _ => decide (N[i]? = some x) && decide (sc.names.lookup x = some .local)
    | _ => false) && namesB is es
  | _, _ => false
/-- .. of a statement: local or cell -/
def nameB (N : List Str) (sc : Scope) (i : Nat) : Expr → Bool
  | .Name x _ => decide (N[i]? = some x) && locB sc x
  | _ => false
def namesB (N : List Str) (sc : Scope) : List Nat → List Expr → Bool
  | [], [] => true
  | i :: is, e :: es => nameB N sc i e && namesB N sc is es
  | _, _ => false
def ownB (N : List Str) (own : List Nat) : List (Str × Nat) := own.map fun i => (N.getD i Str.empty, i)
def fnB (f : Option FnI) (k : HdK) (x : Str) (L n : Nat) : Bool := match f with
  | some fi => decide (fi.name = x) && decide (fi.hd = k) && decide (fi.lev ≤ L) && decide (n = fi.pars.length)
  | none => false
section
variable (G : GE) (N : List Str) (L : Nat)
mutual
def chkE : P → Scope → Expr → Bool
  | .var i, sc, e => (match e with
    | .Name x _ => varB N sc i x
    | _ => false)
  | .int i, _, e => (match e with
    | .Constant (.int j) _ _ => decide (i = j)
    | _ => false)
  | .bl i, _, e => (match e with
    | .Constant (.bool j) _ _ => decide (i = j)
    | _ => false)
  | .non, _, e => (match e with
    | .Constant .none _ _ => true
    | _ => false)
  | .str i, _, e => (match e with
    | .Constant (.str j) _ _ => decide (i = j)
    | _ => false)
  | .con k, sc, e => (match e with
    | .Name x _ => glB sc x && (match G.con k with
      | some (y, _) => decide (x = y)
      | none => false)
    | _ => false)
  | .bin op a b, sc, e => (match e with
    | .BinOp l o r _ => decide (op = o) && chkE a sc l && chkE b sc r
    | _ => false)
  | .neg a, sc, e => (match e with
    | .UnaryOp .USub l _ => chkE a sc l
    | _ => false)
  | .cmp op a b, sc, e => (match e with
    | .Compare l [o] [r] _ => decide (op = o) && chkE a sc l && chkE b sc r && notSet r
    | _ => false)
  | .chn op op' a b c, sc, e => (match e with
    | .Compare l [o, o'] [r, q] _ => decide (op = o) && decide (op' = o') && chkE a sc l && chkE b sc r && chkE c sc q && notSet r && notSet q
    | _ => false)
  | .bop k es, sc, e => (match e with
    | .BoolOp o vs _ => decide (o = if k then BoolOp.And else BoolOp.Or) && chkEs es sc vs
    | _ => false)
  | .not a, sc, e => (match e with
    | .UnaryOp .Not l _ => chkE a sc l
    | _ => false)
  | .ife t a b, sc, e => (match e with
    | .IfExp t' a' b' _ => okT t && chkE t sc t' && chkE a sc a' && chkE b sc b'
    | _ => false)
  | .tup es, sc, e => (match e with
    | .Tuple l _ _ => chkEs es sc l
    | _ => false)
  | .lst es, sc, e => (match e with
    | .List l _ => chkEs es sc l
    | _ => false)
  | .ix a i, sc, e => (match e with
    | .Subscript l r _ => chkE a sc l && chkE i sc r
    | _ => false)
  | .sl a lo hi, sc, e => (match e with
    | .Subscript l (.Slice x y none _) _ => chkE a sc l && chkPo lo sc x && chkPo hi sc y
    | _ => false)
  | .rev a, sc, e => (match e with
    | .Subscript l (.Slice none none (some (.UnaryOp .USub (.Constant (.int 1) _ _) _)) _) _ => chkE a sc l
    | _ => false)
  | .call k es, sc, e => (match e with
    | .Call (.Name x _) args [] _ => glB sc x && chkEs es sc args && fnB (G.fni k) .no x L args.length
    | _ => false)
  | .callIo k i es, sc, e => (match e with
    | .Call (.Name x _) (.Name y _ :: args) [] _ => glB sc x && varB N sc i y && chkEs es sc args && fnB (G.fni k) .io x L (args.length + 1)
    | _ => false)
  | .callSc k i es, sc, e => (match e with
    | .Call (.Name x _) (.Name y _ :: args) [] _ => glB sc x && varB N sc i y && chkEs es sc args && fnB (G.fni k) .sc x L (args.length + 1)
    | _ => false)
  | .blt f es, sc, e => (match e with
    | .Call (.Name x _) args [] _ => glB sc x && decide (x = f.name) && decide (args.length = f.ar) && chkEs es sc args
    | _ => false)
  | .len a, sc, e => (match e with
    | .Call (.Name x _) [l] [] _ => glB sc x && decide (x = ("len" : Str)) && notStar l && chkE a sc l
    | _ => false)
  | .isin a t, sc, e => (match e with
    | .Call (.Name x _) [l, .Name y _] [] _ => glB sc x && decide (x = ("isinstance" : Str)) && notStar l && chkE a sc l && glB sc y && decide (y = (t : Str)) && tyName t
    | _ => false)
  | .comp own w tg c elt, sc, e => (match e with
    | .ListComp el [⟨tge, iter, ifs, 0⟩] scope _ => chkW w sc tg tge iter && tgB N (blkSc scope sc) tg tge && (match ifs with
        | [] => chkPo c (blkSc scope sc) none
        | [x] => chkPo c (blkSc scope sc) (some x)
        | _ => false) && chkE elt (blkSc scope sc) el && L2.blkC N sc scope (ownB N own) && okPo c && tg.ix.all (fun i => own.contains i)
    | _ => false)
  | .pop i, sc, e => (match e with
    | .Call (.Attribute (.Name x _) m apos) [] [] cpos => varB N sc i x && decide (m = ("pop" : Str)) && (apos.endLine == cpos.line)
    | _ => false)
  | .dead, _, e => (match e with
    | .Slice .. => false
    | .Set .. => false
    | _ => true)
def chkEs : Ps → Scope → List Expr → Bool
  | .nil, _, [] => true
  | .cons a r, sc, e :: es => notStar e && chkE a sc e && chkEs r sc es
  | _, _, _ => false
def chkPo : Po → Scope → Option Expr → Bool
  | .none, _, none => true
  | .some a, sc, some e => chkE a sc e
  | _, _, _ => false
def chkW : Wk → Scope → Tg → Expr → Expr → Bool
  | .seq a, sc, _, _, e => chkE a sc e
  | .rng1 a, sc, _, _, e => (match e with
    | .Call (.Name x _) [l] [] _ => glB sc x && decide (x = ("range" : Str)) && notStar l && chkE a sc l
    | _ => false)
  | .rng2 a b, sc, _, _, e => (match e with
    | .Call (.Name x _) [l, r] [] _ => glB sc x && decide (x = ("range" : Str)) && notStar l && notStar r && chkE a sc l && chkE b sc r
    | _ => false)
  | .enum a, sc, tg, tge, e => (match tg, tge, e with
    | .tp _, .Tuple _ _ _, .Call (.Name x _) [l] [] _ => glB sc x && decide (x = ("enumerate" : Str)) && notStar l && chkE a sc l
    | _, _, _ => false)
  | .zip a b, sc, tg, tge, e => (match tg, tge, e with
    | .tp _, .Tuple _ _ _, .Call (.Name x _) [l, r] [] _ => glB sc x && decide (x = ("zip" : Str)) && notStar l && notStar r && chkE a sc l && chkE b sc r
    | _, _, _ => false)
end
def isLc : Expr → Bool
  | .ListComp .. => true
  | .SetComp .. => true
  | .DictComp .. => true
  | _ => false
/-- the names that a display's stores are swapped to; none: a look that the model leaves open -/
def swpD (sc : Scope) (ts vs : List Expr) : Option (Option (List Str)) :=
  if !(ts.length == 2 || ts.length == 3) || vs.length != ts.length then some none else
  if vs.any fun | .Starred .. => true | _ => false then some none else
  let line := (ts.head?.map (·.pos.line)).getD 0
  let names := ts.filterMap fun
    | .Name id pos => if sc.names.lookup id == some .local && pos.line == line then some id else none
    | _ => none
  if names.length != ts.length || names.eraseDups.length != names.length then some none else
  if vs.all (foldedForSure 8) then some none else
  if vs.all (constantsAlone 8) then none else
  some (some names)
def suB : Su → Expr → Bool
  | .bl b, .Constant (.bool c) _ _ => decide (b = c)
  | .int b, .Constant (.int c) _ _ => decide (b = c)
  | .str b, .Constant (.str c) _ _ => decide (b = c)
  | .non, .Constant .none _ _ => true
  | _, _ => false
def hsB (sc : Scope) : List (Str × Su) → List ExceptHandler → Bool
  | [], [] => true
  | (x, s) :: r, .ExceptHandler (some (.Name y _)) none [.Return (some c) _] _ :: hs => decide (x = y) && glB sc y && suB s c && hsB sc r hs
  | _, _ => false
mutual
def chkS (sc : Scope) : S → Stmt → Bool
  | .asg i e, st => (match st with
    | .Assign [.Name x px] v pos => decide (N[i]? = some x) && (if isLc v then (match v with
        | .ListComp _ _ scope lpos => decide (sc.names.lookup x = some .local) && (px.line == lpos.line) && !(scope.names.any fun (n, k) => n == x && (k == .local || k == .cell))
        | _ => false) else locB sc x) && chkE G N L e sc v
    | _ => false)
  | .asgT is e, st => (match st with
    | .Assign [.Tuple ts _ _] v _ => namesB N sc is ts && chkE G N L e sc v && (match v with
      | .Tuple vs _ _ => decide (swpD sc ts vs = some none)
      | .ListComp .. => false
      | _ => true)
    | _ => false)
  | .par is es, st => (match st with
    | .Assign [.Tuple ts _ _] (.Tuple vs _ _) _ => namesB N sc is ts && chkEs G N L es sc vs && decide is.Nodup && (match swpD sc ts vs with
      | some (some names) => (match is with
        | [i, j] => decide (names.map some = [N[i]?, N[j]?])
        | [i, j, k] => decide (names.map some = [N[i]?, N[j]?, N[k]?])
        | _ => false)
      | _ => false)
    | _ => false)
  | .setIx i ix e, st => (match st with
    | .Assign [.Subscript (.Name x _) j _] v _ => varB N sc i x && chkE G N L ix sc j && chkE G N L e sc v && !(isLc v) && (match j with
      | .Slice .. => false
      | _ => true)
    | _ => false)
  | .app i e, st => (match st with
    | .Expr (.Call (.Attribute (.Name x _) m apos) [a] [] cpos) _ => varB N sc i x && decide (m = ("append" : Str)) && notStar a && chkE G N L e sc a && (apos.endLine == cpos.line)
    | _ => false)
  | .ite t a b, st => (match st with
    | .If c x y _ => okT t && chkE G N L t sc c && chkSs sc a x && chkSs sc b y
    | _ => false)
  | .whl t b, st => (match st with
    | .While c x [] _ => okT t && chkE G N L t sc c && chkSs sc b x
    | _ => false)
  | .for_ tg w b, st => (match st with
    | .For tge iter x [] _ => chkW G N L w sc tg tge iter && (match tg with
      | .nm i => nameB N sc i tge
      | .tp is => (match tge with
        | .Tuple es _ _ => namesB N sc is es
        | _ => false)) && chkSs sc b x
    | _ => false)
  | .ret e, st => (match st with
    | .Return (some v) _ => chkE G N L e sc v
    | _ => false)
  | .raise x, st => (match st with
    | .Raise (some (.Call (.Name y _) [.Constant (.str _) _ _] [] _)) none _ => decide (x = y) && glB sc y && G.excs.contains x
    | _ => false)
  | .brk, st => (match st with
    | .Break _ => true
    | _ => false)
  | .cont, st => (match st with
    | .Continue _ => true
    | _ => false)
  | .pass, st => (match st with
    | .Pass _ => true
    | _ => false)
  | .try_ b hs, st => (match st with
    | .Try x hds [] [] _ => chkSs sc b x && hsB sc hs hds && !hs.isEmpty && hs.all (fun h => G.excs.contains h.1)
    | _ => false)
  | .xp e, st => (match st with
    | .Expr v _ => !(isLc v) && chkE G N L e sc v
    | _ => false)
def chkSs (sc : Scope) : Ss → List Stmt → Bool
  | .nil, [] => true
  | .cons a r, s :: ss => chkS sc a s && chkSs sc r ss
  | _, _ => false
end
end
end Mp

set_option Elab.async false
set_option linter.all false
set_option maxRecDepth 100000
set_option maxHeartbeats 1000000
/-! Mp, part 3: what the owned lists and the slots do when something is stored. -/
namespace Mp
open PySem PySem.Spec PyProof.Rows L2
section
variable {F : Cf} {env : Env} {σ : St} {T : List (V × R)} {H H' : Hp} {O O' : List Addr}
/-- no alias waits on the stack -/
def NoB (T : List (V × R)) : Prop := ∀ t ∈ T, ∀ i, t.2 ≠ .b i
theorem NoB.nil : NoB [] := fun _ h => nomatch h
theorem NoB.cons {t : V × R} (h : ∀ i, t.2 ≠ .b i) (n : NoB T) : NoB (t :: T) := fun u hu => by
  rcases List.mem_cons.mp hu with rfl | hu
  · exact h
  · exact n u hu
theorem Good.pop2 {t u : V × R} (g : Good F env σ (t :: u :: T) H O) : Good F env σ (t :: T) H O := by
  have d := List.pairwise_cons.mp g.dtt
  refine ⟨g.len, g.oin, g.o0, g.h0, g.ion, g.keep, g.keep0, g.new, g.sl, fun x hx => ?_, g.dss, fun i s h1 h2 x hx h3 => ?_, List.pairwise_cons.mpr ⟨fun x hx => d.1 x (List.mem_cons_of_mem _ hx), (List.pairwise_cons.mp d.2).2⟩, g.one⟩
  · rcases List.mem_cons.mp hx with rfl | hx
    · exact g.tm _ List.mem_cons_self
    · exact g.tm x (List.mem_cons_of_mem _ (List.mem_cons_of_mem _ hx))
  · rcases List.mem_cons.mp hx with rfl | hx
    · exact g.dst i s h1 h2 _ List.mem_cons_self h3
    · exact g.dst i s h1 h2 x (List.mem_cons_of_mem _ (List.mem_cons_of_mem _ hx)) h3
theorem Good.pop3 {t u : V × R} : ∀ {S : List (V × R)}, Good F env σ (t :: (S ++ T)) H O → Good F env σ (t :: T) H O
  | [], g => g
  | s :: S, g => Good.pop3 (S := S) (t := t) (u := u) g.pop2
theorem TOk.sig {σ' : St} {t : V × R} (h : TOk F σ H O t) (n : ∀ i, t.2 ≠ .b i) : TOk F σ' H O t := by
  obtain ⟨v, r⟩ := t
  cases r with
  | v d => exact h
  | o ds => exact h
  | b i => exact absurd rfl (n i)
theorem set_get {α : Type} {l : List α} {i j : Nat} {x y : α} (h : (l.set i x)[j]? = some y) : (j = i ∧ y = x ∧ i < l.length) ∨ (j ≠ i ∧ l[j]? = some y) := by
  by_cases hj : j = i
  · subst hj
    have hl : j < l.length := by simpa using (List.getElem?_eq_some_iff.mp h).1
    rw [List.getElem?_set_self hl] at h
    exact .inl ⟨rfl, (Option.some.inj h).symm, hl⟩
  · rw [List.getElem?_set_ne (Ne.symm hj)] at h
    exact .inr ⟨hj, h⟩
theorem getD_set_ne {i j : Nat} {x : Option V} (h : j ≠ i) : ((σ.set i x)[j]?).getD none = (σ[j]?).getD none := by
  rw [List.getElem?_set_ne (Ne.symm h)]
theorem getD_set_self {i : Nat} {x : Option V} (h : i < σ.length) : ((σ.set i x)[i]?).getD none = x := by
  rw [List.getElem?_set_self h]; rfl
/-- a slot is forgotten; what it holds in truth does not matter -/
theorem Good.forget {i : Nat} {x : Option V} (g : Good F env σ T H O) (n : NoB T) : Good F (env.set i .no) (σ.set i x) T H O := by
  refine ⟨by simpa using g.len, g.oin, g.o0, g.h0, g.ion, g.keep, g.keep0, g.new, fun j s h => ?_, fun t ht => (g.tm t ht).sig (n t ht), fun j k s u hjk hj hs hk hu => ?_, fun j s hj hs t ht h3 => ?_, g.dtt, fun j es h => ?_⟩
  · rcases set_get h with ⟨_, rfl, _⟩ | ⟨hj, h⟩
    · trivial
    · rw [getD_set_ne hj]; exact g.sl j s h
  · rcases set_get hj with ⟨_, rfl, _⟩ | ⟨nj, hj⟩
    · cases hs
    · rcases set_get hk with ⟨_, rfl, _⟩ | ⟨nk, hk⟩
      · cases hu
      · rw [getD_set_ne nj, getD_set_ne nk]; exact g.dss j k s u hjk hj hs hk hu
  · rcases set_get hj with ⟨_, rfl, _⟩ | ⟨nj, hj⟩
    · cases hs
    · rw [getD_set_ne nj]; exact g.dst j s hj hs t ht h3
  · rcases set_get h with ⟨_, h, _⟩ | ⟨_, h⟩
    · cases h
    · exact g.one j _ h
/-- .. the slot's own value as it is -/
theorem Good.no {i : Nat} (g : Good F env σ T H O) : Good F (env.set i .no) σ T H O := by
  refine ⟨by simpa using g.len, g.oin, g.o0, g.h0, g.ion, g.keep, g.keep0, g.new, fun j s h => ?_, g.tm, fun j k s u hjk hj hs hk hu => ?_, fun j s hj hs t ht h3 => ?_, g.dtt, fun j es h => ?_⟩
  · rcases set_get h with ⟨_, rfl, _⟩ | ⟨hj, h⟩
    · trivial
    · exact g.sl j s h
  · rcases set_get hj with ⟨_, rfl, _⟩ | ⟨nj, hj⟩
    · cases hs
    · rcases set_get hk with ⟨_, rfl, _⟩ | ⟨nk, hk⟩
      · cases hu
      · exact g.dss j k s u hjk hj hs hk hu
  · rcases set_get hj with ⟨_, rfl, _⟩ | ⟨nj, hj⟩
    · cases hs
    · exact g.dst j s hj hs t ht h3
  · rcases set_get h with ⟨_, h, _⟩ | ⟨_, h⟩
    · cases h
    · exact g.one j _ h
/-- a value is stored -/
theorem Good.setV {i : Nat} {x : V} {d : PyData} (g : Good F env σ T H O) (n : NoB T) (h : Rep F.K (hid O H) x d) : Good F (env.set i (.v d)) (σ.set i (some x)) T H O := by
  refine ⟨by simpa using g.len, g.oin, g.o0, g.h0, g.ion, g.keep, g.keep0, g.new, fun j s hs => ?_, fun t ht => (g.tm t ht).sig (n t ht), fun j k s u hjk hj hs hk hu => ?_, fun j s hj hs t ht h3 => ?_, g.dtt, fun j es h => ?_⟩
  · rcases set_get hs with ⟨rfl, rfl, hl⟩ | ⟨hj, hs⟩
    · exact ⟨x, getD_set_self (by rw [← g.len]; exact hl), h⟩
    · rw [getD_set_ne hj]; exact g.sl j s hs
  · rcases set_get hj with ⟨_, rfl, _⟩ | ⟨nj, hj⟩
    · cases hs
    · rcases set_get hk with ⟨_, rfl, _⟩ | ⟨nk, hk⟩
      · cases hu
      · rw [getD_set_ne nj, getD_set_ne nk]; exact g.dss j k s u hjk hj hs hk hu
  · rcases set_get hj with ⟨_, rfl, _⟩ | ⟨nj, hj⟩
    · cases hs
    · rw [getD_set_ne nj]; exact g.dst j s hj hs t ht h3
  · rcases set_get h with ⟨_, h, _⟩ | ⟨_, h⟩
    · cases h
    · exact g.one j _ h
/-- an owned list is stored -/
theorem Good.setO {i : Nat} {x : V} {ds : List PyData} (g : Good F env σ ((x, .o ds) :: T) H O) (n : NoB T) : Good F (env.set i (.o ds)) (σ.set i (some x)) T H O := by
  obtain ⟨a, vs, rfl, h2, h3, h4, h5⟩ := g.tm _ List.mem_cons_self
  have d := List.pairwise_cons.mp g.dtt
  refine ⟨by simpa using g.len, g.oin, g.o0, g.h0, g.ion, g.keep, g.keep0, g.new, fun j s hs => ?_, fun t ht => (g.tm t (List.mem_cons_of_mem _ ht)).sig (n t ht), fun j k s u hjk hj hs hk hu => ?_, fun j s hj hs t ht h3 => ?_, d.2, fun j es h => ?_⟩
  · rcases set_get hs with ⟨rfl, rfl, hl⟩ | ⟨hj, hs⟩
    · exact ⟨a, vs, getD_set_self (by rw [← g.len]; exact hl), h2, h3, h4, h5⟩
    · rw [getD_set_ne hj]; exact g.sl j s hs
  · rcases set_get hj with ⟨rfl, rfl, hl⟩ | ⟨nj, hj'⟩
    · rcases set_get hk with ⟨rfl, _, _⟩ | ⟨nk, hk⟩
      · exact absurd rfl hjk
      · rw [getD_set_ne nk, getD_set_self (by rw [← g.len]; exact hl)]
        exact Ne.symm (g.dst k u hk hu _ List.mem_cons_self rfl)
    · rcases set_get hk with ⟨rfl, rfl, hl⟩ | ⟨nk, hk⟩
      · rw [getD_set_ne nj, getD_set_self (by rw [← g.len]; exact hl)]
        exact g.dst j s hj' hs _ List.mem_cons_self rfl
      · rw [getD_set_ne nj, getD_set_ne nk]; exact g.dss j k s u hjk hj' hs hk hu
  · rcases set_get hj with ⟨rfl, rfl, hl⟩ | ⟨nj, hj⟩
    · rw [getD_set_self (by rw [← g.len]; exact hl)]
      intro z
      exact d.1 t ht rfl h3 (Option.some.inj z)
    · rw [getD_set_ne nj]; exact g.dst j s hj hs t (List.mem_cons_of_mem _ ht) h3
  · rcases set_get h with ⟨_, h, _⟩ | ⟨_, h⟩
    · cases h
    · exact g.one j _ h
/-- an owned list, or the one handed in, is changed where it stands -/
theorem Good.change {i : Nat} {a : Addr} {ds : List PyData} {vs' : List V} {ds' : List PyData} {s s' : Sl} (g : Good F env σ T H O) (hi : env[i]? = some s) (hs : (s = .o ds ∧ s' = .o ds') ∨ (s = .io ds ∧ s' = .io ds')) (ha : (σ[i]?).getD none = some (.ref a))
    (r : Reps F.K (hid O H) vs' ds') : Good F (env.set i s') σ T (upd H a (.lst vs')) O := by
  have base : ∃ vs, H a = some (.lst vs) ∧ a ∈ O ∧ (F.H0 a = none ∨ F.io = some a) := by
    have := g.sl i s hi
    rcases hs with ⟨rfl, _⟩ | ⟨rfl, _⟩
    · obtain ⟨b, vs, h1, h2, h3, h4, _⟩ := this
      rw [ha] at h1; cases h1
      exact ⟨vs, h2, h3, .inl h4⟩
    · obtain ⟨b, vs, h1, h2, h3, h4, _⟩ := this
      rw [ha] at h1; cases h1
      exact ⟨vs, h3, h4, .inr h2⟩
  obtain ⟨vs, h2, h3, h4⟩ := base
  have eq : hid O (upd H a (.lst vs')) = hid O H := hid_upd h3
  have e : Sub (hid O H) (hid O (upd H a (.lst vs'))) := by rw [eq]; exact Sub.refl _
  have hil : i < env.length := (List.getElem?_eq_some_iff.mp hi).1
  have oth : ∀ (j : Nat) (u : Sl), j ≠ i → env[j]? = some u → ∀ b, (isO u = true ∨ (∃ ds, u = .io ds)) → (σ[j]?).getD none = some (.ref b) → b ≠ a := fun j u hj hu b hb hσ z => by
    subst z
    rcases hs with ⟨rfl, rfl⟩ | ⟨rfl, rfl⟩
    · rcases hb with hb | ⟨es, rfl⟩
      · exact g.dss j i u _ hj hu hb hi rfl (hσ.trans ha.symm)
      · obtain ⟨c, ws, q1, q2, _⟩ := g.sl j _ hu
        obtain ⟨c', ws', q1', _, _, q4', _⟩ := g.sl i _ hi
        rw [hσ] at q1; cases q1
        rw [ha] at q1'; cases q1'
        exact g.io_ne q4' q2
    · rcases hb with hb | ⟨es, rfl⟩
      · cases u with
        | o es =>
          obtain ⟨c, ws, q1, _, _, q4, _⟩ := g.sl j _ hu
          obtain ⟨c', ws', q1', q2', _⟩ := g.sl i _ hi
          rw [hσ] at q1; cases q1
          rw [ha] at q1'; cases q1'
          exact g.io_ne q4 q2'
        | _ => cases hb
      · exact hj ((g.one j es hu).trans (g.one i ds hi).symm)
  refine ⟨by simpa using g.len, fun b hb => ?_, g.o0, g.h0, g.ion, fun b u h n => ?_, fun b h => ?_, g.new, fun j u hu => ?_, fun t ht => ?_, fun j k s u hjk hj hs' hk hu => ?_, fun j u hj hu t ht h5 => ?_, g.dtt, fun j es h => ?_⟩
  · by_cases hb' : b = a
    · subst hb'; rw [upd_same]; simp
    · rw [upd_ne hb']; exact g.oin b hb
  · rw [upd_ne]
    · exact g.keep b u h n
    · rintro rfl
      rcases h4 with h4 | h4
      · rw [h4] at h; cases h
      · exact n h4
  · by_cases hb' : b = a
    · subst hb'; rw [upd_same]; simp
    · rw [upd_ne hb']; exact g.keep0 b h
  · rcases set_get hu with ⟨rfl, rfl, _⟩ | ⟨hj, hu⟩
    · rcases hs with ⟨rfl, rfl⟩ | ⟨rfl, rfl⟩
      · obtain ⟨b, ws, q1, _, q3, q4, _⟩ := g.sl j _ hi
        rw [ha] at q1; cases q1
        exact ⟨_, vs', ha, upd_same, h3, q4, by rw [eq]; exact r⟩
      · obtain ⟨b, ws, q1, q2, _, _, _⟩ := g.sl j _ hi
        rw [ha] at q1; cases q1
        exact ⟨_, vs', ha, q2, upd_same, h3, by rw [eq]; exact r⟩
    · have old := g.sl j u hu
      cases u with
      | no => trivial
      | v d => obtain ⟨v, q1, q2⟩ := old; exact ⟨v, q1, q2.mono e⟩
      | sc ns => obtain ⟨b, q1, q2⟩ := old; exact ⟨b, q1, e.sqL q2⟩
      | o es =>
        obtain ⟨b, ws, q1, q2, q3, q4, q5⟩ := old
        exact ⟨b, ws, q1, by rw [upd_ne (oth j _ hj hu b (.inl rfl) q1)]; exact q2, q3, q4, q5.mono e⟩
      | io es =>
        obtain ⟨b, ws, q1, q2, q3, q4, q5⟩ := old
        exact ⟨b, ws, q1, q2, by rw [upd_ne (oth j _ hj hu b (.inr ⟨_, rfl⟩) q1)]; exact q3, q4, q5.mono e⟩
  · refine (g.tm t ht).mono e fun b ws hb e1 e2 q => ⟨?_, hb⟩
    rw [upd_ne]
    · exact q
    · rintro rfl
      rcases hs with ⟨rfl, rfl⟩ | ⟨rfl, rfl⟩
      · exact g.dst i _ hi rfl t ht e2 (by rw [ha, e1])
      · obtain ⟨c', ws', q1', q2', _⟩ := g.sl i _ hi
        rw [ha] at q1'; cases q1'
        have := g.tm t ht
        obtain ⟨v, r⟩ := t
        cases r with
        | o es =>
          obtain ⟨c, ws2, p1, _, _, p4, _⟩ := this
          have e1 : v = .ref b := e1
          have p1 : v = .ref c := p1
          rw [e1] at p1; cases p1
          exact g.io_ne p4 q2'
        | _ => cases e2
  · have back : ∀ (j : Nat) u, (env.set i s')[j]? = some u → isO u = true → ∃ u', env[j]? = some u' ∧ isO u' = true := fun j u hu ho => by
      rcases set_get hu with ⟨rfl, rfl, _⟩ | ⟨hj, hu⟩
      · rcases hs with ⟨rfl, rfl⟩ | ⟨rfl, rfl⟩
        · exact ⟨_, hi, rfl⟩
        · cases ho
      · exact ⟨u, hu, ho⟩
    obtain ⟨u1, a1, a2⟩ := back j s hj hs'
    obtain ⟨u2, b1, b2⟩ := back k u hk hu
    exact g.dss j k u1 u2 hjk a1 a2 b1 b2
  · rcases set_get hj with ⟨rfl, rfl, _⟩ | ⟨nj, hj⟩
    · rcases hs with ⟨rfl, rfl⟩ | ⟨rfl, rfl⟩
      · exact g.dst j _ hi rfl t ht h5
      · cases hu
    · exact g.dst j u hj hu t ht h5
  · rcases set_get h with ⟨rfl, h, _⟩ | ⟨_, h⟩
    · rcases hs with ⟨rfl, rfl⟩ | ⟨rfl, rfl⟩
      · cases h
      · exact g.one j _ hi
    · exact g.one j _ h
end
end Mp

set_option Elab.async false
set_option linter.all false
set_option maxRecDepth 100000
set_option maxHeartbeats 1000000
/-! Mp, part 4: promises, contexts, readings; operators. -/
namespace Mp
open PySem PySem.Spec PyProof.Rows L2

/-! ### what a def promises -/
def Hdv.k : Hdv → HdK
  | .no => .no
  | .io _ => .io
  | .sc _ => .sc
def headOk (K : PySem.W.Frag) (H : Hp) (O : List Addr) (hv : Hdv) (vs : List V) (io : Option Addr) (rest : List V) : Prop := match hv with
  | .no => rest = vs ∧ io = none
  | .io ds => ∃ a ws, vs = .ref a :: rest ∧ io = some a ∧ H a = some (.lst ws) ∧ a ∈ O ∧ Reps K (hid O H) ws ds
  | .sc ns => ∃ a, vs = .ref a :: rest ∧ io = none ∧ SqL K (hid O H) a (ns.map V.int)
def resOk (K : PySem.W.Frag) (H : Hp) (H' : Hp) (O' : List Addr) (v : V) (r : R) : Prop := match r with
  | .v d => Rep K (hid O' H') v d
  | .o ds => ∃ a vs, v = .ref a ∧ H' a = some (.lst vs) ∧ a ∈ O' ∧ H a = none ∧ Reps K (hid O' H') vs ds
  | .b _ => False
structure Left (K : PySem.W.Frag) (io : Option Addr) (H : Hp) (O : List Addr) (H' : Hp) (O' : List Addr) (v : V) (r : R) (h : Hdv) : Prop where
  keep : ∀ b u, H b = some u → io ≠ some b → H' b = some u
  keep0 : ∀ b, H b ≠ none → H' b ≠ none
  sub : ∀ a ∈ O, a ∈ O'
  new : ∀ a ∈ O', a ∈ O ∨ H a = none
  oin : ∀ a ∈ O', H' a ≠ none
  res : resOk K H H' O' v r
  hd : ∀ xs, h = .io xs → ∃ a ws, io = some a ∧ H' a = some (.lst ws) ∧ Reps K (hid O' H') ws xs
def prom (K : PySem.W.Frag) (mg : Str → Option Value) (k : HdK) (n : Nat) (s : FSpec) : Sp := fun vs H Q E => ∃ (hv : Hdv) (ds : List PyData) (O : List Addr) (io : Option Addr) (rest : List V),
  hv.k = k ∧ vs.length = n ∧ headOk K H O hv vs io rest ∧ Reps K (hid O H) rest ds ∧ (∀ a ∈ O, H a ≠ none) ∧ s.pre hv ds ∧
  (∀ r h v H' O', s.post hv ds r h → Left K io H O H' O' v r h → Q v H') ∧
  (∀ x C H', s.exc hv ds x → hv.k ≠ .io → mg x = some (.ref C) → Sub H H' → E (.ref C) none H')
def bltNames : List Str := ["len", "abs", "int", "str", "all", "any", "tuple", "list", "max", "min", "bool", "isinstance", "range", "enumerate", "zip"]
/-- what is known of the module, for defs up to the level L -/
structure Kn (G : GE) (L : Nat) (P : Program) (w : World) (K : PySem.W.Frag) (mg : Str → Option Value) (base : Heap) : Prop where
  con : ∀ k x d, G.con k = some (x, d) → ∃ v u, mg x = some u ∧ RelV v u ∧ Rep K (fun _ => none) v d
  fn : ∀ k fi, G.fni k = some fi → fi.lev ≤ L → ∃ (f : Addr) (fd : FuncData), mg fi.name = some (.ref f) ∧ PySem.W.keepIn K (.ref f) = true ∧ Binds K fd fi.pars [] ∧ FnOk P w K mg base (L2.CX P w) fi.lev f fd fi.pars (prom K mg fi.hd fi.pars.length (G.fns k))
  exc : ∀ x, G.excs.contains x = true → ∃ (C : Addr) (bmB : List Value) (B newId initId : String), mg x = some (.ref C) ∧ ExcBaseFacts B newId initId bmB ∧ PySem.W.excIn K C bmB newId = true ∧ PySem.W.keepIn K (.ref C) = true ∧
    PySem.W.subIn K (.ref C) (.type "BaseException") = some true ∧ PySem.W.typeIn K (.ref C) = some (.type "type")
  exm : ∀ x y b, G.exm x y = some b → ∃ C C' : Addr, mg x = some (.ref C) ∧ mg y = some (.ref C') ∧ PySem.W.exmOne K (.ref C) (.ref C') = some b
  blt : ∀ x ∈ bltNames, mg x = none
theorem Kn.mono {G : GE} {L L' : Nat} {P : Program} {w : World} {K : PySem.W.Frag} {mg : Str → Option Value} {base : Heap} (h : Kn G L P w K mg base) (l : L' ≤ L) : Kn G L' P w K mg base :=
  ⟨h.con, fun k fi e q => h.fn k fi e (Nat.le_trans q l), h.exc, h.exm, h.blt⟩

/-! ### contexts -/
structure Ctx (G : GE) (F : Cf) (N : List Str) (L : Nat) (sc : Scope) (W : WX) (X : Cx) : Prop where
  N : X.N = N
  K : X.K = F.K
  scE : X.env.scope = sc
  calm : X.calm = true
  nd : X.N.Nodup
  room : Room L X.A
  tk : Takes X W
  kn : Kn G L X.prog X.w X.K X.mg X.base

/-! ### readings -/
section
variable (G : GE) (F : Cf) (mg : Str → Option Value) (W : WX)
def ExOk (E : EX) (σ : St) (T : List (V × R)) : Prop := ∀ x C env' H' O', mg x = some (.ref C) → Good F env' σ T H' O' → E x env' → W (.ref C) none σ H'
def rdE (p : P) : TE := fun σ H Q => ∃ (env : Env) (T : List (V × R)) (O : List Addr) (Qd : R → Env → Prop) (E : EX), Good F env σ T H O ∧ wpE G p env Qd E ∧ (∀ r v env' H' O', Good F env' σ ((v, r) :: T) H' O' → Qd r env' → Q v H') ∧ ExOk F mg W E σ T
def rdT (p : P) : TT := fun σ H Q => ∃ (env : Env) (T : List (V × R)) (O : List Addr) (Qd : Bool → Env → Prop) (E : EX), Good F env σ T H O ∧ wpE G p env (fun r e => asB r fun b => Qd b e) E ∧ (∀ b env' H' O', Good F env' σ T H' O' → Qd b env' → Q b H') ∧ ExOk F mg W E σ T
end
theorem _root_.L2.PE.imp {X : Cx} {e : Expr} {t t' : TE} (h : PE X e t) (i : ∀ σ H Q, t' σ H Q → t σ H Q) : PE X e t' := ⟨fun pins s σ H Q I q => h.run pins s σ H Q I (i σ H Q q)⟩
theorem _root_.L2.PT.imp {X : Cx} {e : Expr} {t t' : TT} (h : PT X e t) (i : ∀ σ H Q, t' σ H Q → t σ H Q) : PT X e t' := ⟨fun pins s σ H Q I q => h.run pins s σ H Q I (i σ H Q q)⟩
theorem _root_.L2.PA.imp {X : Cx} {e : List Expr} {t t' : TA} (h : PA X e t) (i : ∀ σ H Q, t' σ H Q → t σ H Q) : PA X e t' := ⟨fun pos pins s σ H Q I q => h.run pos pins s σ H Q I (i σ H Q q)⟩
theorem _root_.L2.PW.imp {X : Cx} {e : Expr} {t t' : TT} (h : PW X e t) (i : ∀ σ H Q, t' σ H Q → t σ H Q) : PW X e t' := ⟨fun wh pins s σ H Q I q => h.run wh pins s σ H Q I (i σ H Q q)⟩
theorem _root_.L2.PO.imp {X : Cx} {e : Option Expr} {t t' : TO} (h : PO X e t) (i : ∀ σ H Q, t' σ H Q → t σ H Q) : PO X e t' := ⟨fun pins s σ H Q I q => h.run pins s σ H Q I (i σ H Q q)⟩
theorem _root_.L2.PI.imp {X : Cx} {tg e : Expr} {t t' : TI} (h : PI X tg e t) (i : ∀ σ H Q, t' σ H Q → t σ H Q) : PI X tg e t' := ⟨fun pins s σ H Q I q => h.run pins s σ H Q I (i σ H Q q)⟩
theorem _root_.L2.PG.imp {X : Cx} {tg : Expr} {t t' : TG} (h : PG X tg t) (i : ∀ v σ H Q, t' v σ H Q → t v σ H Q) : PG X tg t' := ⟨fun pins s σ H v u Q I r q => h.run pins s σ H v u Q I r (i v σ H Q q)⟩
theorem _root_.L2.PS.imp {X : Cx} {st : Stmt} {t t' : TS} (h : PS X st t) (i : ∀ D σ H, t' D σ H → t D σ H) : PS X st t' := ⟨fun pins s σ H D I q => h.run pins s σ H D I (i D σ H q)⟩
theorem _root_.L2.PSs.imp {X : Cx} {st : List Stmt} {t t' : TS} (h : PSs X st t) (i : ∀ D σ H, t' D σ H → t D σ H) : PSs X st t' := ⟨fun pins s σ H D I q => h.run pins s σ H D I (i D σ H q)⟩

/-! ### what a result is in the heap -/
def RdV (K : PySem.W.Frag) (H : Hp) (O : List Addr) (v : V) (d : PyData) : Prop := Rep K (hid O H) v d ∨ ∃ a vs ds, v = .ref a ∧ d = .list ds ∧ H a = some (.lst vs) ∧ Reps K (hid O H) vs ds
def RdQ (K : PySem.W.Frag) (H : Hp) (O : List Addr) (v : V) (d : PyData) : Prop := RdV K H O v d ∨ ∃ a vs ds, v = .ref a ∧ d = .list ds ∧ SqL K H a vs ∧ Reps K (hid O H) vs ds
section
variable {K : PySem.W.Frag} {H : Hp} {O : List Addr} {v : V} {d : PyData}
theorem RdV.rep (h : RdV K H O v d) : Rep K H v d := by
  rcases h with h | ⟨a, vs, ds, rfl, rfl, h, r⟩
  · exact h.mono (hid_sub O H)
  · exact .lst h (r.mono (hid_sub O H))
theorem RdV.lst {ds : List PyData} (h : RdV K H O v (.list ds)) : ∃ a vs, v = .ref a ∧ H a = some (.lst vs) ∧ Reps K (hid O H) vs ds := by
  rcases h with h | ⟨a, vs, ds', rfl, e, h, r⟩
  · obtain ⟨a, vs, rfl, h, r⟩ := h.lst_inv
    exact ⟨a, vs, rfl, hid_sub O H _ _ h, r⟩
  · cases e
    exact ⟨a, vs, rfl, h, r⟩
theorem RdV.tup {ds : List PyData} (h : RdV K H O v (.tuple ds)) : ∃ a vs, v = .ref a ∧ SqT K H a vs ∧ SqT K (hid O H) a vs ∧ Reps K (hid O H) vs ds := by
  rcases h with h | ⟨a, vs, ds', rfl, e, h, r⟩
  · obtain ⟨a, vs, rfl, h, r⟩ := h.tup_inv
    exact ⟨a, vs, rfl, (hid_sub O H).sqT h, h, r⟩
  · cases e
theorem RdV.int {i : Int} (h : RdV K H O v (.int i)) : v = .int i := h.rep.int_inv
theorem RdV.bl {i : Bool} (h : RdV K H O v (.bool i)) : v = .bl i := h.rep.bl_inv
theorem RdV.str {i : Str} (h : RdV K H O v (.str i)) : v = .str i := h.rep.str_inv
theorem RdQ.lst {ds : List PyData} (h : RdQ K H O v (.list ds)) : ∃ a vs, v = .ref a ∧ SqL K H a vs ∧ Reps K (hid O H) vs ds := by
  rcases h with h | ⟨a, vs, ds', rfl, e, h, r⟩
  · obtain ⟨a, vs, rfl, h, r⟩ := h.lst
    exact ⟨a, vs, rfl, SqL.of h, r⟩
  · cases e
    exact ⟨a, vs, rfl, h, r⟩
theorem RdQ.nl (h : RdQ K H O v d) (n : ∀ ds, d ≠ .list ds) : RdV K H O v d := by
  rcases h with h | ⟨a, vs, ds', rfl, e, h, r⟩
  · exact h
  · exact absurd e (n _)
end
section
variable {F : Cf} {env : Env} {σ : St} {T : List (V × R)} {H : Hp} {O : List Addr}
theorem SlOk.rd {s : Sl} {x : V} {d : PyData} (h : SlOk F H O s (some x)) (hd : s.d = some d) : RdV F.K H O x d := by
  cases s with
  | no => cases hd
  | v e => obtain ⟨v, e1, r⟩ := h; cases e1; cases hd; exact .inl r
  | o ds => obtain ⟨a, vs, e1, h2, _, _, r⟩ := h; cases e1; cases hd; exact .inr ⟨a, vs, ds, rfl, rfl, h2, r⟩
  | io ds => obtain ⟨a, vs, e1, _, h2, _, r⟩ := h; cases e1; cases hd; exact .inr ⟨a, vs, ds, rfl, rfl, h2, r⟩
  | sc ns => cases hd
theorem Good.rd (g : Good F env σ T H O) {v : V} {r : R} {d : PyData} (ht : (v, r) ∈ T) (hd : r.d env = some d) : RdV F.K H O v d := by
  have t := g.tm _ ht
  cases r with
  | v e => cases hd; exact .inl t
  | o ds => obtain ⟨a, vs, e1, h2, _, _, q⟩ := t; cases hd; exact .inr ⟨a, vs, ds, e1, rfl, h2, q⟩
  | b i =>
    have t : σ[i]? = some (some v) := t
    simp only [R.d] at hd
    cases e : env[i]? with
    | none => rw [e] at hd; cases hd
    | some s =>
      rw [e] at hd
      have z := g.sl i s e
      rw [get_getD t] at z
      exact z.rd hd
theorem Good.rq (g : Good F env σ T H O) {v : V} {r : R} {d : PyData} (ht : (v, r) ∈ T) (hd : r.q env = some d) : RdQ F.K H O v d := by
  cases r with
  | v e => exact .inl (g.rd ht hd)
  | o ds => exact .inl (g.rd ht hd)
  | b i =>
    have t : σ[i]? = some (some v) := g.tm _ ht
    simp only [R.q] at hd
    cases e : env[i]? with
    | none => rw [e] at hd; cases hd
    | some s =>
      rw [e] at hd
      have z := g.sl i s e
      rw [get_getD t] at z
      cases s with
      | sc ns =>
        obtain ⟨a, e1, q⟩ := z
        cases e1
        cases hd
        exact .inr ⟨a, _, _, rfl, rfl, (hid_sub O H).sqL q, Reps.ints ns⟩
      | no => cases hd
      | v e => exact .inl (z.rd hd)
      | o ds => exact .inl (z.rd hd)
      | io ds => exact .inl (z.rd hd)
/-- the top of the stack is made a value -/
theorem Good.share {v : V} {r : R} {d : PyData} {env' : Env} (g : Good F env σ ((v, r) :: T) H O) (h : r.sh env = some (d, env')) : ∃ O', Good F env' σ ((v, .v d) :: T) H O' := by
  cases r with
  | v e => cases h; exact ⟨O, g⟩
  | o ds => cases h; exact g.shareT
  | b i =>
    have t : σ[i]? = some (some v) := g.tm _ List.mem_cons_self
    simp only [R.sh] at h
    cases e : env[i]? with
    | none => rw [e] at h; cases h
    | some s =>
      rw [e] at h
      cases s with
      | v e' =>
        cases h
        have z := g.sl i _ e
        rw [get_getD t] at z
        obtain ⟨w, e1, q⟩ := z
        cases e1
        exact ⟨O, g.pop.pushV q⟩
      | o ds =>
        cases h
        obtain ⟨O', g'⟩ := g.pop.shareS e
        have z := g'.sl i (.v (.list ds)) (List.getElem?_set_self (List.getElem?_eq_some_iff.mp e).1)
        rw [get_getD t] at z
        obtain ⟨w, e1, q⟩ := z
        cases e1
        exact ⟨O', g'.pushV q⟩
      | no => cases h
      | io ds => cases h
      | sc ns => cases h
end

/-! ### operators -/
theorem line_eq : line = sizeLine := by rw [sizeLine_eq]; rfl
section
variable {G : GE} {F : Cf} {N : List Str} {L : Nat} {sc : Scope} {W : WX} {X : Cx}
/-- two operands on the stack, an answer -/
def rBin (F : Cf) (op : PyData → PyData → (R → Prop) → Prop) : R2 := fun x y H Q => ∃ env σ T O rx ry d e Qr, Good F env σ ((y, ry) :: (x, rx) :: T) H O ∧ rx.d env = some d ∧ ry.d env = some e ∧ op d e Qr ∧ ∀ r v H' O', Good F env σ ((v, r) :: (y, ry) :: (x, rx) :: T) H' O' → Qr r → Q v H'
theorem CMul_of {i j : Int} (h : MulOk i j) : CMulW i j ∨ CMul i j := by
  rcases h with h | h | h
  · exact .inl h
  · exact .inr (.inl h)
  · exact .inr (.inr h)
theorem op_ok (C : Ctx G F N L sc W X) (op : Operator) : OpR X (binaryOp op) (rBin F (opB op)) := by
  intro pins s σ' H x y v u Q I rx ry h
  obtain ⟨env, σ, T, O, r1, r2, d, e, Qr, g, hd, he, ho, q⟩ := h
  have R1 := g.rd (List.mem_cons_of_mem _ List.mem_cons_self) hd
  have R2 := g.rd List.mem_cons_self he
  have g0 := g
  have K := C.K
  unfold opB at ho
  split at ho
  · obtain rfl := R1.int; obtain rfl := R2.int
    exact op_add pins s σ' H _ _ v u Q I rx ry ⟨_, _, rfl, rfl, q _ _ _ _ (g0.pushV (.int _)) ho⟩
  · obtain ⟨a, vs, rfl, h1, h2⟩ := R1.lst
    obtain ⟨b, ws, rfl, h3, h4⟩ := R2.lst
    refine op_cat pins s σ' H _ _ v u Q I rx ry ⟨a, b, vs, ws, rfl, rfl, h1, h3, ?_, fun p hp => q _ _ _ _ (g0.pushO hp (h2.append h4)) ho.2⟩
    rw [← line_eq, h2.length, h4.length]; exact ho.1
  · obtain ⟨a, vs, rfl, h1, h1', h2⟩ := R1.tup
    obtain ⟨b, ws, rfl, h3, h3', h4⟩ := R2.tup
    refine op_catA pins s σ' H _ _ v u Q I rx ry ⟨a, b, vs, ws, rfl, rfl, by rw [K]; exact h1, by rw [K]; exact h3, ?_, fun z => ?_, fun z z' => ?_, fun z z' p hp => ?_⟩
    · rw [← line_eq, h2.length, h4.length]; exact ho.1
    · have z2 := h2.nil_iff.mp z
      subst z2
      exact q _ _ _ _ (g0.pushV (.tup h3' h4)) ho.2
    · have z2 := h4.nil_iff.mp z'
      subst z2
      rw [List.append_nil] at ho
      exact q _ _ _ _ (g0.pushV (.tup h1' h2)) ho.2
    · exact q _ _ _ _ (g0.pushT hp (h2.append h4)) ho.2
  · obtain rfl := R1.str; obtain rfl := R2.str
    exact op_add_str pins s σ' H _ _ v u Q I rx ry ⟨_, _, rfl, rfl, by rw [← line_eq]; exact ho.1, q _ _ _ _ (g0.pushV (.str _)) ho.2⟩
  · obtain rfl := R1.int; obtain rfl := R2.int
    exact op_sub pins s σ' H _ _ v u Q I rx ry ⟨_, _, rfl, rfl, q _ _ _ _ (g0.pushV (.int _)) ho⟩
  · obtain rfl := R1.int; obtain rfl := R2.int
    have q' := q _ _ _ _ (g0.pushV (.int _)) ho.2
    rcases CMul_of ho.1 with c | c
    · exact op_mulW pins s σ' H _ _ v u Q I rx ry ⟨_, _, rfl, rfl, c, q'⟩
    · exact op_mul pins s σ' H _ _ v u Q I rx ry ⟨_, _, rfl, rfl, c, q'⟩
  · obtain ⟨a, vs, rfl, h1, h2⟩ := R1.lst
    obtain rfl := R2.int
    refine op_rep pins s σ' H _ _ v u Q I rx ry ⟨a, _, vs, rfl, rfl, h1, ho.1.1, ho.1.2.1, ?_, fun p hp => q _ _ _ _ (g0.pushO hp (h2.replicate _)) ho.2⟩
    rw [← line_eq, h2.length]; exact ho.1.2.2
  · obtain ⟨a, vs, rfl, h1, h1', h2⟩ := R1.tup
    obtain rfl := R2.int
    refine op_repT pins s σ' H _ _ v u Q I rx ry ⟨a, _, vs, rfl, rfl, by rw [K]; exact h1, fun z => ho.1.1 (h2.nil_iff.mp z), ho.1.2.1, ho.1.2.2.1, ?_, fun p hp => q _ _ _ _ (g0.pushT hp (h2.replicate _)) ho.2⟩
    rw [h2.length]; exact ho.1.2.2.2
  · obtain rfl := R1.int; obtain rfl := R2.int
    exact op_fdivW pins s σ' H _ _ v u Q I rx ry ⟨_, _, rfl, rfl, ho.1, q _ _ _ _ (g0.pushV (.int _)) ho.2⟩
  · obtain rfl := R1.int; obtain rfl := R2.int
    exact op_mod pins s σ' H _ _ v u Q I rx ry ⟨_, _, rfl, rfl, ho.1, q _ _ _ _ (g0.pushV (.int _)) ho.2⟩
  · obtain rfl := R1.int; obtain rfl := R2.int
    exact op_pow pins s σ' H _ _ v u Q I rx ry ⟨_, _, rfl, rfl, ho.1, q _ _ _ _ (g0.pushV (.int _)) ho.2⟩
  · exact ho.elim
theorem hu64 (C : Ctx G F N L sc W X) : X.A.units + 64 < cLine := C.room.units
theorem hu65 (C : Ctx G F N L sc W X) : X.A.units + 65 < cLine := by have := C.room.un; omega
def blP (op : PyData → PyData → (Bool → Prop) → Prop) : PyData → PyData → (R → Prop) → Prop := fun d e Q => op d e fun b => Q (.v (.bool b))
theorem Rep.isNon {K : PySem.W.Frag} {H : Hp} {v : V} {d : PyData} (h : Rep K H v d) : decide (v = .non) = isNone d := by
  cases h <;> rfl
theorem scal_of {K : PySem.W.Frag} {H : Hp} {v u : V} {d e : PyData} (h : Rep K H v d) (h' : Rep K H u e) (s : scalD d e = true) : scal v u = true ∧ decide (v = u) = PyData.eqv d e := by
  cases h <;> cases h' <;> first
    | (refine ⟨rfl, ?_⟩; simp only [PyData.eqv, dec_int, dec_bl, dec_str]; done)
    | (refine ⟨rfl, ?_⟩; simp [PyData.eqv]; done)
    | (exact absurd s Bool.false_ne_true)
theorem cmp_ok (C : Ctx G F N L sc W X) (op : CmpOp) : OpR X (compareOp op) (rBin F (blP (opC op))) := by
  intro pins s σ' H x y v u Q I rx ry h
  obtain ⟨env, σ, T, O, r1, r2, d, e, Qr, g, hd, he, ho, q⟩ := h
  have R1 := g.rd (List.mem_cons_of_mem _ List.mem_cons_self) hd
  have R2 := g.rd List.mem_cons_self he
  have g0 := g
  have K := C.K
  have fin : ∀ b, Qr (.v (.bool b)) → Q (.bl b) H := fun b h => q _ _ _ _ (g0.pushV (.bl b)) h
  unfold blP opC at ho
  split at ho
  · obtain ⟨o1, o2⟩ := ho
    rcases Bool.or_eq_true_iff.mp o1 with o1 | o1
    · obtain ⟨z1, z2⟩ := scal_of R1.rep R2.rep o1
      exact op_eq pins s σ' H _ _ v u Q I rx ry ⟨z1, by rw [z2]; exact fin _ o2⟩
    · obtain ⟨z1, z2⟩ := Bool.and_eq_true_iff.mp o1
      exact op_eqD (hu64 C) pins s σ' H _ _ v u Q I rx ry ⟨_, _, by rw [K]; exact R1.rep.dp, by rw [K]; exact R2.rep.dp, z1, z2, fin _ o2⟩
  · obtain ⟨o1, o2⟩ := ho
    rcases Bool.or_eq_true_iff.mp o1 with o1 | o1
    · obtain ⟨z1, z2⟩ := scal_of R1.rep R2.rep o1
      exact op_ne pins s σ' H _ _ v u Q I rx ry ⟨z1, by rw [z2]; exact fin _ o2⟩
    · obtain ⟨z1, z2⟩ := Bool.and_eq_true_iff.mp o1
      exact op_neD (hu64 C) pins s σ' H _ _ v u Q I rx ry ⟨_, _, by rw [K]; exact R1.rep.dp, by rw [K]; exact R2.rep.dp, z1, z2, fin _ o2⟩
  · obtain rfl := R1.int; obtain rfl := R2.int
    exact op_lt pins s σ' H _ _ v u Q I rx ry ⟨_, _, rfl, rfl, fin _ ho⟩
  · obtain rfl := R1.int; obtain rfl := R2.int
    exact op_le pins s σ' H _ _ v u Q I rx ry ⟨_, _, rfl, rfl, fin _ ho⟩
  · obtain rfl := R1.int; obtain rfl := R2.int
    exact op_gt pins s σ' H _ _ v u Q I rx ry ⟨_, _, rfl, rfl, fin _ ho⟩
  · obtain rfl := R1.int; obtain rfl := R2.int
    exact op_ge pins s σ' H _ _ v u Q I rx ry ⟨_, _, rfl, rfl, fin _ ho⟩
  · exact op_isN pins s σ' H _ _ v u Q I rx ry ⟨R2.rep.non_inv, by rw [R1.rep.isNon]; exact fin _ ho⟩
  · exact op_notN pins s σ' H _ _ v u Q I rx ry ⟨R2.rep.non_inv, by rw [R1.rep.isNon]; exact fin _ ho⟩
  · exact op_inD (hu65 C) pins s σ' H _ _ v u Q I rx ry ⟨_, _, by rw [K]; exact R1.rep.dp, by rw [K]; exact R2.rep.dp, ho.1.1, ho.1.2, fin _ ho.2⟩
  · obtain ⟨as, q1⟩ := Dp.reads I _ x v (by rw [K]; exact R1.rep.dp) rx
    obtain ⟨bs, q2⟩ := Dp.reads I _ y u (by rw [K]; exact R2.rep.dp) ry
    exact SeqAt.in_tuple_reads q2 q1 (SeqAt.canLay_of_shaped ho.1.2) (SeqAt.canLay_of_shaped ho.1.1) (room_in_shaped ho.1.1 (hu65 C)) ⟨.bl _, H, I, rfl, fin _ ho.2⟩
  · exact op_notInD (hu65 C) pins s σ' H _ _ v u Q I rx ry ⟨_, _, by rw [K]; exact R1.rep.dp, by rw [K]; exact R2.rep.dp, ho.1.1, ho.1.2, fin _ ho.2⟩
  · obtain ⟨as, q1⟩ := Dp.reads I _ x v (by rw [K]; exact R1.rep.dp) rx
    obtain ⟨bs, q2⟩ := Dp.reads I _ y u (by rw [K]; exact R2.rep.dp) ry
    exact SeqAt.notIn_tuple_reads q2 q1 (SeqAt.canLay_of_shaped ho.1.2) (SeqAt.canLay_of_shaped ho.1.1) (room_in_shaped ho.1.1 (hu65 C)) ⟨.bl _, H, I, rfl, fin _ ho.2⟩
  · exact ho.elim
end
end Mp

set_option Elab.async false
set_option linter.all false
set_option maxRecDepth 100000
set_option maxHeartbeats 1000000
/-! Mp, part 5: the rules of expressions. -/
namespace Mp
open PySem PySem.Spec PyProof.Rows L2
section
variable {G : GE} {F : Cf} {N : List Str} {L : Nat} {sc : Scope} {W : WX} {X : Cx}
variable {mg : Str → Option Value}
def Ps.len : Ps → Nat
  | .nil => 0
  | .cons _ r => r.len + 1
section
variable (G : GE) (F : Cf) (mg : Str → Option Value) (W : WX)
/-- arguments that are handed on -/
def rdEs (p : Ps) : TA := fun σ H Q => ∃ (env : Env) (T : List (V × R)) (O : List Addr) (Qd : List PyData → Env → Prop) (E : EX), Good F env σ T H O ∧ wpEs G p env Qd E ∧
  (∀ ds vs env' H' O', ds.length = p.len → Good F env' σ T H' O' → Reps F.K (hid O' H') vs ds → Qd ds env' → Q vs H') ∧ ExOk F mg W E σ T
/-- arguments that are read -/
def rdBs (p : Ps) : TA := fun σ H Q => ∃ (env : Env) (T : List (V × R)) (O : List Addr) (Qd : List PyData → Env → Prop) (E : EX), Good F env σ T H O ∧ wpBs G p env Qd E ∧
  (∀ ds vs env' H' O', Good F env' σ T H' O' → Paired (RdV F.K H' O') vs ds → Qd ds env' → Q vs H') ∧ ExOk F mg W E σ T
def rdBop (k : Bool) (p : Ps) : TE := fun σ H Q => ∃ (env : Env) (T : List (V × R)) (O : List Addr) (Qd : R → Env → Prop) (E : EX), Good F env σ T H O ∧ wpBop G k p env Qd E ∧
  (∀ r v env' H' O', Good F env' σ ((v, r) :: T) H' O' → Qd r env' → Q v H') ∧ ExOk F mg W E σ T
def rdBopT (k : Bool) (p : Ps) : TT := fun σ H Q => ∃ (env : Env) (T : List (V × R)) (O : List Addr) (Qd : Bool → Env → Prop) (E : EX), Good F env σ T H O ∧ wpBop G k p env (fun r e => asB r fun b => Qd b e) E ∧
  (∀ b env' H' O', Good F env' σ T H' O' → Qd b env' → Q b H') ∧ ExOk F mg W E σ T
def rdPo (p : Po) : TO := fun σ H Q => ∃ (env : Env) (T : List (V × R)) (O : List Addr) (Qd : Option Int → Env → Prop) (E : EX), Good F env σ T H O ∧ wpPo G p env Qd E ∧
  (∀ o env' H' O', Good F env' σ T H' O' → Qd o env' → Q o H') ∧ ExOk F mg W E σ T
def rdPc (p : Po) : TT := fun σ H Q => ∃ (env : Env) (T : List (V × R)) (O : List Addr) (Qd : Bool → Env → Prop) (E : EX), Good F env σ T H O ∧ wpPc G p env Qd E ∧
  (∀ b env' H' O', Good F env' σ T H' O' → Qd b env' → Q b H') ∧ ExOk F mg W E σ T
end
theorem ExOk.pop {E : EX} {σ : St} {T : List (V × R)} {t : V × R} (h : ExOk F mg W E σ T) : ExOk F mg W E σ (t :: T) := fun x C env' H' O' e g q => h x C env' H' O' e g.pop q
theorem asB_of {r : R} {Q : Bool → Prop} (h : asB r Q) : ∃ b, r = .v (.bool b) ∧ Q b := by
  unfold asB at h
  split at h
  · exact ⟨_, rfl, h⟩
  · exact h.elim
theorem asI_of {r : Option PyData} {Q : Int → Prop} (h : asI r Q) : ∃ b, r = some (.int b) ∧ Q b := by
  unfold asI at h
  split at h
  · exact ⟨_, rfl, h⟩
  · exact h.elim
theorem withD_of {r : Option PyData} {Q : PyData → Prop} (h : withD r Q) : ∃ b, r = some b ∧ Q b := by
  unfold withD at h
  split at h
  · exact ⟨_, rfl, h⟩
  · exact h.elim
theorem withS_of {r : Option (PyData × Env)} {Q : PyData → Env → Prop} (h : withS r Q) : ∃ d e, r = some (d, e) ∧ Q d e := by
  unfold withS at h
  split at h
  · exact ⟨_, _, rfl, h⟩
  · exact h.elim
theorem Good.topB {env : Env} {σ : St} {T : List (V × R)} {H : Hp} {O : List Addr} {v : V} {b : Bool} (g : Good F env σ ((v, .v (.bool b)) :: T) H O) : v = .bl b :=
  Rep.bl_inv (g.tm _ List.mem_cons_self)

/-! ### names and constants -/
theorem vis_of {sc : Scope} {x : Str} (h : visB sc x = true) : Vis sc x := by
  unfold visB at h
  split at h
  · exact .inl ‹_›
  · exact .inr (.inl ‹_›)
  · exact .inr (.inr ‹_›)
  · cases h
theorem ne_of_bnot {x y : Str} (h : (!(x == y)) = true) : (x == y) = false := by simpa using h
theorem gl_of (C : Ctx G F N L sc W X) {x : Str} (h : glB sc x = true) : Gl X x ∧ (x == ("__debug__" : Str)) = false := by
  unfold glB at h
  obtain ⟨h1, h2⟩ := Bool.and_eq_true_iff.mp h
  refine ⟨?_, ne_of_bnot h2⟩
  show X.env.scope.names.lookup x = _
  rw [C.scE]
  exact of_decide_eq_true h1
theorem snd_var (C : Ctx G F N L sc W X) {i : Nat} {x : Str} {pos : Pos} (h : varB N sc i x = true) : PE X (.Name x pos) (rdE G F X.mg W (.var i)) := by
  unfold varB at h
  simp only [Bool.and_eq_true, decide_eq_true_eq] at h
  obtain ⟨⟨⟨h1, h2⟩, h3⟩, h4⟩ := h
  refine (pe_var (i := i) (by rw [C.N]; exact h1) (by rw [C.scE]; exact vis_of h2) (ne_of_bnot h3) (ne_of_bnot h4)).imp fun σ H Q ⟨env, T, O, Qd, E, g, w, q, ex⟩ => ?_
  simp only [wpE] at w
  cases e : env[i]? with
  | none => rw [e] at w; exact w.elim
  | some s =>
    rw [e] at w
    have z := g.sl i s e
    cases s with
    | no => exact w.elim
    | v d =>
      obtain ⟨v, h1, h2⟩ := z
      exact ⟨v, getD_get h1, q _ _ _ _ _ (g.pushV h2) w⟩
    | o ds =>
      obtain ⟨a, vs, h1, _⟩ := z
      exact ⟨_, getD_get h1, q _ _ _ _ _ (g.pushB (getD_get h1)) w⟩
    | io ds =>
      obtain ⟨a, vs, h1, _⟩ := z
      exact ⟨_, getD_get h1, q _ _ _ _ _ (g.pushB (getD_get h1)) w⟩
    | sc ns =>
      obtain ⟨a, h1, _⟩ := z
      exact ⟨_, getD_get h1, q _ _ _ _ _ (g.pushB (getD_get h1)) w⟩
theorem snd_int (C : Ctx G F N L sc W X) {i : Int} {j : Nat} {pos : Pos} : PE X (.Constant (.int i) j pos) (rdE G F X.mg W (.int i)) :=
  pe_int.imp fun σ H Q ⟨env, T, O, Qd, E, g, w, q, ex⟩ => q _ _ _ _ _ (g.pushV (.int i)) w
theorem snd_bl (C : Ctx G F N L sc W X) {i : Bool} {j : Nat} {pos : Pos} : PE X (.Constant (.bool i) j pos) (rdE G F X.mg W (.bl i)) :=
  pe_bl.imp fun σ H Q ⟨env, T, O, Qd, E, g, w, q, ex⟩ => q _ _ _ _ _ (g.pushV (.bl i)) w
theorem snd_non (C : Ctx G F N L sc W X) {j : Nat} {pos : Pos} : PE X (.Constant .none j pos) (rdE G F X.mg W .non) :=
  pe_non.imp fun σ H Q ⟨env, T, O, Qd, E, g, w, q, ex⟩ => q _ _ _ _ _ (g.pushV .non) w
theorem snd_str (C : Ctx G F N L sc W X) {i : Str} {j : Nat} {pos : Pos} : PE X (.Constant (.str i) j pos) (rdE G F X.mg W (.str i)) :=
  pe_str.imp fun σ H Q ⟨env, T, O, Qd, E, g, w, q, ex⟩ => q _ _ _ _ _ (g.pushV (.str i)) w
theorem snd_con (C : Ctx G F N L sc W X) {k : Nat} {x : Str} {d : PyData} {pos : Pos} (hk : G.con k = some (x, d)) (h : glB sc x = true) : PE X (.Name x pos) (rdE G F X.mg W (.con k)) := by
  obtain ⟨g1, g2⟩ := gl_of C h
  obtain ⟨v, u, m, r, rp⟩ := C.kn.con k x d hk
  refine (pe_glob g1 m r g2).imp fun σ H Q ⟨env, T, O, Qd, E, g, w, q, ex⟩ => ?_
  simp only [wpE, hk] at w
  rw [C.K] at rp
  exact q _ _ _ _ _ (g.pushV (rp.mono fun a o z => by cases z)) w

/-! ### operators -/
section
variable {a b c : Expr} {p p' p'' : P} {pos : Pos}
theorem tOp_of {op : PyData → PyData → (R → Prop) → Prop} {σ : St} {H : Hp} {Q : VK} {env : Env} {T : List (V × R)} {O : List Addr} {Qd : R → Env → Prop} {E : EX} (g : Good F env σ T H O)
    (w : wpE G p env (fun x env1 => wpE G p' env1 (fun y env2 => withD (x.d env2) fun d => withD (y.d env2) fun e => op d e fun r => Qd r env2) E) E)
    (q : ∀ r v env' H' O', Good F env' σ ((v, r) :: T) H' O' → Qd r env' → Q v H') (ex : ExOk F mg W E σ T) : tOp (rBin F op) (rdE G F mg W p) (rdE G F mg W p') σ H Q := by
  refine ⟨env, T, O, _, E, g, w, fun r v env' H' O' g' w' => ?_, ex⟩
  refine ⟨env', _, O', _, E, g', w', fun r2 v2 env2 H2 O2 g2 w2 => ?_, ex.pop⟩
  obtain ⟨d, hd, w2⟩ := withD_of w2
  obtain ⟨e, he, w2⟩ := withD_of w2
  exact ⟨env2, σ, T, O2, r, r2, d, e, _, g2, hd, he, w2, fun r v H' O' g3 w3 => q _ _ _ _ _ g3.pop2.pop2 w3⟩
theorem snd_bin (C : Ctx G F N L sc W X) {op : Operator} (ha : PE X a (rdE G F X.mg W p)) (hb : PE X b (rdE G F X.mg W p')) : PE X (.BinOp a op b pos) (rdE G F X.mg W (.bin op p p')) :=
  (pe_op (op_ok C op) ha hb).imp fun σ H Q ⟨env, T, O, Qd, E, g, w, q, ex⟩ => by
    simp only [wpE] at w
    exact tOp_of g w q ex
theorem snd_neg (C : Ctx G F N L sc W X) (ha : PE X a (rdE G F X.mg W p)) : PE X (.UnaryOp .USub a pos) (rdE G F X.mg W (.neg p)) :=
  (pe_un un_neg ha).imp fun σ H Q ⟨env, T, O, Qd, E, g, w, q, ex⟩ => by
    simp only [wpE] at w
    refine ⟨env, T, O, _, E, g, w, fun r v env' H' O' g' w' => ?_, ex⟩
    obtain ⟨i, hi, w'⟩ := asI_of w'
    have := (g'.rd List.mem_cons_self hi).int
    subst this
    exact ⟨i, rfl, q _ _ _ _ _ (g'.pop.pushV (.int _)) w'⟩
theorem snd_cmp (C : Ctx G F N L sc W X) {op : CmpOp} (ha : PE X a (rdE G F X.mg W p)) (hb : PE X b (rdE G F X.mg W p')) (hm : behindInMarks op b = false) : PE X (.Compare a [op] [b] pos) (rdE G F X.mg W (.cmp op p p')) :=
  (pe_cmpR (cmp_ok C op) ha hb hm).imp fun σ H Q ⟨env, T, O, Qd, E, g, w, q, ex⟩ => by
    simp only [wpE] at w
    exact tOp_of (op := blP (opC op)) g w q ex
theorem snd_cmpT (C : Ctx G F N L sc W X) {op : CmpOp} (ha : PE X a (rdE G F X.mg W p)) (hb : PE X b (rdE G F X.mg W p')) (hm : behindInMarks op b = false) : PT X (.Compare a [op] [b] pos) (rdT G F X.mg W (.cmp op p p')) :=
  (pt_cmpR (cmp_ok C op) ha hb hm).imp fun σ H Q ⟨env, T, O, Qd, E, g, w, q, ex⟩ => by
    simp only [wpE] at w
    refine tOp_of (op := blP (opC op)) (Qd := fun r e => asB r fun b => Qd b e) g w (fun r v env' H' O' g' w' => ?_) ex
    obtain ⟨b, hz, w''⟩ := asB_of w'
    subst hz
    have w' := w''
    exact ⟨b, g'.topB, q _ _ _ _ g'.pop w'⟩
theorem chn_of {op op' : CmpOp} {σ : St} {H : Hp} {Q : VK} {env : Env} {T : List (V × R)} {O : List Addr} {Qd : R → Env → Prop} {E : EX} (g : Good F env σ T H O) (w : wpE G (.chn op op' p p' p'') env Qd E)
    (q : ∀ r v env' H' O', Good F env' σ ((v, r) :: T) H' O' → Qd r env' → Q v H') (ex : ExOk F mg W E σ T) :
    tChain (rBin F (blP (opC op))) (rBin F (blP (opC op'))) (rdE G F mg W p) (rdE G F mg W p') (rdE G F mg W p'') σ H Q := by
  simp only [wpE] at w
  refine ⟨env, T, O, _, E, g, w, fun r v env' H' O' g' w' => ?_, ex⟩
  refine ⟨env', _, O', _, E, g', w', fun r2 v2 env2 H2 O2 g2 w2 => ?_, ex.pop⟩
  obtain ⟨d, hd, w2⟩ := withD_of w2
  obtain ⟨e, he, w2⟩ := withD_of w2
  refine ⟨env2, σ, T, O2, r, r2, d, e, fun z => asB z fun k => if k = true then wpE G p'' env2 (fun z env3 => withD (r2.d env3) fun e' => withD (z.d env3) fun g => opC op' e' g fun r' => Qd (.v (.bool r')) env3) E else Qd (.v (.bool false)) env2, g2, hd, he, w2, fun z vz H3 O3 g3 w3 => ?_⟩
  obtain ⟨k, hz, w4⟩ := asB_of w3
  subst hz
  clear w3
  refine ⟨k, g3.topB, ?_⟩
  cases k with
  | false =>
    rw [if_neg Bool.false_ne_true] at w4 ⊢
    have := g3.topB
    subst this
    exact q _ _ _ _ _ g3.pop2.pop2 w4
  | true =>
    rw [if_pos rfl] at w4 ⊢
    refine ⟨env2, _, O3, _, E, g3.pop, w4, fun r4 v4 env4 H4 O4 g4 w4 => ?_, ex.pop.pop⟩
    obtain ⟨e', he', w4⟩ := withD_of w4
    obtain ⟨f', hf', w4⟩ := withD_of w4
    exact ⟨env4, σ, _, O4, r2, r4, e', f', _, g4, he', hf', (show blP (opC op') e' f' (fun r' => match r' with | .v (.bool x) => Qd (.v (.bool x)) env4 | _ => False) from w4), fun r5 v5 H5 O5 g5 w5 => by
      refine q _ _ _ _ _ g5.pop2.pop2.pop2 (?_ : Qd r5 env4)
      split at w5
      · exact w5
      · exact w5.elim⟩
theorem snd_chn (C : Ctx G F N L sc W X) {op op' : CmpOp} (ha : PE X a (rdE G F X.mg W p)) (hb : PE X b (rdE G F X.mg W p')) (hc : PE X c (rdE G F X.mg W p'')) (hm : lastMarks [op, op'] [b, c] = false) :
    PE X (.Compare a [op, op'] [b, c] pos) (rdE G F X.mg W (.chn op op' p p' p'')) :=
  (pe_chain (cmp_ok C op) (cmp_ok C op') ha hb hc hm).imp fun σ H Q ⟨env, T, O, Qd, E, g, w, q, ex⟩ => chn_of g w q ex
theorem snd_chnT (C : Ctx G F N L sc W X) {op op' : CmpOp} (ha : PE X a (rdE G F X.mg W p)) (hb : PE X b (rdE G F X.mg W p')) (hc : PE X c (rdE G F X.mg W p'')) (hm : lastMarks [op, op'] [b, c] = false) :
    PT X (.Compare a [op, op'] [b, c] pos) (rdT G F X.mg W (.chn op op' p p' p'')) :=
  (pt_chain (cmp_ok C op) (cmp_ok C op') ha hb hc hm).imp fun σ H Q ⟨env, T, O, Qd, E, g, w, q, ex⟩ => chn_of g w (fun r v env' H' O' g' w' => by
    obtain ⟨b, hz, w''⟩ := asB_of w'
    subst hz
    have w' := w''
    exact ⟨b, g'.topB, q _ _ _ _ g'.pop w'⟩) ex
/-- an expression of a truth value, as a test -/
theorem snd_val (he : PE X a (rdE G F X.mg W p)) (hp : ∀ whole, isTrue a X.env whole = (do let v ← whole; standAt a.pos; holding [v] (truthy v))) : PT X a (rdT G F X.mg W p) :=
  (pt_val he hp).imp fun σ H Q ⟨env, T, O, Qd, E, g, w, q, ex⟩ => ⟨env, T, O, _, E, g, w, fun r v env' H' O' g' w' => by
    obtain ⟨b, hz, w''⟩ := asB_of w'
    subst hz
    have w' := w''
    exact ⟨b, g'.topB, q _ _ _ _ g'.pop w'⟩, ex⟩
theorem snd_not (ha : PE X a (rdE G F X.mg W p)) : PE X (.UnaryOp .Not a pos) (rdE G F X.mg W (.not p)) :=
  (pe_not ha).imp fun σ H Q ⟨env, T, O, Qd, E, g, w, q, ex⟩ => by
    simp only [wpE] at w
    refine ⟨env, T, O, _, E, g, w, fun r v env' H' O' g' w' => ?_, ex⟩
    obtain ⟨b, hz, w''⟩ := asB_of w'
    subst hz
    have w' := w''
    exact ⟨b, g'.topB, q _ _ _ _ _ (g'.pop.pushV (.bl _)) w'⟩
theorem snd_notT (ha : PT X a (rdT G F X.mg W p)) : PT X (.UnaryOp .Not a pos) (rdT G F X.mg W (.not p)) :=
  (pt_not ha).imp fun σ H Q ⟨env, T, O, Qd, E, g, w, q, ex⟩ => by
    simp only [wpE] at w
    exact ⟨env, T, O, _, E, g, w, fun b env' H' O' g' w' => q _ _ _ _ g' w', ex⟩
theorem snd_ife {t : Expr} {pt : P} (ht : PT X t (rdT G F X.mg W pt)) (ha : PE X a (rdE G F X.mg W p)) (hb : PE X b (rdE G F X.mg W p')) : PE X (.IfExp t a b pos) (rdE G F X.mg W (.ife pt p p')) :=
  (pe_ifExp ht ha hb).imp fun σ H Q ⟨env, T, O, Qd, E, g, w, q, ex⟩ => by
    simp only [wpE] at w
    refine ⟨env, T, O, _, E, g, w, fun k env' H' O' g' w' => ?_, ex⟩
    cases k with
    | true => rw [if_pos rfl] at w' ⊢; exact ⟨env', T, O', _, E, g', w', q, ex⟩
    | false => rw [if_neg Bool.false_ne_true] at w' ⊢; exact ⟨env', T, O', _, E, g', w', q, ex⟩
/-! ### and, or -/
theorem snd_bop1 {k : Bool} {op : BoolOp} (ha : PE X a (rdE G F X.mg W p)) : PE X (.BoolOp op [a] pos) (rdBop G F X.mg W k (.cons p .nil)) :=
  (pe_one ha).imp fun σ H Q ⟨env, T, O, Qd, E, g, w, q, ex⟩ => ⟨env, T, O, Qd, E, g, by simpa only [wpBop] using w, q, ex⟩
theorem snd_bopA {rest : List Expr} {r : Ps} (ha : PE X a (rdE G F X.mg W p)) (hb : PE X (.BoolOp .And (b :: rest) pos) (rdBop G F X.mg W true (.cons p' r))) :
    PE X (.BoolOp .And (a :: b :: rest) pos) (rdBop G F X.mg W true (.cons p (.cons p' r))) :=
  (pe_and ha hb).imp fun σ H Q ⟨env, T, O, Qd, E, g, w, q, ex⟩ => by
    simp only [wpBop] at w
    refine ⟨env, T, O, _, E, g, w, fun x v env' H' O' g' w' => ?_, ex⟩
    obtain ⟨c, hz, w''⟩ := asB_of w'
    subst hz
    have w' := w''
    refine ⟨c, g'.topB, ?_⟩
    cases c with
    | true => rw [if_pos rfl] at w' ⊢; exact ⟨env', T, O', _, E, g'.pop, w', q, ex⟩
    | false =>
      rw [if_neg Bool.false_ne_true] at w' ⊢
      exact q _ _ _ _ _ (g'.pop.pushV (.bl _)) w'
theorem snd_bopO {rest : List Expr} {r : Ps} (ha : PE X a (rdE G F X.mg W p)) (hb : PE X (.BoolOp .Or (b :: rest) pos) (rdBop G F X.mg W false (.cons p' r))) :
    PE X (.BoolOp .Or (a :: b :: rest) pos) (rdBop G F X.mg W false (.cons p (.cons p' r))) :=
  (pe_or ha hb).imp fun σ H Q ⟨env, T, O, Qd, E, g, w, q, ex⟩ => by
    simp only [wpBop] at w
    refine ⟨env, T, O, _, E, g, w, fun x v env' H' O' g' w' => ?_, ex⟩
    obtain ⟨c, hz, w''⟩ := asB_of w'
    subst hz
    have w' := w''
    refine ⟨c, g'.topB, ?_⟩
    cases c with
    | true =>
      rw [if_neg (by decide)] at w'
      rw [if_pos rfl]
      exact q _ _ _ _ _ (g'.pop.pushV (.bl _)) w'
    | false =>
      rw [if_pos rfl] at w'
      rw [if_neg Bool.false_ne_true]
      exact ⟨env', T, O', _, E, g'.pop, w', q, ex⟩
theorem snd_bop1AT (ha : PT X a (rdT G F X.mg W p)) : PW X (.BoolOp .And [a] pos) (rdBopT G F X.mg W true (.cons p .nil)) :=
  (pw_and1 ha).imp fun σ H Q ⟨env, T, O, Qd, E, g, w, q, ex⟩ => ⟨env, T, O, Qd, E, g, by simpa only [wpBop] using w, q, ex⟩
theorem snd_bop1OT (ha : PT X a (rdT G F X.mg W p)) : PW X (.BoolOp .Or [a] pos) (rdBopT G F X.mg W false (.cons p .nil)) :=
  (pw_or1 ha).imp fun σ H Q ⟨env, T, O, Qd, E, g, w, q, ex⟩ => ⟨env, T, O, Qd, E, g, by simpa only [wpBop] using w, q, ex⟩
theorem snd_bopAT {rest : List Expr} {r : Ps} (ha : PT X a (rdT G F X.mg W p)) (hb : PW X (.BoolOp .And (b :: rest) pos) (rdBopT G F X.mg W true (.cons p' r))) :
    PW X (.BoolOp .And (a :: b :: rest) pos) (rdBopT G F X.mg W true (.cons p (.cons p' r))) :=
  (pw_and ha hb).imp fun σ H Q ⟨env, T, O, Qd, E, g, w, q, ex⟩ => by
    simp only [wpBop] at w
    refine ⟨env, T, O, _, E, g, w, fun c env' H' O' g' w' => ?_, ex⟩
    cases c with
    | true => rw [if_pos rfl] at w' ⊢; exact ⟨env', T, O', _, E, g', w', q, ex⟩
    | false =>
      rw [if_neg Bool.false_ne_true] at w' ⊢
      exact q _ _ _ _ g' w'
theorem snd_bopOT {rest : List Expr} {r : Ps} (ha : PT X a (rdT G F X.mg W p)) (hb : PW X (.BoolOp .Or (b :: rest) pos) (rdBopT G F X.mg W false (.cons p' r))) :
    PW X (.BoolOp .Or (a :: b :: rest) pos) (rdBopT G F X.mg W false (.cons p (.cons p' r))) :=
  (pw_or ha hb).imp fun σ H Q ⟨env, T, O, Qd, E, g, w, q, ex⟩ => by
    simp only [wpBop] at w
    refine ⟨env, T, O, _, E, g, w, fun c env' H' O' g' w' => ?_, ex⟩
    cases c with
    | true =>
      rw [if_neg (by decide)] at w'
      rw [if_pos rfl]
      exact q _ _ _ _ g' w'
    | false =>
      rw [if_pos rfl] at w'
      rw [if_neg Bool.false_ne_true]
      exact ⟨env', T, O', _, E, g', w', q, ex⟩
end

/-! ### displays, items, slices -/
section
variable {a b c : Expr} {p p' p'' : P} {pos : Pos} {es : List Expr} {ps : Ps}
theorem snd_nil : PA X [] (rdEs G F X.mg W .nil) :=
  pa_nil.imp fun σ H Q ⟨env, T, O, Qd, E, g, w, q, ex⟩ => q _ _ _ _ _ rfl g .nil (by simpa only [wpEs] using w)
theorem star_cons {e : Expr} {es : List Expr} {env : PySem.Env} (h : notStar e = true) : starEach (e :: es) env = (false, eval e env) :: starEach es env := by
  cases e <;> first
    | rfl
    | cases h
theorem snd_cons (hs : notStar a = true) (ha : PE X a (rdE G F X.mg W p)) (hr : PA X es (rdEs G F X.mg W ps)) : PA X (a :: es) (rdEs G F X.mg W (.cons p ps)) :=
  (pa_cons ha hr (star_cons hs)).imp fun σ H Q ⟨env, T, O, Qd, E, g, w, q, ex⟩ => by
    simp only [wpEs] at w
    refine ⟨env, T, O, _, E, g, w, fun r v env' H' O' g' w' => ?_, ex⟩
    obtain ⟨d, env2, hd, w'⟩ := withS_of w'
    obtain ⟨O2, g2⟩ := g'.share hd
    refine ⟨env2, _, O2, _, E, g2, w', fun ds vs env3 H3 O3 l3 g3 r3 w3 => ?_, ex.pop⟩
    exact q _ _ _ _ _ (by show ds.length + 1 = ps.len + 1; rw [l3]) g3.pop (.cons (g3.tm _ List.mem_cons_self) r3) w3
theorem snd_bnil : PA X [] (rdBs G F X.mg W .nil) :=
  pa_nil.imp fun σ H Q ⟨env, T, O, Qd, E, g, w, q, ex⟩ => q _ _ _ _ _ g .nil (by simpa only [wpBs] using w)
theorem snd_bcons (hs : notStar a = true) (ha : PE X a (rdE G F X.mg W p)) (hr : PA X es (rdBs G F X.mg W ps)) : PA X (a :: es) (rdBs G F X.mg W (.cons p ps)) :=
  (pa_cons ha hr (star_cons hs)).imp fun σ H Q ⟨env, T, O, Qd, E, g, w, q, ex⟩ => by
    simp only [wpBs] at w
    refine ⟨env, T, O, _, E, g, w, fun r v env' H' O' g' w' => ?_, ex⟩
    refine ⟨env', _, O', _, E, g', w', fun ds vs env3 H3 O3 g3 r3 w3 => ?_, ex.pop⟩
    obtain ⟨d, hd, w3⟩ := withD_of w3
    exact q _ _ _ _ _ g3.pop (.cons (g3.rd List.mem_cons_self hd) r3) w3
theorem snd_tup {k : Nat} (h : PA X es (rdEs G F X.mg W ps)) : PE X (.Tuple es k pos) (rdE G F X.mg W (.tup ps)) :=
  (pe_tup h).imp fun σ H Q ⟨env, T, O, Qd, E, g, w, q, ex⟩ => by
    simp only [wpE] at w
    refine ⟨env, T, O, _, E, g, w, fun ds vs env' H' O' _ g' r' w' => ?_, ex⟩
    refine ⟨by rw [r'.length, ← line_eq]; exact w'.1, fun p hp => q _ _ _ _ _ (g'.pushT hp r') w'.2⟩
theorem snd_lst (h : PA X es (rdEs G F X.mg W ps)) : PE X (.List es pos) (rdE G F X.mg W (.lst ps)) :=
  (pe_lst h).imp fun σ H Q ⟨env, T, O, Qd, E, g, w, q, ex⟩ => by
    simp only [wpE] at w
    refine ⟨env, T, O, _, E, g, w, fun ds vs env' H' O' _ g' r' w' => ?_, ex⟩
    refine ⟨by rw [r'.length, ← line_eq]; exact w'.1, fun p hp => q _ _ _ _ _ (g'.pushO hp r') w'.2⟩
/-- an item: the first operand may be the script -/
def rItem (F : Cf) : R2 := fun x y H Q => ∃ env σ T O rx ry d e Qr, Good F env σ ((y, ry) :: (x, rx) :: T) H O ∧ rx.q env = some d ∧ ry.d env = some e ∧ opI d e Qr ∧ ∀ r v H' O', Good F env σ ((v, r) :: (y, ry) :: (x, rx) :: T) H' O' → Qr r → Q v H'
theorem atI_reps {K : PySem.W.Frag} {H : Hp} {vs : List V} {ds : List PyData} {k : Int} {d : PyData} (r : Reps K H vs ds) (h : L2.atI ds k = some d) : ∃ v, L2.atI vs k = some v ∧ Rep K H v d := by
  unfold L2.atI at h ⊢
  rw [r.length]
  cases e : ixN ds.length k with
  | none => rw [e] at h; cases h
  | some j =>
    rw [e] at h
    exact r.get (i := j) h
theorem ix_ok (C : Ctx G F N L sc W X) : IxR X (rItem F) := by
  intro value slice pins s σ' H x y v u Q I rx ry h hsub
  obtain ⟨env, σ, T, O, r1, r2, d, e, Qr, g, hd, he, ho, q⟩ := h
  have R1 := g.rq (List.mem_cons_of_mem _ List.mem_cons_self) hd
  have R2 := g.rd List.mem_cons_self he
  have K := C.K
  unfold opI at ho
  split at ho
  · obtain ⟨a, vs, rfl, h1, h2⟩ := R1.lst
    obtain rfl := R2.int
    unfold ixAt at ho
    split at ho
    · rename_i d' hd'
      obtain ⟨w', hw, rw'⟩ := atI_reps h2 hd'
      exact ix_list value slice pins s σ' H _ _ v u Q I rx ry ⟨a, vs, _, w', rfl, rfl, by rw [K]; exact h1, hw, q _ _ _ _ (g.pushV rw') ho⟩ hsub
    · exact ho.elim
  · obtain ⟨a, vs, rfl, h1, h1', h2⟩ := (R1.nl fun _ z => by cases z).tup
    obtain rfl := R2.int
    unfold ixAt at ho
    split at ho
    · rename_i d' hd'
      obtain ⟨w', hw, rw'⟩ := atI_reps h2 hd'
      exact ix_tup value slice pins s σ' H _ _ v u Q I rx ry ⟨a, vs, _, w', rfl, rfl, by rw [K]; exact h1, hw, q _ _ _ _ (g.pushV rw') ho⟩ hsub
    · exact ho.elim
  · obtain rfl := (R1.nl fun _ z => by cases z).str
    obtain rfl := R2.int
    obtain ⟨ho1, ho⟩ := ho
    split at ho
    · rename_i c hc
      exact ix_str value slice pins s σ' H _ _ v u Q I rx ry ⟨_, _, c, rfl, rfl, by rw [← line_eq]; exact ho1, hc, q _ _ _ _ (g.pushV (.str _)) ho⟩ hsub
    · exact ho.elim
  · exact ho.elim
theorem snd_ix (C : Ctx G F N L sc W X) (ha : PE X a (rdE G F X.mg W p)) (hb : PE X b (rdE G F X.mg W p')) (hs : PlainIx b) : PE X (.Subscript a b pos) (rdE G F X.mg W (.ix p p')) :=
  (pe_ix (ix_ok C) ha hb hs).imp fun σ H Q ⟨env, T, O, Qd, E, g, w, q, ex⟩ => by
    simp only [wpE] at w
    refine ⟨env, T, O, _, E, g, w, fun r v env' H' O' g' w' => ?_, ex⟩
    refine ⟨env', _, O', _, E, g', w', fun r2 v2 env2 H2 O2 g2 w2 => ?_, ex.pop⟩
    obtain ⟨d, hd, w2⟩ := withD_of w2
    obtain ⟨e, he, w2⟩ := withD_of w2
    exact ⟨env2, σ, T, O2, r, r2, d, e, _, g2, hd, he, w2, fun r v H' O' g3 w3 => q _ _ _ _ _ g3.pop2.pop2 w3⟩
theorem snd_poN : PO X none (rdPo G F X.mg W .none) :=
  po_none.imp fun σ H Q ⟨env, T, O, Qd, E, g, w, q, ex⟩ => q _ _ _ _ g (by simpa only [wpPo] using w)
theorem snd_poS (ha : PE X a (rdE G F X.mg W p)) : PO X (some a) (rdPo G F X.mg W (.some p)) :=
  (po_some ha).imp fun σ H Q ⟨env, T, O, Qd, E, g, w, q, ex⟩ => by
    simp only [wpPo] at w
    refine ⟨env, T, O, _, E, g, w, fun r v env' H' O' g' w' => ?_, ex⟩
    obtain ⟨i, hi, w'⟩ := asI_of w'
    exact ⟨i, (g'.rd List.mem_cons_self hi).int, q _ _ _ _ g'.pop w'⟩
theorem cut_reps {K : PySem.W.Frag} {H : Hp} {vs : List V} {ds : List PyData} (r : Reps K H vs ds) (lo hi : Option Int) : Reps K H (cutV vs lo hi) (cutD ds lo hi) := by
  unfold cutV cutD
  rw [r.length]
  exact (r.drop _).take _
theorem cut_whole {ds : List PyData} {lo hi : Option Int} (h : HT.sIx ds.length 0 lo = 0 ∧ HT.sIx ds.length ds.length hi = ds.length) : cutD ds lo hi = ds := by
  unfold cutD
  rw [h.1, h.2]
  simp
def rSlice (F : Cf) : V → Option Int → Option Int → Hp → VK → Prop := fun x lo hi H Q => ∃ env σ T O rx d Qr, Good F env σ ((x, rx) :: T) H O ∧ rx.d env = some d ∧ opS d lo hi Qr ∧ ∀ r v H' O', Good F env σ ((v, r) :: (x, rx) :: T) H' O' → Qr r → Q v H'
theorem sl_ok (C : Ctx G F N L sc W X) : SlR X (rSlice F) := by
  intro pins s σ' H x v vl vu lo hi sl Q I rx hsl pl pu h
  obtain ⟨env, σ, T, O, r1, d, Qr, g, hd, ho, q⟩ := h
  have R1 := g.rd List.mem_cons_self hd
  have K := C.K
  unfold opS at ho
  split at ho
  · obtain ⟨a, vs, rfl, h1, h2⟩ := R1.lst
    exact sl_list pins s σ' H _ v vl vu lo hi sl Q I rx hsl pl pu ⟨a, vs, rfl, SqL.of h1, fun p hp => q _ _ _ _ (g.pushO hp (cut_reps h2 lo hi)) ho⟩
  · obtain ⟨a, vs, rfl, h1, h1', h2⟩ := R1.tup
    refine sl_tupA pins s σ' H _ v vl vu lo hi sl Q I rx hsl pl pu ⟨a, vs, rfl, by rw [K]; exact h1, fun z => ?_, fun z p hp => q _ _ _ _ (g.pushT hp (cut_reps h2 lo hi)) ho⟩
    rw [h2.length] at z
    rw [cut_whole z] at ho
    exact q _ _ _ _ (g.pushV (.tup h1' h2)) ho
  · exact ho.elim
theorem snd_sl (C : Ctx G F N L sc W X) {lo hi : Option Expr} {plo phi : Po} {p2 : Pos} (ha : PE X a (rdE G F X.mg W p)) (hl : PO X lo (rdPo G F X.mg W plo)) (hu : PO X hi (rdPo G F X.mg W phi)) :
    PE X (.Subscript a (.Slice lo hi none p2) pos) (rdE G F X.mg W (.sl p plo phi)) :=
  (pe_slice (sl_ok C) ha hl hu).imp fun σ H Q ⟨env, T, O, Qd, E, g, w, q, ex⟩ => by
    simp only [wpE] at w
    refine ⟨env, T, O, _, E, g, w, fun r v env' H' O' g' w' => ?_, ex⟩
    refine ⟨env', _, O', _, E, g', w', fun l env2 H2 O2 g2 w2 => ?_, ex.pop⟩
    refine ⟨env2, _, O2, _, E, g2, w2, fun u env3 H3 O3 g3 w3 => ?_, ex.pop⟩
    obtain ⟨d, hd, w3⟩ := withD_of w3
    exact ⟨env3, σ, T, O3, r, d, _, g3, hd, w3, fun r v H' O' g4 w4 => q _ _ _ _ _ g4.pop2 w4⟩
theorem snd_rev (C : Ctx G F N L sc W X) {k : Nat} {p1 p2 p3 : Pos} (ha : PE X a (rdE G F X.mg W p)) : PE X (.Subscript a (.Slice none none (some (.UnaryOp .USub (.Constant (.int 1) k p1) p2)) p3) pos) (rdE G F X.mg W (.rev p)) :=
  (pe_revL ha).imp fun σ H Q ⟨env, T, O, Qd, E, g, w, q, ex⟩ => by
    simp only [wpE] at w
    refine ⟨env, T, O, _, E, g, w, fun r v env' H' O' g' w' => ?_, ex⟩
    split at w'
    · rename_i ds hds
      obtain ⟨a', vs, rfl, h1, h2⟩ := (g'.rd List.mem_cons_self hds).lst
      exact ⟨a', vs, rfl, SqL.of h1, fun p hp => q _ _ _ _ _ (g'.pushO hp h2.reverse).pop2 w'⟩
    · exact w'.elim
end
end
end Mp

set_option Elab.async false
set_option linter.all false
set_option maxRecDepth 100000
set_option maxHeartbeats 1000000
/-! Mp, part 6: built-ins, calls, walks, comprehensions; the check is sound for expressions. -/
namespace Mp
open PySem PySem.Spec PyProof.Rows L2
section
variable {G : GE} {F : Cf} {N : List Str} {L : Nat} {sc : Scope} {W : WX} {X : Cx}
variable {mg : Str → Option Value}

/-! ### built-ins -/
def rFn (F : Cf) (f : Bf) : List V → Hp → VK → Prop := fun xs H Q => ∃ env σ T O ds Qr, Good F env σ T H O ∧ Paired (RdV F.K H O) xs ds ∧ opF f ds Qr ∧ ∀ r v H' O', Good F env σ ((v, r) :: T) H' O' → Qr r → Q v H'
theorem bools_of {K : PySem.W.Frag} {H : Hp} : ∀ {ds : List PyData} {bs : List Bool} {vs : List V}, bools? ds = some bs → Reps K H vs ds → vs = bs.map V.bl
  | [], bs, vs, h, r => by cases h; cases r; rfl
  | d :: ds, bs, vs, h, r => by
    cases r with
    | cons r1 r2 =>
      cases d with
      | bool b =>
        simp only [bools?] at h
        split at h
        · cases h
          rw [r1.bl_inv, bools_of ‹_› r2]; rfl
        · cases h
      | _ => cases h
def fnTy (K : PySem.W.Frag) (f : Bf) (xs : List V) (H : Hp) (Q : VK) : Prop :=
    match f with
    | .abs => ∃ i, xs = [.int i] ∧ Q (.int (if i < 0 then -i else i)) H
    | .int => (∃ i, xs = [.int i] ∧ Q (.int i) H) ∨ ∃ k, xs = [.bl k] ∧ Q (.int (if k then 1 else 0)) H
    | .bool => (∃ i, xs = [.int i] ∧ Q (.bl (i != 0)) H) ∨ ∃ k, xs = [.bl k] ∧ Q (.bl k) H
    | .str => ∃ i, xs = [.int i] ∧ i.natAbs.log2 < 1920 ∧ Q (.str (toString i)) H
    | .all => rAll K xs H Q
    | .any => rAny K xs H Q
    | .tuple => ∃ p ys, xs = [.ref p] ∧ ((SqL K H p ys ∧ ∀ l, H l = none → Q (.ref l) (upd H l (.tup ys))) ∨ (SqT K H p ys ∧ Q (.ref p) H))
    | .list => ∃ p ys, xs = [.ref p] ∧ (SqL K H p ys ∨ SqT K H p ys) ∧ ∀ l, H l = none → Q (.ref l) (upd H l (.lst ys))
    | .max2 => ∃ i j, xs = [.int i, .int j] ∧ Q (.int (if j > i then j else i)) H
    | .min2 => ∃ i j, xs = [.int i, .int j] ∧ Q (.int (if j < i then j else i)) H
theorem withBs_of {r : Option (List Bool)} {Q : List Bool → Prop} (h : withBs r Q) : ∃ b, r = some b ∧ Q b := by
  unfold withBs at h
  split at h
  · exact ⟨_, rfl, h⟩
  · exact h.elim
theorem fn_ty (C : Ctx G F N L sc W X) {f : Bf} {xs : List V} {H : Hp} {Q : VK} (h : rFn F f xs H Q) : fnTy X.K f xs H Q := by
  obtain ⟨env, σ, T, O, ds, Qr, g, hp, ho, q⟩ := h
  have K := C.K
  unfold opF at ho
  split at ho
  · cases hp with | cons r1 r2 => cases r2; obtain rfl := r1.int; exact ⟨_, rfl, q _ _ _ _ (g.pushV (.int _)) ho⟩
  · cases hp with | cons r1 r2 => cases r2; obtain rfl := r1.int; exact .inl ⟨_, rfl, q _ _ _ _ (g.pushV (.int _)) ho⟩
  · cases hp with | cons r1 r2 => cases r2; obtain rfl := r1.bl; exact .inr ⟨_, rfl, q _ _ _ _ (g.pushV (.int _)) ho⟩
  · cases hp with | cons r1 r2 => cases r2; obtain rfl := r1.int; exact .inl ⟨_, rfl, q _ _ _ _ (g.pushV (.bl _)) ho⟩
  · cases hp with | cons r1 r2 => cases r2; obtain rfl := r1.bl; exact .inr ⟨_, rfl, q _ _ _ _ (g.pushV (.bl _)) ho⟩
  · cases hp with | cons r1 r2 => cases r2; obtain rfl := r1.int; exact ⟨_, rfl, ho.1, q _ _ _ _ (g.pushV (.str _)) ho.2⟩
  · cases hp with
    | cons r1 r2 =>
      cases r2
      obtain ⟨a, vs, rfl, h1, h2⟩ := r1.lst
      obtain ⟨bs, hbs, ho2⟩ := withBs_of ho
      have e := bools_of hbs h2
      subst e
      exact ⟨a, bs, rfl, SqL.of h1, q _ _ _ _ (g.pushV (.bl _)) ho2⟩
  · cases hp with
    | cons r1 r2 =>
      cases r2
      obtain ⟨a, vs, rfl, h1, h2⟩ := r1.lst
      obtain ⟨bs, hbs, ho2⟩ := withBs_of ho
      have e := bools_of hbs h2
      subst e
      exact ⟨a, bs, rfl, SqL.of h1, q _ _ _ _ (g.pushV (.bl _)) ho2⟩
  · cases hp with
    | cons r1 r2 =>
      cases r2
      obtain ⟨a, vs, rfl, h1, h2⟩ := r1.lst
      exact ⟨a, vs, rfl, .inl ⟨SqL.of h1, fun l hl => q _ _ _ _ (g.pushT hl h2) ho⟩⟩
  · cases hp with
    | cons r1 r2 =>
      cases r2
      obtain ⟨a, vs, rfl, h1, h1', h2⟩ := r1.tup
      exact ⟨a, vs, rfl, .inr ⟨by rw [K]; exact h1, q _ _ _ _ (g.pushV (.tup h1' h2)) ho⟩⟩
  · cases hp with
    | cons r1 r2 =>
      cases r2
      obtain ⟨a, vs, rfl, h1, h2⟩ := r1.lst
      exact ⟨a, vs, rfl, .inl (SqL.of h1), fun l hl => q _ _ _ _ (g.pushO hl h2) ho⟩
  · cases hp with
    | cons r1 r2 =>
      cases r2
      obtain ⟨a, vs, rfl, h1, h1', h2⟩ := r1.tup
      exact ⟨a, vs, rfl, .inr (by rw [K]; exact h1), fun l hl => q _ _ _ _ (g.pushO hl h2) ho⟩
  · cases hp with
    | cons r1 r2 =>
      cases r2 with
      | cons r2 r3 => cases r3; obtain rfl := r1.int; obtain rfl := r2.int; exact ⟨_, _, rfl, q _ _ _ _ (g.pushV (.int _)) ho⟩
  · cases hp with
    | cons r1 r2 =>
      cases r2 with
      | cons r2 r3 => cases r3; obtain rfl := r1.int; obtain rfl := r2.int; exact ⟨_, _, rfl, q _ _ _ _ (g.pushV (.int _)) ho⟩
  · exact ho.elim
theorem _root_.L2.CallR.imp {f : Value} {r r' : List V → Hp → VK → Prop} (h : CallR X f r) (i : ∀ xs H Q, r' xs H Q → r xs H Q) : CallR X f r' :=
  fun pins s σ H xs us Q I v q => h pins s σ H xs us Q I v (i xs H Q q)
theorem plain_of : ∀ {es : List Expr} {ps : Ps} {env : PySem.Env} {pos : Pos} {sc : Scope}, chkEs G N L ps sc es = true → (backTo pos (starEach es env)).any (·.1) = false
  | [], ps, env, pos, sc, h => rfl
  | e :: es, ps, env, pos, sc, h => by
    cases ps with
    | nil => simp [chkEs] at h
    | cons p ps =>
      simp only [chkEs, Bool.and_eq_true] at h
      rw [star_cons h.1.1]
      have ih := plain_of (env := env) (pos := pos) h.2
      show (false || (backTo pos (starEach es env)).any (·.1)) = false
      rw [ih]; rfl
/-- built-ins by their names -/
theorem snd_blt (C : Ctx G F N L sc W X) {f : Bf} {p pos : Pos} {e : Expr} {es : List Expr} {ps : Ps} (hg : glB sc f.name = true) (h1 : notStar e = true) (h2 : (backTo pos (starEach es X.env)).any (·.1) = false) (ha : PA X (e :: es) (rdBs G F X.mg W ps)) :
    PE X (.Call (.Name f.name p) (e :: es) [] pos) (rdE G F X.mg W (.blt f ps)) := by
  have gl := (gl_of C hg).1
  have hm : X.mg f.name = none := C.kn.blt _ (by cases f <;> decide)
  have fin : ∀ σ H Q, rdE G F X.mg W (.blt f ps) σ H Q → tCB (rFn F f) (rdBs G F X.mg W ps) σ H Q := fun σ H Q ⟨env, T, O, Qd, E, g, w, q, ex⟩ => by
    simp only [wpE] at w
    refine ⟨env, T, O, _, E, g, w, fun ds vs env' H' O' g' r' w' => ?_, ex⟩
    exact ⟨env', σ, T, O', ds, _, g', r', w', fun r v H2 O2 g2 w2 => q _ _ _ _ _ g2 w2⟩
  have st := star_cons (es := es) (env := X.env) h1
  cases f with
  | abs => exact (pe_callB ((call_abs (X := X)).imp (r' := rFn F .abs) fun xs H Q h => fn_ty (f := .abs) C h) gl hm (by decide +kernel) ha (by decide) (by decide) st h2).imp fin
  | int => exact (pe_callTy ((call_int1 (X := X)).imp (r' := rFn F .int) fun xs H Q h => fn_ty (f := .int) C h) gl hm (by decide +kernel) ha (by decide) (by decide) st h2).imp fin
  | str => exact (pe_callTy ((call_str_int (X := X)).imp (r' := rFn F .str) fun xs H Q h => fn_ty (f := .str) C h) gl hm (by decide +kernel) ha (by decide) (by decide) st h2).imp fin
  | all => exact (pe_callB ((cr_all C.calm).imp (r' := rFn F .all) fun xs H Q h => fn_ty (f := .all) C h) gl hm (by decide +kernel) ha (by decide) (by decide) st h2).imp fin
  | any => exact (pe_callB ((cr_any C.calm).imp (r' := rFn F .any) fun xs H Q h => fn_ty (f := .any) C h) gl hm (by decide +kernel) ha (by decide) (by decide) st h2).imp fin
  | tuple => exact (pe_callTy ((call_tuple_of (X := X)).imp (r' := rFn F .tuple) fun xs H Q h => fn_ty (f := .tuple) C h) gl hm (by decide +kernel) ha (by decide) (by decide) st h2).imp fin
  | list => exact (pe_callTy ((call_list_of (X := X)).imp (r' := rFn F .list) fun xs H Q h => fn_ty (f := .list) C h) gl hm (by decide +kernel) ha (by decide) (by decide) st h2).imp fin
  | max2 => exact (pe_callB ((call_max2 C.calm).imp (r' := rFn F .max2) fun xs H Q h => fn_ty (f := .max2) C h) gl hm (by decide +kernel) ha (by decide) (by decide) st h2).imp fin
  | min2 => exact (pe_callB ((call_min2 C.calm).imp (r' := rFn F .min2) fun xs H Q h => fn_ty (f := .min2) C h) gl hm (by decide +kernel) ha (by decide) (by decide) st h2).imp fin
  | bool => exact (pe_callTy ((call_bool1 (X := X)).imp (r' := rFn F .bool) fun xs H Q h => fn_ty (f := .bool) C h) gl hm (by decide +kernel) ha (by decide) (by decide) st h2).imp fin
theorem snd_len (C : Ctx G F N L sc W X) {p pos : Pos} {e : Expr} {q : P} (hg : glB sc ("len" : Str) = true) (h1 : notStar e = true) (ha : PE X e (rdE G F X.mg W q)) : PE X (.Call (.Name "len" p) [e] [] pos) (rdE G F X.mg W (.len q)) :=
  (pe_callB call_len (gl_of C hg).1 (C.kn.blt _ (by decide)) (by decide +kernel) (pa_cons ha pa_nil (star_cons h1)) (by decide) (by decide) (star_cons h1) rfl).imp fun σ H Q ⟨env, T, O, Qd, E, g, w, qq, ex⟩ => by
    simp only [wpE] at w
    refine ⟨env, T, O, _, E, g, w, fun r v env' H' O' g' w' => ?_, ex⟩
    obtain ⟨d, hd, w2⟩ := withD_of w'
    have R1 := g'.rq List.mem_cons_self hd
    have K := C.K
    unfold opLen at w2
    split at w2
    · obtain ⟨a, vs, rfl, h3, h4⟩ := R1.lst
      exact ⟨_, _, rfl, .inl ⟨vs, by rw [K]; exact h3, rfl⟩, by rw [h4.length]; exact qq _ _ _ _ _ (g'.pop.pushV (.int _)) w2⟩
    · obtain ⟨a, vs, rfl, h3, h3', h4⟩ := (R1.nl fun _ z => by cases z).tup
      exact ⟨_, _, rfl, .inr ⟨vs, by rw [K]; exact h3, rfl⟩, by rw [h4.length]; exact qq _ _ _ _ _ (g'.pop.pushV (.int _)) w2⟩
    · obtain rfl := (R1.nl fun _ z => by cases z).str
      exact ⟨_, _, rfl, ⟨by rw [← line_eq]; exact w2.1, rfl⟩, qq _ _ _ _ _ (g'.pop.pushV (.int _)) w2.2⟩
    · exact w2.elim
theorem ty_of {K : PySem.W.Frag} {H : Hp} {v : V} {d : PyData} {s : String} (r : Rep K H v d) (h : tyOf d = some s) : TyX K H v (.type s) := by
  cases r with
  | non => cases h; exact .base .non
  | bl b => cases h; exact .base (.bl b)
  | int i => cases h; exact .base (.int i)
  | str x => cases h; exact .base (.str x)
  | lst h1 h2 => cases h; exact .base (.lst h1)
  | tup h1 h2 =>
    cases h
    rcases h1 with (h1 | ⟨o, h1⟩) | ⟨o, its, n, h1, h3, _⟩
    · exact .base (.tup h1)
    · exact .fTuple h1
    · exact .kTuple h1 h3
theorem snd_isin (C : Ctx G F N L sc W X) {t : String} {p p2 pos : Pos} {e : Expr} {q : P} (hg : glB sc ("isinstance" : Str) = true) (hg2 : glB sc (t : Str) = true) (ht : tyName t = true) (h1 : notStar e = true) (ha : PE X e (rdE G F X.mg W q)) :
    PE X (.Call (.Name "isinstance" p) [e, .Name t p2] [] pos) (rdE G F X.mg W (.isin q t)) := by
  have gl := (gl_of C hg2).1
  have ty : PE X (.Name t p2) (tC (.ty t)) := by
    unfold tyName at ht
    split at ht
    · exact pe_bltn gl (C.kn.blt _ (by decide)) (by decide +kernel) rfl (by decide) (by decide)
    · exact pe_bltn gl (C.kn.blt _ (by decide)) (by decide +kernel) rfl (by decide) (by decide)
    · exact pe_bltn gl (C.kn.blt _ (by decide)) (by decide +kernel) rfl (by decide) (by decide)
    · exact pe_bltn gl (C.kn.blt _ (by decide)) (by decide +kernel) rfl (by decide) (by decide)
    · exact pe_bltn gl (C.kn.blt _ (by decide)) (by decide +kernel) rfl (by decide) (by decide)
    · cases ht
  refine (pe_callB call_isi (gl_of C hg).1 (C.kn.blt _ (by decide)) (by decide +kernel) (pa_cons ha (pa_cons ty pa_nil) (star_cons h1)) (by decide) (by decide) (star_cons h1) rfl).imp fun σ H Q ⟨env, T, O, Qd, E, g, w, qq, ex⟩ => ?_
  simp only [wpE] at w
  refine ⟨env, T, O, _, E, g, w, fun r v env' H' O' g' w' => ?_, ex⟩
  obtain ⟨d, hd, w2⟩ := withD_of w'
  have R1 := g'.rd List.mem_cons_self hd
  have K := C.K
  unfold isTy at w2
  cases e1 : tyOf d with
  | none => rw [e1] at w2; exact w2.elim
  | some s =>
    rw [e1] at w2
    simp only at w2
    cases e2 : kitB s t with
    | none => rw [e2] at w2; exact w2.elim
    | some b =>
      rw [e2] at w2
      exact ⟨v, .ty t, .type s, .type t, b, rfl, .ty t, by rw [K]; exact ty_of R1.rep e1, kit_ty e2, qq _ _ _ _ _ (g'.pop.pushV (.bl b)) w2⟩
end
end Mp

set_option Elab.async false
set_option linter.all false
set_option maxRecDepth 100000
set_option maxHeartbeats 1000000
/-! Mp, part 7: calls of defs. -/
namespace Mp
open PySem PySem.Spec PyProof.Rows L2
section
variable {G : GE} {F : Cf} {N : List Str} {L : Nat} {sc : Scope} {W : WX} {X : Cx}
variable {mg : Str → Option Value}
section
variable {env : Env} {σ : St} {T : List (V × R)} {H H' : Hp} {O O' : List Addr} {v : V} {r : R} {h : Hdv}
/-- a list that was made elsewhere and is handed over -/
theorem Good.pushR (g : Good F env σ T H' O') (res : resOk F.K H H' O' v r) (g0 : ∀ a, H a = none → F.H0 a = none) (hs : ∀ (i : Nat) s a, env[i]? = some s → isO s = true → (σ[i]?).getD none = some (.ref a) → H a ≠ none)
    (ht : ∀ t ∈ T, isRO t.2 = true → ∀ a, t.1 = .ref a → H a ≠ none) : Good F env σ ((v, r) :: T) H' O' := by
  cases r with
  | v d => exact g.pushV res
  | b i => exact res.elim
  | o ds =>
    obtain ⟨a, vs, rfl, h1, h2, h3, h4⟩ := res
    refine ⟨g.len, g.oin, g.o0, g.h0, g.ion, g.keep, g.keep0, g.new, g.sl, fun t hm => ?_, g.dss, fun i s h5 h6 t hm h7 => ?_, List.Pairwise.cons (fun t hm _ h7 z => ht t hm h7 a z.symm h3) g.dtt, g.one⟩
    · rcases List.mem_cons.mp hm with rfl | hm
      · exact ⟨a, vs, rfl, h1, h2, g0 a h3, h4⟩
      · exact g.tm t hm
    · rcases List.mem_cons.mp hm with rfl | hm
      · intro z
        exact hs i s a h5 h6 z h3
      · exact g.dst i s h5 h6 t hm h7
theorem Good.own_in (g : Good F env σ T H O) : (∀ (i : Nat) s a, env[i]? = some s → isO s = true → (σ[i]?).getD none = some (.ref a) → H a ≠ none) ∧ ∀ t ∈ T, isRO t.2 = true → ∀ a, t.1 = .ref a → H a ≠ none := by
  constructor
  · intro i s a h1 h2 h3 h4
    exact (g.own_ne h4).1 i s h1 h2 h3
  · intro t ht h2 a h3 h4
    exact (g.own_ne h4).2 t ht h2 h3
theorem Left.hid_sub {io : Option Addr} (l : Left F.K io H O H' O' v r h) (hio : ∀ a, io = some a → a ∈ O) : Sub (hid O H) (hid O' H') :=
  hid_mono l.new fun a o n e => l.keep a o e fun z => n (hio a z)
/-- behind a call to which no list was handed in -/
theorem Good.after (g : Good F env σ T H O) (l : Left F.K none H O H' O' v r h) : Good F env σ ((v, r) :: T) H' O' := by
  have e := l.hid_sub (fun a z => by cases z)
  obtain ⟨o1, o2⟩ := g.own_in
  refine Good.pushR (H := H) ⟨g.len, l.oin, fun a ha => l.sub a (g.o0 a ha), g.h0, g.ion, fun b u hb n => l.keep b u (g.keep b u hb n) (by simp), fun b hb => l.keep0 b (g.keep0 b hb), fun a ha => ?_,
    fun i s hs => (g.sl i s hs).mono e fun a vs ha _ _ q => ⟨l.keep a _ q (by simp), l.sub a ha⟩, fun t ht => (g.tm t ht).mono e fun a vs ha _ _ q => ⟨l.keep a _ q (by simp), l.sub a ha⟩, g.dss, g.dst, g.dtt, g.one⟩ l.res (fun a => g.free0) o1 o2
  rcases l.new a ha with q | q
  · exact g.new a q
  · exact .inr (g.free0 q)
/-- .. to which the list in the slot i was handed in -/
theorem Good.afterIo {i : Nat} {a : Addr} {xs ys : List PyData} {s s' : Sl} (g : Good F env σ T H O) (hi : env[i]? = some s) (hs : (s = .o xs ∧ s' = .o ys) ∨ (s = .io xs ∧ s' = .io ys)) (ha : (σ[i]?).getD none = some (.ref a))
    (l : Left F.K (some a) H O H' O' v r (.io ys)) : Good F (env.set i s') σ ((v, r) :: T) H' O' := by
  obtain ⟨o1, o2⟩ := g.own_in
  have base : ∃ vs, H a = some (.lst vs) ∧ a ∈ O ∧ (F.H0 a = none ∨ F.io = some a) := by
    have := g.sl i s hi
    rcases hs with ⟨rfl, _⟩ | ⟨rfl, _⟩
    · obtain ⟨b, vs, h1, h2, h3, h4, _⟩ := this
      rw [ha] at h1; cases h1
      exact ⟨vs, h2, h3, .inl h4⟩
    · obtain ⟨b, vs, h1, h2, h3, h4, _⟩ := this
      rw [ha] at h1; cases h1
      exact ⟨vs, h3, h4, .inr h2⟩
  obtain ⟨vs0, b1, b2, b3⟩ := base
  have e := l.hid_sub (fun b z => by cases z; exact b2)
  obtain ⟨a', ws, e1, w1, w2⟩ := l.hd ys rfl
  cases e1
  -- the others' own lists are other ones
  have oth : ∀ (j : Nat) (u : Sl), j ≠ i → env[j]? = some u → ∀ b, (isO u = true ∨ (∃ ds, u = .io ds)) → (σ[j]?).getD none = some (.ref b) → b ≠ a := fun j u hj hu b hb hσ z => by
    subst z
    rcases hs with ⟨rfl, rfl⟩ | ⟨rfl, rfl⟩
    · rcases hb with hb | ⟨es, rfl⟩
      · exact g.dss j i u _ hj hu hb hi rfl (hσ.trans ha.symm)
      · obtain ⟨c, ws, q1, q2, _⟩ := g.sl j _ hu
        obtain ⟨c', ws', q1', _, _, q4', _⟩ := g.sl i _ hi
        rw [hσ] at q1; cases q1
        rw [ha] at q1'; cases q1'
        exact g.io_ne q4' q2
    · rcases hb with hb | ⟨es, rfl⟩
      · cases u with
        | o es =>
          obtain ⟨c, ws, q1, _, _, q4, _⟩ := g.sl j _ hu
          obtain ⟨c', ws', q1', q2', _⟩ := g.sl i _ hi
          rw [hσ] at q1; cases q1
          rw [ha] at q1'; cases q1'
          exact g.io_ne q4 q2'
        | _ => cases hb
      · exact hj ((g.one j es hu).trans (g.one i xs hi).symm)
  have back : ∀ (j : Nat) u, (env.set i s')[j]? = some u → isO u = true → ∃ u', env[j]? = some u' ∧ isO u' = true := fun j u hu ho => by
    rcases set_get hu with ⟨rfl, rfl, _⟩ | ⟨hj, hu⟩
    · rcases hs with ⟨rfl, rfl⟩ | ⟨rfl, rfl⟩
      · exact ⟨_, hi, rfl⟩
      · cases ho
    · exact ⟨u, hu, ho⟩
  refine Good.pushR (H := H) ⟨by simpa using g.len, l.oin, fun a ha => l.sub a (g.o0 a ha), g.h0, g.ion, fun b u hb n => l.keep b u (g.keep b u hb n) ?_, fun b hb => l.keep0 b (g.keep0 b hb), fun a ha => ?_, fun j u hu => ?_, fun t ht => ?_,
    fun j k s u hjk hj hs' hk hu => ?_, fun j u hj hu t ht h5 => ?_, g.dtt, fun j es hh => ?_⟩ l.res (fun a => g.free0) (fun j u b hj hu hσ => ?_) o2
  · intro z
    cases z
    rcases b3 with b3 | b3
    · rw [b3] at hb; cases hb
    · exact n b3
  · rcases l.new a ha with q | q
    · exact g.new a q
    · exact .inr (g.free0 q)
  · rcases set_get hu with ⟨rfl, rfl, _⟩ | ⟨hj, hu⟩
    · rcases hs with ⟨rfl, rfl⟩ | ⟨rfl, rfl⟩
      · obtain ⟨b, ws', q1, _, q3, q4, _⟩ := g.sl j _ hi
        rw [ha] at q1; cases q1
        exact ⟨_, ws, ha, w1, l.sub _ b2, q4, w2⟩
      · obtain ⟨b, ws', q1, q2, _, _, _⟩ := g.sl j _ hi
        rw [ha] at q1; cases q1
        exact ⟨_, ws, ha, q2, w1, l.sub _ b2, w2⟩
    · have old := g.sl j u hu
      cases u with
      | no => trivial
      | v d => obtain ⟨v, q1, q2⟩ := old; exact ⟨v, q1, q2.mono e⟩
      | sc ns => obtain ⟨b, q1, q2⟩ := old; exact ⟨b, q1, e.sqL q2⟩
      | o es =>
        obtain ⟨b, ws', q1, q2, q3, q4, q5⟩ := old
        exact ⟨b, ws', q1, l.keep b _ q2 fun z => oth j _ hj hu b (.inl rfl) q1 (Option.some.inj z).symm, l.sub b q3, q4, q5.mono e⟩
      | io es =>
        obtain ⟨b, ws', q1, q2, q3, q4, q5⟩ := old
        exact ⟨b, ws', q1, q2, l.keep b _ q3 fun z => oth j _ hj hu b (.inr ⟨_, rfl⟩) q1 (Option.some.inj z).symm, l.sub b q4, q5.mono e⟩
  · refine (g.tm t ht).mono e fun b ws' hb e1 e2 q => ⟨l.keep b _ q fun z => ?_, l.sub b hb⟩
    cases z
    rcases hs with ⟨rfl, rfl⟩ | ⟨rfl, rfl⟩
    · exact g.dst i _ hi rfl t ht e2 (by rw [ha, e1])
    · obtain ⟨c', ws', q1', q2', _⟩ := g.sl i _ hi
      rw [ha] at q1'; cases q1'
      have := g.tm t ht
      obtain ⟨v, r⟩ := t
      cases r with
      | o es =>
        obtain ⟨c, ws2, p1, _, _, p4, _⟩ := this
        have e1 : v = .ref a := e1
        have p1 : v = .ref c := p1
        rw [e1] at p1; cases p1
        exact g.io_ne p4 q2'
      | _ => cases e2
  · obtain ⟨u1, a1, a2⟩ := back j s hj hs'
    obtain ⟨u2, c1, c2⟩ := back k u hk hu
    exact g.dss j k u1 u2 hjk a1 a2 c1 c2
  · obtain ⟨u1, a1, a2⟩ := back j u hj hu
    exact g.dst j u1 a1 a2 t ht h5
  · rcases set_get hh with ⟨rfl, hh, _⟩ | ⟨_, hh⟩
    · rcases hs with ⟨rfl, rfl⟩ | ⟨rfl, rfl⟩
      · cases hh
      · exact g.one j _ hi
    · exact g.one j _ hh
  · obtain ⟨u1, a1, a2⟩ := back j u hj hu
    exact o1 j u1 b a1 a2 hσ
end
theorem len_of : ∀ {es : List Expr} {ps : Ps} {sc : Scope}, chkEs G N L ps sc es = true → ps.len = es.length
  | [], ps, sc, h => by
    cases ps with
    | nil => rfl
    | cons p ps => simp [chkEs] at h
  | e :: es, ps, sc, h => by
    cases ps with
    | nil => simp [chkEs] at h
    | cons p ps =>
      simp only [chkEs, Bool.and_eq_true] at h
      show ps.len + 1 = es.length + 1
      rw [len_of h.2]
/-- the wish of a call for exceptions -/
theorem exc_of {E : EX} {σ : St} {T : List (V × R)} {H : Hp} {O : List Addr} {env : Env} {hv : Hdv} {ds : List PyData} {s : FSpec} (g : Good F env σ T H O) (ex : ExOk F mg W E σ T) (w : ∀ x, s.exc hv ds x → E x env) :
    ∀ x C H', s.exc hv ds x → hv.k ≠ .io → mg x = some (.ref C) → Sub H H' → WE W σ (.ref C) none H' := fun x C H' h _ hm k => ex x C env H' O hm (g.grow k) (w x h)
/-- f(e, ..) without a head -/
theorem snd_call (C : Ctx G F N L sc W X) {k : Nat} {fi : FnI} {p pos : Pos} {e : Expr} {es : List Expr} {ps : Ps} (hk : G.fni k = some fi) (hd : fi.hd = .no) (hl : fi.lev ≤ L) (hn : (e :: es).length = fi.pars.length) (hg : glB sc fi.name = true)
    (h1 : notStar e = true) (h2 : (backTo pos (starEach es X.env)).any (·.1) = false) (hps : ps.len = (e :: es).length) (ha : PA X (e :: es) (rdEs G F X.mg W ps)) :
    PE X (.Call (.Name fi.name p) (e :: es) [] pos) (rdE G F X.mg W (.call k ps)) := by
  obtain ⟨f, fd, m, kp, bd, ok⟩ := C.kn.fn k fi hk hl
  obtain ⟨g1, g2⟩ := gl_of C hg
  have K := C.K
  refine (pe_callS ok (C.room.mono hl) g1 m kp bd (fun σ => passAt C.tk σ) ha g2 (star_cons h1) h2).imp fun σ H Q ⟨env, T, O, Qd, E, g, w, q, ex⟩ => ?_
  simp only [wpE] at w
  refine ⟨env, T, O, _, E, g, w, fun ds vs env' H' O' l' g' r' w' => ?_, ex⟩
  obtain ⟨w1, w2, w3⟩ := w'
  rw [K]
  refine ⟨.no, ds, O', none, vs, by rw [hd]; rfl, by rw [r'.length, l', hps, hn], ⟨rfl, rfl⟩, r', g'.oin, w1, fun r h v H2 O2 hp l => ?_, exc_of g' ex w3⟩
  exact q _ _ _ _ _ (g'.after l) (w2 r h hp)
theorem io_of {s : Option Sl} {Q : List PyData → (List PyData → Sl) → Prop} (h : ioSlot s Q) : (∃ xs, s = some (.o xs) ∧ Q xs .o) ∨ ∃ xs, s = some (.io xs) ∧ Q xs .io := by
  unfold ioSlot at h
  split at h
  · exact .inl ⟨_, rfl, h⟩
  · exact .inr ⟨_, rfl, h⟩
  · exact h.elim
theorem sc_of {s : Option Sl} {Q : List Int → Prop} (h : scSlot s Q) : ∃ xs, s = some (.sc xs) ∧ Q xs := by
  unfold scSlot at h
  split at h
  · exact ⟨_, rfl, h⟩
  · exact h.elim
/-- f(source, e, ..) -/
theorem snd_callIo (C : Ctx G F N L sc W X) {k i : Nat} {fi : FnI} {p p2 pos : Pos} {x : Str} {es : List Expr} {ps : Ps} (hk : G.fni k = some fi) (hd : fi.hd = .io) (hl : fi.lev ≤ L) (hn : es.length + 1 = fi.pars.length) (hg : glB sc fi.name = true)
    (hx : varB N sc i x = true) (h2 : (backTo pos (starEach es X.env)).any (·.1) = false) (hps : ps.len = es.length) (ha : PA X es (rdEs G F X.mg W ps)) :
    PE X (.Call (.Name fi.name p) (.Name x p2 :: es) [] pos) (rdE G F X.mg W (.callIo k i ps)) := by
  obtain ⟨f, fd, m, kp, bd, ok⟩ := C.kn.fn k fi hk hl
  obtain ⟨g1, g2⟩ := gl_of C hg
  have K := C.K
  refine (pe_callS ok (C.room.mono hl) g1 m kp bd (fun σ => passAt C.tk σ) (pa_cons (snd_var (pos := p2) C hx) ha rfl) g2 rfl h2).imp fun σ H Q ⟨env, T, O, Qd, E, g, w, q, ex⟩ => ?_
  simp only [wpE] at w
  refine ⟨env, T, O, fun r env1 => r = .b i ∧ env1 = env, E, g, ?_, fun r v env' H' O' g' w' => ?_, ex⟩
  · simp only [wpE]
    rcases io_of w with ⟨xs, e, _⟩ | ⟨xs, e, _⟩
    · rw [e]; exact ⟨by trivial, by trivial⟩
    · rw [e]; exact ⟨by trivial, by trivial⟩
  · obtain ⟨rfl, rfl⟩ := w'
    have w2 : wpEs G ps env' (fun ds env1 => ioSlot env1[i]? fun xs mk =>
        (G.fns k).pre (.io xs) ds ∧ (∀ r h, (G.fns k).post (.io xs) ds r h → ∃ ys, h = .io ys ∧ Qd r (env1.set i (mk ys))) ∧ ∀ x, ¬ (G.fns k).exc (.io xs) ds x) E := by
      rcases io_of w with ⟨xs, e, w⟩ | ⟨xs, e, w⟩ <;> exact w
    refine ⟨env', _, O', _, E, g', w2, fun ds vs env2 H2 O2 l2 g2 r2 w3 => ?_, ex.pop⟩
    have t : σ[i]? = some (some v) := g2.tm _ List.mem_cons_self
    rw [K]
    rcases io_of w3 with ⟨xs, e, w3⟩ | ⟨xs, e, w3⟩
    · have z := g2.sl i _ e
      rw [get_getD t] at z
      obtain ⟨a, ws, z1, z2, z3, z4, z5⟩ := z
      cases z1
      obtain ⟨w4, w5, w6⟩ := w3
      refine ⟨.io xs, ds, O2, some a, vs, by rw [hd]; rfl, by rw [List.length_cons, r2.length, l2, hps]; exact hn, ⟨a, ws, rfl, rfl, z2, z3, z5⟩, r2, g2.oin, w4, fun r h v H3 O3 hp l => ?_, fun x C H3 h n => absurd rfl n⟩
      obtain ⟨ys, rfl, w7⟩ := w5 r h hp
      exact q _ _ _ _ _ (g2.afterIo e (.inl ⟨rfl, rfl⟩) (get_getD t) l).pop2 w7
    · have z := g2.sl i _ e
      rw [get_getD t] at z
      obtain ⟨a, ws, z1, z0, z2, z3, z5⟩ := z
      cases z1
      obtain ⟨w4, w5, w6⟩ := w3
      refine ⟨.io xs, ds, O2, some a, vs, by rw [hd]; rfl, by rw [List.length_cons, r2.length, l2, hps]; exact hn, ⟨a, ws, rfl, rfl, z2, z3, z5⟩, r2, g2.oin, w4, fun r h v H3 O3 hp l => ?_, fun x C H3 h n => absurd rfl n⟩
      obtain ⟨ys, rfl, w7⟩ := w5 r h hp
      exact q _ _ _ _ _ (g2.afterIo e (.inr ⟨rfl, rfl⟩) (get_getD t) l).pop2 w7
/-- f(script, e, ..) -/
theorem snd_callSc (C : Ctx G F N L sc W X) {k i : Nat} {fi : FnI} {p p2 pos : Pos} {x : Str} {es : List Expr} {ps : Ps} (hk : G.fni k = some fi) (hd : fi.hd = .sc) (hl : fi.lev ≤ L) (hn : es.length + 1 = fi.pars.length) (hg : glB sc fi.name = true)
    (hx : varB N sc i x = true) (h2 : (backTo pos (starEach es X.env)).any (·.1) = false) (hps : ps.len = es.length) (ha : PA X es (rdEs G F X.mg W ps)) :
    PE X (.Call (.Name fi.name p) (.Name x p2 :: es) [] pos) (rdE G F X.mg W (.callSc k i ps)) := by
  obtain ⟨f, fd, m, kp, bd, ok⟩ := C.kn.fn k fi hk hl
  obtain ⟨g1, g2⟩ := gl_of C hg
  have K := C.K
  refine (pe_callS ok (C.room.mono hl) g1 m kp bd (fun σ => passAt C.tk σ) (pa_cons (snd_var (pos := p2) C hx) ha rfl) g2 rfl h2).imp fun σ H Q ⟨env, T, O, Qd, E, g, w, q, ex⟩ => ?_
  simp only [wpE] at w
  obtain ⟨ns0, e0, w⟩ := sc_of w
  refine ⟨env, T, O, fun r env1 => r = .b i ∧ env1 = env, E, g, ?_, fun r v env' H' O' g' w' => ?_, ex⟩
  · simp only [wpE, e0]; exact ⟨by trivial, by trivial⟩
  · obtain ⟨rfl, rfl⟩ := w'
    refine ⟨env', _, O', _, E, g', w, fun ds vs env2 H2 O2 l2 g2 r2 w3 => ?_, ex.pop⟩
    have t : σ[i]? = some (some v) := g2.tm _ List.mem_cons_self
    rw [K]
    obtain ⟨ns, e, w4, w5, w6⟩ := sc_of w3
    have z := g2.sl i _ e
    rw [get_getD t] at z
    obtain ⟨a, z1, z2⟩ := z
    cases z1
    refine ⟨.sc ns, ds, O2, none, vs, by rw [hd]; rfl, by rw [List.length_cons, r2.length, l2, hps]; exact hn, ⟨a, rfl, rfl, z2⟩, r2, g2.oin, w4, fun r h v H3 O3 hp l => ?_, exc_of g2.pop ex w6⟩
    exact q _ _ _ _ _ (g2.after l).pop2 (w5 r h hp)
/-- name.pop() -/
theorem snd_pop (C : Ctx G F N L sc W X) {i : Nat} {x : Str} {p apos cpos : Pos} (hx : varB N sc i x = true) (hline : (apos.endLine == cpos.line) = true) : PE X (.Call (.Attribute (.Name x p) "pop" apos) [] [] cpos) (rdE G F X.mg W (.pop i)) := by
  refine (pe_bm0 PySem.F.plainAttrs_list PySem.F.slot_list_pop PySem.F.type_list_pop mt_pop (snd_var C hx) rfl hline).imp fun σ H Q ⟨env, T, O, Qd, E, g, w, q, ex⟩ => ?_
  simp only [wpE] at w
  obtain ⟨ds, d, e, el, w⟩ : ∃ ds d, env[i]? = some (.o ds) ∧ ds.getLast? = some d ∧ Qd (.v d) (env.set i (.o ds.dropLast)) := by
    cases e : env[i]? with
    | none => rw [e] at w; exact w.elim
    | some s =>
      rw [e] at w
      cases s with
      | o ds =>
        simp only at w
        cases e2 : ds.getLast? with
        | none => rw [e2] at w; exact w.elim
        | some d => rw [e2] at w; exact ⟨ds, d, rfl, e2, w⟩
      | _ => exact w.elim
  refine ⟨env, T, O, fun r env1 => r = .b i ∧ env1 = env, E, g, ?_, fun r v env' H' O' g' w' => ?_, ex⟩
  · simp only [wpE, e]; exact ⟨by trivial, by trivial⟩
  · obtain ⟨rfl, rfl⟩ := w'
    have t : σ[i]? = some (some v) := g'.tm _ List.mem_cons_self
    have z := g'.sl i _ e
    rw [get_getD t] at z
    obtain ⟨a, ws, z1, z2, z3, z4, z5⟩ := z
    cases z1
    refine ⟨.inl ⟨rfl, ws, SqL.of z2⟩, ?_⟩
    have hl := z5.length
    have gl : ds[ds.length - 1]? = some d := by rw [← el, List.getLast?_eq_getElem?]
    obtain ⟨y, y1, y2⟩ := z5.get gl
    have g2 := (g'.pop.pushV y2).change (s' := .o ds.dropLast) e (.inl ⟨rfl, rfl⟩) (get_getD t) z5.dropLast
    exact ⟨a, ws, y, rfl, rfl, z2, by rw [hl]; exact y1, q _ _ _ _ _ g2 w⟩
end
end Mp

set_option Elab.async false
set_option linter.all false
set_option maxRecDepth 100000
set_option maxHeartbeats 1000000
/-! Mp, part 8: walks, targets, comprehensions. -/
namespace Mp
open PySem PySem.Spec PyProof.Rows L2
section
variable {G : GE} {F : Cf} {N : List Str} {L : Nat} {sc : Scope} {W : WX} {X : Cx}
variable {mg : Str → Option Value}
/-! ### walks -/
def WalkD (F : Cf) (ts : List (V × R)) (J : It) (items : List PyData) : Prop := ∀ env σ T H O, (∀ t ∈ ts, t ∈ T) → Good F env σ T H O →
  (∀ i, i < items.length → J.go i H) ∧ J.stop items.length H ∧ ∀ i x H', i < items.length → J.yld i H x H' → Good F env σ T H' O ∧ ∃ d, items[i]? = some d ∧ Rep F.K (hid O H') x d
section
variable (G : GE) (F : Cf) (mg : Str → Option Value) (W : WX)
def rdW (w : Wk) : TI := fun σ H Rq => ∃ (env : Env) (T : List (V × R)) (O : List Addr) (Qd : List PyData → Env → Prop) (E : EX), Good F env σ T H O ∧ wpW G w env Qd E ∧
  (∀ items ts env' H' O' J, WalkD F ts J items → NoB ts → Good F env' σ (ts ++ T) H' O' → Qd items env' → Rq J H') ∧ ExOk F mg W E σ T
end
theorem noB1 {v : V} {d : PyData} : NoB [(v, R.v d)] := NoB.cons (fun i z => by cases z) NoB.nil
theorem walk_lst {a : Addr} {ds : List PyData} : WalkD F [(.ref a, .v (.list ds))] (Itl F.K a) ds := fun env σ T H O hs g => by
  have t := g.tm _ (hs _ List.mem_cons_self)
  obtain ⟨a', vs, e, h1, h2⟩ := Rep.lst_inv t
  cases e
  have h1' := hid_sub O H _ _ h1
  have hl := h2.length
  refine ⟨fun i hi => ?_, ⟨vs, SqL.of h1', by omega⟩, fun i x H' hi hy => ?_⟩
  · exact ⟨vs, vs[i]'(by omega), SqL.of h1', List.getElem?_eq_getElem (by omega)⟩
  · obtain ⟨rfl, hx⟩ := hy
    have hx := hx vs (SqL.of h1')
    exact ⟨g, ds[i], List.getElem?_eq_getElem hi, h2.at hx (List.getElem?_eq_getElem hi)⟩
theorem walk_tpl {a : Addr} {ds : List PyData} : WalkD F [(.ref a, .v (.tuple ds))] (Itt F.K a) ds := fun env σ T H O hs g => by
  have t := g.tm _ (hs _ List.mem_cons_self)
  obtain ⟨a', vs, e, h1, h2⟩ := Rep.tup_inv t
  cases e
  have h1' := (hid_sub O H).sqT h1
  have hl := h2.length
  refine ⟨fun i hi => ?_, ⟨vs, h1', by omega⟩, fun i x H' hi hy => ?_⟩
  · exact ⟨vs, vs[i]'(by omega), h1', List.getElem?_eq_getElem (by omega)⟩
  · obtain ⟨rfl, hx⟩ := hy
    have hx := hx vs h1'
    exact ⟨g, ds[i], List.getElem?_eq_getElem hi, h2.at hx (List.getElem?_eq_getElem hi)⟩
theorem rngD_get {lo : Int} {n i : Nat} (h : i < n) : (rngD lo n)[i]? = some (.int (lo + (i : Nat))) := by
  unfold rngD
  rw [List.getElem?_map, List.getElem?_range h]
  rfl
theorem rngD_len {lo : Int} {n : Nat} : (rngD lo n).length = n := by simp [rngD]
theorem walk_rng {lo : Int} {n : Nat} : WalkD F [] (Itr lo n) (rngD lo n) := fun env σ T H O hs g => by
  rw [rngD_len]
  refine ⟨fun i hi => hi, Nat.le_refl _, fun i x H' hi hy => ?_⟩
  obtain ⟨rfl, rfl⟩ := hy
  exact ⟨g, _, rngD_get hi, .int _⟩
theorem enumD_get : ∀ {ds : List PyData} {k i : Nat} {d : PyData}, ds[i]? = some d → (enumD k ds)[i]? = some (.tuple [.int ((k + i : Nat) : Int), d])
  | [], k, i, d, h => by simp at h
  | x :: ds, k, 0, d, h => by simp at h; subst h; rfl
  | x :: ds, k, i + 1, d, h => by
    have ih := enumD_get (ds := ds) (k := k + 1) (i := i) (d := d) (by simpa using h)
    show (enumD (k + 1) ds)[i]? = _
    rw [ih]
    have e : k + 1 + i = k + (i + 1) := by omega
    rw [e]
theorem enumD_len : ∀ {ds : List PyData} {k : Nat}, (enumD k ds).length = ds.length
  | [], _ => rfl
  | x :: ds, k => by show (enumD (k + 1) ds).length + 1 = ds.length + 1; rw [enumD_len]
theorem pair_new {env : Env} {σ : St} {T : List (V × R)} {H : Hp} {O : List Addr} {p : Addr} {x y : V} {d e : PyData} (g : Good F env σ T H O) (hp : H p = none) (hx : Rep F.K (hid O H) x d) (hy : Rep F.K (hid O H) y e) :
    Good F env σ T (upd H p (.tup [x, y])) O ∧ Rep F.K (hid O (upd H p (.tup [x, y]))) (.ref p) (.tuple [d, e]) := by
  have z := g.pushT hp (.cons hx (.cons hy .nil))
  exact ⟨z.pop, z.tm _ List.mem_cons_self⟩
theorem walk_enl {a : Addr} {ds : List PyData} : WalkD F [(.ref a, .v (.list ds))] (Ite F.K a) (enumD 0 ds) := fun env σ T H O hs g => by
  have t := g.tm _ (hs _ List.mem_cons_self)
  obtain ⟨a', vs, e, h1, h2⟩ := Rep.lst_inv t
  cases e
  have h1' := hid_sub O H _ _ h1
  have hl := h2.length
  rw [enumD_len]
  refine ⟨fun i hi => ?_, ⟨vs, SqL.of h1', by omega⟩, fun i x H' hi hy => ?_⟩
  · exact ⟨vs, vs[i]'(by omega), SqL.of h1', List.getElem?_eq_getElem (by omega)⟩
  · obtain ⟨p, y, rfl, hp, rfl, hx⟩ := hy
    have hx := hx vs (SqL.of h1')
    obtain ⟨g2, r2⟩ := pair_new g hp (.int (i : Nat)) (h2.at hx (List.getElem?_eq_getElem hi))
    exact ⟨g2, _, by rw [enumD_get (List.getElem?_eq_getElem hi), Nat.zero_add], r2⟩
theorem walk_ent {a : Addr} {ds : List PyData} : WalkD F [(.ref a, .v (.tuple ds))] (MpW.IteT F.K a) (enumD 0 ds) := fun env σ T H O hs g => by
  have t := g.tm _ (hs _ List.mem_cons_self)
  obtain ⟨a', vs, e, h1, h2⟩ := Rep.tup_inv t
  cases e
  have h1' := (hid_sub O H).sqT h1
  have hl := h2.length
  rw [enumD_len]
  refine ⟨fun i hi => ?_, ⟨vs, h1', by omega⟩, fun i x H' hi hy => ?_⟩
  · exact ⟨vs, vs[i]'(by omega), h1', List.getElem?_eq_getElem (by omega)⟩
  · obtain ⟨p, y, rfl, hp, rfl, hx⟩ := hy
    have hx := hx vs h1'
    obtain ⟨g2, r2⟩ := pair_new g hp (.int (i : Nat)) (h2.at hx (List.getElem?_eq_getElem hi))
    exact ⟨g2, _, by rw [enumD_get (List.getElem?_eq_getElem hi), Nat.zero_add], r2⟩
theorem zipD_get : ∀ {ds es : List PyData} {i : Nat} {d e : PyData}, ds[i]? = some d → es[i]? = some e → (zipD ds es)[i]? = some (.tuple [d, e])
  | [], _, i, d, e, h, _ => by simp at h
  | _ :: _, [], i, d, e, _, h => by simp at h
  | x :: ds, y :: es, 0, d, e, h, h' => by simp at h h'; subst h; subst h'; rfl
  | x :: ds, y :: es, i + 1, d, e, h, h' => by
    show (zipD ds es)[i]? = _
    exact zipD_get (by simpa using h) (by simpa using h')
theorem zipD_len : ∀ {ds es : List PyData}, (zipD ds es).length = min ds.length es.length
  | [], es => by simp [zipD]
  | _ :: _, [] => by simp [zipD]
  | x :: ds, y :: es => by
    show (zipD ds es).length + 1 = min (ds.length + 1) (es.length + 1)
    rw [zipD_len]; omega
theorem walk_zpl {a b : Addr} {ds es : List PyData} : WalkD F [(.ref b, .v (.list es)), (.ref a, .v (.list ds))] (Itz F.K a b) (zipD ds es) := fun env σ T H O hs g => by
  obtain ⟨a', vs, e, h1, h2⟩ := Rep.lst_inv (g.tm _ (hs _ (List.mem_cons_of_mem _ List.mem_cons_self)))
  cases e
  obtain ⟨b', ws, e, h3, h4⟩ := Rep.lst_inv (g.tm _ (hs _ List.mem_cons_self))
  cases e
  have h1' := hid_sub O H _ _ h1
  have h3' := hid_sub O H _ _ h3
  have hl := h2.length
  have hl' := h4.length
  rw [zipD_len]
  refine ⟨fun i hi => ?_, ⟨vs, ws, SqL.of h1', SqL.of h3', by omega⟩, fun i x H' hi hy => ?_⟩
  · exact ⟨vs, ws, vs[i]'(by omega), ws[i]'(by omega), SqL.of h1', SqL.of h3', List.getElem?_eq_getElem (by omega), List.getElem?_eq_getElem (by omega)⟩
  · obtain ⟨p, x1, x2, rfl, hp, rfl, f1, f2⟩ := hy
    have f1 := f1 vs (SqL.of h1')
    have f2 := f2 ws (SqL.of h3')
    have d1 : ds[i]? = some (ds[i]'(by omega)) := List.getElem?_eq_getElem (by omega)
    have d2 : es[i]? = some (es[i]'(by omega)) := List.getElem?_eq_getElem (by omega)
    obtain ⟨g2, r2⟩ := pair_new g hp (h2.at f1 d1) (h4.at f2 d2)
    exact ⟨g2, _, zipD_get d1 d2, r2⟩
theorem walk_zpt {a b : Addr} {ds es : List PyData} : WalkD F [(.ref b, .v (.tuple es)), (.ref a, .v (.tuple ds))] (RZ.ItzT F.K a b) (zipD ds es) := fun env σ T H O hs g => by
  obtain ⟨a', vs, e, h1, h2⟩ := Rep.tup_inv (g.tm _ (hs _ (List.mem_cons_of_mem _ List.mem_cons_self)))
  cases e
  obtain ⟨b', ws, e, h3, h4⟩ := Rep.tup_inv (g.tm _ (hs _ List.mem_cons_self))
  cases e
  have h1' := (hid_sub O H).sqT h1
  have h3' := (hid_sub O H).sqT h3
  have hl := h2.length
  have hl' := h4.length
  rw [zipD_len]
  refine ⟨fun i hi => ?_, ⟨vs, ws, h1', h3', by omega⟩, fun i x H' hi hy => ?_⟩
  · exact ⟨vs, ws, vs[i]'(by omega), ws[i]'(by omega), h1', h3', List.getElem?_eq_getElem (by omega), List.getElem?_eq_getElem (by omega)⟩
  · obtain ⟨p, x1, x2, rfl, hp, rfl, f1, f2⟩ := hy
    have f1 := f1 vs h1'
    have f2 := f2 ws h3'
    have d1 : ds[i]? = some (ds[i]'(by omega)) := List.getElem?_eq_getElem (by omega)
    have d2 : es[i]? = some (es[i]'(by omega)) := List.getElem?_eq_getElem (by omega)
    obtain ⟨g2, r2⟩ := pair_new g hp (h2.at f1 d1) (h4.at f2 d2)
    exact ⟨g2, _, zipD_get d1 d2, r2⟩
theorem seq_of {x : Option (PyData × Env)} {Q : List PyData → Env → Prop} (h : seqOf x Q) : (∃ ds e, x = some (.list ds, e) ∧ Q ds e) ∨ ∃ ds e, x = some (.tuple ds, e) ∧ Q ds e := by
  unfold seqOf at h
  split at h
  · exact .inl ⟨_, _, rfl, h⟩
  · exact .inr ⟨_, _, rfl, h⟩
  · exact h.elim
section
variable {a b tg : Expr} {p p' : P} {pos pos2 tpos : Pos} {elts : List Expr} {kk : Nat}
theorem wk_seq (C : Ctx G F N L sc W X) (ha : PE X a (rdE G F X.mg W p)) : PI X tg a (rdW G F X.mg W (.seq p)) :=
  (MpW.pi_seqA ha).imp fun σ H R' ⟨env, T, O, Qd, E, g, w, q, ex⟩ => by
    simp only [wpW] at w
    refine ⟨env, T, O, _, E, g, w, fun r v env' H' O' g' w' => ?_, ex⟩
    rw [C.K]
    rcases seq_of w' with ⟨ds, e2, he, w2⟩ | ⟨ds, e2, he, w2⟩
    · obtain ⟨O2, g2⟩ := g'.share he
      obtain ⟨a, vs, rfl, h1, h2⟩ := Rep.lst_inv (g2.tm _ List.mem_cons_self)
      exact ⟨a, rfl, .inl ⟨⟨vs, SqL.of (hid_sub O2 H' _ _ h1)⟩, q _ _ _ _ _ _ walk_lst noB1 g2 w2⟩⟩
    · obtain ⟨O2, g2⟩ := g'.share he
      obtain ⟨a, vs, rfl, h1, h2⟩ := Rep.tup_inv (g2.tm _ List.mem_cons_self)
      exact ⟨a, rfl, .inr ⟨⟨vs, (hid_sub O2 H').sqT h1⟩, q _ _ _ _ _ _ walk_tpl noB1 g2 w2⟩⟩
theorem wk_rng1 (C : Ctx G F N L sc W X) (hg : glB sc ("range" : Str) = true) (h1 : notStar a = true) (ha : PE X a (rdE G F X.mg W p)) : PI X tg (.Call (.Name "range" pos2) [a] [] pos) (rdW G F X.mg W (.rng1 p)) :=
  (pi_range1 (gl_of C hg).1 (C.kn.blt _ (by decide)) (pa_cons ha pa_nil (star_cons h1)) (star_cons h1)).imp fun σ H R' ⟨env, T, O, Qd, E, g, w, q, ex⟩ => by
    simp only [wpW] at w
    refine ⟨env, T, O, _, E, g, w, fun r v env' H' O' g' w' => ?_, ex⟩
    obtain ⟨n, hn, ⟨b1, b2⟩, w2⟩ := asI_of w'
    obtain rfl := (g'.rd List.mem_cons_self hn).int
    exact ⟨n, rfl, b1, b2, q _ _ _ _ _ _ walk_rng NoB.nil g'.pop w2⟩
theorem wk_rng2 (C : Ctx G F N L sc W X) (hg : glB sc ("range" : Str) = true) (h1 : notStar a = true) (h2 : notStar b = true) (ha : PE X a (rdE G F X.mg W p)) (hb : PE X b (rdE G F X.mg W p')) : PI X tg (.Call (.Name "range" pos2) [a, b] [] pos) (rdW G F X.mg W (.rng2 p p')) :=
  (pi_range2 (gl_of C hg).1 (C.kn.blt _ (by decide)) (pa_cons ha (pa_cons hb pa_nil (star_cons h2)) (star_cons h1)) (by rw [star_cons h1, star_cons h2]; rfl) (star_cons h2)).imp fun σ H R' ⟨env, T, O, Qd, E, g, w, q, ex⟩ => by
    simp only [wpW] at w
    refine ⟨env, T, O, _, E, g, w, fun r v env' H' O' g' w' => ?_, ex⟩
    refine ⟨env', _, O', _, E, g', w', fun r2 v2 env2 H2 O2 g2 w2 => ?_, ex.pop⟩
    obtain ⟨m, hm, w3⟩ := asI_of w2
    obtain ⟨n, hn, w4, w5⟩ := asI_of w3
    obtain rfl := (g2.rd (List.mem_cons_of_mem _ List.mem_cons_self) hm).int
    obtain rfl := (g2.rd List.mem_cons_self hn).int
    exact ⟨m, n, rfl, w4, q _ _ _ _ _ _ walk_rng NoB.nil g2.pop.pop w5⟩
theorem wk_enum (C : Ctx G F N L sc W X) (hg : glB sc ("enumerate" : Str) = true) (h1 : notStar a = true) (ha : PE X a (rdE G F X.mg W p)) : PI X (.Tuple elts kk tpos) (.Call (.Name "enumerate" pos2) [a] [] pos) (rdW G F X.mg W (.enum p)) :=
  (MpW.pi_enumA (gl_of C hg).1 (C.kn.blt _ (by decide)) (pa_cons ha pa_nil (star_cons h1)) (star_cons h1)).imp fun σ H R' ⟨env, T, O, Qd, E, g, w, q, ex⟩ => by
    simp only [wpW] at w
    refine ⟨env, T, O, _, E, g, w, fun r v env' H' O' g' w' => ?_, ex⟩
    rw [C.K]
    rcases seq_of w' with ⟨ds, e2, he, w2⟩ | ⟨ds, e2, he, w2⟩
    · obtain ⟨O2, g2⟩ := g'.share he
      obtain ⟨a, vs, rfl, h1, h2⟩ := Rep.lst_inv (g2.tm _ List.mem_cons_self)
      exact ⟨a, vs, rfl, .inl ⟨SqL.of (hid_sub O2 H' _ _ h1), q _ _ _ _ _ _ walk_enl noB1 g2 w2⟩⟩
    · obtain ⟨O2, g2⟩ := g'.share he
      obtain ⟨a, vs, rfl, h1, h2⟩ := Rep.tup_inv (g2.tm _ List.mem_cons_self)
      exact ⟨a, vs, rfl, .inr ⟨(hid_sub O2 H').sqT h1, q _ _ _ _ _ _ walk_ent noB1 g2 w2⟩⟩
theorem wk_zip (C : Ctx G F N L sc W X) (hg : glB sc ("zip" : Str) = true) (h1 : notStar a = true) (h2 : notStar b = true) (ha : PE X a (rdE G F X.mg W p)) (hb : PE X b (rdE G F X.mg W p')) : PI X (.Tuple elts kk tpos) (.Call (.Name "zip" pos2) [a, b] [] pos) (rdW G F X.mg W (.zip p p')) :=
  (RZ.pi_zipA (gl_of C hg).1 (C.kn.blt _ (by decide)) (pa_cons ha (pa_cons hb pa_nil (star_cons h2)) (star_cons h1)) (by rw [star_cons h1]) (by rw [star_cons h2]; rfl)).imp fun σ H R' ⟨env, T, O, Qd, E, g, w, q, ex⟩ => by
    simp only [wpW] at w
    refine ⟨env, T, O, _, E, g, w, fun r v env' H' O' g' w' => ?_, ex⟩
    obtain ⟨d, e1, hd, w2⟩ := withS_of w'
    obtain ⟨O1, g1⟩ := g'.share hd
    refine ⟨e1, _, O1, _, E, g1, w2, fun r2 v2 env2 H2 O2 g2 w3 => ?_, ex.pop⟩
    obtain ⟨e, e2, he, w4⟩ := withS_of w3
    obtain ⟨O3, g3⟩ := g2.share he
    rw [C.K]
    have nb : NoB [(v2, R.v e), (v, R.v d)] := NoB.cons (fun i z => by cases z) noB1
    split at w4
    · obtain ⟨a, vs, rfl, h1, h2⟩ := Rep.lst_inv (g3.tm _ (List.mem_cons_of_mem _ List.mem_cons_self))
      obtain ⟨b, ws, rfl, h3, h4⟩ := Rep.lst_inv (g3.tm _ List.mem_cons_self)
      exact ⟨a, b, vs, ws, rfl, .inl ⟨SqL.of (hid_sub O3 H2 _ _ h1), SqL.of (hid_sub O3 H2 _ _ h3), q _ _ _ _ _ _ walk_zpl nb g3 w4⟩⟩
    · obtain ⟨a, vs, rfl, h1, h2⟩ := Rep.tup_inv (g3.tm _ (List.mem_cons_of_mem _ List.mem_cons_self))
      obtain ⟨b, ws, rfl, h3, h4⟩ := Rep.tup_inv (g3.tm _ List.mem_cons_self)
      exact ⟨a, b, vs, ws, rfl, .inr ⟨(hid_sub O3 H2).sqT h1, (hid_sub O3 H2).sqT h3, q _ _ _ _ _ _ walk_zpt nb g3 w4⟩⟩
    · exact w4.elim
end
end
end Mp

set_option Elab.async false
set_option linter.all false
set_option maxRecDepth 100000
set_option maxHeartbeats 1000000
/-! Mp, part 9: targets, comprehensions; the check is sound for expressions. -/
namespace Mp
open PySem PySem.Spec PyProof.Rows L2
section
variable {G : GE} {F : Cf} {N : List Str} {L : Nat} {sc : Scope} {W : WX} {X : Cx}
variable {mg : Str → Option Value}
/-! ### targets -/
def setMs : List Nat → List V → St → St
  | i :: is, v :: vs, σ => setMs is vs (σ.set i (some v))
  | _, _, σ => σ
theorem setMs_len : ∀ (is : List Nat) (vs : List V) (σ : St), (setMs is vs σ).length = σ.length
  | [], _, _ => rfl
  | _ :: _, [], _ => rfl
  | i :: is, v :: vs, σ => by show (setMs is vs (σ.set i (some v))).length = _; rw [setMs_len]; simp
theorem Good.setMany : ∀ (is : List Nat) {vs : List V} {ds : List PyData} {env : Env} {σ : St} {T : List (V × R)} {H : Hp} {O : List Addr}, Good F env σ T H O → NoB T → Reps F.K (hid O H) vs ds → Good F (setMany is ds env) (setMs is vs σ) T H O
  | [], _, _, _, _, _, _, _, g, _, _ => g
  | i :: is, vs, ds, env, σ, T, H, O, g, n, r => by
    cases r with
    | nil => exact g
    | cons r1 r2 => exact Good.setMany is (g.setV n r1) n r2
def gMany (is : List Nat) : TGs := fun vs σ H Q => vs.length = is.length ∧ Q (setMs is vs σ) H
/-- names that a target may have: told for the scope that runs -/
def OkName (X : Cx) (x : Str) : Prop := Loc X.env.scope x ∧ (X.fn x = true ∨ X.env.scope.names.lookup x = some .local)
inductive OkNames (X : Cx) : List Nat → List Expr → Prop
  | nil : OkNames X [] []
  | cons {i : Nat} {x : Str} {p : Pos} {is : List Nat} {es : List Expr} : X.N[i]? = some x → OkName X x → OkNames X is es → OkNames X (i :: is) (.Name x p :: es)
theorem assignEach_name {x : Str} {p : Pos} {es : List Expr} {env : PySem.Env} : assignEach (.Name x p :: es) env = (false, assign (.Name x p) env) :: assignEach es env := rfl
theorem pgs_many (hN : X.N.Nodup) : ∀ {is : List Nat} {es : List Expr}, OkNames X is es → PGs X es (gMany is)
  | _, _, .nil => ⟨fun pins s σ H vs us Q I r h => by
    obtain ⟨h1, h2⟩ := h
    cases r with
    | nil => exact pgs_nil.run pins s σ H [] [] Q I .nil ⟨rfl, h2⟩
    | cons => cases h1⟩
  | _, _, .cons (i := i) (x := x) (p := p) (is := is) (es := es) h1 h2 h3 => ⟨fun pins s σ H vs us Q I r h => by
    obtain ⟨k1, k2⟩ := h
    cases vs with
    | nil => cases k1
    | cons v vs =>
      refine (pgs_cons (pg_name hN h1 h2.1 h2.2) (pgs_many hN h3) rfl).run pins s σ H (v :: vs) us Q I r ⟨v, vs, rfl, ?_⟩
      exact ⟨Nat.succ.inj k1, k2⟩⟩
theorem ok_len {is : List Nat} {es : List Expr} {env : PySem.Env} (h : OkNames X is es) : (assignEach es env).length = is.length := by
  induction h with
  | nil => rfl
  | cons _ _ _ ih => show (assignEach _ env).length + 1 = _ + 1; rw [ih]
theorem ok_star {is : List Nat} {es : List Expr} {env : PySem.Env} (h : OkNames X is es) : (assignEach es env).findIdx? (·.1) = none := by
  induction h with
  | nil => rfl
  | cons _ _ _ ih => rw [assignEach_name, List.findIdx?_cons, ih]; rfl
section
variable (F : Cf)
def rdTg (tg : Tg) : TG := fun v σ H Q => ∃ (env : Env) (T : List (V × R)) (O : List Addr) (d : PyData) (Qd : Env → Prop), NoB T ∧ Good F env σ T H O ∧ Rep F.K (hid O H) v d ∧ setTg tg d env Qd ∧
  ∀ env' vs, vs.length = tg.ix.length → Good F env' (setMs tg.ix vs σ) T H O → Qd env' → Q (setMs tg.ix vs σ) H
end
theorem snd_tgN (C : Ctx G F N L sc W X) {i : Nat} {x : Str} {p : Pos} (h1 : X.N[i]? = some x) (h2 : OkName X x) : PG X (.Name x p) (rdTg F (.nm i)) :=
  (pg_name C.nd h1 h2.1 h2.2).imp fun v σ H Q ⟨env, T, O, d, Qd, n, g, r, w, q⟩ => q (env.set i (.v d)) [v] rfl (g.setV n r) w
theorem _root_.L2.PG.or {tg : Expr} {g g' : TG} (h : PG X tg g) (h' : PG X tg g') : PG X tg (fun v σ H Q => g v σ H Q ∨ g' v σ H Q) :=
  ⟨fun pins s σ H v u Q I r q => q.elim (h.run pins s σ H v u Q I r) (h'.run pins s σ H v u Q I r)⟩
theorem snd_tgT (C : Ctx G F N L sc W X) {is : List Nat} {es : List Expr} {k : Nat} {p : Pos} (h : OkNames X is es) : PG X (.Tuple es k p) (rdTg F (.tp is)) :=
  (pg_tup C.calm (pgs_many C.nd h) (ok_len h) (ok_star h)).imp fun v σ H Q ⟨env, T, O, d, Qd, n, g, r, w, q⟩ => by
    cases d with
    | tuple ds =>
      obtain ⟨w1, w2⟩ := w
      obtain ⟨a, vs, rfl, h1, h2⟩ := r.tup_inv
      refine ⟨a, vs, rfl, by rw [C.K]; exact (hid_sub O H).sqT h1, by rw [h2.length, w1], by rw [h2.length, w1], ?_⟩
      exact q (setMany is ds env) vs (by rw [h2.length, w1]; rfl) (g.setMany is n h2) w2
    | _ => exact w.elim

/-! ### comprehensions -/
def nb (t : V × R) : Bool := match t.2 with
  | .b _ => false
  | _ => true
theorem nb_filter (T : List (V × R)) : NoB (T.filter nb) := fun t ht i z => by
  have := (List.mem_filter.mp ht).2
  unfold nb at this
  rw [z] at this
  cases this
theorem isRO_nb {t : V × R} (h : isRO t.2 = true) : nb t = true := by
  obtain ⟨v, r⟩ := t
  cases r with
  | b i => cases h
  | _ => rfl
section
variable {env : Env} {σ σ' : St} {T : List (V × R)} {H H' : Hp} {O O' : List Addr}
theorem Good.noB (g : Good F env σ T H O) : Good F env σ (T.filter nb) H O :=
  ⟨g.len, g.oin, g.o0, g.h0, g.ion, g.keep, g.keep0, g.new, g.sl, fun t ht => g.tm t (List.mem_filter.mp ht).1, g.dss, fun i s h1 h2 t ht h3 => g.dst i s h1 h2 t (List.mem_filter.mp ht).1 h3, g.dtt.filter _, g.one⟩
theorem Good.reB (g : Good F env σ (T.filter nb) H O) (h : ∀ t ∈ T, ∀ i, t.2 = .b i → σ[i]? = some (some t.1)) : Good F env σ T H O := by
  refine ⟨g.len, g.oin, g.o0, g.h0, g.ion, g.keep, g.keep0, g.new, g.sl, fun t ht => ?_, g.dss, fun i s h1 h2 t ht h3 => g.dst i s h1 h2 t (List.mem_filter.mpr ⟨ht, isRO_nb h3⟩) h3, ?_, g.one⟩
  · by_cases hn : nb t = true
    · exact g.tm t (List.mem_filter.mpr ⟨ht, hn⟩)
    · have := h t ht
      obtain ⟨v, r⟩ := t
      cases r with
      | b i => exact this i rfl
      | v d => exact absurd rfl hn
      | o d => exact absurd rfl hn
  · exact (List.pairwise_filter.mp g.dtt).imp fun {t u} h h1 h2 => h (isRO_nb h1) (isRO_nb h2) h1 h2
/-- other values where the slots are forgotten -/
theorem Good.resig (g : Good F env σ T H O) (n : NoB T) (hl : σ'.length = σ.length) (h : ∀ (j : Nat) s, env[j]? = some s → s ≠ .no → (σ'[j]?).getD none = (σ[j]?).getD none) : Good F env σ' T H O := by
  have no : ∀ {s : Sl}, isO s = true → s ≠ .no := fun {s} h z => by subst z; cases h
  refine ⟨g.len.trans hl.symm, g.oin, g.o0, g.h0, g.ion, g.keep, g.keep0, g.new, fun j s hs => ?_, fun t ht => (g.tm t ht).sig (n t ht), fun j k s u hjk hj hs hk hu => ?_, fun j s hj hs t ht h3 => ?_, g.dtt, g.one⟩
  · cases s with
    | no => trivial
    | v d => rw [h j _ hs (by simp)]; exact g.sl j _ hs
    | o d => rw [h j _ hs (by simp)]; exact g.sl j _ hs
    | io d => rw [h j _ hs (by simp)]; exact g.sl j _ hs
    | sc d => rw [h j _ hs (by simp)]; exact g.sl j _ hs
  · rw [h j s hj (no hs), h k u hk (no hu)]; exact g.dss j k s u hjk hj hs hk hu
  · rw [h j s hj (no hs)]; exact g.dst j s hj hs t ht h3
theorem Good.wipe (n : NoB T) : ∀ (own : List Nat), Good F env σ T H O → Good F (wipeE env own) (L2.wipe σ own) T H O
  | [], g => g
  | i :: own, g => (Good.wipe n own g).forget n
theorem wipeE_len (env : Env) : ∀ own : List Nat, (wipeE env own).length = env.length
  | [] => rfl
  | i :: own => by show ((wipeE env own).set i .no).length = _; rw [List.length_set, wipeE_len]
theorem wipeE_in : ∀ {own : List Nat} {j : Nat} {s : Sl}, j ∈ own → (wipeE env own)[j]? = some s → s = .no
  | [], j, s, h, _ => by cases h
  | i :: own, j, s, h, e => by
    rcases set_get e with ⟨_, z, _⟩ | ⟨hj, e⟩
    · exact z
    · rcases List.mem_cons.mp h with z | h
      · exact absurd z hj
      · exact wipeE_in h e
theorem wipe_get {j : Nat} : ∀ {own : List Nat}, j ∉ own → (L2.wipe σ own)[j]? = σ[j]?
  | [], _ => rfl
  | i :: own, h => by
    show ((L2.wipe σ own).set i none)[j]? = _
    rw [List.getElem?_set_ne fun z => h (by rw [z]; exact List.mem_cons_self)]
    exact wipe_get fun z => h (List.mem_cons_of_mem _ z)
theorem wipe_set {i : Nat} {x : Option V} : ∀ {own : List Nat}, i ∈ own → L2.wipe (σ.set i x) own = L2.wipe σ own
  | [], h => by cases h
  | j :: own, h => by
    show (L2.wipe (σ.set i x) own).set j none = (L2.wipe σ own).set j none
    by_cases hm : i ∈ own
    · rw [wipe_set hm]
    · have e : i = j := (List.mem_cons.mp h).resolve_right hm
      subst e
      apply List.ext_getElem?
      intro k
      by_cases hk : i = k
      · subst hk
        by_cases hl : i < σ.length
        · rw [List.getElem?_set_self (by rw [L2.wipe_length, List.length_set]; exact hl), List.getElem?_set_self (by rw [L2.wipe_length]; exact hl)]
        · rw [List.getElem?_eq_none (by rw [List.length_set, L2.wipe_length, List.length_set]; omega), List.getElem?_eq_none (by rw [List.length_set, L2.wipe_length]; omega)]
      · rw [List.getElem?_set_ne hk, List.getElem?_set_ne hk]
        by_cases hk2 : k ∈ own
        · have z : ∀ τ : St, (L2.wipe τ own)[k]? = if k < τ.length then some none else none := fun τ => by
            split
            · rename_i hl
              have hl' : k < (L2.wipe τ own).length := by rw [L2.wipe_length]; exact hl
              cases q : (L2.wipe τ own)[k]? with
              | none => rw [List.getElem?_eq_none_iff] at q; omega
              | some y =>
                cases y with
                | none => rfl
                | some y => exact absurd hk2 (wipe_some q).2
            · rename_i hl
              exact List.getElem?_eq_none (by rw [L2.wipe_length]; omega)
          rw [z, z, List.length_set]
        · rw [wipe_get hk2, wipe_get hk2, List.getElem?_set_ne hk]
theorem wipe_ms {own : List Nat} : ∀ {is : List Nat} {vs : List V} {σ : St}, (∀ i ∈ is, i ∈ own) → L2.wipe (setMs is vs σ) own = L2.wipe σ own
  | [], _, _, _ => rfl
  | _ :: _, [], _, _ => rfl
  | i :: is, v :: vs, σ, h => by
    show L2.wipe (setMs is vs (σ.set i (some v))) own = _
    rw [wipe_ms fun j hj => h j (List.mem_cons_of_mem _ hj), wipe_set (h i List.mem_cons_self)]
theorem wipe_wipe {own : List Nat} : L2.wipe (L2.wipe σ own) own = L2.wipe σ own := by
  apply List.ext_getElem?
  intro k
  by_cases hk : k ∈ own
  · have z : ∀ τ : St, (L2.wipe τ own)[k]? = if k < τ.length then some none else none := fun τ => by
      split
      · rename_i hl
        have hl' : k < (L2.wipe τ own).length := by rw [L2.wipe_length]; exact hl
        cases q : (L2.wipe τ own)[k]? with
        | none => rw [List.getElem?_eq_none_iff] at q; omega
        | some y =>
          cases y with
          | none => rfl
          | some y => exact absurd hk (wipe_some q).2
      · rename_i hl
        exact List.getElem?_eq_none (by rw [L2.wipe_length]; omega)
    rw [z, z, L2.wipe_length]
  · rw [wipe_get hk]
/-- the list that is being made grows -/
theorem Good.changeT {a : Addr} {ds ds' : List PyData} {vs' : List V} (g : Good F env σ ((.ref a, .o ds) :: T) H O) (r : Reps F.K (hid O H) vs' ds') : Good F env σ ((.ref a, .o ds') :: T) (upd H a (.lst vs')) O := by
  obtain ⟨b, vs, e1, h2, h3, h4, h5⟩ := g.tm _ List.mem_cons_self
  cases e1
  have d := List.pairwise_cons.mp g.dtt
  have eq : hid O (upd H a (.lst vs')) = hid O H := hid_upd h3
  have e : Sub (hid O H) (hid O (upd H a (.lst vs'))) := by rw [eq]; exact Sub.refl _
  refine ⟨g.len, fun b hb => ?_, g.o0, g.h0, g.ion, fun b u h n => ?_, fun b h => ?_, g.new, fun j u hu => (g.sl j u hu).mono e fun b ws hb e1 e2 q => ⟨?_, hb⟩, fun t ht => ?_, g.dss, fun j u hj hu t ht h5 => ?_, List.pairwise_cons.mpr ⟨d.1, d.2⟩, g.one⟩
  · by_cases hb' : b = a
    · subst hb'; rw [upd_same]; simp
    · rw [upd_ne hb']; exact g.oin b hb
  · rw [upd_ne]
    · exact g.keep b u h n
    · rintro rfl
      have h4 : F.H0 b = none := h4
      rw [h4] at h; cases h
  · by_cases hb' : b = a
    · subst hb'; rw [upd_same]; simp
    · rw [upd_ne hb']; exact g.keep0 b h
  · rw [upd_ne]
    · exact q
    · rintro rfl
      rcases e2 with e2 | e2
      · exact g.dst j u hu e2 _ List.mem_cons_self rfl e1
      · exact g.io_ne h4 e2
  · rcases List.mem_cons.mp ht with rfl | ht2
    · exact ⟨a, vs', rfl, upd_same, h3, h4, by rw [eq]; exact r⟩
    · refine (g.tm t (List.mem_cons_of_mem _ ht2)).mono e fun b ws hb e1 e2 q => ⟨?_, hb⟩
      rw [upd_ne]
      · exact q
      · rintro rfl
        exact d.1 t ht2 rfl e2 e1.symm
  · rcases List.mem_cons.mp ht with rfl | ht
    · show _ ≠ some (V.ref a)
      exact g.dst j u hj hu (.ref a, .o ds) List.mem_cons_self rfl
    · exact g.dst j u hj hu t (List.mem_cons_of_mem _ ht) h5
end
theorem NoB.append {S T : List (V × R)} (a : NoB S) (b : NoB T) : NoB (S ++ T) := fun t ht => (List.mem_append.mp ht).elim (a t) (b t)
/-- the turn of a comprehension -/
abbrev cturn (G : GE) (own : List Nat) (tg : Tg) (c : Po) (elt : P) : PyData → Env → (Option PyData → Env → Prop) → Prop := fun d env2 K => setTg tg d env2 fun env3 => wpPc G c env3 (fun b env4 => if b = true then wpE G elt env4 (fun r env5 => withS (r.sh env5) fun y env6 => K (some y) (wipeE env6 own)) noEx else K none (wipeE env4 own)) noEx
theorem noEx_ok {σ : St} {T : List (V × R)} : ExOk F mg W noEx σ T := fun _ _ _ _ _ _ _ h => h.elim
theorem snd_lc {elt tge iter : Expr} {ifs : List Expr} {scope : Scope} {own : List Nat} {pos : Pos} {w : Wk} {tg : Tg} {c : Po} {pe : P} {nm : Nat → Str} (C : Ctx G F N L sc W X) (hi : PI X tge iter (rdW G F X.mg W w)) (hsub : ∀ i ∈ tg.ix, i ∈ own)
    (ok : BlkOk X.N X.env.scope scope (own.map fun i => (nm i, i)))
    (hg : ∀ (s : Shared) (H : Hp) (C : Addr) (cl : List (Str × Addr)) (fp : List Addr), PG (X.blk s H scope (compEnvC scope cl C X.env) fp) tge (rdTg F tg))
    (ht : ∀ (s : Shared) (H : Hp) (C : Addr) (cl : List (Str × Addr)) (fp : List Addr), PTs (X.blk s H scope (compEnvC scope cl C X.env) fp) ifs (rdPc G F X.mg (fun _ _ _ _ => False) c))
    (he : ∀ (s : Shared) (H : Hp) (C : Addr) (cl : List (Str × Addr)) (fp : List Addr), PE (X.blk s H scope (compEnvC scope cl C X.env) fp) elt (rdE G F X.mg (fun _ _ _ _ => False) pe)) :
    ∀ σ H Q, rdE G F X.mg W (.comp own w tg c pe) σ H Q → tLc (rdW G F X.mg W w) (rdTg F tg) (rdPc G F X.mg (fun _ _ _ _ => False) c) (rdE G F X.mg (fun _ _ _ _ => False) pe) own σ H Q := by
  intro σ H Q ⟨env, T, O, Qd, E, g, wp, q, ex⟩
  simp only [wpE] at wp
  refine ⟨env, T, O, _, E, g, wp, fun items ts env1 H1 O1 J wk nts g1 w1 => ?_, ex⟩
  intro D hD
  -- the ground of the loop: values alone on the stack
  have tb : ∀ t ∈ T, ∀ i, t.2 = .b i → σ[i]? = some (some t.1) := fun t ht i z => by
    have := g.tm t ht
    obtain ⟨v, r⟩ := t
    cases z
    exact this
  have ets : (ts ++ T).filter nb = ts ++ T.filter nb := by
    rw [List.filter_append]
    congr 1
    refine List.filter_eq_self.mpr fun t ht => ?_
    obtain ⟨v, r⟩ := t
    cases r with
    | b i => exact absurd rfl (nts _ ht i)
    | _ => rfl
  have g2 : Good F env1 σ (ts ++ T.filter nb) H1 O1 := by rw [← ets]; exact g1.noB
  have n2 : NoB (ts ++ T.filter nb) := nts.append (nb_filter T)
  have g3 := g2.pushO (vs := []) hD .nil
  have n3 : ∀ acc, NoB ((V.ref D, R.o acc) :: (ts ++ T.filter nb)) := fun acc => NoB.cons (fun i z => by cases z) n2
  have g4 := Good.wipe (n3 []) own g3
  have wk' : WalkD F ts J items := wk
  refine ⟨fun i m H => m = items.length - i ∧ i ≤ items.length ∧ ∃ e acc O, Good F e (L2.wipe σ own) ((.ref D, .o acc) :: (ts ++ T.filter nb)) H O ∧ (∀ j ∈ own, ∀ s, e[j]? = some s → s = .no) ∧
    compL (cturn G own tg c pe) (items.drop i) acc e (fun ds env' => Qd (.o ds) env'), ⟨items.length, by omega, Nat.zero_le _, wipeE env1 own, [], D :: O1, g4, fun j hj s hs => wipeE_in hj hs, w1⟩, ?_⟩
  rintro i m H2 ⟨rfl, hle, e, acc, O2, g5, hno, w2⟩
  obtain ⟨go, stop, yld⟩ := wk' e _ _ H2 O2 (fun t ht => List.mem_cons_of_mem _ (List.mem_append_left _ ht)) g5
  by_cases hlt : i < items.length
  · refine .inr ⟨go i hlt, fun H3 => ∃ e acc O, Good F e (L2.wipe σ own) ((.ref D, .o acc) :: (ts ++ T.filter nb)) H3 O ∧ (∀ j ∈ own, ∀ s, e[j]? = some s → s = .no) ∧
      compL (cturn G own tg c pe) (items.drop (i + 1)) acc e (fun ds env' => Qd (.o ds) env'), fun H3 h3 => ⟨items.length - (i + 1), by omega, rfl, by omega, h3⟩, fun x H3 hy => ?_⟩
    obtain ⟨g6, d, hd, rd⟩ := yld i x H3 hlt hy
    have hdrop : items.drop i = d :: items.drop (i + 1) := by
      rw [List.drop_eq_getElem_cons hlt]
      rw [List.getElem?_eq_getElem hlt] at hd
      rw [Option.some.inj hd]
    rw [hdrop] at w2
    simp only [compL, cturn] at w2
    refine ⟨e, _, O2, d, _, n3 acc, g6, rd, w2, fun e3 vs hvs g7 w3 => ⟨by rw [wipe_ms hsub, wipe_wipe], ?_⟩⟩
    have ww : L2.wipe (setMs tg.ix vs (L2.wipe σ own)) own = L2.wipe σ own := by rw [wipe_ms hsub, wipe_wipe]
    refine ⟨e3, _, O2, _, noEx, g7, w3, fun b e4 H4 O4 g8 w4 => ?_, noEx_ok⟩
    cases b with
    | false =>
      simp only [Bool.false_eq_true, if_false] at w4 ⊢
      have g9 := Good.wipe (n3 acc) own g8
      rw [ww] at g9
      exact ⟨_, acc, O4, g9, fun j hj s hs => wipeE_in hj hs, w4⟩
    | true =>
      simp only [if_true] at w4 ⊢
      refine ⟨e4, _, O4, _, noEx, g8, w4, fun r v e5 H5 O5 g9 w5 => ?_, noEx_ok⟩
      obtain ⟨y, e6, hy6, w6⟩ := withS_of w5
      obtain ⟨O6, g10⟩ := g9.share hy6
      have ry : Rep F.K (hid O6 H5) v y := g10.tm _ List.mem_cons_self
      have g11 := g10.pop
      obtain ⟨a, ws, ea, h2, h3, h4, h5⟩ := g11.tm _ List.mem_cons_self
      cases ea
      obtain ⟨w7, w8⟩ := w6
      refine ⟨ws, h2, by rw [h5.length, ← line_eq]; exact w7, ?_⟩
      have g12 := g11.changeT (h5.append (Reps.one ry))
      have g13 := Good.wipe (n3 _) own g12
      rw [ww] at g13
      exact ⟨_, _, O6, g13, fun j hj s hs => wipeE_in hj hs, w8⟩
  · have ei : i = items.length := by omega
    subst ei
    rw [List.drop_length] at w2
    refine .inl ⟨stop, ?_⟩
    have g6 : Good F e σ ((.ref D, .o acc) :: (ts ++ T.filter nb)) H2 O2 := g5.resig (n3 acc) (by rw [L2.wipe_length]) fun j s hs hn => by
      rw [wipe_get fun hj => hn (hno j hj s hs)]
    have g7 : ∀ S, Good F e σ ((.ref D, .o acc) :: (S ++ T.filter nb)) H2 O2 → Good F e σ ((.ref D, .o acc) :: T.filter nb) H2 O2 := fun S => by
      induction S with
      | nil => exact fun h => h
      | cons s S ih => exact fun h => ih h.pop2
    have g8 : Good F e σ (((V.ref D, R.o acc) :: T).filter nb) H2 O2 := g7 ts g6
    refine q _ _ _ _ _ (g8.reB fun t ht i z => ?_) w2
    rcases List.mem_cons.mp ht with rfl | ht
    · cases z
    · exact tb t ht i z
end
end Mp

set_option Elab.async false
set_option linter.all false
set_option maxRecDepth 100000
set_option maxHeartbeats 2000000
/-! Mp, part 10: the check is sound for expressions. -/
namespace Mp
open PySem PySem.Spec PyProof.Rows L2
section
variable {G : GE} {F : Cf} {N : List Str} {L : Nat}
theorem _root_.L2.PTs.imp {X : Cx} {ifs : List Expr} {t t' : TT} (h : PTs X ifs t) (i : ∀ σ H Q, t' σ H Q → t σ H Q) : PTs X ifs t' := ⟨fun pins s σ H Q I q => h.run pins s σ H Q I (i σ H Q q)⟩
section
variable {sc : Scope} {W : WX} {X : Cx}
theorem snd_pcN : PTs X [] (rdPc G F X.mg W .none) := pts_nil.imp fun σ H Q ⟨env, T, O, Qd, E, g, w, q, ex⟩ => q _ _ _ _ g (by simpa only [wpPc] using w)
theorem snd_pcS {x : Expr} {p : P} (h : PT X x (rdT G F X.mg W p)) : PTs X [x] (rdPc G F X.mg W (.some p)) := (pts_one h).imp fun σ H Q ⟨env, T, O, Qd, E, g, w, q, ex⟩ => ⟨env, T, O, Qd, E, g, by simpa only [wpPc] using w, q, ex⟩
theorem relabel_eq {scope : Scope} {env : PySem.Env} : relabel scope env = L2.relS scope env.scope := rfl
theorem Ctx.blk (C : Ctx G F N L sc W X) {s : Shared} {H : Hp} {scope : Scope} {cl : List (Str × Addr)} {A : Addr} {fp : List Addr} : Ctx G F N L (blkSc scope sc) (fun _ _ _ _ => False) (X.blk s H scope (compEnvC scope cl A X.env) fp) :=
  ⟨C.N, C.K, by show relabel scope X.env = _; rw [relabel_eq, C.scE]; rfl, C.calm, C.nd, C.room, takes0, C.kn⟩
theorem tgB_ok (C : Ctx G F N L sc W X) {tg : Tg} {e : Expr} (h : tgB N sc tg e = true) : PG X e (rdTg F tg) := by
  have nm : ∀ {i : Nat} {x : Str}, N[i]? = some x → sc.names.lookup x = some .local → X.N[i]? = some x ∧ OkName X x := fun h1 h2 => by
    refine ⟨by rw [C.N]; exact h1, .inl ?_, .inr ?_⟩ <;> rw [C.scE] <;> exact h2
  cases tg with
  | nm i =>
    simp only [tgB] at h
    split at h
    · simp only [Bool.and_eq_true, decide_eq_true_eq] at h
      obtain ⟨a, b⟩ := nm h.1 h.2
      exact snd_tgN C a b
    · cases h
  | tp is =>
    simp only [tgB] at h
    split at h
    · rename_i es k p
      refine snd_tgT C ?_
      have all : ∀ (is : List Nat) (es : List Expr), tgB.namesB N sc is es = true → OkNames X is es := fun is => by
        induction is with
        | nil =>
          intro es h
          cases es with
          | nil => exact .nil
          | cons => simp [tgB.namesB] at h
        | cons i is ih =>
          intro es h
          cases es with
          | nil => simp [tgB.namesB] at h
          | cons e es =>
            simp only [tgB.namesB, Bool.and_eq_true] at h
            obtain ⟨h1, h2⟩ := h
            split at h1
            · simp only [Bool.and_eq_true, decide_eq_true_eq] at h1
              obtain ⟨a, b⟩ := nm h1.1 h1.2
              exact .cons a b (ih es h2)
            · cases h1
      exact all is es h
    · cases h
theorem fnB_of {f : Option FnI} {k : HdK} {x : Str} {n : Nat} (h : fnB f k x L n = true) : ∃ fi, f = some fi ∧ fi.name = x ∧ fi.hd = k ∧ fi.lev ≤ L ∧ n = fi.pars.length := by
  unfold fnB at h
  split at h
  · simp only [Bool.and_eq_true, decide_eq_true_eq] at h
    exact ⟨_, rfl, h.1.1.1, h.1.1.2, h.1.2, h.2⟩
  · cases h
theorem own_map {own : List Nat} : (ownB N own).map (·.2) = own := by
  unfold ownB
  rw [List.map_map]
  exact List.map_id _
theorem plainIx_of {q : P} {e : Expr} (h : chkE G N L q sc e = true) : PlainIx e := by
  intro o i
  cases e with
  | Slice lo hi st pos => cases q <;> exact absurd h Bool.false_ne_true
  | _ => rfl
theorem notSet_ok {e : Expr} (h : notSet e = true) (op : CmpOp) : behindInMarks op e = false := by
  cases e with
  | Set elts k pos => cases h
  | _ => rfl
theorem both {e : Expr} {p : P} (h : PE X e (rdE G F X.mg W p)) (hp : ∀ whole, isTrue e X.env whole = (do let v ← whole; standAt e.pos; holding [v] (truthy v))) : PE X e (rdE G F X.mg W p) ∧ (okT p = true → PT X e (rdT G F X.mg W p)) := ⟨h, fun _ => snd_val h hp⟩
theorem foldSet_of {w : Wk} {tg : Tg} {tge e : Expr} {env : PySem.Env} (h : chkW G N L w sc tg tge e = true) : ∀ x, foldedSetIterable e env x = pure x := by
  intro x
  cases e with
  | Set elts k pos =>
    cases w with
    | seq a => cases a <;> exact absurd h Bool.false_ne_true
    | rng1 a => exact absurd h Bool.false_ne_true
    | rng2 a b => exact absurd h Bool.false_ne_true
    | enum a => cases tg <;> cases tge <;> exact absurd h Bool.false_ne_true
    | zip a b => cases tg <;> cases tge <;> exact absurd h Bool.false_ne_true
  | _ => rfl
theorem snd_call0 (C : Ctx G F N L sc W X) {k : Nat} {fi : FnI} {p pos : Pos} (hk : G.fni k = some fi) (hd : fi.hd = .no) (hl : fi.lev ≤ L) (hn : ([] : List Expr).length = fi.pars.length) (hg : glB sc fi.name = true) :
    PE X (.Call (.Name fi.name p) [] [] pos) (rdE G F X.mg W (.call k .nil)) := by
  obtain ⟨f, fd, m, kp, bd, ok⟩ := C.kn.fn k fi hk hl
  obtain ⟨g1, g2⟩ := gl_of C hg
  have K := C.K
  refine ⟨fun pins s σ H Q I ⟨env, T, O, Qd, E, g, w, q, ex⟩ => ?_⟩
  simp only [wpE, wpEs] at w
  obtain ⟨w1, w2, w3⟩ := w
  refine wpAny_Call_Name_kw (ld_glob I g1 m ?_ g2)
  refine PySem.W.callWith_K0 I.kIn kp (run_fnS (E := WE W) (us := []) ok (C.room.mono hl) bd (passAt C.tk σ) I .nil ?_)
  rw [K]
  refine ⟨.no, [], O, none, [], by rw [hd]; rfl, hn, ⟨rfl, rfl⟩, .nil, g.oin, w1, fun r h v H2 O2 hp l => ?_, exc_of g ex w3⟩
  exact q _ _ _ _ _ (g.after l) (w2 r h hp)
end
mutual
theorem sndE : ∀ (p : P) {sc : Scope} {W : WX} {X : Cx} (C : Ctx G F N L sc W X) {e : Expr}, chkE G N L p sc e = true → PE X e (rdE G F X.mg W p) ∧ (okT p = true → PT X e (rdT G F X.mg W p))
  | .var i, sc, W, X, C, e, h => by
    unfold chkE at h
    split at h
    · exact both (snd_var C h) fun _ => rfl
    · cases h
  | .int i, sc, W, X, C, e, h => by
    unfold chkE at h
    split at h
    · obtain rfl := of_decide_eq_true h; exact both (snd_int C) fun _ => rfl
    · cases h
  | .bl i, sc, W, X, C, e, h => by
    unfold chkE at h
    split at h
    · obtain rfl := of_decide_eq_true h; exact both (snd_bl C) fun _ => rfl
    · cases h
  | .non, sc, W, X, C, e, h => by
    unfold chkE at h
    split at h
    · exact both (snd_non C) fun _ => rfl
    · cases h
  | .str i, sc, W, X, C, e, h => by
    unfold chkE at h
    split at h
    · obtain rfl := of_decide_eq_true h; exact both (snd_str C) fun _ => rfl
    · cases h
  | .con k, sc, W, X, C, e, h => by
    unfold chkE at h
    split at h
    · obtain ⟨h1, h2⟩ := Bool.and_eq_true_iff.mp h
      split at h2
      · rename_i y d hk
        obtain rfl := of_decide_eq_true h2
        exact both (snd_con C hk h1) fun _ => rfl
      · cases h2
    · cases h
  | .bin op a b, sc, W, X, C, e, h => by
    unfold chkE at h
    split at h
    · simp only [Bool.and_eq_true, decide_eq_true_eq] at h
      obtain ⟨⟨rfl, h1⟩, h2⟩ := h
      exact both (snd_bin C (sndE a C h1).1 (sndE b C h2).1) fun _ => rfl
    · cases h
  | .neg a, sc, W, X, C, e, h => by
    unfold chkE at h
    split at h
    · exact both (snd_neg C (sndE a C h).1) fun _ => rfl
    · cases h
  | .cmp op a b, sc, W, X, C, e, h => by
    unfold chkE at h
    split at h
    · simp only [Bool.and_eq_true, decide_eq_true_eq] at h
      obtain ⟨⟨⟨rfl, h1⟩, h2⟩, h3⟩ := h
      exact ⟨snd_cmp C (sndE a C h1).1 (sndE b C h2).1 (notSet_ok h3 _), fun _ => snd_cmpT C (sndE a C h1).1 (sndE b C h2).1 (notSet_ok h3 _)⟩
    · cases h
  | .chn op op' a b c, sc, W, X, C, e, h => by
    unfold chkE at h
    split at h
    · simp only [Bool.and_eq_true, decide_eq_true_eq] at h
      obtain ⟨⟨⟨⟨⟨⟨rfl, rfl⟩, h1⟩, h2⟩, h3⟩, h4⟩, h5⟩ := h
      exact ⟨snd_chn C (sndE a C h1).1 (sndE b C h2).1 (sndE c C h3).1 (notSet_ok h5 _), fun _ => snd_chnT C (sndE a C h1).1 (sndE b C h2).1 (sndE c C h3).1 (notSet_ok h5 _)⟩
    · cases h
  | .bop k es, sc, W, X, C, e, h => by
    unfold chkE at h
    split at h
    · simp only [Bool.and_eq_true, decide_eq_true_eq] at h
      obtain ⟨rfl, h1⟩ := h
      cases k with
      | true => exact ⟨(sndBA es C h1).1.imp fun σ H Q ⟨env, T, O, Qd, E, g, w, q, ex⟩ => ⟨env, T, O, Qd, E, g, by simpa only [wpE] using w, q, ex⟩,
        fun ho => ((sndBA es C h1).2 ho).pt.imp fun σ H Q ⟨env, T, O, Qd, E, g, w, q, ex⟩ => ⟨env, T, O, Qd, E, g, by simpa only [wpE] using w, q, ex⟩⟩
      | false => exact ⟨(sndBO es C h1).1.imp fun σ H Q ⟨env, T, O, Qd, E, g, w, q, ex⟩ => ⟨env, T, O, Qd, E, g, by simpa only [wpE] using w, q, ex⟩,
        fun ho => ((sndBO es C h1).2 ho).pt.imp fun σ H Q ⟨env, T, O, Qd, E, g, w, q, ex⟩ => ⟨env, T, O, Qd, E, g, by simpa only [wpE] using w, q, ex⟩⟩
    · cases h
  | .not a, sc, W, X, C, e, h => by
    unfold chkE at h
    split at h
    · exact ⟨snd_not (sndE a C h).1, fun ho => snd_notT ((sndE a C h).2 ho)⟩
    · cases h
  | .ife t a b, sc, W, X, C, e, h => by
    unfold chkE at h
    split at h
    · simp only [Bool.and_eq_true] at h
      obtain ⟨⟨⟨h0, h1⟩, h2⟩, h3⟩ := h
      exact ⟨snd_ife ((sndE t C h1).2 h0) (sndE a C h2).1 (sndE b C h3).1, fun ho => by cases ho⟩
    · cases h
  | .tup es, sc, W, X, C, e, h => by
    unfold chkE at h
    split at h
    · exact both (snd_tup (sndEs es C h)) fun _ => rfl
    · cases h
  | .lst es, sc, W, X, C, e, h => by
    unfold chkE at h
    split at h
    · exact both (snd_lst (sndEs es C h)) fun _ => rfl
    · cases h
  | .ix a i, sc, W, X, C, e, h => by
    unfold chkE at h
    split at h
    · simp only [Bool.and_eq_true] at h
      exact both (snd_ix C (sndE a C h.1).1 (sndE i C h.2).1 (plainIx_of h.2)) fun _ => rfl
    · cases h
  | .sl a lo hi, sc, W, X, C, e, h => by
    unfold chkE at h
    split at h
    · simp only [Bool.and_eq_true] at h
      exact both (snd_sl C (sndE a C h.1.1).1 (sndPo lo C h.1.2) (sndPo hi C h.2)) fun _ => rfl
    · cases h
  | .rev a, sc, W, X, C, e, h => by
    unfold chkE at h
    split at h
    · exact both (snd_rev C (sndE a C h).1) fun _ => rfl
    · cases h
  | .call k es, sc, W, X, C, e, h => by
    unfold chkE at h
    split at h
    · rename_i x p args pos
      simp only [Bool.and_eq_true] at h
      obtain ⟨⟨h1, h2⟩, h3⟩ := h
      obtain ⟨fi, hk, rfl, hd, hl, hn⟩ := fnB_of h3
      cases args with
      | nil =>
        cases es with
        | cons a r => simp [chkEs] at h2
        | nil =>
          exact both (snd_call0 C hk hd hl hn h1) fun _ => rfl
      | cons e es' =>
        have hlen := len_of h2
        cases es with
        | nil => simp [chkEs] at h2
        | cons a r =>
          have h2' := h2
          simp only [chkEs, Bool.and_eq_true] at h2'
          exact both (snd_call C hk hd hl hn h1 h2'.1.1 (plain_of h2'.2) hlen (sndEs (.cons a r) C h2)) fun _ => rfl
    · cases h
  | .callIo k i es, sc, W, X, C, e, h => by
    unfold chkE at h
    split at h
    · simp only [Bool.and_eq_true] at h
      obtain ⟨⟨⟨h1, h2⟩, h3⟩, h4⟩ := h
      obtain ⟨fi, hk, rfl, hd, hl, hn⟩ := fnB_of h4
      exact both (snd_callIo C hk hd hl hn h1 h2 (plain_of h3) (len_of h3) (sndEs es C h3)) fun _ => rfl
    · cases h
  | .callSc k i es, sc, W, X, C, e, h => by
    unfold chkE at h
    split at h
    · simp only [Bool.and_eq_true] at h
      obtain ⟨⟨⟨h1, h2⟩, h3⟩, h4⟩ := h
      obtain ⟨fi, hk, rfl, hd, hl, hn⟩ := fnB_of h4
      exact both (snd_callSc C hk hd hl hn h1 h2 (plain_of h3) (len_of h3) (sndEs es C h3)) fun _ => rfl
    · cases h
  | .blt f es, sc, W, X, C, e, h => by
    unfold chkE at h
    split at h
    · rename_i x p args pos
      simp only [Bool.and_eq_true, decide_eq_true_eq] at h
      obtain ⟨⟨⟨h1, rfl⟩, h3⟩, h4⟩ := h
      cases args with
      | nil => cases f <;> cases h3
      | cons e es' =>
        cases es with
        | nil => simp [chkEs] at h4
        | cons a r =>
          have h4' := h4
          simp only [chkEs, Bool.and_eq_true] at h4'
          exact both (snd_blt C h1 h4'.1.1 (plain_of h4'.2) (sndBs (.cons a r) C h4)) fun _ => rfl
    · cases h
  | .len a, sc, W, X, C, e, h => by
    unfold chkE at h
    split at h
    · simp only [Bool.and_eq_true, decide_eq_true_eq] at h
      obtain ⟨⟨⟨h1, rfl⟩, h3⟩, h4⟩ := h
      exact both (snd_len C h1 h3 (sndE a C h4).1) fun _ => rfl
    · cases h
  | .isin a t, sc, W, X, C, e, h => by
    unfold chkE at h
    split at h
    · simp only [Bool.and_eq_true, decide_eq_true_eq] at h
      obtain ⟨⟨⟨⟨⟨⟨h1, rfl⟩, h3⟩, h4⟩, h5⟩, rfl⟩, h7⟩ := h
      exact both (snd_isin C h1 h5 h7 h3 (sndE a C h4).1) fun _ => rfl
    · cases h
  | .comp own w tg c elt, sc, W, X, C, e, h => by
    unfold chkE at h
    split at h
    · rename_i el tge iter ifs scope pos
      simp only [Bool.and_eq_true] at h
      obtain ⟨⟨⟨⟨⟨⟨h1, h2⟩, h3⟩, h4⟩, h5⟩, h6⟩, h7⟩ := h
      have hsub : ∀ i ∈ tg.ix, i ∈ own := fun i hi => by
        have := List.all_eq_true.mp h7 i hi
        simpa using this
      have bo : BlkOk X.N X.env.scope scope (ownB N own) := blkOk_by (by rw [C.N, C.scE]; exact h5)
      have hpc : ∀ (s : Shared) (H : Hp) (A : Addr) (cl : List (Str × Addr)) (fp : List Addr), PTs (X.blk s H scope (compEnvC scope cl A X.env) fp) ifs (rdPc G F X.mg (fun _ _ _ _ => False) c) := fun s H A cl fp => by
        cases c with
        | none =>
          split at h3
          · exact snd_pcN
          · simp [chkPo] at h3
          · cases h3
        | some p =>
          split at h3
          · simp [chkPo] at h3
          · exact snd_pcS ((sndE p C.blk (by simpa only [chkPo] using h3)).2 h6)
          · cases h3
      refine both (?_ : PE X _ _) fun _ => rfl
      refine (pe_lc (wi := rdW G F X.mg W w) (g := rdTg F tg) (tt := rdPc G F X.mg (fun _ _ _ _ => False) c) (te := rdE G F X.mg (fun _ _ _ _ => False) elt) C.calm C.nd (sndW w C h1) bo (fun s H A cl fp => tgB_ok (X := X.blk s H scope (compEnvC scope cl A X.env) fp) C.blk h2) hpc (fun s H A cl fp => (sndE elt (X := X.blk s H scope (compEnvC scope cl A X.env) fp) C.blk h4).1) (foldSet_of h1)).imp fun σ H Q r => ?_
      rw [own_map]
      exact snd_lc (pos := pos) (nm := fun i => N.getD i Str.empty) C (sndW w C h1) hsub bo (fun s H A cl fp => tgB_ok (X := X.blk s H scope (compEnvC scope cl A X.env) fp) C.blk h2) hpc (fun s H A cl fp => (sndE elt (X := X.blk s H scope (compEnvC scope cl A X.env) fp) C.blk h4).1) σ H Q r
    · cases h
  | .pop i, sc, W, X, C, e, h => by
    unfold chkE at h
    split at h
    · simp only [Bool.and_eq_true, decide_eq_true_eq] at h
      obtain ⟨⟨h1, rfl⟩, h3⟩ := h
      exact both (snd_pop C h1 h3) fun _ => rfl
    · cases h
  | .dead, sc, W, X, C, e, h => ⟨⟨fun pins s σ H Q I ⟨env, T, O, Qd, E, g, w, q, ex⟩ => by simp only [wpE] at w⟩, fun _ => ⟨fun pins s σ H Q I ⟨env, T, O, Qd, E, g, w, q, ex⟩ => by simp only [wpE] at w⟩⟩
theorem sndEs : ∀ (p : Ps) {sc : Scope} {W : WX} {X : Cx} (C : Ctx G F N L sc W X) {es : List Expr}, chkEs G N L p sc es = true → PA X es (rdEs G F X.mg W p)
  | .nil, sc, W, X, C, es, h => by
    cases es with
    | nil => exact snd_nil
    | cons e es => simp [chkEs] at h
  | .cons a r, sc, W, X, C, es, h => by
    cases es with
    | nil => simp [chkEs] at h
    | cons e es =>
      simp only [chkEs, Bool.and_eq_true] at h
      exact snd_cons h.1.1 (sndE a C h.1.2).1 (sndEs r C h.2)
theorem sndBs : ∀ (p : Ps) {sc : Scope} {W : WX} {X : Cx} (C : Ctx G F N L sc W X) {es : List Expr}, chkEs G N L p sc es = true → PA X es (rdBs G F X.mg W p)
  | .nil, sc, W, X, C, es, h => by
    cases es with
    | nil => exact snd_bnil
    | cons e es => simp [chkEs] at h
  | .cons a r, sc, W, X, C, es, h => by
    cases es with
    | nil => simp [chkEs] at h
    | cons e es =>
      simp only [chkEs, Bool.and_eq_true] at h
      exact snd_bcons h.1.1 (sndE a C h.1.2).1 (sndBs r C h.2)
theorem sndBA : ∀ (p : Ps) {sc : Scope} {W : WX} {X : Cx} (C : Ctx G F N L sc W X) {es : List Expr} {pos : Pos}, chkEs G N L p sc es = true →
    PE X (.BoolOp .And es pos) (rdBop G F X.mg W true p) ∧ (okTs p = true → PW X (.BoolOp .And es pos) (rdBopT G F X.mg W true p))
  | .nil, sc, W, X, C, es, pos, h => ⟨⟨fun pins s σ H Q I ⟨env, T, O, Qd, E, g, w, q, ex⟩ => by simp only [wpBop] at w⟩, fun _ => ⟨fun wh pins s σ H Q I ⟨env, T, O, Qd, E, g, w, q, ex⟩ => by simp only [wpBop] at w⟩⟩
  | .cons a .nil, sc, W, X, C, es, pos, h => by
    cases es with
    | nil => simp [chkEs] at h
    | cons e es =>
      simp only [chkEs, Bool.and_eq_true] at h
      cases es with
      | cons e' es => simp [chkEs] at h
      | nil => exact ⟨snd_bop1 (sndE a C h.1.2).1, fun ho => by
          simp only [okTs, Bool.and_eq_true] at ho
          exact snd_bop1AT ((sndE a C h.1.2).2 ho.1)⟩
  | .cons a (.cons b r), sc, W, X, C, es, pos, h => by
    cases es with
    | nil => simp [chkEs] at h
    | cons e es =>
      have h' := h
      unfold chkEs at h
      have h1 := Bool.and_eq_true_iff.mp h
      have h2 := Bool.and_eq_true_iff.mp h1.1
      cases es with
      | nil => simp [chkEs] at h'
      | cons e' es =>
        have ih := sndBA (.cons b r) C (pos := pos) h1.2
        exact ⟨snd_bopA (sndE a C h2.2).1 ih.1, fun ho => by
          have ho' := ho
          unfold okTs at ho'
          have ho2 := Bool.and_eq_true_iff.mp ho'
          exact snd_bopAT ((sndE a C h2.2).2 ho2.1) (ih.2 ho2.2)⟩
theorem sndBO : ∀ (p : Ps) {sc : Scope} {W : WX} {X : Cx} (C : Ctx G F N L sc W X) {es : List Expr} {pos : Pos}, chkEs G N L p sc es = true →
    PE X (.BoolOp .Or es pos) (rdBop G F X.mg W false p) ∧ (okTs p = true → PW X (.BoolOp .Or es pos) (rdBopT G F X.mg W false p))
  | .nil, sc, W, X, C, es, pos, h => ⟨⟨fun pins s σ H Q I ⟨env, T, O, Qd, E, g, w, q, ex⟩ => by simp only [wpBop] at w⟩, fun _ => ⟨fun wh pins s σ H Q I ⟨env, T, O, Qd, E, g, w, q, ex⟩ => by simp only [wpBop] at w⟩⟩
  | .cons a .nil, sc, W, X, C, es, pos, h => by
    cases es with
    | nil => simp [chkEs] at h
    | cons e es =>
      simp only [chkEs, Bool.and_eq_true] at h
      cases es with
      | cons e' es => simp [chkEs] at h
      | nil => exact ⟨snd_bop1 (sndE a C h.1.2).1, fun ho => by
          simp only [okTs, Bool.and_eq_true] at ho
          exact snd_bop1OT ((sndE a C h.1.2).2 ho.1)⟩
  | .cons a (.cons b r), sc, W, X, C, es, pos, h => by
    cases es with
    | nil => simp [chkEs] at h
    | cons e es =>
      have h' := h
      unfold chkEs at h
      have h1 := Bool.and_eq_true_iff.mp h
      have h2 := Bool.and_eq_true_iff.mp h1.1
      cases es with
      | nil => simp [chkEs] at h'
      | cons e' es =>
        have ih := sndBO (.cons b r) C (pos := pos) h1.2
        exact ⟨snd_bopO (sndE a C h2.2).1 ih.1, fun ho => by
          have ho' := ho
          unfold okTs at ho'
          have ho2 := Bool.and_eq_true_iff.mp ho'
          exact snd_bopOT ((sndE a C h2.2).2 ho2.1) (ih.2 ho2.2)⟩
theorem sndPo : ∀ (p : Po) {sc : Scope} {W : WX} {X : Cx} (C : Ctx G F N L sc W X) {e : Option Expr}, chkPo G N L p sc e = true → PO X e (rdPo G F X.mg W p)
  | .none, sc, W, X, C, e, h => by
    cases e with
    | none => exact snd_poN
    | some e => simp [chkPo] at h
  | .some a, sc, W, X, C, e, h => by
    cases e with
    | none => simp [chkPo] at h
    | some e =>
      simp only [chkPo] at h
      exact snd_poS (sndE a C h).1
theorem sndW : ∀ (p : Wk) {sc : Scope} {W : WX} {X : Cx} (C : Ctx G F N L sc W X) {tg : Tg} {tge e : Expr}, chkW G N L p sc tg tge e = true → PI X tge e (rdW G F X.mg W p)
  | .seq a, sc, W, X, C, tg, tge, e, h => by
    simp only [chkW] at h
    exact wk_seq C (sndE a C h).1
  | .rng1 a, sc, W, X, C, tg, tge, e, h => by
    simp only [chkW] at h
    split at h
    · simp only [Bool.and_eq_true, decide_eq_true_eq] at h
      obtain ⟨⟨⟨h1, rfl⟩, h3⟩, h4⟩ := h
      exact wk_rng1 C h1 h3 (sndE a C h4).1
    · cases h
  | .rng2 a b, sc, W, X, C, tg, tge, e, h => by
    simp only [chkW] at h
    split at h
    · simp only [Bool.and_eq_true, decide_eq_true_eq] at h
      obtain ⟨⟨⟨⟨⟨h1, rfl⟩, h3⟩, h4⟩, h5⟩, h6⟩ := h
      exact wk_rng2 C h1 h3 h4 (sndE a C h5).1 (sndE b C h6).1
    · cases h
  | .enum a, sc, W, X, C, tg, tge, e, h => by
    simp only [chkW] at h
    split at h
    · simp only [Bool.and_eq_true, decide_eq_true_eq] at h
      obtain ⟨⟨⟨h1, rfl⟩, h3⟩, h4⟩ := h
      exact wk_enum C h1 h3 (sndE a C h4).1
    · cases h
  | .zip a b, sc, W, X, C, tg, tge, e, h => by
    simp only [chkW] at h
    split at h
    · simp only [Bool.and_eq_true, decide_eq_true_eq] at h
      obtain ⟨⟨⟨⟨⟨h1, rfl⟩, h3⟩, h4⟩, h5⟩, h6⟩ := h
      exact wk_zip C h1 h3 h4 (sndE a C h5).1 (sndE b C h6).1
    · cases h
end
end
end Mp

set_option Elab.async false
set_option linter.all false
set_option maxRecDepth 100000
set_option maxHeartbeats 1000000
/-! Mp, part 11: statements. -/
namespace Mp
open PySem PySem.Spec PyProof.Rows L2
section
variable {G : GE} {F : Cf} {N : List Str} {L : Nat} {sc : Scope} {W : WX} {X : Cx}
variable {mg : Str → Option Value}
structure CtxS (G : GE) (F : Cf) (N : List Str) (L : Nat) (sc : Scope) (W : WX) (X : Cx) : Prop where
  c : Ctx G F N L sc W X
  hs : X.stack = X.env :: X.outer
  hf : X.env.frame = some X.env.locals
  po : PassesOwn (model X.prog X.w) X.A X.env X.xe
  fnc : ∀ x, X.fn x = true
  kind : sc.kind = .function
structure EndsOk (F : Cf) (mg : Str → Option Value) (W : WX) (D : Ends) (D' : Pst) (T : List (V × R)) : Prop where
  nx : ∀ env σ H O, Good F env σ T H O → D'.nx env → D.nx σ H
  bk : ∀ env σ H O, Good F env σ T H O → D'.bk env → D.bk σ H
  ct : ∀ env σ H O, Good F env σ T H O → D'.ct env → D.ct σ H
  rt : ∀ r v env σ H O, (∀ i, r ≠ .b i) → Good F env σ ((v, r) :: T) H O → D'.rt r env → D.rt v H
  ex : ∀ x C env σ H O, mg x = some (.ref C) → Good F env σ T H O → D'.ex x env → W (.ref C) none σ H
section
variable (G : GE) (F : Cf) (mg : Str → Option Value) (W : WX)
def rdS (p : S) : TS := fun D σ H => ∃ (env : Env) (T : List (V × R)) (O : List Addr) (D' : Pst), NoB T ∧ Good F env σ T H O ∧ wpS G p env D' ∧ EndsOk F mg W D D' T
def rdSs (p : Ss) : TS := fun D σ H => ∃ (env : Env) (T : List (V × R)) (O : List Addr) (D' : Pst), NoB T ∧ Good F env σ T H O ∧ wpSs G p env D' ∧ EndsOk F mg W D D' T
end
theorem EndsOk.exOk {D : Ends} {D' : Pst} {T : List (V × R)} (e : EndsOk F mg W D D' T) (σ : St) : ExOk F mg W D'.ex σ T := fun x C env' H' O' m g w => e.ex x C env' σ H' O' m g w
theorem EndsOk.setNx {D : Ends} {D' : Pst} {T : List (V × R)} {q : Env → Prop} {q' : St → Hp → Prop} (e : EndsOk F mg W D D' T) (h : ∀ env σ H O, Good F env σ T H O → q env → q' σ H) : EndsOk F mg W { D with nx := q' } { D' with nx := q } T :=
  ⟨h, e.bk, e.ct, e.rt, e.ex⟩
/-- an owned list goes from its slot to the stack -/
theorem Good.moveS {env : Env} {σ : St} {T : List (V × R)} {H : Hp} {O : List Addr} {j : Nat} {ds : List PyData} {v : V} (g : Good F env σ T H O) (hj : env[j]? = some (.o ds)) (hv : σ[j]? = some (some v)) : Good F (env.set j .no) σ ((v, .o ds) :: T) H O := by
  have g2 : Good F (env.set j .no) σ T H O := g.no
  have sl := g.sl j _ hj
  rw [get_getD hv] at sl
  refine ⟨g2.len, g2.oin, g2.o0, g2.h0, g2.ion, g2.keep, g2.keep0, g2.new, g2.sl, fun t ht => ?_, g2.dss, fun i s h1 h2 t ht h3 => ?_, List.Pairwise.cons (fun t ht h1 h2 => ?_) g2.dtt, g2.one⟩
  · rcases List.mem_cons.mp ht with rfl | ht
    · obtain ⟨a, vs, z1, z2, z3, z4, z5⟩ := sl
      exact ⟨a, vs, Option.some.inj z1, z2, z3, z4, z5⟩
    · exact g2.tm t ht
  · rcases List.mem_cons.mp ht with rfl | ht
    · rcases set_get h1 with ⟨_, e, _⟩ | ⟨nj, e⟩
      · subst e; cases h2
      · intro z
        exact g.dss i j s _ nj e h2 hj rfl (z.trans (get_getD hv).symm)
    · exact g2.dst i s h1 h2 t ht h3
  · intro z
    have := g.dst j _ hj rfl t ht h2
    rw [get_getD hv] at this
    exact this (congrArg some z)
theorem store_ok {D : Ends} {D' : Pst} {T : List (V × R)} {env : Env} {σ : St} {H : Hp} {O : List Addr} {i : Nat} {r : R} {v : V} (n : NoB T) (e : EndsOk F mg W D D' T) (g : Good F env σ ((v, r) :: T) H O) (w : store i r env D'.nx) : D.nx (σ.set i (some v)) H := by
  cases r with
  | v d => exact e.nx _ _ _ _ (g.pop.setV n (g.tm _ List.mem_cons_self)) w
  | o ds => exact e.nx _ _ _ _ (g.setO n) w
  | b j =>
    obtain ⟨d, env1, h, w⟩ := withS_of w
    obtain ⟨O', g2⟩ := g.share h
    exact e.nx _ _ _ _ (g2.pop.setV n (g2.tm _ List.mem_cons_self)) w
theorem give_ok {D : Ends} {D' : Pst} {T : List (V × R)} {env : Env} {σ : St} {H : Hp} {O : List Addr} {r : R} {v : V} (e : EndsOk F mg W D D' T) (g : Good F env σ ((v, r) :: T) H O) (w : give r env D'.rt) : D.rt v H := by
  cases r with
  | v d => exact e.rt _ _ _ _ _ _ (fun i z => by cases z) g w
  | o ds => exact e.rt _ _ _ _ _ _ (fun i z => by cases z) g w
  | b j =>
    have t : σ[j]? = some (some v) := g.tm _ List.mem_cons_self
    simp only [give] at w
    cases h : env[j]? with
    | none => rw [h] at w; exact w.elim
    | some s =>
      rw [h] at w
      have z := g.sl j _ h
      rw [get_getD t] at z
      cases s with
      | v d =>
        obtain ⟨v', e1, q⟩ := z
        cases e1
        exact e.rt _ _ _ _ _ _ (fun i z => by cases z) (g.pop.pushV q) w
      | o ds => exact e.rt _ _ _ _ _ _ (fun i z => by cases z) (g.pop.moveS h t) w
      | _ => exact w.elim
theorem loc_of (C : CtxS G F N L sc W X) {x : Str} (h : locB sc x = true) : OkName X x := by
  refine ⟨?_, .inl (C.fnc x)⟩
  show Loc X.env.scope x
  rw [C.c.scE]
  unfold locB at h
  split at h
  · exact .inl ‹_›
  · exact .inr ‹_›
  · cases h
theorem names_of (C : CtxS G F N L sc W X) : ∀ {is : List Nat} {es : List Expr}, namesB N sc is es = true → OkNames X is es
  | [], [], _ => .nil
  | [], _ :: _, h => by simp [namesB] at h
  | _ :: _, [], h => by simp [namesB] at h
  | i :: is, e :: es, h => by
    simp only [namesB, Bool.and_eq_true] at h
    obtain ⟨h1, h2⟩ := h
    cases e with
    | Name x p =>
      simp only [nameB, Bool.and_eq_true, decide_eq_true_eq] at h1
      exact .cons (by rw [C.c.N]; exact h1.1) (loc_of C h1.2) (names_of C h2)
    | _ => simp [nameB] at h1
theorem block_fn (C : CtxS G F N L sc W X) : X.env.blockKind = .function := by unfold Env.blockKind; rw [C.c.scE, C.kind]; rfl
theorem swp_pure {ts vs : List Expr} {k k2 : Nat} {p p2 : Pos} {env : PySem.Env} {o : Option (List Str)} (hb : env.blockKind = .function) (h : swpD env.scope ts vs = some o) : swappedStores [.Tuple ts k p] (.Tuple vs k2 p2) env = pure o := by
  unfold swpD at h
  unfold swappedStores
  simp only [hb, Env.kindOf, bne_self_eq_false, Bool.or_false] at h ⊢
  split at h
  · rename_i c1; cases h; exact if_pos c1
  rename_i c1; refine (if_neg c1).trans ?_
  split at h
  · rename_i c2; cases h; exact if_pos c2
  rename_i c2; refine (if_neg c2).trans ?_
  split at h
  · rename_i c3; cases h; exact if_pos c3
  rename_i c3; refine (if_neg c3).trans ?_
  split at h
  · rename_i c4; cases h; exact if_pos c4
  rename_i c4; refine (if_neg c4).trans ?_
  split at h
  · cases h
  rename_i c5; refine (if_neg c5).trans ?_
  cases h; rfl
theorem sw_none {v : Expr} {t : Expr} {l : Nat} {env : PySem.Env} (h : isLc v = false) : swapsWith v (some t) l env = pure false := by
  cases v <;> first
    | rfl
    | cases h
theorem sw_tgt {v t : Expr} {l : Nat} {env : PySem.Env} (h : ∀ x p, t ≠ .Name x p) : swapsWith v (some t) l env = pure false := by
  cases t <;> first
    | exact absurd rfl (h _ _)
    | (cases v <;> rfl)

/-! ### small statements -/
theorem snd_asg (C : CtxS G F N L sc W X) {i : Nat} {x : Str} {px pos : Pos} {v : Expr} {e : P} (h1 : N[i]? = some x) (hx : OkName X x) (hv : chkE G N L e sc v = true) (hs : swapsWith v (some (.Name x px)) pos.line X.env = pure false) :
    PS X (.Assign [.Name x px] v pos) (rdS G F X.mg W (.asg i e)) :=
  (ps_set (by exact C.c.nd) (by rw [C.c.N]; exact h1) hx.1 (sndE e C.c hv).1 hs hx.2).imp fun D σ H ⟨env, T, O, D', n, g, w, ok⟩ => by
    simp only [wpS] at w
    exact ⟨env, T, O, _, _, g, w, fun r v env' H' O' g' w' => store_ok n ok g' w', ok.exOk σ⟩
theorem snd_asgLc (C : CtxS G F N L sc W X) {i : Nat} {x : Str} {px pos lpos : Pos} {el : Expr} {gs : List Comprehension} {scope : Scope} {e : P} (h1 : N[i]? = some x) (hx : sc.names.lookup x = some .local) (hl : (px.line == lpos.line) = true)
    (hn : (scope.names.any fun (n, k) => n == x && (k == .local || k == .cell)) = false) (hv : chkE G N L e sc (.ListComp el gs scope lpos) = true) :
    PS X (.Assign [.Name x px] (.ListComp el gs scope lpos) pos) (rdS G F X.mg W (.asg i e)) := by
  have C' := C.c
  have hyl : X.env.scope.names.lookup x = some .local := by rw [C'.scE]; exact hx
  have hk : X.env.scope.kind = .function := by rw [C'.scE]; exact C.kind
  cases e with
  | comp own w tg c elt =>
    have h := hv
    unfold chkE at h
    split at h
    · rename_i el tge iter ifs scope pos' heq
      cases heq
      simp only [Bool.and_eq_true] at h
      obtain ⟨⟨⟨⟨⟨⟨h1', h2⟩, h3⟩, h4⟩, h5⟩, h6⟩, h7⟩ := h
      have hsub : ∀ i ∈ tg.ix, i ∈ own := fun i hi => by
        have := List.all_eq_true.mp h7 i hi
        simpa using this
      have bo : BlkOk X.N X.env.scope scope (ownB N own) := blkOk_by (by rw [C'.N, C'.scE]; exact h5)
      have hpc : ∀ (s : Shared) (H : Hp) (A : Addr) (cl : List (Str × Addr)) (fp : List Addr), PTs (X.blk s H scope (compEnvC scope cl A X.env) fp) ifs (rdPc G F X.mg (fun _ _ _ _ => False) c) := fun s H A cl fp => by
        cases c with
        | none =>
          split at h3
          · exact snd_pcN
          · simp [chkPo] at h3
          · cases h3
        | some p =>
          split at h3
          · simp [chkPo] at h3
          · exact snd_pcS ((sndE p C'.blk (by simpa only [chkPo] using h3)).2 h6)
          · cases h3
      refine (ps_setLc (wi := rdW G F X.mg W w) (g := rdTg F tg) (tt := rdPc G F X.mg (fun _ _ _ _ => False) c) (te := rdE G F X.mg (fun _ _ _ _ => False) elt) C'.calm C'.nd (by rw [C'.N]; exact h1) hyl (sw_true hk hyl hl hn) (sndW w C' h1') bo (fun s H A cl fp => tgB_ok (X := X.blk s H scope (compEnvC scope cl A X.env) fp) C'.blk h2) hpc (fun s H A cl fp => (sndE elt (X := X.blk s H scope (compEnvC scope cl A X.env) fp) C'.blk h4).1) (foldSet_of h1')).imp fun D σ H ⟨env, T, O, D', n, g, w', ok⟩ => ?_
      simp only [wpS] at w'
      show tLc _ _ _ _ _ σ H _
      rw [own_map]
      refine snd_lc (pos := lpos) (nm := fun i => N.getD i Str.empty) C' (sndW w C' h1') hsub bo (fun s H A cl fp => tgB_ok (X := X.blk s H scope (compEnvC scope cl A X.env) fp) C'.blk h2) hpc (fun s H A cl fp => (sndE elt (X := X.blk s H scope (compEnvC scope cl A X.env) fp) C'.blk h4).1) σ H _ ?_
      exact ⟨env, T, O, _, _, g, w', fun r v env' H' O' g' w' => store_ok n ok g' w', ok.exOk σ⟩
    · cases h
  | dead => exact ⟨fun pins s σ H D I ⟨env, T, O, D', n, g, w, ok⟩ => by simp only [wpS, wpE] at w⟩
  | _ => unfold chkE at hv; simp at hv
theorem snd_asgT (C : CtxS G F N L sc W X) {is : List Nat} {ts : List Expr} {k : Nat} {p pos : Pos} {v : Expr} {e : P} (h1 : namesB N sc is ts = true) (hv : chkE G N L e sc v = true) (hw : swappedStores [.Tuple ts k p] v X.env = pure none) :
    PS X (.Assign [.Tuple ts k p] v pos) (rdS G F X.mg W (.asgT is e)) := by
  have K := C.c.K
  have on := names_of C h1
  refine (ps_asg (sndE e C.c hv).1 (L2.PG.or (pg_tup (k := k) (pos := p) C.c.calm (pgs_many C.c.nd on) (ok_len on) (ok_star on)) (pg_lst (k := k) (pos := p) C.c.calm (pgs_many C.c.nd on) (ok_len on) (ok_star on))) (show swapsWith v (some (.Tuple ts k p)) pos.line X.env = pure false from sw_tgt (fun x p z => Expr.noConfusion z)) hw rfl).imp fun D σ H ⟨env, T, O, D', n, g, w, ok⟩ => ?_
  simp only [wpS] at w
  refine ⟨env, T, O, _, _, g, w, fun r v env' H' O' g' w' => ?_, ok.exOk σ⟩
  obtain ⟨d, env1, h, w'⟩ := withS_of w'
  obtain ⟨O2, g2⟩ := g'.share h
  have rp := g2.tm _ List.mem_cons_self
  cases d with
  | tuple ds =>
    obtain ⟨a, vs, rfl, q1, q2⟩ := Rep.tup_inv rp
    refine .inl ⟨a, vs, rfl, by rw [K]; exact (hid_sub _ _).sqT q1, by rw [q2.length, w'.1], by rw [q2.length, w'.1], ?_⟩
    exact ok.nx _ _ _ _ (g2.pop.setMany is n q2) w'.2
  | list ds =>
    obtain ⟨a, vs, rfl, q1, q2⟩ := Rep.lst_inv rp
    refine .inr ⟨a, vs, rfl, by rw [K]; exact SqL.of (hid_sub _ _ _ _ q1), by rw [q2.length, w'.1], by rw [q2.length, w'.1], ?_⟩
    exact ok.nx _ _ _ _ (g2.pop.setMany is n q2) w'.2
  | _ => exact w'.elim
theorem snd_ret (C : CtxS G F N L sc W X) {v : Expr} {pos : Pos} {e : P} (hv : chkE G N L e sc v = true) : PS X (.Return (some v) pos) (rdS G F X.mg W (.ret e)) :=
  (ps_ret (sndE e C.c hv).1).imp fun D σ H ⟨env, T, O, D', n, g, w, ok⟩ => by
    simp only [wpS] at w
    exact ⟨env, T, O, _, _, g, w, fun r v env' H' O' g' w' => give_ok ok g' w', ok.exOk σ⟩
theorem snd_app (C : CtxS G F N L sc W X) {i : Nat} {x : Str} {a : Expr} {p apos cpos pos : Pos} {e : P} (hx : varB N sc i x = true) (ha : notStar a = true) (hv : chkE G N L e sc a = true) (hline : (apos.endLine == cpos.line) = true) :
    PS X (.Expr (.Call (.Attribute (.Name x p) "append" apos) [a] [] cpos) pos) (rdS G F X.mg W (.app i e)) := by
  have pa : PA X [a] (rdEs G F X.mg W (.cons e .nil)) := snd_cons ha (sndE e C.c hv).1 snd_nil
  refine (ps_expr (pe_bm PySem.F.plainAttrs_list PySem.F.slot_list_append PySem.F.type_list_append mt_append (snd_var (pos := p) C.c hx) pa rfl (by rw [star_cons ha]; rfl) hline (star_cons ha) rfl) rfl).imp fun D σ H ⟨env, T, O, D', n, g, w, ok⟩ => ?_
  simp only [wpS] at w
  have e0 : ∃ xs, env[i]? = some (.o xs) ∨ env[i]? = some (.io xs) := by
    rcases io_of w with ⟨xs, e, _⟩ | ⟨xs, e, _⟩
    · exact ⟨xs, .inl e⟩
    · exact ⟨xs, .inr e⟩
  have w : wpE G e env (fun r env1 => withS (r.sh env1) fun d env2 => ioSlot env2[i]? fun ds mk => ds.length < line ∧ D'.nx (env2.set i (mk (ds ++ [d])))) D'.ex := by
    rcases io_of w with ⟨xs, e, w⟩ | ⟨xs, e, w⟩ <;> exact w
  refine ⟨env, T, O, fun r env1 => r = .b i ∧ env1 = env, D'.ex, g, ?_, fun r v env' H' O' g' w' => ?_, ok.exOk σ⟩
  · obtain ⟨xs, e | e⟩ := e0
    · simp only [wpE, e]; exact ⟨by trivial, by trivial⟩
    · simp only [wpE, e]; exact ⟨by trivial, by trivial⟩
  · obtain ⟨rfl, rfl⟩ := w'
    have t : σ[i]? = some (some v) := g'.tm _ List.mem_cons_self
    have ty : tyV X.K "list" v H' := by
      obtain ⟨xs, e | e⟩ := e0
      · have z := g'.sl i _ e
        rw [get_getD t] at z
        obtain ⟨a, ws, z1, z2, _⟩ := z
        cases z1
        exact .inl ⟨rfl, ws, SqL.of z2⟩
      · have z := g'.sl i _ e
        rw [get_getD t] at z
        obtain ⟨a, ws, z1, _, z2, _⟩ := z
        cases z1
        exact .inl ⟨rfl, ws, SqL.of z2⟩
    refine ⟨ty, env', _, O', fun ds env1 => match ds with
      | [d] => ioSlot env1[i]? fun xs mk => xs.length < line ∧ D'.nx (env1.set i (mk (xs ++ [d])))
      | _ => False, D'.ex, g', ?_, fun ds vs env2 H2 O2 l2 g2 r2 w3 => ?_, (ok.exOk σ).pop⟩
    · simp only [wpEs]; exact w
    · obtain ⟨d, rfl⟩ : ∃ d, ds = [d] := by
        cases ds with
        | nil => exact w3.elim
        | cons d ds =>
          cases ds with
          | nil => exact ⟨d, rfl⟩
          | cons => exact w3.elim
      have t2 : σ[i]? = some (some v) := g2.tm _ List.mem_cons_self
      obtain ⟨u, rfl, ru⟩ : ∃ u, vs = [u] ∧ Rep F.K (hid O2 H2) u d := by
        cases r2 with
        | cons r1 r2 => cases r2; exact ⟨_, rfl, r1⟩
      rcases io_of w3 with ⟨xs, e, w3⟩ | ⟨xs, e, w3⟩
      · have z := g2.sl i _ e
        rw [get_getD t2] at z
        obtain ⟨a, ws, z1, z2, z3, z4, z5⟩ := z
        cases z1
        refine ⟨a, ws, u, rfl, rfl, z2, by rw [z5.length, ← line_eq]; exact w3.1, ?_⟩
        exact ok.nx _ _ _ _ (g2.pop.change (s' := .o (xs ++ [d])) e (.inl ⟨rfl, rfl⟩) (get_getD t2) (z5.append (Reps.one ru))) w3.2
      · have z := g2.sl i _ e
        rw [get_getD t2] at z
        obtain ⟨a, ws, z1, z0, z2, z3, z5⟩ := z
        cases z1
        refine ⟨a, ws, u, rfl, rfl, z2, by rw [z5.length, ← line_eq]; exact w3.1, ?_⟩
        exact ok.nx _ _ _ _ (g2.pop.change (s' := .io (xs ++ [d])) e (.inr ⟨rfl, rfl⟩) (get_getD t2) (z5.append (Reps.one ru))) w3.2
end
end Mp

set_option Elab.async false
set_option linter.all false
set_option maxRecDepth 100000
set_option maxHeartbeats 1000000
/-! Mp, part 12: the check is sound for statements. -/
namespace Mp
open PySem PySem.Spec PyProof.Rows L2
section
variable {G : GE} {F : Cf} {N : List Str} {L : Nat} {sc : Scope} {W : WX} {X : Cx}
variable {mg : Str → Option Value}
theorem snd_setIx (C : CtxS G F N L sc W X) {i : Nat} {x : Str} {j v : Expr} {p tp pos : Pos} {ix e : P} (hx : varB N sc i x = true) (hj : chkE G N L ix sc j = true) (hv : chkE G N L e sc v = true) (hn : isLc v = false) (hsl : ∀ a b c d, j ≠ .Slice a b c d) :
    PS X (.Assign [.Subscript (.Name x p) j tp] v pos) (rdS G F X.mg W (.setIx i ix e)) := by
  refine (ps_asg (sndE e C.c hv).1 (pg_sub (pos := tp) (snd_var (pos := p) C.c hx) (sndE ix C.c hj).1 set_list (fun u => by
      cases j with
      | Slice lo hi st pos => exact absurd rfl (hsl _ _ _ _)
      | _ => rfl)) (show swapsWith v (some (.Subscript (.Name x p) j tp)) pos.line X.env = pure false from sw_none hn) (by cases v <;> rfl) rfl).imp fun D σ H ⟨env, T, O, D', n, g, w, ok⟩ => ?_
  simp only [wpS] at w
  refine ⟨env, T, O, _, _, g, w, fun r v env' H' O' g' w' => ?_, ok.exOk σ⟩
  obtain ⟨d, env1, h, w'⟩ := withS_of w'
  obtain ⟨O2, g2⟩ := g'.share h
  have e0 : ∃ xs, env1[i]? = some (.o xs) ∨ env1[i]? = some (.io xs) := by
    rcases io_of w' with ⟨xs, e, _⟩ | ⟨xs, e, _⟩
    · exact ⟨xs, .inl e⟩
    · exact ⟨xs, .inr e⟩
  have w2 : wpE G ix env1 (fun k env3 => asI (k.d env3) fun n => ioSlot env3[i]? fun ds mk => ixSet ds n fun j => D'.nx (env3.set i (mk (ds.set j d)))) D'.ex := by
    rcases io_of w' with ⟨xs, e, w⟩ | ⟨xs, e, w⟩ <;> exact w
  refine ⟨env1, _, O2, fun r env1' => r = .b i ∧ env1' = env1, D'.ex, g2, ?_, fun r o env2 H2 O3 g3 w' => ?_, (ok.exOk σ).pop⟩
  · obtain ⟨xs, e | e⟩ := e0
    · simp only [wpE, e]; exact ⟨by trivial, by trivial⟩
    · simp only [wpE, e]; exact ⟨by trivial, by trivial⟩
  obtain ⟨rfl, rfl⟩ := w'
  refine ⟨_, _, O3, _, D'.ex, g3, w2, fun r kk env3 H3 O3 g3 w3 => ?_, (ok.exOk σ).pop.pop⟩
  have to : σ[i]? = some (some o) := g3.tm _ (List.mem_cons_of_mem _ List.mem_cons_self)
  obtain ⟨m, hm, w3⟩ := asI_of w3
  obtain rfl := (g3.rd List.mem_cons_self hm).int
  have rv : Rep F.K (hid O3 H3) v d := g3.tm _ (List.mem_cons_of_mem _ (List.mem_cons_of_mem _ List.mem_cons_self))
  have g4 := g3.pop.pop.pop
  have fin : ∀ {ds : List PyData}, ixSet ds m (fun j => D'.nx (env3.set i (.o (ds.set j d)))) ∨ ixSet ds m (fun j => D'.nx (env3.set i (.io (ds.set j d)))) → ∃ j, L2.ixN ds.length m = some j := fun {ds} h => by
    unfold ixSet at h
    split at h
    · exact ⟨_, ‹_›⟩
    · exact (h.elim id id).elim
  rcases io_of w3 with ⟨xs, e, w3⟩ | ⟨xs, e, w3⟩
  · have z := g3.sl i _ e
    rw [get_getD to] at z
    obtain ⟨a, ws, z1, z2, z3, z4, z5⟩ := z
    cases z1
    obtain ⟨q, hq⟩ := fin (.inl w3)
    simp only [ixSet, hq] at w3
    refine ⟨a, ws, m, q, rfl, rfl, z2, by rw [z5.length]; exact hq, ?_⟩
    exact ok.nx _ _ _ _ (g4.change (s' := .o (xs.set q d)) e (.inl ⟨rfl, rfl⟩) (get_getD to) (z5.set q rv)) w3
  · have z := g3.sl i _ e
    rw [get_getD to] at z
    obtain ⟨a, ws, z1, z0, z2, z3, z5⟩ := z
    cases z1
    obtain ⟨q, hq⟩ := fin (.inr w3)
    simp only [ixSet, hq] at w3
    refine ⟨a, ws, m, q, rfl, rfl, z2, by rw [z5.length]; exact hq, ?_⟩
    exact ok.nx _ _ _ _ (g4.change (s' := .io (xs.set q d)) e (.inr ⟨rfl, rfl⟩) (get_getD to) (z5.set q rv)) w3
theorem nd2 {l : List Nat} {i j : Nat} (h : [i, j].Nodup) : i ≠ j := by simpa using h
theorem swp_inv {sc : Scope} {ts vs : List Expr} {names : List Str} (h : swpD sc ts vs = some (some names)) : vs.length = ts.length ∧ names.length = ts.length ∧ names = ts.filterMap fun
    | .Name id pos => if sc.names.lookup id == some .local && pos.line == (ts.head?.map (·.pos.line)).getD 0 then some id else none
    | _ => none := by
  unfold swpD at h
  dsimp only at h
  split at h
  · cases h
  rename_i c1
  split at h
  · cases h
  split at h
  · cases h
  rename_i c3
  split at h
  · cases h
  split at h
  · cases h
  simp only [Option.some.injEq] at h
  subst h
  simp only [Bool.or_eq_true, bne_iff_ne, ne_eq, not_or, Decidable.not_not] at c1 c3
  exact ⟨c1.2, c3.1, rfl⟩
theorem sw_drop {v : Expr} {l : Nat} {env : PySem.Env} (h : isLc v = false) : swapsWith v none l env = pure false := by
  cases v <;> first
    | rfl
    | cases h
theorem snd_xp (C : CtxS G F N L sc W X) {v : Expr} {pos : Pos} {e : P} (hl : isLc v = false) (hv : chkE G N L e sc v = true) : PS X (.Expr v pos) (rdS G F X.mg W (.xp e)) :=
  (ps_expr (sndE e C.c hv).1 (sw_drop hl)).imp fun D σ H ⟨env, T, O, D', n, g, w, ok⟩ => by
    simp only [wpS] at w
    exact ⟨env, T, O, _, _, g, w, fun r v env' H' O' g' w' => ok.nx _ _ _ _ g'.pop w', ok.exOk σ⟩
theorem nameB_inv {i : Nat} {e : Expr} (h : nameB N sc i e = true) : ∃ x p, e = .Name x p ∧ N[i]? = some x := by
  cases e with
  | Name x p =>
    simp only [nameB, Bool.and_eq_true, decide_eq_true_eq] at h
    exact ⟨x, p, rfl, h.1⟩
  | _ => simp [nameB] at h
theorem namesB_cons {i : Nat} {is : List Nat} {ts : List Expr} (h : namesB N sc (i :: is) ts = true) : ∃ x p r, ts = .Name x p :: r ∧ N[i]? = some x ∧ namesB N sc is r = true := by
  cases ts with
  | nil => simp [namesB] at h
  | cons e r =>
    simp only [namesB, Bool.and_eq_true] at h
    obtain ⟨x, p, rfl, q⟩ := nameB_inv h.1
    exact ⟨x, p, r, rfl, q, h.2⟩
theorem namesB_nil {ts : List Expr} (h : namesB N sc [] ts = true) : ts = [] := by
  cases ts with
  | nil => rfl
  | cons => simp [namesB] at h
theorem snd_par2 (C : CtxS G F N L sc W X) {i j : Nat} {x y : Str} {a b : Expr} {px py p p2 pos : Pos} {k k2 : Nat} {es : Ps} (hx : N[i]? = some x) (hy : N[j]? = some y) (lx : sc.names.lookup x = some .local) (ly : sc.names.lookup y = some .local) (hij : i ≠ j)
    (hv : chkEs G N L es sc [a, b] = true) (hw : swappedStores [.Tuple [.Name x px, .Name y py] k p] (.Tuple [a, b] k2 p2) X.env = pure (some [x, y])) :
    PS X (.Assign [.Tuple [.Name x px, .Name y py] k p] (.Tuple [a, b] k2 p2) pos) (rdS G F X.mg W (.par [i, j] es)) := by
  refine (ps_par C.c.calm C.c.nd (by rw [C.c.N]; exact hx) (by rw [C.c.N]; exact hy) hij (by rw [C.c.scE]; exact lx) (by rw [C.c.scE]; exact ly) (sndEs es C.c hv) hw rfl).imp fun D σ H ⟨env, T, O, D', n, g, w, ok⟩ => ?_
  simp only [wpS] at w
  refine ⟨env, T, O, _, _, g, w, fun ds vs env' H' O' l g' r w' => ?_, ok.exOk σ⟩
  obtain ⟨d, e, rfl⟩ : ∃ d e, ds = [d, e] := by
    match ds, w'.1 with
    | [d, e], _ => exact ⟨d, e, rfl⟩
  obtain ⟨v, u, rfl⟩ : ∃ v u, vs = [v, u] := by
    match vs, r.length with
    | [v, u], _ => exact ⟨v, u, rfl⟩
  exact ⟨v, u, rfl, ok.nx _ _ _ _ (g'.setMany [i, j] n r) w'.2⟩
theorem snd_par3 (C : CtxS G F N L sc W X) {i j l : Nat} {x y z : Str} {a b c : Expr} {px py pz p p2 pos : Pos} {k k2 : Nat} {es : Ps} (hx : N[i]? = some x) (hy : N[j]? = some y) (hz : N[l]? = some z) (lx : sc.names.lookup x = some .local) (ly : sc.names.lookup y = some .local) (lz : sc.names.lookup z = some .local)
    (hij : i ≠ j) (hil : i ≠ l) (hjl : j ≠ l)
    (hv : chkEs G N L es sc [a, b, c] = true) (hw : swappedStores [.Tuple [.Name x px, .Name y py, .Name z pz] k p] (.Tuple [a, b, c] k2 p2) X.env = pure (some [x, y, z])) :
    PS X (.Assign [.Tuple [.Name x px, .Name y py, .Name z pz] k p] (.Tuple [a, b, c] k2 p2) pos) (rdS G F X.mg W (.par [i, j, l] es)) := by
  refine (ps_par3 C.c.calm C.c.nd (by rw [C.c.N]; exact hx) (by rw [C.c.N]; exact hy) (by rw [C.c.N]; exact hz) hij hil hjl (by rw [C.c.scE]; exact lx) (by rw [C.c.scE]; exact ly) (by rw [C.c.scE]; exact lz) (sndEs es C.c hv) hw rfl).imp fun D σ H ⟨env, T, O, D', n, g, w, ok⟩ => ?_
  simp only [wpS] at w
  refine ⟨env, T, O, _, _, g, w, fun ds vs env' H' O' l g' r w' => ?_, ok.exOk σ⟩
  obtain ⟨d, e, f, rfl⟩ : ∃ d e f, ds = [d, e, f] := by
    match ds, w'.1 with
    | [d, e, f], _ => exact ⟨d, e, f, rfl⟩
  obtain ⟨v, u, t, rfl⟩ : ∃ v u t, vs = [v, u, t] := by
    match vs, r.length with
    | [v, u, t], _ => exact ⟨v, u, t, rfl⟩
  exact ⟨v, u, t, rfl, ok.nx _ _ _ _ (g'.setMany _ n r) w'.2⟩
theorem Good.popTs {env : Env} {σ : St} {T : List (V × R)} {H : Hp} {O : List Addr} : ∀ (ts : List (V × R)), Good F env σ (ts ++ T) H O → Good F env σ T H O
  | [], g => g
  | t :: ts, g => Good.popTs ts g.pop
theorem Good.popTs1 {env : Env} {σ : St} {T : List (V × R)} {H : Hp} {O : List Addr} {u : V × R} : ∀ (ts : List (V × R)), Good F env σ (u :: (ts ++ T)) H O → Good F env σ (u :: T) H O
  | [], g => g
  | t :: ts, g => Good.popTs1 ts g.pop2
theorem EndsOk.under {D : Ends} {D' : Pst} {T : List (V × R)} (e : EndsOk F mg W D D' T) (ts : List (V × R)) : EndsOk F mg W D D' (ts ++ T) :=
  ⟨fun env σ H O g => e.nx env σ H O (g.popTs ts), fun env σ H O g => e.bk env σ H O (g.popTs ts), fun env σ H O g => e.ct env σ H O (g.popTs ts), fun r v env σ H O n g => e.rt r v env σ H O n (g.popTs1 ts), fun x C env σ H O m g => e.ex x C env σ H O m (g.popTs ts)⟩
theorem snd_for (C : CtxS G F N L sc W X) {tge iter : Expr} {body : List Stmt} {w : Wk} {tg : Tg} {b : Ss} {pos : Pos} (hi : PI X tge iter (rdW G F X.mg W w)) (hg : PG X tge (rdTg F tg)) (hb : PSs X body (rdSs G F X.mg W b)) (hf : ∀ x, foldedSetIterable iter X.env x = pure x) :
    PS X (.For tge iter body [] pos) (rdS G F X.mg W (.for_ tg w b)) := by
  refine (ps_for C.po C.c.calm hi hg hb hf).imp fun D σ H ⟨env, T, O, D', n, g, w, ok⟩ => ?_
  simp only [wpS] at w
  refine ⟨env, T, O, _, _, g, w, fun items ts env1 H1 O1 J wk nts g1 w1 => ?_, ok.exOk σ⟩
  have nT : NoB (ts ++ T) := nts.append n
  refine ⟨fun i m σ H => m = items.length - i ∧ i ≤ items.length ∧ ∃ env O, Good F env σ (ts ++ T) H O ∧ forL (fun d e K => setTg tg d e fun e1 => wpSs G b e1 { D' with nx := K, ct := K, bk := D'.nx }) (items.drop i) env D'.nx,
    ⟨items.length, by omega, Nat.zero_le _, env1, O1, g1, w1⟩, ?_⟩
  rintro i m σ2 H2 ⟨rfl, hle, e, O2, g2, w2⟩
  obtain ⟨go, stop, yld⟩ := wk e _ _ H2 O2 (fun t ht => List.mem_append_left _ ht) g2
  by_cases hlt : i < items.length
  · refine .inr ⟨go i hlt, fun σ3 H3 => ∃ env O, Good F env σ3 (ts ++ T) H3 O ∧ forL (fun d e K => setTg tg d e fun e1 => wpSs G b e1 { D' with nx := K, ct := K, bk := D'.nx }) (items.drop (i + 1)) env D'.nx,
      fun σ3 H3 ⟨env, O, q1, q2⟩ => ⟨items.length - (i + 1), by omega, rfl, by omega, env, O, q1, q2⟩, fun x H3 hy => ?_⟩
    obtain ⟨g6, d, hd, rd⟩ := yld i x H3 hlt hy
    have hdrop : items.drop i = d :: items.drop (i + 1) := by
      rw [List.drop_eq_getElem_cons hlt]
      rw [List.getElem?_eq_getElem hlt] at hd
      rw [Option.some.inj hd]
    rw [hdrop] at w2
    simp only [forL] at w2
    refine ⟨e, _, O2, d, _, nT, g6, rd, w2, fun e3 vs hvs g7 w3 => ?_⟩
    refine ⟨e3, _, O2, _, nT, g7, w3, ?_⟩
    have ok' := ok.under ts
    exact ⟨fun env σ H O g w => ⟨env, O, g, w⟩, ok'.nx, fun env σ H O g w => ⟨env, O, g, w⟩, ok'.rt, ok'.ex⟩
  · have ei : i = items.length := by omega
    subst ei
    rw [List.drop_length] at w2
    exact .inl ⟨stop, ok.nx _ _ _ _ (g2.popTs ts) w2⟩
theorem snd_whl (C : CtxS G F N L sc W X) {c : Expr} {body : List Stmt} {t : P} {b : Ss} {pos : Pos} (hc : PT X c (rdT G F X.mg W t)) (hb : PSs X body (rdSs G F X.mg W b)) :
    PS X (.While c body [] pos) (rdS G F X.mg W (.whl t b)) := by
  refine (ps_while C.po hc hb).imp fun D σ H ⟨env, T, O, D', n, g, w, ok⟩ => ?_
  simp only [wpS] at w
  obtain ⟨Wd, ⟨m0, w0⟩, turn⟩ := w
  refine ⟨fun m σ H => ∃ env O, Good F env σ T H O ∧ Wd m env, ⟨m0, env, O, g, w0⟩, ?_⟩
  rintro m σ1 H1 ⟨e1, O1, g1, w1⟩
  refine ⟨e1, T, O1, fun k e1 => if k = true then wpSs G b e1 { D' with nx := fun e2 => ∃ m', m' < m ∧ Wd m' e2, ct := fun e2 => ∃ m', m' < m ∧ Wd m' e2, bk := D'.nx } else D'.nx e1, _, g1, turn m e1 w1, fun k e2 H2 O2 g2 w2 => ?_, ok.exOk σ1⟩
  cases k with
  | false => simp only [Bool.false_eq_true, if_false] at w2 ⊢; exact ok.nx _ _ _ _ g2 w2
  | true =>
    simp only [if_true] at w2 ⊢
    refine ⟨fun σ3 H3 => ∃ m', m' < m ∧ ∃ env O, Good F env σ3 T H3 O ∧ Wd m' env, fun σ3 H3 h => h, e2, T, O2, _, n, g2, w2, ?_⟩
    exact ⟨fun env σ H O g ⟨m', l, w⟩ => ⟨m', l, env, O, g, w⟩, ok.nx, fun env σ H O g ⟨m', l, w⟩ => ⟨m', l, env, O, g, w⟩, ok.rt, ok.ex⟩
theorem snd_ite (C : CtxS G F N L sc W X) {c : Expr} {x y : List Stmt} {t : P} {a b : Ss} {pos : Pos} (hc : PT X c (rdT G F X.mg W t)) (ha : PSs X x (rdSs G F X.mg W a)) (hb : PSs X y (rdSs G F X.mg W b)) :
    PS X (.If c x y pos) (rdS G F X.mg W (.ite t a b)) := by
  refine (ps_if hc ha hb).imp fun D σ H ⟨env, T, O, D', n, g, w, ok⟩ => ?_
  simp only [wpS] at w
  refine ⟨env, T, O, fun k e1 => if k = true then wpSs G a e1 D' else wpSs G b e1 D', _, g, w, fun k e2 H2 O2 g2 w2 => ?_, ok.exOk σ⟩
  cases k with
  | false => simp only [Bool.false_eq_true, if_false] at w2 ⊢; exact ⟨e2, T, O2, D', n, g2, w2, ok⟩
  | true => simp only [if_true] at w2 ⊢; exact ⟨e2, T, O2, D', n, g2, w2, ok⟩
theorem snd_raise (C : CtxS G F N L sc W X) {x m : Str} {j : Nat} {p p2 pos pos' : Pos} (hg : glB sc x = true) (hx : G.excs.contains x = true) : PS X (.Raise (some (.Call (.Name x p) [.Constant (.str m) j p2] [] pos)) none pos') (rdS G F X.mg W (.raise x)) := by
  obtain ⟨Cl, bmB, B, newId, initId, e1, e2, e3, e4, e5, e6⟩ := C.c.kn.exc x hx
  obtain ⟨g1, g2⟩ := gl_of C.c hg
  refine (ps_raise C.c.calm C.c.tk (pmk_own e2 e3 e1 e4 (raises_own e5 e6) g1 g2)).imp fun D σ H ⟨env, T, O, D', n, g, w, ok⟩ => ?_
  simp only [wpS] at w
  exact ok.ex _ _ _ _ _ _ e1 g w
def Su.v : Su → V
  | .bl b => .bl b
  | .int i => .int i
  | .str s => .str s
  | .non => .non
theorem Su.rep {K : PySem.W.Frag} {H : Hp} : ∀ s : Su, Rep K H s.v s.d
  | .bl b => .bl b
  | .int i => .int i
  | .str s => .str s
  | .non => .non
def hsT : List (Str × Su × Value) → List (Value × (Addr → Value → Option Addr → TS))
  | [] => []
  | (_, s, c) :: r => (c, fun _ _ _ D _ H => D.rt s.v H) :: hsT r
theorem su_pe {X : Cx} {s : Su} {e : Expr} (h : suB s e = true) : PE X e (tC s.v) := by
  unfold suB at h
  split at h
  · obtain rfl := of_decide_eq_true h; exact pe_bl
  · obtain rfl := of_decide_eq_true h; exact pe_int
  · obtain rfl := of_decide_eq_true h; exact pe_str
  · exact pe_non
  · cases h
theorem hds_ok (C : CtxS G F N L sc W X) : ∀ {hs : List (Str × Su)} {hds : List ExceptHandler}, hsB sc hs hds = true → hs.all (fun h => G.excs.contains h.1) = true →
    ∃ l : List (Str × Su × Value), HdsOk X hds (hsT l) ∧ l.map (fun t => (t.1, t.2.1)) = hs ∧ ∀ t ∈ l, X.mg t.1 = some t.2.2
  | [], [], _, _ => ⟨[], .nil, rfl, fun _ h => by cases h⟩
  | [], _ :: _, h, _ => by simp [hsB] at h
  | _ :: _, [], h, _ => by simp [hsB] at h
  | (x, s) :: hs, hd :: hds, h, hx => by
    rw [List.all_cons, Bool.and_eq_true] at hx
    unfold hsB at h
    split at h
    · cases ‹_ :: _ = []›
    · rename_i e1 e2
      cases e1
      cases e2
      simp only [Bool.and_eq_true, decide_eq_true_eq] at h
      obtain ⟨⟨⟨rfl, h2⟩, h3⟩, h4⟩ := h
      obtain ⟨l, q1, q2, q3⟩ := hds_ok C h4 hx.2
      obtain ⟨Cl, bmB, B, newId, initId, m1, _⟩ := C.c.kn.exc _ hx.1
      obtain ⟨g1, g2⟩ := gl_of C.c h2
      refine ⟨(_, _, .ref Cl) :: l, .cons ⟨g1, g2, .inl m1⟩ (fun a oe cls d pn _ _ => (pss_one (ps_ret (su_pe h3))).imp fun D σ H q => q) q1, by rw [List.map_cons, q2], fun t ht => ?_⟩
      rcases List.mem_cons.mp ht with rfl | ht
      · exact m1
      · exact q3 t ht
    · cases h
theorem handle_ok {P : Program} {w : World} {K : PySem.W.Frag} {base : Heap} (kn : Kn G L P w K mg base) {D : Ends} {D' : Pst} {T : List (V × R)} (ok : EndsOk F mg W D D' T) {x : Str} {Cl : Addr} {env : Env} {σ : St} {H : Hp} {O : List Addr} (hm : mg x = some (.ref Cl)) (g : Good F env σ T H O) :
    ∀ (l : List (Str × Su × Value)), (∀ t ∈ l, mg t.1 = some t.2.2) → handle G D' x env (l.map fun t => (t.1, t.2.1)) → wMany K W D (hsT l) (.ref Cl) none σ H
  | [], _, w => ok.ex x Cl env σ H O hm g w
  | (y, s, c) :: l, hl, w => by
    have w2 : (match G.exm x y with
      | some true => D'.rt (.v s.d) env
      | some false => handle G D' x env (l.map fun t => (t.1, t.2.1))
      | none => False) := w
    have my := hl _ List.mem_cons_self
    cases e : G.exm x y with
    | none => rw [e] at w2; exact w2.elim
    | some b =>
      obtain ⟨C1, C2, k1, k2, k3⟩ := kn.exm x y b e
      rw [hm] at k1; cases k1
      have my : mg y = some c := my
      rw [my] at k2; cases k2
      rw [e] at w2
      refine ⟨b, k3, fun z a ha => ?_, fun z => ?_⟩
      · subst z
        exact ok.rt (.v s.d) s.v env σ H O (fun i z => by cases z) (g.pushV s.rep) w2
      · subst z
        exact handle_ok kn ok hm g l (fun t ht => hl t (List.mem_cons_of_mem _ ht)) w2
theorem snd_try (C : CtxS G F N L sc W X) {body : List Stmt} {hds : List ExceptHandler} {b : Ss} {hs : List (Str × Su)} {pos : Pos} (hh : hsB sc hs hds = true) (hx : hs.all (fun h => G.excs.contains h.1) = true) (hne : hs.isEmpty = false)
    (hb : ∀ (W' : WX) (X' : Cx), CtxS G F N L sc W' X' → X'.mg = X.mg → PSs X' body (rdSs G F X'.mg W' b)) :
    PS X (.Try body hds [] [] pos) (rdS G F X.mg W (.try_ b hs)) := by
  obtain ⟨l, q1, q2, q3⟩ := hds_ok C hh hx
  cases hds with
  | nil =>
    cases hs with
    | nil => cases hne
    | cons => simp [hsB] at hh
  | cons h0 hds =>
    have C' := C.c
    refine (ps_try_many C.hs C.hf C'.tk (tb := fun W' => rdSs G F X.mg W' b) (fun W' pn xe tk po => hb W' (X.tr pn xe) ⟨⟨C'.N, C'.K, C'.scE, C'.calm, C'.nd, C'.room, tk, C'.kn⟩, C.hs, C.hf, po, C.fnc, C.kind⟩ rfl) q1).imp fun D σ H ⟨env, T, O, D', n, g, w, ok⟩ => ?_
    simp only [wpS] at w
    refine ⟨env, T, O, _, n, g, w, ok.nx, ok.bk, ok.ct, ok.rt, fun x Cl env σ H O m g w => ?_⟩
    rw [← q2] at w
    exact handle_ok C'.kn ok m g l q3 w
end
mutual
theorem sndS : ∀ (p : S) {W : WX} {X : Cx} (C : CtxS G F N L sc W X) {st : Stmt}, chkS G N L sc p st = true → PS X st (rdS G F X.mg W p)
  | .asg i e, W, X, C, st, h => by
    unfold chkS at h
    split at h
    · rename_i x px v pos
      simp only [Bool.and_eq_true, decide_eq_true_eq] at h
      obtain ⟨⟨h1, h2⟩, h3⟩ := h
      split at h2
      · split at h2
        · simp only [Bool.and_eq_true, decide_eq_true_eq, Bool.not_eq_true'] at h2
          exact snd_asgLc C h1 h2.1.1 h2.1.2 h2.2 h3
        · cases h2
      · exact snd_asg C h1 (loc_of C h2) h3 (sw_none (by rename_i hl; exact (Bool.not_eq_true _).mp hl))
    · cases h
  | .asgT is e, W, X, C, st, h => by
    unfold chkS at h
    split at h
    · rename_i ts k p v pos
      simp only [Bool.and_eq_true] at h
      obtain ⟨⟨h1, h2⟩, h3⟩ := h
      refine snd_asgT C h1 h2 ?_
      split at h3
      · exact swp_pure (block_fn C) (by rw [C.c.scE]; simpa using h3)
      · cases h3
      · rename_i n1 n2
        cases v <;> first
          | exact absurd rfl (n1 _ _ _)
          | rfl
    · cases h
  | .par is es, W, X, C, st, h => by
    unfold chkS at h
    split at h
    · rename_i ts k p vs k2 p2 pos
      simp only [Bool.and_eq_true, decide_eq_true_eq] at h
      obtain ⟨⟨⟨h1, h2⟩, h3⟩, h4⟩ := h
      split at h4
      · rename_i names hsw
        obtain ⟨q1, q2, q3⟩ := swp_inv hsw
        have hw := swp_pure (k := k) (k2 := k2) (p := p) (p2 := p2) (block_fn C) (by rw [C.c.scE]; exact hsw)
        split at h4
        · rename_i i j
          obtain ⟨x, px, ts, rfl, a1, h1⟩ := namesB_cons h1
          obtain ⟨y, py, ts, rfl, b1, h1⟩ := namesB_cons h1
          obtain rfl := namesB_nil h1
          · have h4 := of_decide_eq_true h4
            rw [a1, b1] at h4
            obtain rfl : names = [x, y] := by
              match names, h4 with
              | [u, v], h4 => simp only [List.map_cons, List.map_nil, List.cons.injEq, Option.some.injEq] at h4; rw [h4.1, h4.2.1]
            match vs, q1 with
            | [a, b], _ =>
              have z : ∀ u ∈ [x, y], sc.names.lookup u = some .local := fun u hu => by
                rw [q3] at hu
                obtain ⟨e, he, hf⟩ := List.mem_filterMap.mp hu
                split at hf
                · split at hf
                  · rename_i hc
                    cases hf
                    simp only [Bool.and_eq_true, beq_iff_eq] at hc
                    exact hc.1
                  · cases hf
                · cases hf
              exact snd_par2 C a1 b1 (z x (by simp)) (z y (by simp)) (by simpa using h3) h2 hw
        · rename_i i j l
          obtain ⟨x, px, ts, rfl, a1, h1⟩ := namesB_cons h1
          obtain ⟨y, py, ts, rfl, b1, h1⟩ := namesB_cons h1
          obtain ⟨w, pw, ts, rfl, c1, h1⟩ := namesB_cons h1
          obtain rfl := namesB_nil h1
          · have h4 := of_decide_eq_true h4
            rw [a1, b1, c1] at h4
            obtain rfl : names = [x, y, w] := by
              match names, h4 with
              | [u, v, t], h4 => simp only [List.map_cons, List.map_nil, List.cons.injEq, Option.some.injEq] at h4; rw [h4.1, h4.2.1, h4.2.2.1]
            match vs, q1 with
            | [a, b, c], _ =>
              have z : ∀ u ∈ [x, y, w], sc.names.lookup u = some .local := fun u hu => by
                rw [q3] at hu
                obtain ⟨e, he, hf⟩ := List.mem_filterMap.mp hu
                split at hf
                · split at hf
                  · rename_i hc
                    cases hf
                    simp only [Bool.and_eq_true, beq_iff_eq] at hc
                    exact hc.1
                  · cases hf
                · cases hf
              have nd : i ≠ j ∧ i ≠ l ∧ j ≠ l := by
                simp only [List.nodup_cons, List.mem_cons, List.not_mem_nil, or_false, not_or] at h3
                exact ⟨h3.1.1, h3.1.2, h3.2.1⟩
              exact snd_par3 C a1 b1 c1 (z x (by simp)) (z y (by simp)) (z w (by simp)) nd.1 nd.2.1 nd.2.2 h2 hw
        · cases h4
      · cases h4
    · cases h
  | .setIx i ix e, W, X, C, st, h => by
    unfold chkS at h
    split at h
    · rename_i x p j tp v pos
      simp only [Bool.and_eq_true, Bool.not_eq_true'] at h
      obtain ⟨⟨⟨⟨h1, h2⟩, h3⟩, h4⟩, h5⟩ := h
      refine snd_setIx C h1 h2 h3 h4 fun a b c d z => ?_
      subst z
      cases h5
    · cases h
  | .app i e, W, X, C, st, h => by
    unfold chkS at h
    split at h
    · simp only [Bool.and_eq_true, decide_eq_true_eq] at h
      obtain ⟨⟨⟨⟨h1, rfl⟩, h3⟩, h4⟩, h5⟩ := h
      exact snd_app C h1 h3 h4 h5
    · cases h
  | .ite t a b, W, X, C, st, h => by
    unfold chkS at h
    split at h
    · simp only [Bool.and_eq_true] at h
      obtain ⟨⟨⟨h1, h2⟩, h3⟩, h4⟩ := h
      exact snd_ite C ((sndE t C.c h2).2 h1) (sndSs a C h3) (sndSs b C h4)
    · cases h
  | .whl t b, W, X, C, st, h => by
    unfold chkS at h
    split at h
    · simp only [Bool.and_eq_true] at h
      obtain ⟨⟨h1, h2⟩, h3⟩ := h
      exact snd_whl C ((sndE t C.c h2).2 h1) (sndSs b C h3)
    · cases h
  | .for_ tg w b, W, X, C, st, h => by
    unfold chkS at h
    split at h
    · rename_i tge iter x pos
      simp only [Bool.and_eq_true] at h
      obtain ⟨⟨h1, h2⟩, h3⟩ := h
      refine snd_for C (sndW w C.c h1) ?_ (sndSs b C h3) (foldSet_of h1)
      cases tg with
      | nm i =>
        cases tge with
        | Name x p =>
          simp only [nameB, Bool.and_eq_true, decide_eq_true_eq] at h2
          exact snd_tgN C.c (by rw [C.c.N]; exact h2.1) (loc_of C h2.2)
        | _ => simp [nameB] at h2
      | tp is =>
        simp only at h2
        split at h2
        · exact snd_tgT C.c (names_of C h2)
        · cases h2
    · cases h
  | .ret e, W, X, C, st, h => by
    unfold chkS at h
    split at h
    · exact snd_ret C h
    · cases h
  | .raise x, W, X, C, st, h => by
    unfold chkS at h
    split at h
    · simp only [Bool.and_eq_true, decide_eq_true_eq] at h
      obtain ⟨⟨rfl, h2⟩, h3⟩ := h
      exact snd_raise C h2 h3
    · cases h
  | .brk, W, X, C, st, h => by
    unfold chkS at h
    split at h
    · exact ps_break.imp fun D σ H ⟨env, T, O, D', n, g, w, ok⟩ => ok.bk _ _ _ _ g (by simpa only [wpS] using w)
    · cases h
  | .cont, W, X, C, st, h => by
    unfold chkS at h
    split at h
    · exact ps_continue.imp fun D σ H ⟨env, T, O, D', n, g, w, ok⟩ => ok.ct _ _ _ _ g (by simpa only [wpS] using w)
    · cases h
  | .pass, W, X, C, st, h => by
    unfold chkS at h
    split at h
    · exact ps_pass.imp fun D σ H ⟨env, T, O, D', n, g, w, ok⟩ => ok.nx _ _ _ _ g (by simpa only [wpS] using w)
    · cases h
  | .try_ b hs, W, X, C, st, h => by
    unfold chkS at h
    split at h
    · simp only [Bool.and_eq_true, Bool.not_eq_true'] at h
      obtain ⟨⟨⟨h1, h2⟩, h3⟩, h4⟩ := h
      exact snd_try C h2 h4 h3 fun W' X' C' _ => sndSs b C' h1
    · cases h
  | .xp e, W, X, C, st, h => by
    unfold chkS at h
    split at h
    · simp only [Bool.and_eq_true, Bool.not_eq_true'] at h
      exact snd_xp C h.1 h.2
    · cases h
theorem sndSs : ∀ (p : Ss) {W : WX} {X : Cx} (C : CtxS G F N L sc W X) {st : List Stmt}, chkSs G N L sc p st = true → PSs X st (rdSs G F X.mg W p)
  | .nil, W, X, C, st, h => by
    cases st with
    | nil => exact pss_nil.imp fun D σ H ⟨env, T, O, D', n, g, w, ok⟩ => ok.nx _ _ _ _ g (by simpa only [wpSs] using w)
    | cons => simp [chkSs] at h
  | .cons a r, W, X, C, st, h => by
    cases st with
    | nil => simp [chkSs] at h
    | cons s ss =>
      simp only [chkSs, Bool.and_eq_true] at h
      refine (pss_cons (sndS a C h.1) (sndSs r C h.2)).imp fun D σ H ⟨env, T, O, D', n, g, w, ok⟩ => ?_
      simp only [wpSs] at w
      exact ⟨env, T, O, _, n, g, w, ok.setNx fun env σ H O g w => ⟨env, T, O, D', n, g, w, ok⟩⟩
end
end Mp

set_option Elab.async false
set_option linter.all false
set_option maxRecDepth 100000
set_option maxHeartbeats 1000000
/-! Mp, part 13: a def keeps its promise. -/
namespace Mp
open PySem PySem.Spec PyProof.Rows L2
def hdSl : Hdv → List Sl
  | .no => []
  | .io xs => [.io xs]
  | .sc ns => [.sc ns]
/-- the slots at the entry -/
def env0 (n : Nat) (hv : Hdv) (ds : List PyData) : Mp.Env := hdSl hv ++ ds.map Sl.v ++ List.replicate (n - (hdSl hv).length - ds.length) Sl.no
/-- the list handed in, at the end -/
def endH (hv : Hdv) (e : Mp.Env) (Q : Hdv → Prop) : Prop := match hv with
  | .no => Q .no
  | .sc ns => Q (.sc ns)
  | .io _ => match (e[0]? : Option Sl) with
    | some (Sl.io ys) => Q (.io ys)
    | _ => False
def endP (s : FSpec) (hv : Hdv) (ds : List PyData) : Pst where
  nx := fun e => endH hv e (s.post hv ds (.v .none))
  rt := fun r e => endH hv e (s.post hv ds r)
  bk := fun _ => False
  ct := fun _ => False
  ex := fun x _ => hv.k ≠ .io ∧ s.exc hv ds x
/-- the plain statement about a body -/
def Keeps (G : GE) (n : Nat) (k : HdK) (m : Nat) (s : FSpec) (p : Ss) : Prop := ∀ hv ds, hv.k = k → (hdSl hv).length + ds.length = m → s.pre hv ds → wpSs G p (env0 n hv ds) (endP s hv ds)
section
variable {K : PySem.W.Frag} {H : Hp} {O : List Addr}
theorem hdSl_len {hv : Hdv} {vs rest : List V} {io : Option Addr} (h : headOk K H O hv vs io rest) : vs.length = (hdSl hv).length + rest.length := by
  cases hv with
  | no => obtain ⟨rfl, _⟩ := h; simp [hdSl]
  | io xs => obtain ⟨a, ws, rfl, _⟩ := h; simp [hdSl]; omega
  | sc ns => obtain ⟨a, rfl, _⟩ := h; simp [hdSl]; omega
theorem start_get {N : List Str} {vs : List V} {i : Nat} (h : i < vs.length) : ((L2.start N vs)[i]?).getD none = some vs[i] := by
  unfold L2.start
  rw [List.getElem?_append_left (by simpa using h), List.getElem?_map, List.getElem?_eq_getElem h]
  rfl
theorem good_start {N : List Str} {hv : Hdv} {vs rest : List V} {ds : List PyData} {io : Option Addr} (hd : headOk K H O hv vs io rest) (r : Reps K (hid O H) rest ds) (oin : ∀ a ∈ O, H a ≠ none) (hn : vs.length ≤ N.length) :
    Good ⟨K, H, O, io⟩ (env0 N.length hv ds) (L2.start N vs) [] H O := by
  have hl := hdSl_len hd
  have rl := r.length
  have len : (env0 N.length hv ds).length = (L2.start N vs).length := by
    unfold env0 L2.start
    simp only [List.length_append, List.length_map, List.length_replicate]
    omega
  have slot : ∀ (i : Nat) s, (env0 N.length hv ds)[i]? = some s → SlOk ⟨K, H, O, io⟩ H O s (((L2.start N vs)[i]?).getD none) ∧ isO s = false ∧ (∀ xs, s = .io xs → i = 0) := by
    intro i s h
    unfold env0 at h
    by_cases h1 : i < (hdSl hv ++ ds.map Sl.v).length
    · rw [List.getElem?_append_left h1] at h
      have hi : i < vs.length := by rw [List.length_append, List.length_map] at h1; omega
      by_cases h2 : i < (hdSl hv).length
      · rw [List.getElem?_append_left h2] at h
        rw [start_get hi]
        cases hv with
        | no => simp [hdSl] at h2
        | io xs =>
          obtain rfl : i = 0 := by simp [hdSl] at h2; exact h2
          simp only [hdSl, List.getElem?_cons_zero, Option.some.injEq] at h
          subst h
          obtain ⟨a, ws, rfl, q1, q2, q3, q4⟩ := hd
          exact ⟨⟨a, ws, rfl, q1, q2, q3, q4⟩, rfl, fun _ _ => rfl⟩
        | sc ns =>
          obtain rfl : i = 0 := by simp [hdSl] at h2; exact h2
          simp only [hdSl, List.getElem?_cons_zero, Option.some.injEq] at h
          subst h
          obtain ⟨a, rfl, q1, q2⟩ := hd
          exact ⟨⟨a, rfl, q2⟩, rfl, fun xs z => by cases z⟩
      · rw [List.getElem?_append_right (by omega), List.getElem?_map] at h
        rw [start_get hi]
        cases e : ds[i - (hdSl hv).length]? with
        | none => rw [e] at h; cases h
        | some d =>
          rw [e] at h
          cases h
          obtain ⟨v, e2, rv⟩ := r.get e
          have : vs[i] = v := by
            have : vs[i]? = some v := by
              cases hv with
              | no => obtain ⟨rfl, _⟩ := hd; simpa [hdSl] using e2
              | io xs => obtain ⟨a, ws, rfl, _⟩ := hd; cases i with
                | zero => simp [hdSl] at h2
                | succ i => simpa [hdSl] using e2
              | sc ns => obtain ⟨a, rfl, _⟩ := hd; cases i with
                | zero => simp [hdSl] at h2
                | succ i => simpa [hdSl] using e2
            rw [List.getElem?_eq_getElem hi] at this
            exact Option.some.inj this
          rw [this]
          exact ⟨⟨v, rfl, rv⟩, rfl, fun xs z => by cases z⟩
    · rw [List.getElem?_append_right (by omega), List.getElem?_replicate] at h
      split at h
      · cases h
        exact ⟨trivial, rfl, fun xs z => by cases z⟩
      · cases h
  refine ⟨len, oin, fun a h => h, oin, fun a h => ?_, fun b u h _ => h, fun b h => h, fun a h => .inl h, fun i s h => (slot i s h).1, fun t ht => absurd ht List.not_mem_nil, fun i j s u _ h1 h2 => ?_, fun i s h1 h2 => ?_, .nil, fun i xs h => (slot i _ h).2.2 xs rfl⟩
  · have h : io = some a := h
    cases hv with
    | no => obtain ⟨_, rfl⟩ := hd; cases h
    | io xs => obtain ⟨a', ws, _, q1, _, q3, _⟩ := hd; rw [q1] at h; cases h; exact q3
    | sc ns => obtain ⟨a', _, rfl, _⟩ := hd; cases h
  · rw [(slot i s h1).2.1] at h2; cases h2
  · rw [(slot i s h1).2.1] at h2; cases h2
end
section
variable {G : GE} {L : Nat} {P : Program} {w : World} {K : PySem.W.Frag} {mg : Str → Option Value} {base : Heap}
theorem body_ok {N : List Str} {hv : Hdv} {vs rest : List V} {ds : List PyData} {io : Option Addr} {O : List Addr} {H : Hp} {k : HdK} {s : FSpec} {p : Ss} {Q : VK} {E : XK} {m : Nat} (keeps : Keeps G N.length k m s p) (hk : hv.k = k) (hm : vs.length = m) (hn : m ≤ N.length)
    (hd : headOk K H O hv vs io rest) (r : Reps K (hid O H) rest ds) (oin : ∀ a ∈ O, H a ≠ none) (pre : s.pre hv ds) (post : ∀ r h v H' O', s.post hv ds r h → Left K io H O H' O' v r h → Q v H')
    (exc : ∀ x C H', s.exc hv ds x → hv.k ≠ .io → mg x = some (.ref C) → Sub H H' → E (.ref C) none H') :
    rdSs G ⟨K, H, O, io⟩ mg (fun cls d _ H' => E cls d H') p { nx := fun _ H' => Q .non H', rt := Q } (L2.start N vs) H := by
  have hl := hdSl_len hd
  have rl := r.length
  refine ⟨env0 N.length hv ds, [], O, endP s hv ds, NoB.nil, good_start hd r oin (by omega), keeps hv ds hk (by omega) pre, ?_⟩
  have fin : ∀ (r : R) (v : V) (env : Mp.Env) (σ : St) (H' : Hp) (O' : List Addr), (∀ i, r ≠ .b i) → Good ⟨K, H, O, io⟩ env σ [(v, r)] H' O' → endH hv env (s.post hv ds r) → Q v H' := by
    intro r v env σ H' O' nb g w
    have res : resOk K H H' O' v r := by
      have t := g.tm _ List.mem_cons_self
      cases r with
      | v d => exact t
      | o xs => obtain ⟨a, ws, q1, q2, q3, q4, q5⟩ := t; exact ⟨a, ws, q1, q2, q3, q4, q5⟩
      | b i => exact absurd rfl (nb i)
    have left : ∀ h : Hdv, (∀ xs, h = .io xs → ∃ a ws, io = some a ∧ H' a = some (.lst ws) ∧ Reps K (hid O' H') ws xs) → Left K io H O H' O' v r h := fun h hh => ⟨g.keep, g.keep0, g.o0, g.new, g.oin, res, hh⟩
    cases hv with
    | no => exact post _ _ _ _ _ w (left _ fun xs z => by cases z)
    | sc ns => exact post _ _ _ _ _ w (left _ fun xs z => by cases z)
    | io xs =>
      simp only [endH] at w
      cases e : env[0]? with
      | none => rw [e] at w; exact w.elim
      | some sl =>
        rw [e] at w
        cases sl with
        | io ys =>
          refine post _ _ _ _ _ w (left _ fun xs z => ?_)
          cases z
          obtain ⟨a, ws, q1, q2, q3, q4, q5⟩ := g.sl 0 _ e
          exact ⟨a, ws, q2, q3, q5⟩
        | _ => exact w.elim
  refine ⟨fun env σ H' O' g w => ?_, fun env σ H' O' g w => w.elim, fun env σ H' O' g w => w.elim, fun r v env σ H' O' nb g w => fin r v env σ H' O' nb g w, fun x C env σ H' O' m g w => ?_⟩
  · exact fin (.v .none) .non env σ H' O' (fun i z => by cases z) (g.pushV .non) w
  · obtain ⟨w1, w2⟩ := w
    refine exc x C H' w2 w1 m fun b u h => g.keep b u h ?_
    show io ≠ some b
    cases hv with
    | no => obtain ⟨_, rfl⟩ := hd; exact fun z => by cases z
    | io xs => exact absurd rfl w1
    | sc ns => obtain ⟨a, _, rfl, _⟩ := hd; exact fun z => by cases z
/-- THE RULE for a def -/
theorem def_ok {x qual : Str} {st : Stmt} {f : Addr} {fd : FuncData} {N ps : List Str} {k : HdK} {s : FSpec} {p : Ss} (F : Fun K x qual st f fd) (S : FnScope N ps (defScope st)) (kn : Kn G L P w K mg base) (chk : chkSs G N L (defScope st) p (defBody st) = true)
    (keeps : Keeps G N.length k ps.length s p) : FnOk P w K mg base (L2.CX P w) (L + 1) f fd ps (prom K mg k ps.length s) := by
  refine Fun.okX F S (fun vs H Q E ⟨hv, ds, O, io, rest, h1, h2, _⟩ => h2) fun cdv A outer s0 H vs Q E room ⟨hv, ds, O, io, rest, h1, h2, h3, h4, h5, h6, h7, h8⟩ => ?_
  have hpl : ps.length ≤ N.length := by have := congrArg List.length S.pre; rw [List.length_take] at this; omega
  refine ⟨_, sndSs (F := ⟨K, H, O, io⟩) (W := fun cls d _ H' => E cls d H') p ⟨⟨rfl, rfl, rfl, rfl, S.nd, room, takes_of rfl rfl rfl rfl, kn⟩, rfl, rfl, passes_of rfl, fun _ => rfl, S.kind⟩ chk, ?_⟩
  exact body_ok keeps h1 h2 hpl h3 h4 h5 h6 h7 h8
end
end Mp

set_option Elab.async false
set_option linter.all false
set_option maxRecDepth 100000
set_option maxHeartbeats 1000000
/-! Mp, part 14: reading a body: rewriting rules, loops. -/
namespace Mp
open PySem PySem.Spec PyProof.Rows L2

def unpk (is : List Nat) (d : PyData) (env : Env) (Q : Env → Prop) : Prop := match d with
  | .tuple ds => ds.length = is.length ∧ Q (setMany is ds env)
  | .list ds => ds.length = is.length ∧ Q (setMany is ds env)
  | _ => False
def revR (x : Option PyData) (Q : List PyData → Prop) : Prop := match x with
  | some (.list ds) => Q ds.reverse
  | _ => False
def hdR (x : Option Bool) (a b : Prop) : Prop := match x with
  | some true => a
  | some false => b
  | none => False
def varR (x : Option Sl) (i : Nat) (Q : R → Prop) : Prop := match x with
  | some (.v d) => Q (.v d)
  | some (.o _) => Q (.b i)
  | some (.io _) => Q (.b i)
  | some (.sc _) => Q (.b i)
  | _ => False
def bD (x : Option Sl) : Option PyData := match x with
  | some s => s.d
  | none => none
def bQ (x : Option Sl) : Option PyData := match x with
  | some (.sc ns) => some (.list (ns.map .int))
  | some s => s.d
  | none => none
def bSh (x : Option Sl) (j : Nat) (env : Env) : Option (PyData × Env) := match x with
  | some (.v d) => some (d, env)
  | some (.o ds) => some (.list ds, env.set j (.v (.list ds)))
  | _ => none
def bGive (x : Option Sl) (j : Nat) (env : Env) (Q : R → Env → Prop) : Prop := match x with
  | some (.v d) => Q (.v d) env
  | some (.o ds) => Q (.o ds) (env.set j .no)
  | _ => False
def isR2 (x : Option Bool) (Q : Bool → Prop) : Prop := match x with
  | some b => Q b
  | none => False
def zipR (d e : PyData) (Q : List PyData → Prop) : Prop := match d, e with
  | .list ds, .list es => Q (zipD ds es)
  | .tuple ds, .tuple es => Q (zipD ds es)
  | _, _ => False

@[simp] theorem line_val : line = 16777216 := rfl
instance : Inhabited Hdv := ⟨.no⟩
instance : Inhabited R := ⟨.v .none⟩
/-! ### reading goes on only at slots that are written out -/
def seqK (G : GE) (r : Ss) (D : Pst) : Env → Prop := fun e => wpSs G r e D
def forR (G : GE) (tg : Tg) (b : Ss) (items : List PyData) (env : Env) (D : Pst) : Prop := forL (fun d e K => setTg tg d e fun e1 => wpSs G b e1 { D with nx := K, ct := K, bk := D.nx }) items env D.nx
def whlR (G : GE) (t : P) (b : Ss) (env : Env) (D : Pst) : Prop := wpS G (.whl t b) env D
def cmpR (G : GE) (own : List Nat) (tg : Tg) (c : Po) (elt : P) (items : List PyData) (env : Env) (Q : R → Env → Prop) : Prop :=
  compL (cturn G own tg c elt) items [] (wipeE env own) fun ds env' => Q (.o ds) env'
section
variable {G : GE} {s : Sl} {z : Env} {D : Pst} {Q : R → Env → Prop} {E : EX}
@[simp ↓] theorem seqK_at {r : Ss} : seqK G r D (s :: z) = wpSs G r (s :: z) D := rfl
@[simp ↓] theorem w_nil : wpSs G .nil (s :: z) D = D.nx (s :: z) := rfl
@[simp ↓] theorem w_cons {a : S} {r : Ss} : wpSs G (.cons a r) (s :: z) D = wpS G a (s :: z) { D with nx := seqK G r D } := rfl
@[simp ↓] theorem s_asg {i : Nat} {e : P} : wpS G (.asg i e) (s :: z) D = (wpE G e (s :: z) (fun r env1 => store i r env1 D.nx) D.ex) := rfl
@[simp ↓] theorem s_asgT {is : List Nat} {e : P} : wpS G (.asgT is e) (s :: z) D = (wpE G e (s :: z) (fun r env1 => withS (r.sh env1) fun d env2 => unpk is d env2 D.nx) D.ex) := rfl
@[simp ↓] theorem s_par {is : List Nat} {es : Ps} : wpS G (.par is es) (s :: z) D = (wpEs G es (s :: z) (fun ds env1 => ds.length = is.length ∧ D.nx (setMany is ds env1)) D.ex) := rfl
@[simp ↓] theorem s_setIx {i : Nat} {ix e : P} : wpS G (.setIx i ix e) (s :: z) D = (wpE G e (s :: z) (fun r env1 => withS (r.sh env1) fun d env2 => ioSlot env2[i]? fun _ _ => wpE G ix env2 (fun k env3 => asI (k.d env3) fun n => ioSlot env3[i]? fun ds mk => ixSet ds n fun j => D.nx (env3.set i (mk (ds.set j d)))) D.ex) D.ex) := rfl
@[simp ↓] theorem s_app {i : Nat} {e : P} : wpS G (.app i e) (s :: z) D = (ioSlot (s :: z)[i]? fun _ _ => wpE G e (s :: z) (fun r env1 => withS (r.sh env1) fun d env2 => ioSlot env2[i]? fun ds mk => ds.length < line ∧ D.nx (env2.set i (mk (ds ++ [d])))) D.ex) := rfl
@[simp ↓] theorem s_ite {t : P} {a b : Ss} : wpS G (.ite t a b) (s :: z) D = (wpE G t (s :: z) (fun x env1 => asB x fun k => if k = true then wpSs G a env1 D else wpSs G b env1 D) D.ex) := rfl
@[simp ↓] theorem s_whl {t : P} {b : Ss} : wpS G (.whl t b) (s :: z) D = (whlR G t b (s :: z) D) := rfl
@[simp ↓] theorem s_for {tg : Tg} {w : Wk} {b : Ss} : wpS G (.for_ tg w b) (s :: z) D = (wpW G w (s :: z) (fun items env1 => forR G tg b items env1 D) D.ex) := rfl
@[simp ↓] theorem s_ret {e : P} : wpS G (.ret e) (s :: z) D = (wpE G e (s :: z) (fun r env1 => give r env1 D.rt) D.ex) := rfl
@[simp ↓] theorem s_raise {x : Str} : wpS G (.raise x) (s :: z) D = (D.ex x (s :: z)) := rfl
@[simp ↓] theorem s_brk : wpS G (.brk) (s :: z) D = (D.bk (s :: z)) := rfl
@[simp ↓] theorem s_cont : wpS G (.cont) (s :: z) D = (D.ct (s :: z)) := rfl
@[simp ↓] theorem s_pass : wpS G (.pass) (s :: z) D = (D.nx (s :: z)) := rfl
@[simp ↓] theorem s_try {b : Ss} {hs : List (Str × Su)} : wpS G (.try_ b hs) (s :: z) D = (wpSs G b (s :: z) { D with ex := fun x e => handle G D x e hs }) := rfl
@[simp ↓] theorem s_xp {e : P} : wpS G (.xp e) (s :: z) D = (wpE G e (s :: z) (fun _ env1 => D.nx env1) D.ex) := rfl
@[simp ↓] theorem e_var {i : Nat} : wpE G (.var i) (s :: z) Q E = varR (s :: z)[i]? i (fun r => Q r (s :: z)) := rfl
@[simp ↓] theorem e_int {i : Int} : wpE G (.int i) (s :: z) Q E = (Q (.v (.int i)) (s :: z)) := rfl
@[simp ↓] theorem e_bl {i : Bool} : wpE G (.bl i) (s :: z) Q E = (Q (.v (.bool i)) (s :: z)) := rfl
@[simp ↓] theorem e_non : wpE G (.non) (s :: z) Q E = (Q (.v .none) (s :: z)) := rfl
@[simp ↓] theorem e_str {i : Str} : wpE G (.str i) (s :: z) Q E = (Q (.v (.str i)) (s :: z)) := rfl
@[simp ↓] theorem e_con {k : Nat} : wpE G (.con k) (s :: z) Q E = (match G.con k with
  | some (_, d) => Q (.v d) (s :: z)
  | none => False) := rfl
@[simp ↓] theorem e_bin {op : Operator} {a b : P} : wpE G (.bin op a b) (s :: z) Q E = (wpE G a (s :: z) (fun x env1 => wpE G b env1 (fun y env2 => withD (x.d env2) fun d => withD (y.d env2) fun e => opB op d e fun r => Q r env2) E) E) := rfl
@[simp ↓] theorem e_neg {a : P} : wpE G (.neg a) (s :: z) Q E = (wpE G a (s :: z) (fun x env1 => asI (x.d env1) fun i => Q (.v (.int (-i))) env1) E) := rfl
@[simp ↓] theorem e_cmp {op : CmpOp} {a b : P} : wpE G (.cmp op a b) (s :: z) Q E = (wpE G a (s :: z) (fun x env1 => wpE G b env1 (fun y env2 => withD (x.d env2) fun d => withD (y.d env2) fun e => opC op d e fun r => Q (.v (.bool r)) env2) E) E) := rfl
@[simp ↓] theorem e_chn {op op' : CmpOp} {a b c : P} : wpE G (.chn op op' a b c) (s :: z) Q E = (wpE G a (s :: z) (fun x env1 => wpE G b env1 (fun y env2 => withD (x.d env2) fun d => withD (y.d env2) fun e => opC op d e fun r => if r = true then wpE G c env2 (fun u env3 => withD (y.d env3) fun e' => withD (u.d env3) fun g => opC op' e' g fun r' => Q (.v (.bool r')) env3) E else Q (.v (.bool false)) env2) E) E) := rfl
@[simp ↓] theorem e_bop {k : Bool} {es : Ps} : wpE G (.bop k es) (s :: z) Q E = (wpBop G k es (s :: z) Q E) := rfl
@[simp ↓] theorem e_not {a : P} : wpE G (.not a) (s :: z) Q E = (wpE G a (s :: z) (fun x env1 => asB x fun b => Q (.v (.bool (!b))) env1) E) := rfl
@[simp ↓] theorem e_ife {t a b : P} : wpE G (.ife t a b) (s :: z) Q E = (wpE G t (s :: z) (fun x env1 => asB x fun k => if k = true then wpE G a env1 Q E else wpE G b env1 Q E) E) := rfl
@[simp ↓] theorem e_tup {es : Ps} : wpE G (.tup es) (s :: z) Q E = (wpEs G es (s :: z) (fun ds env1 => ds.length ≤ line ∧ Q (.v (.tuple ds)) env1) E) := rfl
@[simp ↓] theorem e_lst {es : Ps} : wpE G (.lst es) (s :: z) Q E = (wpEs G es (s :: z) (fun ds env1 => ds.length ≤ line ∧ Q (.o ds) env1) E) := rfl
@[simp ↓] theorem e_ix {a i : P} : wpE G (.ix a i) (s :: z) Q E = (wpE G a (s :: z) (fun x env1 => wpE G i env1 (fun y env2 => withD (x.q env2) fun d => withD (y.d env2) fun e => opI d e fun r => Q r env2) E) E) := rfl
@[simp ↓] theorem e_sl {a : P} {lo hi : Po} : wpE G (.sl a lo hi) (s :: z) Q E = (wpE G a (s :: z) (fun x env1 => wpPo G lo env1 (fun l env2 => wpPo G hi env2 (fun u env3 => withD (x.d env3) fun d => opS d l u fun r => Q r env3) E) E) E) := rfl
@[simp ↓] theorem e_rev {a : P} : wpE G (.rev a) (s :: z) Q E = (wpE G a (s :: z) (fun x env1 => revR (x.d env1) fun ds => Q (.o ds) env1) E) := rfl
@[simp ↓] theorem e_call {k : Nat} {es : Ps} : wpE G (.call k es) (s :: z) Q E = (wpEs G es (s :: z) (fun ds env1 => (G.fns k).pre .no ds ∧ (∀ r h, (G.fns k).post .no ds r h → Q r env1) ∧ ∀ x, (G.fns k).exc .no ds x → E x env1) E) := rfl
@[simp ↓] theorem e_callIo {k i : Nat} {es : Ps} : wpE G (.callIo k i es) (s :: z) Q E = (ioSlot (s :: z)[i]? (fun _ _ => wpEs G es (s :: z) (fun ds env1 => ioSlot env1[i]? fun xs mk => (G.fns k).pre (.io xs) ds ∧ (∀ r h, (G.fns k).post (.io xs) ds r h → ∃ ys, h = .io ys ∧ Q r (env1.set i (mk ys))) ∧ ∀ x, ¬ (G.fns k).exc (.io xs) ds x) E)) := rfl
@[simp ↓] theorem e_callSc {k i : Nat} {es : Ps} : wpE G (.callSc k i es) (s :: z) Q E = (scSlot (s :: z)[i]? (fun _ => wpEs G es (s :: z) (fun ds env1 => scSlot env1[i]? fun ns => (G.fns k).pre (.sc ns) ds ∧ (∀ r h, (G.fns k).post (.sc ns) ds r h → Q r env1) ∧ ∀ x, (G.fns k).exc (.sc ns) ds x → E x env1) E)) := rfl
@[simp ↓] theorem e_len {a : P} : wpE G (.len a) (s :: z) Q E = (wpE G a (s :: z) (fun x env1 => withD (x.q env1) fun d => opLen d fun n => Q (.v (.int n)) env1) E) := rfl
@[simp ↓] theorem e_blt {f : Bf} {es : Ps} : wpE G (.blt f es) (s :: z) Q E = (wpBs G es (s :: z) (fun ds env1 => opF f ds fun r => Q r env1) E) := rfl
@[simp ↓] theorem e_isin {a : P} {t : String} : wpE G (.isin a t) (s :: z) Q E = (wpE G a (s :: z) (fun x env1 => withD (x.d env1) fun d => isR2 (isTy d t) fun b => Q (.v (.bool b)) env1) E) := rfl
@[simp ↓] theorem e_comp {own : List Nat} {w : Wk} {tg : Tg} {c : Po} {elt : P} : wpE G (.comp own w tg c elt) (s :: z) Q E = (wpW G w (s :: z) (fun items env1 => cmpR G own tg c elt items env1 Q) E) := rfl
@[simp ↓] theorem e_dead : wpE G (.dead) (s :: z) Q E = (False) := rfl

@[simp ↓] theorem es_nil {Q : List PyData → Env → Prop} : wpEs G .nil (s :: z) Q E = Q [] (s :: z) := rfl
@[simp ↓] theorem es_cons {Q : List PyData → Env → Prop} {a : P} {r : Ps} : wpEs G (.cons a r) (s :: z) Q E = wpE G a (s :: z) (fun x env1 => withS (x.sh env1) fun d env2 => wpEs G r env2 (fun ds env3 => Q (d :: ds) env3) E) E := rfl
@[simp ↓] theorem bs_nil {Q : List PyData → Env → Prop} : wpBs G .nil (s :: z) Q E = Q [] (s :: z) := rfl
@[simp ↓] theorem bs_cons {Q : List PyData → Env → Prop} {a : P} {r : Ps} : wpBs G (.cons a r) (s :: z) Q E = wpE G a (s :: z) (fun x env1 => wpBs G r env1 (fun ds env2 => withD (x.d env2) fun d => Q (d :: ds) env2) E) E := rfl
@[simp ↓] theorem bop_one {k : Bool} {a : P} : wpBop G k (.cons a .nil) (s :: z) Q E = wpE G a (s :: z) Q E := rfl
@[simp ↓] theorem bop_two {k : Bool} {a b : P} {r : Ps} : wpBop G k (.cons a (.cons b r)) (s :: z) Q E = wpE G a (s :: z) (fun x env1 => asB x fun c => if c = k then wpBop G k (.cons b r) env1 Q E else Q (.v (.bool c)) env1) E := rfl
@[simp ↓] theorem po_n {Q : Option Int → Env → Prop} : wpPo G .none (s :: z) Q E = Q none (s :: z) := rfl
@[simp ↓] theorem po_s {Q : Option Int → Env → Prop} {a : P} : wpPo G (.some a) (s :: z) Q E = wpE G a (s :: z) (fun x env1 => asI (x.d env1) fun i => Q (some i) env1) E := rfl
@[simp ↓] theorem pc_n {Q : Bool → Env → Prop} : wpPc G .none (s :: z) Q E = Q true (s :: z) := rfl
@[simp ↓] theorem pc_s {Q : Bool → Env → Prop} {a : P} : wpPc G (.some a) (s :: z) Q E = wpE G a (s :: z) (fun x env1 => asB x fun b => Q b env1) E := rfl
@[simp ↓] theorem wk_seq' {Q : List PyData → Env → Prop} {a : P} : wpW G (.seq a) (s :: z) Q E = wpE G a (s :: z) (fun x env1 => seqOf (x.sh env1) Q) E := rfl
@[simp ↓] theorem wk_r1' {Q : List PyData → Env → Prop} {a : P} : wpW G (.rng1 a) (s :: z) Q E = wpE G a (s :: z) (fun x env1 => asI (x.d env1) fun n => (-(2 ^ 62) ≤ n ∧ n < 2 ^ 62) ∧ Q (rngD 0 n.toNat) env1) E := rfl
@[simp ↓] theorem wk_r2' {Q : List PyData → Env → Prop} {a b : P} : wpW G (.rng2 a b) (s :: z) Q E = wpE G a (s :: z) (fun x env1 => wpE G b env1 (fun y env2 => asI (x.d env2) fun m => asI (y.d env2) fun n => (-(2 ^ 62) ≤ m ∧ m < 2 ^ 62 ∧ -(2 ^ 62) ≤ n ∧ n < 2 ^ 62) ∧ Q (rngD m (n - m).toNat) env2) E) E := rfl
@[simp ↓] theorem wk_en' {Q : List PyData → Env → Prop} {a : P} : wpW G (.enum a) (s :: z) Q E = wpE G a (s :: z) (fun x env1 => seqOf (x.sh env1) fun ds env2 => Q (enumD 0 ds) env2) E := rfl
@[simp ↓] theorem wk_zip' {Q : List PyData → Env → Prop} {a b : P} : wpW G (.zip a b) (s :: z) Q E = wpE G a (s :: z) (fun x env1 => withS (x.sh env1) fun d env2 => wpE G b env2 (fun y env3 => withS (y.sh env3) fun e env4 => zipR d e fun l => Q l env4) E) E := rfl
end
@[simp ↓] theorem q_dv {d : PyData} {env : Env} {Q : PyData → Prop} : withD (R.d env (.v d)) Q = Q d := rfl
@[simp ↓] theorem q_do {d : List PyData} {env : Env} {Q : PyData → Prop} : withD (R.d env (.o d)) Q = Q (.list d) := rfl
@[simp ↓] theorem q_qv {d : PyData} {env : Env} {Q : PyData → Prop} : withD (R.q env (.v d)) Q = Q d := rfl
@[simp ↓] theorem q_qo {d : List PyData} {env : Env} {Q : PyData → Prop} : withD (R.q env (.o d)) Q = Q (.list d) := rfl
@[simp ↓] theorem q_sv {d : PyData} {env : Env} {Q : PyData → Env → Prop} : withS (R.sh env (.v d)) Q = Q d env := rfl
@[simp ↓] theorem q_so {d : List PyData} {env : Env} {Q : PyData → Env → Prop} : withS (R.sh env (.o d)) Q = Q (.list d) env := rfl
@[simp ↓] theorem q_ai {i : Int} {env : Env} {Q : Int → Prop} : asI (R.d env (.v (.int i))) Q = Q i := rfl
@[simp ↓] theorem q_ab {b : Bool} {Q : Bool → Prop} : asB (.v (.bool b)) Q = Q b := rfl
@[simp] theorem r_withD {d : PyData} {Q : PyData → Prop} : withD (some d) Q = (Q d) := rfl
@[simp] theorem r_withS {d : PyData} {e : Env} {Q : PyData → Env → Prop} : withS (some (d, e)) Q = (Q d e) := rfl
@[simp] theorem r_asB {b : Bool} {Q : Bool → Prop} : asB (.v (.bool b)) Q = (Q b) := rfl
@[simp] theorem r_asI {b : Int} {Q : Int → Prop} : asI (some (.int b)) Q = (Q b) := rfl
@[simp] theorem r_seqL {ds : List PyData} {e : Env} {Q : List PyData → Env → Prop} : seqOf (some (.list ds, e)) Q = (Q ds e) := rfl
@[simp] theorem r_seqT {ds : List PyData} {e : Env} {Q : List PyData → Env → Prop} : seqOf (some (.tuple ds, e)) Q = (Q ds e) := rfl
@[simp] theorem r_ioO {xs : List PyData} {Q : List PyData → (List PyData → Sl) → Prop} : ioSlot (some (.o xs)) Q = (Q xs Sl.o) := rfl
@[simp] theorem r_ioI {xs : List PyData} {Q : List PyData → (List PyData → Sl) → Prop} : ioSlot (some (.io xs)) Q = (Q xs Sl.io) := rfl
@[simp] theorem r_sc {xs : List Int} {Q : List Int → Prop} : scSlot (some (.sc xs)) Q = (Q xs) := rfl
@[simp] theorem r_is2 {b : Bool} {Q : Bool → Prop} : isR2 (some b) Q = (Q b) := rfl
@[simp] theorem r_zL {ds es : List PyData} {Q : List PyData → Prop} : zipR (.list ds) (.list es) Q = (Q (zipD ds es)) := rfl
@[simp] theorem r_zT {ds es : List PyData} {Q : List PyData → Prop} : zipR (.tuple ds) (.tuple es) Q = (Q (zipD ds es)) := rfl
@[simp] theorem r_unT {is : List Nat} {ds : List PyData} {env : Env} {Q : Env → Prop} : unpk is (.tuple ds) env Q = (ds.length = is.length ∧ Q (setMany is ds env)) := rfl
@[simp] theorem r_unL {is : List Nat} {ds : List PyData} {env : Env} {Q : Env → Prop} : unpk is (.list ds) env Q = (ds.length = is.length ∧ Q (setMany is ds env)) := rfl
@[simp] theorem r_rev {ds : List PyData} {Q : List PyData → Prop} : revR (some (.list ds)) Q = (Q ds.reverse) := rfl
@[simp] theorem r_vV {d : PyData} {i : Nat} {Q : R → Prop} : varR (some (.v d)) i Q = (Q (.v d)) := rfl
@[simp] theorem r_vO {d : List PyData} {i : Nat} {Q : R → Prop} : varR (some (.o d)) i Q = (Q (.b i)) := rfl
@[simp] theorem r_vI {d : List PyData} {i : Nat} {Q : R → Prop} : varR (some (.io d)) i Q = (Q (.b i)) := rfl
@[simp] theorem r_vS {d : List Int} {i : Nat} {Q : R → Prop} : varR (some (.sc d)) i Q = (Q (.b i)) := rfl
@[simp] theorem r_Rd_v {d : PyData} {env : Env} : R.d env (.v d) = (some d) := rfl
@[simp] theorem r_Rd_o {d : List PyData} {env : Env} : R.d env (.o d) = (some (.list d)) := rfl
@[simp] theorem r_Rq_v {d : PyData} {env : Env} : R.q env (.v d) = (some d) := rfl
@[simp] theorem r_Rq_o {d : List PyData} {env : Env} : R.q env (.o d) = (some (.list d)) := rfl
@[simp] theorem r_Rsh_v {d : PyData} {env : Env} : R.sh env (.v d) = (some (d, env)) := rfl
@[simp] theorem r_Rsh_o {d : List PyData} {env : Env} : R.sh env (.o d) = (some (.list d, env)) := rfl
@[simp] theorem r_Rd_b {i : Nat} {s : Sl} {z : Env} : R.d (s :: z) (.b i) = (bD (s :: z)[i]?) := rfl
@[simp] theorem r_Rq_b {i : Nat} {s : Sl} {z : Env} : R.q (s :: z) (.b i) = (bQ (s :: z)[i]?) := rfl
@[simp] theorem r_Rs_b {i : Nat} {s : Sl} {z : Env} : R.sh (s :: z) (.b i) = (bSh (s :: z)[i]? i (s :: z)) := rfl
@[simp] theorem r_bD_v {d : PyData} : bD (some (.v d)) = (some d) := rfl
@[simp] theorem r_bD_o {d : List PyData} : bD (some (.o d)) = (some (.list d)) := rfl
@[simp] theorem r_bD_i {d : List PyData} : bD (some (.io d)) = (some (.list d)) := rfl
@[simp] theorem r_bQ_v {d : PyData} : bQ (some (.v d)) = (some d) := rfl
@[simp] theorem r_bQ_o {d : List PyData} : bQ (some (.o d)) = (some (.list d)) := rfl
@[simp] theorem r_bQ_i {d : List PyData} : bQ (some (.io d)) = (some (.list d)) := rfl
@[simp] theorem r_bQ_s {d : List Int} : bQ (some (.sc d)) = (some (.list (d.map .int))) := rfl
@[simp] theorem r_bS_v {d : PyData} {j : Nat} {env : Env} : bSh (some (.v d)) j env = (some (d, env)) := rfl
@[simp] theorem r_bS_o {d : List PyData} {j : Nat} {env : Env} : bSh (some (.o d)) j env = (some (.list d, env.set j (.v (.list d)))) := rfl
@[simp] theorem r_bG_v {d : PyData} {j : Nat} {env : Env} {Q : R → Env → Prop} : bGive (some (.v d)) j env Q = (Q (.v d) env) := rfl
@[simp] theorem r_bG_o {d : List PyData} {j : Nat} {env : Env} {Q : R → Env → Prop} : bGive (some (.o d)) j env Q = (Q (.o d) (env.set j .no)) := rfl
@[simp] theorem r_st_v {d : PyData} {i : Nat} {env : Env} {Q : Env → Prop} : store i (.v d) env Q = (Q (env.set i (.v d))) := rfl
@[simp] theorem r_st_o {d : List PyData} {i : Nat} {env : Env} {Q : Env → Prop} : store i (.o d) env Q = (Q (env.set i (.o d))) := rfl
@[simp] theorem r_st_b {j i : Nat} {s : Sl} {z : Env} {Q : Env → Prop} : store i (.b j) (s :: z) Q = (withS (R.sh (s :: z) (.b j)) fun d env1 => Q (env1.set i (.v d))) := rfl
@[simp] theorem r_gi_v {d : PyData} {env : Env} {Q : R → Env → Prop} : give (.v d) env Q = (Q (.v d) env) := rfl
@[simp] theorem r_gi_o {d : List PyData} {env : Env} {Q : R → Env → Prop} : give (.o d) env Q = (Q (.o d) env) := rfl
@[simp] theorem r_gi_b {j : Nat} {s : Sl} {z : Env} {Q : R → Env → Prop} : give (.b j) (s :: z) Q = (bGive (s :: z)[j]? j (s :: z) Q) := rfl
@[simp] theorem r_opAdd {i j : Int} {Q : R → Prop} : opB .Add (.int i) (.int j) Q = (Q (.v (.int (i + j)))) := rfl
@[simp] theorem r_opSub {i j : Int} {Q : R → Prop} : opB .Sub (.int i) (.int j) Q = (Q (.v (.int (i - j)))) := rfl
@[simp] theorem r_opMult {i j : Int} {Q : R → Prop} : opB .Mult (.int i) (.int j) Q = (MulOk i j ∧ Q (.v (.int (i * j)))) := rfl
@[simp] theorem r_opFloorDiv {i j : Int} {Q : R → Prop} : opB .FloorDiv (.int i) (.int j) Q = ((0 < j ∧ j.natAbs.log2 < 9000) ∧ Q (.v (.int (i / j)))) := rfl
@[simp] theorem r_opMod {i j : Int} {Q : R → Prop} : opB .Mod (.int i) (.int j) Q = (0 < j ∧ Q (.v (.int (i % j)))) := rfl
@[simp] theorem r_opPow {i j : Int} {Q : R → Prop} : opB .Pow (.int i) (.int j) Q = ((0 ≤ j ∧ j ≤ 1000000 ∧ i.natAbs < 2 ^ 64) ∧ Q (.v (.int (i ^ j.toNat)))) := rfl
@[simp] theorem r_opAddL {xs ys : List PyData} {Q : R → Prop} : opB .Add (.list xs) (.list ys) Q = (xs.length + ys.length ≤ line ∧ Q (.o (xs ++ ys))) := rfl
@[simp] theorem r_opAddT {xs ys : List PyData} {Q : R → Prop} : opB .Add (.tuple xs) (.tuple ys) Q = (xs.length + ys.length ≤ line ∧ Q (.v (.tuple (xs ++ ys)))) := rfl
@[simp] theorem r_opAddS {a b : Str} {Q : R → Prop} : opB .Add (.str a) (.str b) Q = (a.length + b.length ≤ line ∧ Q (.v (.str (a ++ b)))) := rfl
@[simp] theorem r_opMulL {xs : List PyData} {k : Int} {Q : R → Prop} : opB .Mult (.list xs) (.int k) Q = ((-(2 ^ 63) ≤ k ∧ k < 2 ^ 63 ∧ xs.length * k.toNat ≤ line) ∧ Q (.o (List.replicate k.toNat xs).flatten)) := rfl
@[simp] theorem r_opMulT {xs : List PyData} {k : Int} {Q : R → Prop} : opB .Mult (.tuple xs) (.int k) Q = ((xs ≠ [] ∧ 2 ≤ k ∧ k ≤ 1000 ∧ xs.length ≤ 1000) ∧ Q (.v (.tuple (List.replicate k.toNat xs).flatten))) := rfl
@[simp] theorem r_cEq {x y : PyData} {Q : Bool → Prop} : opC .Eq x y Q = (eqOk x y = true ∧ Q (PyData.eqv x y)) := rfl
@[simp] theorem r_cNe {x y : PyData} {Q : Bool → Prop} : opC .NotEq x y Q = (eqOk x y = true ∧ Q (!PyData.eqv x y)) := rfl
@[simp] theorem r_cLt {i j : Int} {Q : Bool → Prop} : opC .Lt (.int i) (.int j) Q = (Q (decide (i < j))) := rfl
@[simp] theorem r_cLtE {i j : Int} {Q : Bool → Prop} : opC .LtE (.int i) (.int j) Q = (Q (decide (i ≤ j))) := rfl
@[simp] theorem r_cGt {i j : Int} {Q : Bool → Prop} : opC .Gt (.int i) (.int j) Q = (Q (decide (j < i))) := rfl
@[simp] theorem r_cGtE {i j : Int} {Q : Bool → Prop} : opC .GtE (.int i) (.int j) Q = (Q (decide (j ≤ i))) := rfl
@[simp] theorem r_cIs {x : PyData} {Q : Bool → Prop} : opC .Is x .none Q = (Q (isNone x)) := rfl
@[simp] theorem r_cNs {x : PyData} {Q : Bool → Prop} : opC .IsNot x .none Q = (Q (!isNone x)) := rfl
@[simp] theorem r_cInlist {x : PyData} {ds : List PyData} {Q : Bool → Prop} : opC .In x (.list ds) Q = ((SeqAt.shaped x = true ∧ SeqAt.shaped (.list ds) = true) ∧ Q (ds.any fun z => PyData.eqv z x)) := rfl
@[simp] theorem r_cNilist {x : PyData} {ds : List PyData} {Q : Bool → Prop} : opC .NotIn x (.list ds) Q = ((SeqAt.shaped x = true ∧ SeqAt.shaped (.list ds) = true) ∧ Q (!ds.any fun z => PyData.eqv z x)) := rfl
@[simp] theorem r_cIntuple {x : PyData} {ds : List PyData} {Q : Bool → Prop} : opC .In x (.tuple ds) Q = ((SeqAt.shaped x = true ∧ SeqAt.shaped (.tuple ds) = true) ∧ Q (ds.any fun z => PyData.eqv z x)) := rfl
@[simp] theorem r_cNituple {x : PyData} {ds : List PyData} {Q : Bool → Prop} : opC .NotIn x (.tuple ds) Q = ((SeqAt.shaped x = true ∧ SeqAt.shaped (.tuple ds) = true) ∧ Q (!ds.any fun z => PyData.eqv z x)) := rfl
@[simp] theorem r_iL {ds : List PyData} {k : Int} {Q : R → Prop} : opI (.list ds) (.int k) Q = (ixAt ds k fun d => Q (.v d)) := rfl
@[simp] theorem r_iT {ds : List PyData} {k : Int} {Q : R → Prop} : opI (.tuple ds) (.int k) Q = (ixAt ds k fun d => Q (.v d)) := rfl
@[simp] theorem r_sL {ds : List PyData} {lo hi : Option Int} {Q : R → Prop} : opS (.list ds) lo hi Q = (Q (.o (cutD ds lo hi))) := rfl
@[simp] theorem r_sT {ds : List PyData} {lo hi : Option Int} {Q : R → Prop} : opS (.tuple ds) lo hi Q = (Q (.v (.tuple (cutD ds lo hi)))) := rfl
@[simp] theorem r_lL {ds : List PyData} {Q : Int → Prop} : opLen (.list ds) Q = (Q ds.length) := rfl
@[simp] theorem r_lT {ds : List PyData} {Q : Int → Prop} : opLen (.tuple ds) Q = (Q ds.length) := rfl
@[simp] theorem r_lS {d : Str} {Q : Int → Prop} : opLen (.str d) Q = (d.length ≤ line ∧ Q d.length) := rfl
@[simp] theorem r_fabs {i : Int} {Q : R → Prop} : opF .abs [.int i] Q = (Q (.v (.int (if i < 0 then -i else i)))) := rfl
@[simp] theorem r_fint {i : Int} {Q : R → Prop} : opF .int [.int i] Q = (Q (.v (.int i))) := rfl
@[simp] theorem r_fintb {k : Bool} {Q : R → Prop} : opF .int [.bool k] Q = (Q (.v (.int (if k then 1 else 0)))) := rfl
@[simp] theorem r_fbool {i : Int} {Q : R → Prop} : opF .bool [.int i] Q = (Q (.v (.bool (i != 0)))) := rfl
@[simp] theorem r_fboolb {k : Bool} {Q : R → Prop} : opF .bool [.bool k] Q = (Q (.v (.bool k))) := rfl
@[simp] theorem r_fstr {i : Int} {Q : R → Prop} : opF .str [.int i] Q = (i.natAbs.log2 < 1920 ∧ Q (.v (.str (toString i)))) := rfl
@[simp] theorem r_fall {ds : List PyData} {Q : R → Prop} : opF .all [.list ds] Q = (withBs (bools? ds) fun bs => Q (.v (.bool (bs.all id)))) := rfl
@[simp] theorem r_fany {ds : List PyData} {Q : R → Prop} : opF .any [.list ds] Q = (withBs (bools? ds) fun bs => Q (.v (.bool (bs.any id)))) := rfl
@[simp] theorem r_ftl {ds : List PyData} {Q : R → Prop} : opF .tuple [.list ds] Q = (Q (.v (.tuple ds))) := rfl
@[simp] theorem r_ftt {ds : List PyData} {Q : R → Prop} : opF .tuple [.tuple ds] Q = (Q (.v (.tuple ds))) := rfl
@[simp] theorem r_fll {ds : List PyData} {Q : R → Prop} : opF .list [.list ds] Q = (Q (.o ds)) := rfl
@[simp] theorem r_flt {ds : List PyData} {Q : R → Prop} : opF .list [.tuple ds] Q = (Q (.o ds)) := rfl
@[simp] theorem r_fmax {i j : Int} {Q : R → Prop} : opF .max2 [.int i, .int j] Q = (Q (.v (.int (if j > i then j else i)))) := rfl
@[simp] theorem r_fmin {i j : Int} {Q : R → Prop} : opF .min2 [.int i, .int j] Q = (Q (.v (.int (if j < i then j else i)))) := rfl
@[simp] theorem r_wBs {bs : List Bool} {Q : List Bool → Prop} : withBs (some bs) Q = (Q bs) := rfl
@[simp] theorem r_b_nil : bools? [] = (some []) := rfl
@[simp] theorem r_bmap {bs : List Bool} : bools? (bs.map .bool) = (some bs) := by
  induction bs with
  | nil => rfl
  | cons b r ih => simp only [List.map_cons, bools?, ih]
@[simp] theorem r_b_cons {b : Bool} {r : List PyData} : bools? (.bool b :: r) = ((bools? r).map (b :: ·)) := by simp only [bools?]; cases bools? r <;> rfl
@[simp] theorem r_tgN {i : Nat} {d : PyData} {env : Env} {Q : Env → Prop} : setTg (.nm i) d env Q = (Q (env.set i (.v d))) := rfl
@[simp] theorem r_tgT {is : List Nat} {ds : List PyData} {env : Env} {Q : Env → Prop} : setTg (.tp is) (.tuple ds) env Q = (ds.length = is.length ∧ Q (setMany is ds env)) := rfl
@[simp] theorem r_sm_n {ds : List PyData} {env : Env} : setMany [] ds env = (env) := rfl
@[simp] theorem r_sm_c {i : Nat} {is : List Nat} {d : PyData} {ds : List PyData} {env : Env} : setMany (i :: is) (d :: ds) env = (setMany is ds (env.set i (.v d))) := rfl
@[simp] theorem r_wi_n {env : Env} : wipeE env [] = (env) := rfl
@[simp] theorem r_wi_c {env : Env} {i : Nat} {is : List Nat} : wipeE env (i :: is) = ((wipeE env is).set i .no) := rfl
@[simp] theorem r_en_no {e : Env} {Q : Hdv → Prop} : endH .no e Q = (Q .no) := rfl
@[simp] theorem r_en_sc {e : Env} {ns : List Int} {Q : Hdv → Prop} : endH (.sc ns) e Q = (Q (.sc ns)) := rfl
@[simp] theorem r_en_io {e : Env} {xs ys : List PyData} {Q : Hdv → Prop} : endH (.io xs) (.io ys :: e) Q = (Q (.io ys)) := rfl
@[simp] theorem r_ep_rt {s : FSpec} {hv : Hdv} {ds : List PyData} : (endP s hv ds).rt = (fun r e => endH hv e (s.post hv ds r)) := rfl
@[simp] theorem r_ep_nx {s : FSpec} {hv : Hdv} {ds : List PyData} : (endP s hv ds).nx = (fun e => endH hv e (s.post hv ds (.v .none))) := rfl
@[simp] theorem r_ep_ex {s : FSpec} {hv : Hdv} {ds : List PyData} : (endP s hv ds).ex = (fun x _ => hv.k ≠ .io ∧ s.exc hv ds x) := rfl
@[simp] theorem r_hk1 : Hdv.k .no = (HdK.no) := rfl
@[simp] theorem r_hk2 {xs : List PyData} : Hdv.k (.io xs) = (HdK.io) := rfl
@[simp] theorem r_hk3 {xs : List Int} : Hdv.k (.sc xs) = (HdK.sc) := rfl
@[simp] theorem r_hs1 : hdSl .no = ([]) := rfl
@[simp] theorem r_hs2 {xs : List PyData} : hdSl (.io xs) = ([Sl.io xs]) := rfl
@[simp] theorem r_hs3 {xs : List Int} : hdSl (.sc xs) = ([Sl.sc xs]) := rfl
@[simp] theorem r_hnil {G : GE} {D : Pst} {x : Str} {e : Env} : handle G D x e [] = (D.ex x e) := rfl
@[simp] theorem r_hcons {G : GE} {D : Pst} {x y : Str} {u : Su} {e : Env} {r : List (Str × Su)} : handle G D x e ((y, u) :: r) = (hdR (G.exm x y) (D.rt (.v u.d) e) (handle G D x e r)) := rfl
@[simp] theorem r_hdt {a b : Prop} : hdR (some true) a b = (a) := rfl
@[simp] theorem r_hdf {a b : Prop} : hdR (some false) a b = (b) := rfl
@[simp] theorem r_su1 {b : Bool} : Su.d (.bl b) = (.bool b) := rfl
@[simp] theorem r_su2 {b : Int} : Su.d (.int b) = (.int b) := rfl
@[simp] theorem r_su3 {b : Str} : Su.d (.str b) = (.str b) := rfl
@[simp] theorem r_su4 : Su.d .non = (.none) := rfl
@[simp] theorem ty_NoneType_int : isTy (.none) "int" = some false := by show L2.kitB "NoneType" "int" = _; decide +kernel
@[simp] theorem ty_NoneType_bool : isTy (.none) "bool" = some false := by show L2.kitB "NoneType" "bool" = _; decide +kernel
@[simp] theorem ty_NoneType_str : isTy (.none) "str" = some false := by show L2.kitB "NoneType" "str" = _; decide +kernel
@[simp] theorem ty_NoneType_tuple : isTy (.none) "tuple" = some false := by show L2.kitB "NoneType" "tuple" = _; decide +kernel
@[simp] theorem ty_NoneType_list : isTy (.none) "list" = some false := by show L2.kitB "NoneType" "list" = _; decide +kernel
@[simp] theorem ty_bool_int {b : Bool} : isTy (.bool b) "int" = some true := by show L2.kitB "bool" "int" = _; decide +kernel
@[simp] theorem ty_bool_bool {b : Bool} : isTy (.bool b) "bool" = some true := by show L2.kitB "bool" "bool" = _; decide +kernel
@[simp] theorem ty_bool_str {b : Bool} : isTy (.bool b) "str" = some false := by show L2.kitB "bool" "str" = _; decide +kernel
@[simp] theorem ty_bool_tuple {b : Bool} : isTy (.bool b) "tuple" = some false := by show L2.kitB "bool" "tuple" = _; decide +kernel
@[simp] theorem ty_bool_list {b : Bool} : isTy (.bool b) "list" = some false := by show L2.kitB "bool" "list" = _; decide +kernel
@[simp] theorem ty_int_int {i : Int} : isTy (.int i) "int" = some true := by show L2.kitB "int" "int" = _; decide +kernel
@[simp] theorem ty_int_bool {i : Int} : isTy (.int i) "bool" = some false := by show L2.kitB "int" "bool" = _; decide +kernel
@[simp] theorem ty_int_str {i : Int} : isTy (.int i) "str" = some false := by show L2.kitB "int" "str" = _; decide +kernel
@[simp] theorem ty_int_tuple {i : Int} : isTy (.int i) "tuple" = some false := by show L2.kitB "int" "tuple" = _; decide +kernel
@[simp] theorem ty_int_list {i : Int} : isTy (.int i) "list" = some false := by show L2.kitB "int" "list" = _; decide +kernel
@[simp] theorem ty_str_int {s : Str} : isTy (.str s) "int" = some false := by show L2.kitB "str" "int" = _; decide +kernel
@[simp] theorem ty_str_bool {s : Str} : isTy (.str s) "bool" = some false := by show L2.kitB "str" "bool" = _; decide +kernel
@[simp] theorem ty_str_str {s : Str} : isTy (.str s) "str" = some true := by show L2.kitB "str" "str" = _; decide +kernel
@[simp] theorem ty_str_tuple {s : Str} : isTy (.str s) "tuple" = some false := by show L2.kitB "str" "tuple" = _; decide +kernel
@[simp] theorem ty_str_list {s : Str} : isTy (.str s) "list" = some false := by show L2.kitB "str" "list" = _; decide +kernel
@[simp] theorem ty_list_int {l : List PyData} : isTy (.list l) "int" = some false := by show L2.kitB "list" "int" = _; decide +kernel
@[simp] theorem ty_list_bool {l : List PyData} : isTy (.list l) "bool" = some false := by show L2.kitB "list" "bool" = _; decide +kernel
@[simp] theorem ty_list_str {l : List PyData} : isTy (.list l) "str" = some false := by show L2.kitB "list" "str" = _; decide +kernel
@[simp] theorem ty_list_tuple {l : List PyData} : isTy (.list l) "tuple" = some false := by show L2.kitB "list" "tuple" = _; decide +kernel
@[simp] theorem ty_list_list {l : List PyData} : isTy (.list l) "list" = some true := by show L2.kitB "list" "list" = _; decide +kernel
@[simp] theorem ty_tuple_int {l : List PyData} : isTy (.tuple l) "int" = some false := by show L2.kitB "tuple" "int" = _; decide +kernel
@[simp] theorem ty_tuple_bool {l : List PyData} : isTy (.tuple l) "bool" = some false := by show L2.kitB "tuple" "bool" = _; decide +kernel
@[simp] theorem ty_tuple_str {l : List PyData} : isTy (.tuple l) "str" = some false := by show L2.kitB "tuple" "str" = _; decide +kernel
@[simp] theorem ty_tuple_tuple {l : List PyData} : isTy (.tuple l) "tuple" = some true := by show L2.kitB "tuple" "tuple" = _; decide +kernel
@[simp] theorem ty_tuple_list {l : List PyData} : isTy (.tuple l) "list" = some false := by show L2.kitB "tuple" "list" = _; decide +kernel
/-! ### loops -/
section
variable {turn : PyData → Env → (Env → Prop) → Prop} {Q : Env → Prop}
theorem forL_rule (I : List PyData → Env → Prop) (hs : ∀ d r e (K : Env → Prop), I (d :: r) e → (∀ e', I r e' → K e') → turn d e K) (he : ∀ e, I [] e → Q e) : ∀ (items : List PyData) (e : Env), I items e → forL turn items e Q
  | [], e, h => he e h
  | d :: r, e, h => by
    show turn d e fun e' => forL turn r e' Q
    exact hs d r e _ h fun e' h' => forL_rule I hs he r e' h'
end
section
variable {turn : PyData → Env → (Option PyData → Env → Prop) → Prop} {Q : List PyData → Env → Prop}
/-- each item gives its own, the slots stand -/
theorem compL_map {e : Env} (f : PyData → PyData) : ∀ (items acc : List PyData), (∀ d ∈ items, ∀ K : Option PyData → Env → Prop, K (some (f d)) e → turn d e K) → acc.length + items.length ≤ line → Q (acc ++ items.map f) e → compL turn items acc e Q
  | [], acc, _, _, q => by rw [List.map_nil, List.append_nil] at q; exact q
  | d :: r, acc, h, l, q => by
    have l : acc.length + (r.length + 1) ≤ line := l
    show turn d e _
    refine h d List.mem_cons_self _ ⟨by omega, compL_map f r (acc ++ [f d]) (fun x hx => h x (List.mem_cons_of_mem _ hx)) (by rw [List.length_append, List.length_singleton]; omega) ?_⟩
    rw [List.append_assoc]
    exact q
theorem compL_inv (I : List PyData → List PyData → Env → Prop) (hs : ∀ d r acc e (K : Option PyData → Env → Prop), I (d :: r) acc e → (∀ y e', I r (acc ++ [y]) e' → K (some y) e') → (∀ e', I r acc e' → K none e') → turn d e K)
    (hl : ∀ d r acc e, I (d :: r) acc e → acc.length < line) (he : ∀ acc e, I [] acc e → Q acc e) : ∀ (items acc : List PyData) (e : Env), I items acc e → compL turn items acc e Q
  | [], acc, e, h => he acc e h
  | d :: r, acc, e, h => by
    show turn d e _
    exact hs d r acc e _ h (fun y e' h' => ⟨hl d r acc e h, compL_inv I hs hl he r (acc ++ [y]) e' h'⟩) fun e' h' => compL_inv I hs hl he r acc e' h'
/-- .. and some are left out -/
theorem compL_filter {e : Env} (f : PyData → Option PyData) : ∀ (items acc : List PyData), (∀ d ∈ items, ∀ K : Option PyData → Env → Prop, K (f d) e → turn d e K) → acc.length + items.length ≤ line → Q (acc ++ items.filterMap f) e → compL turn items acc e Q
  | [], acc, _, _, q => by rw [List.filterMap_nil, List.append_nil] at q; exact q
  | d :: r, acc, h, l, q => by
    have l : acc.length + (r.length + 1) ≤ line := l
    show turn d e _
    refine h d List.mem_cons_self _ ?_
    cases hf : f d with
    | none =>
      rw [List.filterMap_cons, hf] at q
      exact compL_filter f r acc (fun x hx => h x (List.mem_cons_of_mem _ hx)) (by omega) q
    | some y =>
      rw [List.filterMap_cons, hf] at q
      refine ⟨by omega, compL_filter f r (acc ++ [y]) (fun x hx => h x (List.mem_cons_of_mem _ hx)) (by rw [List.length_append, List.length_singleton]; omega) ?_⟩
      rw [List.append_assoc]
      exact q
end
/-- a def without changes: what it asks, what it tells -/
def pureS (pre : List PyData → Prop) (f : List PyData → PyData) : FSpec := ⟨fun _ ds => pre ds, fun _ ds r _ => r = .v (f ds), fun _ _ _ => False⟩
section
variable {pre : List PyData → Prop} {f : List PyData → PyData} {hv : Hdv} {ds : List PyData}
@[simp] theorem pu_pre : (pureS pre f).pre hv ds = pre ds := rfl
@[simp] theorem pu_post {r : R} {h : Hdv} : (pureS pre f).post hv ds r h = (r = .v (f ds)) := rfl
@[simp] theorem pu_exc {x : Str} : (pureS pre f).exc hv ds x = False := rfl
end
@[simp] theorem eqok_i {i j : Int} : eqOk (.int i) (.int j) = true := rfl
@[simp] theorem eqok_s {i j : Str} : eqOk (.str i) (.str j) = true := rfl
@[simp] theorem eqok_b {i j : Bool} : eqOk (.bool i) (.bool j) = true := rfl
@[simp] theorem eqv_i {i j : Int} : PyData.eqv (.int i) (.int j) = decide (i = j) := by simp only [PyData.eqv]; rfl
@[simp] theorem eqv_s {i j : Str} : PyData.eqv (.str i) (.str j) = decide (i = j) := by simp only [PyData.eqv]; rfl
@[simp] theorem eqv_b {i j : Bool} : PyData.eqv (.bool i) (.bool j) = (i == j) := by simp only [PyData.eqv]
@[simp] theorem eqv_t {i j : List PyData} : PyData.eqv (.tuple i) (.tuple j) = PyData.eqvAll i j := by simp only [PyData.eqv]
@[simp] theorem eqv_l {i j : List PyData} : PyData.eqv (.list i) (.list j) = PyData.eqvAll i j := by simp only [PyData.eqv]
@[simp] theorem eqa_n : PyData.eqvAll [] [] = true := by simp only [PyData.eqvAll]
@[simp] theorem eqa_c {x y : PyData} {xs ys : List PyData} : PyData.eqvAll (x :: xs) (y :: ys) = (PyData.eqv x y && PyData.eqvAll xs ys) := by simp only [PyData.eqvAll]
@[simp] theorem eqa_1 {x : PyData} {xs : List PyData} : PyData.eqvAll (x :: xs) [] = false := by simp only [PyData.eqvAll]
@[simp] theorem eqa_2 {x : PyData} {xs : List PyData} : PyData.eqvAll [] (x :: xs) = false := by simp only [PyData.eqvAll]
theorem eqok_sh {d e : PyData} (h1 : SeqAt.shaped d = true) (h2 : SeqAt.shaped e = true) : eqOk d e = true := by simp [eqOk, h1, h2]
theorem ixAt_k {j : Nat} {ds : List PyData} {d : PyData} {Q : PyData → Prop} (h : ds[j]? = some d) : ixAt ds (j : Int) Q = Q d := by
  have e : atI ds (j : Int) = some d := atI_nat h
  simp only [ixAt, e]
@[simp] theorem ixAt_0 {d : PyData} {ds : List PyData} {Q : PyData → Prop} : ixAt (d :: ds) 0 Q = Q d := ixAt_k (j := 0) rfl
@[simp] theorem ixAt_1 {c d : PyData} {ds : List PyData} {Q : PyData → Prop} : ixAt (c :: d :: ds) 1 Q = Q d := ixAt_k (j := 1) rfl
@[simp] theorem ixAt_2 {b c d : PyData} {ds : List PyData} {Q : PyData → Prop} : ixAt (b :: c :: d :: ds) 2 Q = Q d := ixAt_k (j := 2) rfl
theorem ixAt_n {i : Int} {ds : List PyData} {Q : PyData → Prop} (h0 : 0 ≤ i) (h : i.toNat < ds.length) (q : Q ds[i.toNat]) : ixAt ds i Q := by
  have e : ixAt ds (i.toNat : Int) Q = Q ds[i.toNat] := ixAt_k (List.getElem?_eq_getElem h)
  rw [show (i.toNat : Int) = i by omega] at e
  rw [e]
  exact q
theorem ixSet_k {n j : Nat} {ds : List PyData} {Q : Nat → Prop} (h : j < ds.length) : ixSet ds (j : Int) Q = Q j := by
  have e : ixN ds.length (j : Int) = some j := by unfold ixN; simp; omega
  simp only [ixSet, e]
@[simp] theorem ixSet_0 {d : PyData} {ds : List PyData} {Q : Nat → Prop} : ixSet (d :: ds) 0 Q = Q 0 := ixSet_k (n := 0) (j := 0) (by simp)
@[simp] theorem ixSet_1 {c d : PyData} {ds : List PyData} {Q : Nat → Prop} : ixSet (c :: d :: ds) 1 Q = Q 1 := ixSet_k (n := 0) (j := 1) (by simp)
theorem ixSet_n {i : Int} {ds : List PyData} {Q : Nat → Prop} (h0 : 0 ≤ i) (h : i.toNat < ds.length) (q : Q i.toNat) : ixSet ds i Q := by
  have e : ixSet ds (i.toNat : Int) Q = Q i.toNat := ixSet_k (n := 0) h
  rw [show (i.toNat : Int) = i by omega] at e
  rw [e]
  exact q
@[simp] theorem r_bmapf {α : Type} {f : α → Bool} {l : List α} : bools? (l.map fun d => .bool (f d)) = some (l.map f) := by
  have := r_bmap (bs := l.map f)
  rw [List.map_map] at this
  exact this
/-! ### loops, as rules -/
section
variable {G : GE} {D : Pst} {env : Env}
theorem whl_of {t : P} {b : Ss} (W : Nat → Env → Prop) (m : Nat) (h0 : W m env) (hs : ∀ m e, W m e → wpE G t e (fun x e1 => asB x fun k => if k = true then wpSs G b e1 { D with nx := fun e2 => ∃ m', m' < m ∧ W m' e2, ct := fun e2 => ∃ m', m' < m ∧ W m' e2, bk := D.nx } else D.nx e1) D.ex) : whlR G t b env D := by
  show wpS G (.whl t b) env D
  simp only [wpS]
  exact ⟨W, ⟨m, h0⟩, hs⟩
theorem for_of {tg : Tg} {b : Ss} {items : List PyData} (I : List PyData → Env → Prop) (h0 : I items env)
    (hs : ∀ d r e (K : Env → Prop), d ∈ items → I (d :: r) e → (∀ e', I r e' → K e') → setTg tg d e fun e1 => wpSs G b e1 { D with nx := K, ct := K, bk := D.nx }) (he : ∀ e, I [] e → D.nx e) : forR G tg b items env D :=
  forL_rule (turn := fun d e K => setTg tg d e fun e1 => wpSs G b e1 { D with nx := K, ct := K, bk := D.nx }) (fun l e => (∀ d ∈ l, d ∈ items) ∧ I l e) (fun d r e K h hK => hs d r e K (h.1 d List.mem_cons_self) h.2 fun e' h' => hK e' ⟨fun x hx => h.1 x (List.mem_cons_of_mem _ hx), h'⟩) (fun e h => he e h.2) items env ⟨fun _ h => h, h0⟩
theorem cmp_map {own : List Nat} {tg : Tg} {c : Po} {elt : P} {items : List PyData} {Q : R → Env → Prop} (f : PyData → PyData) (hl : items.length ≤ line)
    (hs : ∀ d ∈ items, ∀ K : Option PyData → Env → Prop, K (some (f d)) (wipeE env own) → cturn G own tg c elt d (wipeE env own) K) (q : Q (.o (items.map f)) (wipeE env own)) : cmpR G own tg c elt items env Q :=
  compL_map f items [] hs (by simpa using hl) (by simpa using q)
theorem cmp_inv {own : List Nat} {tg : Tg} {c : Po} {elt : P} {items : List PyData} {Q : R → Env → Prop} (I : List PyData → List PyData → Env → Prop) (h0 : I items [] (wipeE env own))
    (hs : ∀ d r acc e (K : Option PyData → Env → Prop), I (d :: r) acc e → (∀ y e', I r (acc ++ [y]) e' → K (some y) e') → (∀ e', I r acc e' → K none e') → cturn G own tg c elt d e K)
    (hl : ∀ d r acc e, I (d :: r) acc e → acc.length < line) (he : ∀ acc e, I [] acc e → Q (.o acc) e) : cmpR G own tg c elt items env Q :=
  compL_inv I hs hl he items [] _ h0
theorem cmp_filter {own : List Nat} {tg : Tg} {c : Po} {elt : P} {items : List PyData} {Q : R → Env → Prop} (f : PyData → Option PyData) (hl : items.length ≤ line)
    (hs : ∀ d ∈ items, ∀ K : Option PyData → Env → Prop, K (f d) (wipeE env own) → cturn G own tg c elt d (wipeE env own) K) (q : Q (.o (items.filterMap f)) (wipeE env own)) : cmpR G own tg c elt items env Q :=
  compL_filter f items [] hs (by simpa using hl) (by simpa using q)
end
end Mp

set_option Elab.async false
set_option linter.all false
set_option maxRecDepth 100000
set_option maxHeartbeats 1000000
/-! k01: the own trees of the defs. -/
namespace K1
open PySem PySem.Spec PyProof.Rows L2 Mp
def top (i : Nat) : Stmt := PySem.Challenge.pw_rollstrips_k01_steps_and_scripts_recogni.main.body.getD i (.Pass ⟨0, 0, 0, 0⟩)
/-- lowest -/
def n_lowest : List Str := ["top", "below", "one", "other"]
def b_lowest : Ss :=
  (.cons (.par [2, 3] (.cons (.blt .abs (.cons (.var 0) .nil)) (.cons (.var 1) .nil))) (.cons (.whl (.cmp .NotEq (.var 3) (.int 0)) (.cons (.par [2, 3] (.cons (.var 3) (.cons (.bin .Mod (.var 2) (.var 3)) .nil))) .nil)) (.cons (.ret (.tup (.cons (.bin .FloorDiv (.var 0) (.var 2)) (.cons (.bin .FloorDiv (.var 1) (.var 2)) .nil)))) .nil)))
abbrev t_lowest : Stmt := top 4
/-- is less -/
def n_is_less : List Str := ["one", "other"]
def b_is_less : Ss :=
  (.cons (.ret (.cmp .Lt (.bin .Mult (.ix (.var 0) (.int 0)) (.ix (.var 1) (.int 1))) (.bin .Mult (.ix (.var 1) (.int 0)) (.ix (.var 0) (.int 1))))) .nil)
abbrev t_is_less : Stmt := top 5
/-- is whole -/
def n_is_whole : List Str := ["value", "low", "high"]
def b_is_whole : Ss :=
  (.cons (.ret (.bop true (.cons (.isin (.var 0) "int") (.cons (.not (.isin (.var 0) "bool")) (.cons (.chn .LtE .LtE (.var 1) (.var 0) (.var 2)) .nil))))) .nil)
abbrev t_is_whole : Stmt := top 6
/-- is fraction -/
def n_is_fraction : List Str := ["value", "part"]
def b_is_fraction : Ss :=
  (.cons (.ite (.bop false (.cons (.not (.isin (.var 0) "tuple")) (.cons (.cmp .NotEq (.len (.var 0)) (.int 2)) .nil))) (.cons (.ret (.bl false)) .nil) .nil) (.cons (.ite (.not (.blt .all (.cons (.comp [1] (.seq (.var 0)) (.nm 1) .none (.bop true (.cons (.isin (.var 1) "int") (.cons (.not (.isin (.var 1) "bool")) .nil)))) .nil))) (.cons (.ret (.bl false)) .nil) .nil) (.cons (.ret (.bop true (.cons (.cmp .GtE (.ix (.var 0) (.int 1)) (.int 1)) (.cons (.cmp .Eq (.call 0 (.cons (.ix (.var 0) (.int 0)) (.cons (.ix (.var 0) (.int 1)) .nil))) (.var 0)) .nil)))) .nil)))
abbrev t_is_fraction : Stmt := top 7
/-- is length -/
def n_is_length : List Str := ["value"]
def b_is_length : Ss :=
  (.cons (.ret (.bop true (.cons (.call 3 (.cons (.var 0) .nil)) (.cons (.cmp .In (.var 0) (.con 3)) .nil)))) .nil)
abbrev t_is_length : Stmt := top 13
/-- is plain step -/
def n_is_plain_step : List Str := ["value"]
def b_is_plain_step : Ss :=
  (.cons (.ite (.bop false (.cons (.not (.isin (.var 0) "tuple")) (.cons (.cmp .Eq (.var 0) (.tup .nil)) (.cons (.not (.isin (.ix (.var 0) (.int 0)) "str")) .nil)))) (.cons (.ret (.bl false)) .nil) .nil) (.cons (.ite (.cmp .Eq (.ix (.var 0) (.int 0)) (.str "cut")) (.cons (.ret (.bop true (.cons (.cmp .Eq (.len (.var 0)) (.int 2)) (.cons (.call 4 (.cons (.ix (.var 0) (.int 1)) .nil)) .nil)))) .nil) .nil) (.cons (.ret (.bop true (.cons (.cmp .Eq (.len (.var 0)) (.int 1)) (.cons (.cmp .In (.ix (.var 0) (.int 0)) (.con 2)) .nil)))) .nil)))
abbrev t_is_plain_step : Stmt := top 14
/-- is right step -/
def n_is_right_step : List Str := ["value", "step"]
def b_is_right_step : Ss :=
  (.cons (.ite (.call 5 (.cons (.var 0) .nil)) (.cons (.ret (.bl true)) .nil) .nil) (.cons (.ite (.bop false (.cons (.not (.isin (.var 0) "tuple")) (.cons (.cmp .NotEq (.len (.var 0)) (.int 3)) (.cons (.not (.isin (.ix (.var 0) (.int 0)) "str")) (.cons (.cmp .NotEq (.ix (.var 0) (.int 0)) (.str "repeat")) .nil))))) (.cons (.ret (.bl false)) .nil) .nil) (.cons (.ite (.bop false (.cons (.not (.call 2 (.cons (.ix (.var 0) (.int 1)) (.cons (.int 2) (.cons (.int 5) .nil))))) (.cons (.not (.isin (.ix (.var 0) (.int 2)) "tuple")) (.cons (.not (.chn .LtE .LtE (.int 1) (.len (.ix (.var 0) (.int 2))) (.int 4))) .nil)))) (.cons (.ret (.bl false)) .nil) .nil) (.cons (.ret (.blt .all (.cons (.comp [1] (.seq (.ix (.var 0) (.int 2))) (.nm 1) .none (.call 5 (.cons (.var 1) .nil))) .nil))) .nil))))
abbrev t_is_right_step : Stmt := top 15
/-- is right script -/
def n_is_right_script : List Str := ["value", "step"]
def b_is_right_script : Ss :=
  (.cons (.ret (.bop true (.cons (.isin (.var 0) "tuple") (.cons (.cmp .LtE (.len (.var 0)) (.con 0)) (.cons (.blt .all (.cons (.comp [1] (.seq (.var 0)) (.nm 1) .none (.call 6 (.cons (.var 1) .nil))) .nil)) .nil))))) .nil)
abbrev t_is_right_script : Stmt := top 16
/-- is right pattern -/
def n_is_right_pattern : List Str := ["value"]
def b_is_right_pattern : Ss :=
  (.cons (.ret (.bop true (.cons (.call 3 (.cons (.var 0) .nil)) (.cons (.not (.call 1 (.cons (.var 0) (.cons (.con 1) .nil)))) .nil)))) .nil)
abbrev t_is_right_pattern : Stmt := top 17
/-- need script -/
def n_need_script : List Str := ["value"]
def b_need_script : Ss :=
  (.cons (.ite (.not (.call 7 (.cons (.var 0) .nil))) (.cons (.raise "InvalidScript") .nil) .nil) .nil)
abbrev t_need_script : Stmt := top 18
/-- spread -/
def n_spread : List Str := ["script", "found", "index", "step", "turn", "inner"]
def b_spread : Ss :=
  (.cons (.asg 1 (.lst .nil)) (.cons (.for_ (.tp [2, 3]) (.enum (.var 0)) (.cons (.ite (.cmp .Eq (.ix (.var 3) (.int 0)) (.str "repeat")) (.cons (.for_ (.nm 4) (.rng1 (.ix (.var 3) (.int 1))) (.cons (.asg 1 (.bin .Add (.var 1) (.comp [5] (.seq (.ix (.var 3) (.int 2))) (.nm 5) .none (.tup (.cons (.var 2) (.cons (.var 5) .nil)))))) .nil)) .nil) (.cons (.app 1 (.tup (.cons (.var 2) (.cons (.var 3) .nil)))) .nil)) .nil)) (.cons (.ret (.var 1)) .nil)))
abbrev t_spread : Stmt := top 19
/-- is step -/
def n_is_step : List Str := ["value"]
def b_is_step : Ss :=
  (.cons (.ret (.call 6 (.cons (.var 0) .nil))) .nil)
abbrev t_is_step : Stmt := top 20
/-- is script -/
def n_is_script : List Str := ["value"]
def b_is_script : Ss :=
  (.cons (.ret (.call 7 (.cons (.var 0) .nil))) .nil)
abbrev t_is_script : Stmt := top 21
/-- is pattern -/
def n_is_pattern : List Str := ["value"]
def b_is_pattern : Ss :=
  (.cons (.ret (.call 8 (.cons (.var 0) .nil))) .nil)
abbrev t_is_pattern : Stmt := top 22
/-- plain -/
def n_plain : List Str := ["script", "index", "step"]
def b_plain : Ss :=
  (.cons (.xp (.call 9 (.cons (.var 0) .nil))) (.cons (.ret (.blt .tuple (.cons (.comp [1, 2] (.seq (.call 10 (.cons (.var 0) .nil))) (.tp [1, 2]) .none (.var 2)) .nil))) .nil))
abbrev t_plain : Stmt := top 23
/-- law source -/
def n_law_source : List Str := ["script", "k", "number", "start"]
def b_law_source : Ss :=
  (.cons (.asg 2 (.int 0)) (.cons (.ite (.cmp .Gt (.len (.var 0)) (.var 1)) (.cons (.asg 2 (.blt .int (.cons (.ix (.var 0) (.var 1)) .nil))) .nil) .nil) (.cons (.asg 3 (.bin .Mod (.bin .Add (.bin .Add (.bin .Mult (.var 2) (.int 16807)) (.bin .Mult (.int 60919) (.var 1))) (.int 31)) (.int 2147481173))) (.cons (.asg 3 (.bin .Add (.bin .Add (.bin .Mod (.bin .Mult (.var 3) (.var 3)) (.int 2147481151)) (.bin .Mult (.int 2) (.var 1))) (.int 5))) (.cons (.ret (.lst (.cons (.ife (.cmp .GtE (.var 2) (.bin .Pow (.int 10) (.int 18))) (.var 2) (.int 0)) (.cons (.var 3) .nil)))) .nil)))))
abbrev t_law_source : Stmt := top 25
/-- law pick -/
def n_law_pick : List Str := ["source", "many", "found"]
def b_law_pick : Ss :=
  (.cons (.ite (.cmp .Gt (.ix (.var 0) (.int 0)) (.int 0)) (.cons (.asg 2 (.bin .Mod (.blt .int (.cons (.ix (.var 0) (.int 0)) .nil)) (.var 1))) (.cons (.setIx 0 (.int 0) (.bin .FloorDiv (.blt .int (.cons (.ix (.var 0) (.int 0)) .nil)) (.var 1))) (.cons (.ret (.var 2)) .nil))) .nil) (.cons (.setIx 0 (.int 1) (.bin .Mod (.blt .int (.cons (.bin .Add (.bin .Mult (.ix (.var 0) (.int 1)) (.int 44497)) (.int 9973)) .nil)) (.int 2147483647))) (.cons (.ret (.bin .Mod (.bin .FloorDiv (.bin .Mod (.blt .int (.cons (.bin .Mult (.ix (.var 0) (.int 1)) (.ix (.var 0) (.int 1))) .nil)) (.int 2147483399)) (.int 11)) (.var 1))) .nil)))
abbrev t_law_pick : Stmt := top 26
/-- law chosen -/
def n_law_chosen : List Str := ["source", "things"]
def b_law_chosen : Ss :=
  (.cons (.ret (.ix (.var 1) (.callIo 16 0 (.cons (.len (.var 1)) .nil)))) .nil)
abbrev t_law_chosen : Stmt := top 27
/-- law is bool -/
def n_law_is_bool : List Str := ["told", "due"]
def b_law_is_bool : Ss :=
  (.cons (.ret (.bop true (.cons (.isin (.var 0) "bool") (.cons (.cmp .Eq (.var 0) (.var 1)) .nil)))) .nil)
abbrev t_law_is_bool : Stmt := top 28
/-- law wide -/
def n_law_wide : List Str := ["value", "low", "high"]
def b_law_wide : Ss :=
  (.cons (.ret (.bop true (.cons (.isin (.var 0) "tuple") (.cons (.chn .LtE .LtE (.var 1) (.len (.var 0)) (.var 2)) .nil)))) .nil)
abbrev t_law_wide : Stmt := top 29
/-- law any value -/
def n_law_any_value : List Str := ["source", "deep", "simple_so", "way", "parts", "turn"]
def b_law_any_value (rc : Nat → Ps → P) : Ss :=
  (.cons (.asg 2 (.lst (.cons .non (.cons (.bl true) (.cons (.bl false) (.cons (.int 0) (.cons (.int 1) (.cons (.int 2) (.cons (.int 4) (.cons (.neg (.int 2)) (.cons (.bin .Pow (.int 10) (.int 9)) (.cons (.str "") (.cons (.str "cut") (.cons (.str "mark") (.cons (.str "half") (.cons (.str "same") (.cons (.tup (.cons (.int 1) (.cons (.int 1) .nil))) (.cons (.tup (.cons (.int 1) (.cons (.int 2) .nil))) (.cons (.tup .nil) (.cons (.lst .nil) .nil)))))))))))))))))))) (.cons (.asg 3 (.callIo 16 0 (.cons (.int 8) .nil))) (.cons (.ite (.bop false (.cons (.cmp .Lt (.var 1) (.int 1)) (.cons (.cmp .Lt (.var 3) (.int 5)) .nil))) (.cons (.ret (.callIo 17 0 (.cons (.var 2) .nil))) .nil) .nil) (.cons (.asg 4 (.comp [5] (.rng1 (.callIo 16 0 (.cons (.int 5) .nil))) (.nm 5) .none (rc 0 (.cons (.bin .Sub (.var 1) (.int 1)) .nil)))) (.cons (.ret (.ife (.cmp .Eq (.var 3) (.int 5)) (.var 4) (.blt .tuple (.cons (.var 4) .nil)))) .nil)))))
abbrev t_law_any_value : Stmt := top 30
/-- law variant -/
def n_law_variant : List Str := ["source", "value", "deep", "parts", "inner", "spot", "way", "near"]
def b_law_variant (rc : Nat → Ps → P) : Ss :=
  (.cons (.asg 3 (.blt .list (.cons (.var 1) .nil))) (.cons (.ite (.cmp .Eq (.var 3) (.lst .nil)) (.cons (.ret (.tup (.cons (.callIo 21 0 (.cons (.int 1) .nil)) .nil))) .nil) .nil) (.cons (.par [5, 6] (.cons (.callIo 16 0 (.cons (.len (.var 3)) .nil)) (.cons (.callIo 16 0 (.cons (.int 9) .nil)) .nil))) (.cons (.asg 4 (.ix (.var 3) (.var 5))) (.cons (.ite (.bop true (.cons (.isin (.var 4) "tuple") (.cons (.cmp .Gt (.var 2) (.int 0)) (.cons (.cmp .Gt (.var 6) (.int 2)) .nil)))) (.cons (.ret (.bin .Add (.bin .Add (.blt .tuple (.cons (.sl (.var 3) .none (.some (.var 5))) .nil)) (.tup (.cons (rc 0 (.cons (.var 4) (.cons (.bin .Sub (.var 2) (.int 1)) .nil))) .nil))) (.blt .tuple (.cons (.sl (.var 3) (.some (.bin .Add (.var 5) (.int 1))) .none) .nil)))) .nil) .nil) (.cons (.ite (.cmp .Eq (.var 6) (.int 0)) (.cons (.ret (.blt .tuple (.cons (.bin .Add (.sl (.var 3) .none (.some (.var 5))) (.sl (.var 3) (.some (.bin .Add (.var 5) (.int 1))) .none)) .nil))) .nil) .nil) (.cons (.ite (.cmp .Eq (.var 6) (.int 1)) (.cons (.ret (.blt .tuple (.cons (.bin .Add (.sl (.var 3) .none (.some (.bin .Add (.var 5) (.int 1)))) (.sl (.var 3) (.some (.var 5)) .none)) .nil))) .nil) .nil) (.cons (.ite (.cmp .Eq (.var 6) (.int 2)) (.cons (.ret (.blt .tuple (.cons (.bin .Add (.bin .Add (.sl (.var 3) .none (.some (.var 5))) (.rev (.sl (.var 3) (.some (.var 5)) (.some (.bin .Add (.var 5) (.int 2)))))) (.sl (.var 3) (.some (.bin .Add (.var 5) (.int 2))) .none)) .nil))) .nil) .nil) (.cons (.ite (.cmp .Eq (.var 6) (.int 3)) (.cons (.ret (.var 3)) .nil) .nil) (.cons (.ite (.cmp .Lt (.var 6) (.int 6)) (.cons (.setIx 3 (.var 5) (.callIo 22 0 (.cons (.int 2) .nil))) .nil) (.cons (.asg 7 (.lst (.cons (.int 0) (.cons (.int 1) (.cons (.int 2) (.cons (.int 3) (.cons (.int 5) (.cons (.int 6) (.cons (.neg (.int 1)) (.cons (.bl true) (.cons (.str "cut") (.cons (.str "mark") (.cons (.str "half") (.cons (.str "drop") (.cons (.str "repeat") (.cons (.tup (.cons (.int 1) (.cons (.int 1) .nil))) (.cons (.tup (.cons (.int 2) (.cons (.int 4) .nil))) (.cons (.tup (.cons (.int 3) (.cons (.int 4) .nil))) (.cons (.tup (.cons (.str "mark") .nil)) .nil))))))))))))))))))) (.cons (.setIx 3 (.var 5) (.callIo 17 0 (.cons (.var 7) .nil))) .nil))) (.cons (.ret (.blt .tuple (.cons (.var 3) .nil))) .nil)))))))))))
abbrev t_law_variant : Stmt := top 31
/-- law whole -/
def n_law_whole : List Str := ["value", "low", "high"]
def b_law_whole : Ss :=
  (.cons (.ret (.bop true (.cons (.isin (.var 0) "int") (.cons (.not (.isin (.var 0) "bool")) (.cons (.chn .LtE .LtE (.var 1) (.var 0) (.var 2)) .nil))))) .nil)
abbrev t_law_whole : Stmt := top 32
/-- law among -/
def n_law_among : List Str := ["value", "some"]
def b_law_among : Ss :=
  (.cons (.ret (.bop true (.cons (.isin (.var 0) "str") (.cons (.cmp .In (.var 0) (.var 1)) .nil)))) .nil)
abbrev t_law_among : Stmt := top 33
/-- law lowest -/
def n_law_lowest : List Str := ["top", "below", "one", "other"]
def b_law_lowest : Ss :=
  (.cons (.par [2, 3] (.cons (.blt .abs (.cons (.var 0) .nil)) (.cons (.blt .abs (.cons (.var 1) .nil)) .nil))) (.cons (.whl (.cmp .NotEq (.var 3) (.int 0)) (.cons (.par [2, 3] (.cons (.var 3) (.cons (.bin .Mod (.var 2) (.var 3)) .nil))) .nil)) (.cons (.ret (.tup (.cons (.bin .FloorDiv (.var 0) (.var 2)) (.cons (.bin .FloorDiv (.var 1) (.var 2)) .nil)))) .nil)))
abbrev t_law_lowest : Stmt := top 34
/-- law good plain -/
def n_law_good_plain : List Str := ["value", "top", "below"]
def b_law_good_plain : Ss :=
  (.cons (.ite (.bop false (.cons (.not (.isin (.var 0) "tuple")) (.cons (.cmp .NotIn (.len (.var 0)) (.lst (.cons (.int 1) (.cons (.int 2) .nil)))) (.cons (.not (.isin (.ix (.var 0) (.int 0)) "str")) .nil)))) (.cons (.ret (.bl false)) .nil) .nil) (.cons (.ite (.cmp .Eq (.len (.var 0)) (.int 1)) (.cons (.ret (.cmp .In (.ix (.var 0) (.int 0)) (.lst (.cons (.str "drop") (.cons (.str "half") (.cons (.str "mark") (.cons (.str "match") .nil))))))) .nil) .nil) (.cons (.ite (.bop false (.cons (.cmp .NotEq (.ix (.var 0) (.int 0)) (.str "cut")) (.cons (.not (.call 19 (.cons (.ix (.var 0) (.int 1)) (.cons (.int 2) (.cons (.int 2) .nil))))) .nil))) (.cons (.ret (.bl false)) .nil) .nil) (.cons (.asgT [1, 2] (.ix (.var 0) (.int 1))) (.cons (.ite (.bop false (.cons (.not (.call 28 (.cons (.var 1) (.cons (.int 1) (.cons (.int 8) .nil))))) (.cons (.not (.call 28 (.cons (.var 2) (.cons (.int 1) (.cons (.int 4) .nil))))) (.cons (.cmp .Eq (.var 2) (.int 3)) .nil)))) (.cons (.ret (.bl false)) .nil) .nil) (.cons (.ret (.bop true (.cons (.cmp .Eq (.call 30 (.cons (.var 1) (.cons (.var 2) .nil))) (.ix (.var 0) (.int 1))) (.cons (.cmp .LtE (.var 1) (.bin .Mult (.int 2) (.var 2))) .nil)))) .nil))))))
abbrev t_law_good_plain : Stmt := top 35
/-- law good step -/
def n_law_good_step : List Str := ["value", "step"]
def b_law_good_step : Ss :=
  (.cons (.ite (.call 31 (.cons (.var 0) .nil)) (.cons (.ret (.bl true)) .nil) .nil) (.cons (.ite (.bop false (.cons (.not (.call 19 (.cons (.var 0) (.cons (.int 3) (.cons (.int 3) .nil))))) (.cons (.not (.call 29 (.cons (.ix (.var 0) (.int 0)) (.cons (.lst (.cons (.str "repeat") .nil)) .nil)))) (.cons (.not (.call 28 (.cons (.ix (.var 0) (.int 1)) (.cons (.int 2) (.cons (.int 5) .nil))))) .nil)))) (.cons (.ret (.bl false)) .nil) .nil) (.cons (.ret (.bop true (.cons (.call 19 (.cons (.ix (.var 0) (.int 2)) (.cons (.int 1) (.cons (.int 4) .nil)))) (.cons (.cmp .Eq (.comp [1] (.seq (.ix (.var 0) (.int 2))) (.nm 1) (.some (.not (.call 31 (.cons (.var 1) .nil)))) (.var 1)) (.lst .nil)) .nil)))) .nil)))
abbrev t_law_good_step : Stmt := top 36
/-- law good script -/
def n_law_good_script : List Str := ["value", "step"]
def b_law_good_script : Ss :=
  (.cons (.ret (.bop true (.cons (.call 19 (.cons (.var 0) (.cons (.int 0) (.cons (.int 8) .nil)))) (.cons (.cmp .Eq (.comp [1] (.seq (.var 0)) (.nm 1) (.some (.not (.call 32 (.cons (.var 1) .nil)))) (.var 1)) (.lst .nil)) .nil)))) .nil)
abbrev t_law_good_script : Stmt := top 37
/-- law single -/
def n_law_single : List Str := ["source", "quarters"]
def b_law_single : Ss :=
  (.cons (.ite (.cmp .Eq (.callIo 16 0 (.cons (.int 2) .nil)) (.int 0)) (.cons (.asg 1 (.callIo 17 0 (.cons (.lst (.cons (.int 4) (.cons (.int 4) (.cons (.int 4) (.cons (.int 2) (.cons (.int 3) (.cons (.int 6) (.cons (.bin .Add (.int 1) (.callIo 16 0 (.cons (.int 8) .nil))) .nil)))))))) .nil))) (.cons (.ret (.tup (.cons (.str "cut") (.cons (.call 30 (.cons (.var 1) (.cons (.int 4) .nil))) .nil)))) .nil)) .nil) (.cons (.ret (.tup (.cons (.callIo 17 0 (.cons (.lst (.cons (.str "mark") (.cons (.str "match") (.cons (.str "match") (.cons (.str "half") (.cons (.str "drop") .nil)))))) .nil)) .nil))) .nil))
abbrev t_law_single : Stmt := top 38
/-- law some -/
def n_law_some : List Str := ["source", "most", "found", "turn", "step", "inner", "again"]
def b_law_some : Ss :=
  (.cons (.asg 2 (.tup .nil)) (.cons (.for_ (.nm 3) (.rng1 (.bin .Add (.int 1) (.callIo 16 0 (.cons (.var 1) .nil)))) (.cons (.asg 4 (.callIo 34 0 .nil)) (.cons (.ite (.cmp .Eq (.callIo 16 0 (.cons (.int 5) .nil)) (.int 0)) (.cons (.asg 5 (.blt .tuple (.cons (.comp [6] (.rng1 (.bin .Add (.int 1) (.callIo 16 0 (.cons (.int 3) .nil)))) (.nm 6) .none (.callIo 34 0 .nil)) .nil))) (.cons (.asg 4 (.tup (.cons (.str "repeat") (.cons (.bin .Add (.int 2) (.callIo 16 0 (.cons (.int 2) .nil))) (.cons (.var 5) .nil))))) .nil)) .nil) (.cons (.asg 2 (.bin .Add (.var 2) (.tup (.cons (.var 4) .nil)))) .nil)))) (.cons (.ret (.var 2)) .nil)))
abbrev t_law_some : Stmt := top 39
/-- law spread -/
def n_law_spread : List Str := ["script", "found", "index", "step", "inner"]
def b_law_spread : Ss :=
  (.cons (.asg 1 (.lst .nil)) (.cons (.for_ (.tp [2, 3]) (.enum (.var 0)) (.cons (.ite (.cmp .Eq (.ix (.var 3) (.int 0)) (.str "repeat")) (.cons (.asg 1 (.bin .Add (.var 1) (.bin .Mult (.comp [4] (.seq (.ix (.var 3) (.int 2))) (.nm 4) .none (.tup (.cons (.var 2) (.cons (.var 4) .nil)))) (.ix (.var 3) (.int 1))))) .nil) (.cons (.app 1 (.tup (.cons (.var 2) (.cons (.var 3) .nil)))) .nil)) .nil)) (.cons (.ret (.var 1)) .nil)))
abbrev t_law_spread : Stmt := top 40
/-- law less -/
def n_law_less : List Str := ["one", "other"]
def b_law_less : Ss :=
  (.cons (.ret (.cmp .Lt (.bin .Mult (.ix (.var 0) (.int 0)) (.ix (.var 1) (.int 1))) (.bin .Mult (.ix (.var 1) (.int 0)) (.ix (.var 0) (.int 1))))) .nil)
abbrev t_law_less : Stmt := top 41
/-- law patterns -/
def n_law_patterns : List Str := ["source", "many", "found", "turn", "pattern", "way"]
def b_law_patterns : Ss :=
  (.cons (.asg 2 (.lst .nil)) (.cons (.for_ (.nm 3) (.rng1 (.var 1)) (.cons (.asg 4 (.call 30 (.cons (.bin .Add (.int 1) (.callIo 16 0 (.cons (.int 24) .nil))) (.cons (.bin .Mult (.int 2) (.bin .Add (.int 1) (.callIo 16 0 (.cons (.int 12) .nil)))) .nil)))) (.cons (.asg 5 (.callIo 16 0 (.cons (.int 5) .nil))) (.cons (.ite (.cmp .Eq (.var 5) (.int 3)) (.cons (.asg 4 (.call 30 (.cons (.bin .Add (.bin .Mult (.ix (.var 4) (.int 0)) (.bin .Pow (.int 10) (.int 7))) (.int 1)) (.cons (.bin .Mult (.ix (.var 4) (.int 1)) (.bin .Pow (.int 10) (.int 7))) .nil)))) .nil) .nil) (.cons (.ite (.cmp .Eq (.var 5) (.int 4)) (.cons (.asg 4 (.call 30 (.cons (.bin .Add (.int 1) (.callIo 16 0 (.cons (.bin .Pow (.int 10) (.int 6)) .nil))) (.cons (.bin .Add (.int 1) (.callIo 16 0 (.cons (.bin .Pow (.int 10) (.int 6)) .nil))) .nil)))) .nil) .nil) (.cons (.app 2 (.ife (.not (.call 37 (.cons (.var 4) (.cons (.tup (.cons (.int 1) (.cons (.int 4) .nil))) .nil)))) (.var 4) (.tup (.cons (.int 1) (.cons (.int 4) .nil))))) .nil)))))) (.cons (.ret (.var 2)) .nil)))
abbrev t_law_patterns : Stmt := top 42
/-- law good pattern -/
def n_law_good_pattern : List Str := ["value"]
def b_law_good_pattern : Ss :=
  (.cons (.ite (.bop false (.cons (.not (.call 19 (.cons (.var 0) (.cons (.int 2) (.cons (.int 2) .nil))))) (.cons (.not (.call 28 (.cons (.ix (.var 0) (.int 0)) (.cons (.int 1) (.cons (.bin .Pow (.int 10) (.int 41)) .nil))))) (.cons (.not (.call 28 (.cons (.ix (.var 0) (.int 1)) (.cons (.int 1) (.cons (.bin .Pow (.int 10) (.int 41)) .nil))))) .nil)))) (.cons (.ret (.bl false)) .nil) .nil) (.cons (.ret (.bop true (.cons (.cmp .Eq (.call 30 (.cons (.ix (.var 0) (.int 0)) (.cons (.ix (.var 0) (.int 1)) .nil))) (.var 0)) (.cons (.cmp .GtE (.bin .Mult (.int 4) (.ix (.var 0) (.int 0))) (.ix (.var 0) (.int 1))) .nil)))) .nil))
abbrev t_law_good_pattern : Stmt := top 43
/-- law refused -/
def n_law_refused : List Str := ["value"]
def b_law_refused : Ss :=
  (.cons (.try_ (.cons (.xp (.call 14 (.cons (.var 0) .nil))) .nil) [("InvalidScript", .bl true)]) (.cons (.ret (.bl false)) .nil))
abbrev t_law_refused : Stmt := top 44
/-- law -/
def n_law : List Str := ["script", "k", "some", "source", "values", "turn", "value", "odd", "good", "one", "index", "step"]
def b_law : Ss :=
  (.cons (.for_ (.nm 1) (.rng1 (.blt .max2 (.cons (.int 6) (.cons (.blt .min2 (.cons (.int 20) (.cons (.len (.var 0)) .nil))) .nil)))) (.cons (.asg 3 (.callSc 15 0 (.cons (.var 1) .nil))) (.cons (.asg 2 (.callIo 35 3 (.cons (.int 8) .nil))) (.cons (.ite (.cmp .NotEq (.call 14 (.cons (.var 2) .nil)) (.blt .tuple (.cons (.comp [10, 11] (.seq (.call 36 (.cons (.var 2) .nil))) (.tp [10, 11]) .none (.var 11)) .nil))) (.cons (.ret (.bl false)) .nil) .nil) (.cons (.asg 4 (.lst (.cons (.var 2) (.cons (.blt .list (.cons (.var 2) .nil)) (.cons (.ix (.var 2) (.int 0)) (.cons (.blt .list (.cons (.ix (.var 2) (.int 0)) .nil)) (.cons (.bin .Mult (.tup (.cons (.ix (.var 2) (.int 0)) .nil)) (.int 9)) (.cons .non (.cons (.tup .nil) (.cons (.tup (.cons (.int 1) (.cons (.int 4) .nil))) (.cons (.tup (.cons (.int 2) (.cons (.int 8) .nil))) (.cons (.tup (.cons (.int 1) (.cons (.int 5) .nil))) (.cons (.tup (.cons (.int 0) (.cons (.int 1) .nil))) .nil))))))))))))) (.cons (.asg 4 (.bin .Add (.bin .Add (.var 4) (.callIo 38 3 (.cons (.int 5) .nil))) (.lst (.cons (.tup (.cons (.int 1) (.cons (.int 0) .nil))) (.cons (.tup (.cons (.neg (.int 1)) (.cons (.int 2) .nil))) (.cons (.tup (.cons (.int 1) (.cons (.neg (.int 2)) .nil))) (.cons (.tup (.cons (.bl true) (.cons (.int 1) .nil))) (.cons (.tup (.cons (.int 5) (.cons (.bl true) .nil))) (.cons (.lst (.cons (.int 1) (.cons (.int 1) .nil))) .nil))))))))) (.cons (.for_ (.nm 5) (.rng1 (.int 24)) (.cons (.asg 7 (.callIo 27 3 (.cons (.callIo 17 3 (.cons (.lst (.cons (.var 2) (.cons (.ix (.var 2) (.int 0)) (.cons (.tup (.cons (.int 3) (.cons (.int 4) .nil))) .nil)))) .nil)) (.cons (.int 3) .nil)))) (.cons (.app 4 (.var 7)) (.cons (.ite (.bop true (.cons (.isin (.var 7) "tuple") (.cons (.cmp .Eq (.callIo 16 3 (.cons (.int 3) .nil)) (.int 0)) .nil))) (.cons (.app 4 (.callIo 27 3 (.cons (.var 7) (.cons (.int 3) .nil)))) .nil) .nil) .nil)))) (.cons (.for_ (.nm 6) (.seq (.bin .Add (.var 4) (.lst (.cons (.callIo 23 3 (.cons (.int 3) .nil)) .nil)))) (.cons (.asg 8 (.call 33 (.cons (.var 6) .nil))) (.cons (.ite (.bop false (.cons (.not (.call 18 (.cons (.call 12 (.cons (.var 6) .nil)) (.cons (.var 8) .nil)))) (.cons (.bop true (.cons (.not (.var 8)) (.cons (.not (.call 40 (.cons (.var 6) .nil))) .nil))) .nil))) (.cons (.ret (.bl false)) .nil) .nil) (.cons (.ite (.not (.call 18 (.cons (.call 11 (.cons (.var 6) .nil)) (.cons (.call 32 (.cons (.var 6) .nil)) .nil)))) (.cons (.ret (.bl false)) .nil) .nil) (.cons (.ite (.not (.call 18 (.cons (.call 13 (.cons (.var 6) .nil)) (.cons (.call 39 (.cons (.var 6) .nil)) .nil)))) (.cons (.ret (.bl false)) .nil) .nil) .nil))))) .nil)))))))) (.cons (.asg 2 (.lst (.cons (.tup (.cons (.str "cut") (.cons (.tup (.cons (.int 1) (.cons (.int 3) .nil))) .nil))) (.cons (.tup (.cons (.str "cut") (.cons (.tup (.cons (.int 9) (.cons (.int 4) .nil))) .nil))) (.cons (.tup (.cons (.str "cut") (.cons (.tup (.cons (.int 0) (.cons (.int 1) .nil))) .nil))) (.cons (.tup (.cons (.str "cut") (.cons (.tup (.cons (.int 2) (.cons (.int 4) .nil))) .nil))) (.cons (.tup (.cons (.str "cut") (.cons (.int 1) .nil))) (.cons (.tup (.cons (.str "mark") (.cons (.int 1) .nil))) .nil)))))))) (.cons (.asg 2 (.bin .Add (.var 2) (.lst (.cons (.tup (.cons (.str "repeat") (.cons (.int 1) (.cons (.tup .nil) .nil)))) (.cons (.tup (.cons (.str "repeat") (.cons (.int 6) (.cons (.tup (.cons (.tup (.cons (.str "mark") .nil)) .nil)) .nil)))) (.cons (.tup (.cons (.str "repeat") (.cons (.int 2) (.cons (.tup .nil) .nil)))) .nil)))))) (.cons (.app 2 (.tup (.cons (.str "repeat") (.cons (.int 2) (.cons (.tup (.cons (.tup (.cons (.str "repeat") (.cons (.int 2) (.cons (.tup (.cons (.tup (.cons (.str "mark") .nil)) .nil)) .nil)))) .nil)) .nil))))) (.cons (.ret (.bop true (.cons (.cmp .Eq (.comp [9] (.seq (.var 2)) (.nm 9) .none (.call 11 (.cons (.var 9) .nil))) (.bin .Mult (.lst (.cons (.bl false) .nil)) (.int 10))) (.cons (.call 11 (.cons (.tup (.cons (.str "repeat") (.cons (.int 5) (.cons (.bin .Mult (.tup (.cons (.tup (.cons (.str "cut") (.cons (.tup (.cons (.int 7) (.cons (.int 4) .nil))) .nil))) .nil)) (.int 4)) .nil)))) .nil)) .nil)))) .nil)))))
abbrev t_law : Stmt := top 45
/-! numbers: lowest 0 lev 1, is_less 1 lev 1, is_whole 2 lev 1, is_fraction 3 lev 2, is_length 4 lev 3, is_plain_step 5 lev 4, is_right_step 6 lev 5, is_right_script 7 lev 6, is_right_pattern 8 lev 3, need_script 9 lev 7, spread 10 lev 1, is_step 11 lev 6, is_script 12 lev 7, is_pattern 13 lev 4, plain 14 lev 8, _law_source 15 lev 1, _law_pick 16 lev 1, _law_chosen 17 lev 2, _law_is_bool 18 lev 1, _law_wide 19 lev 1, _law_any_value 20..23 lev 3, _law_variant 24..27 lev 7, _law_whole 28 lev 1, _law_among 29 lev 1, _law_lowest 30 lev 1, _law_good_plain 31 lev 2, _law_good_step 32 lev 3, _law_good_script 33 lev 4, _law_single 34 lev 3, _law_some 35 lev 4, _law_spread 36 lev 1, _law_less 37 lev 1, _law_patterns 38 lev 2, _law_good_pattern 39 lev 2, _law_refused 40 lev 9, law 41 lev 11 -/
def tab : List FnI := [
  ⟨"lowest", .no, 1, ["top", "below"]⟩,
  ⟨"is_less", .no, 1, ["one", "other"]⟩,
  ⟨"is_whole", .no, 1, ["value", "low", "high"]⟩,
  ⟨"is_fraction", .no, 2, ["value"]⟩,
  ⟨"is_length", .no, 3, ["value"]⟩,
  ⟨"is_plain_step", .no, 4, ["value"]⟩,
  ⟨"is_right_step", .no, 5, ["value"]⟩,
  ⟨"is_right_script", .no, 6, ["value"]⟩,
  ⟨"is_right_pattern", .no, 3, ["value"]⟩,
  ⟨"need_script", .no, 7, ["value"]⟩,
  ⟨"spread", .no, 1, ["script"]⟩,
  ⟨"is_step", .no, 6, ["value"]⟩,
  ⟨"is_script", .no, 7, ["value"]⟩,
  ⟨"is_pattern", .no, 4, ["value"]⟩,
  ⟨"plain", .no, 8, ["script"]⟩,
  ⟨"_law_source", .sc, 1, ["script", "k"]⟩,
  ⟨"_law_pick", .io, 1, ["source", "many"]⟩,
  ⟨"_law_chosen", .io, 2, ["source", "things"]⟩,
  ⟨"_law_is_bool", .no, 1, ["told", "due"]⟩,
  ⟨"_law_wide", .no, 1, ["value", "low", "high"]⟩,
  ⟨"_law_any_value", .io, 3, ["source", "deep"]⟩,
  ⟨"_law_any_value", .io, 4, ["source", "deep"]⟩,
  ⟨"_law_any_value", .io, 5, ["source", "deep"]⟩,
  ⟨"_law_any_value", .io, 6, ["source", "deep"]⟩,
  ⟨"_law_variant", .io, 7, ["source", "value", "deep"]⟩,
  ⟨"_law_variant", .io, 8, ["source", "value", "deep"]⟩,
  ⟨"_law_variant", .io, 9, ["source", "value", "deep"]⟩,
  ⟨"_law_variant", .io, 10, ["source", "value", "deep"]⟩,
  ⟨"_law_whole", .no, 1, ["value", "low", "high"]⟩,
  ⟨"_law_among", .no, 1, ["value", "some"]⟩,
  ⟨"_law_lowest", .no, 1, ["top", "below"]⟩,
  ⟨"_law_good_plain", .no, 2, ["value"]⟩,
  ⟨"_law_good_step", .no, 3, ["value"]⟩,
  ⟨"_law_good_script", .no, 4, ["value"]⟩,
  ⟨"_law_single", .io, 3, ["source"]⟩,
  ⟨"_law_some", .io, 4, ["source", "most"]⟩,
  ⟨"_law_spread", .no, 1, ["script"]⟩,
  ⟨"_law_less", .no, 1, ["one", "other"]⟩,
  ⟨"_law_patterns", .io, 2, ["source", "many"]⟩,
  ⟨"_law_good_pattern", .no, 2, ["value"]⟩,
  ⟨"_law_refused", .no, 9, ["value"]⟩,
  ⟨"law", .sc, 11, ["script"]⟩]

def quarters : List PyData := [.tuple [.int 1, .int 4], .tuple [.int 1, .int 2], .tuple [.int 3, .int 4], .tuple [.int 1, .int 1], .tuple [.int 5, .int 4], .tuple [.int 3, .int 2], .tuple [.int 7, .int 4], .tuple [.int 2, .int 1]]
def conT : List (Str × PyData) := [("MOST_STEPS", .int 8), ("LEAST_PATTERN", .tuple [.int 1, .int 4]), ("PLACES", .tuple [.str "drop", .str "half", .str "mark", .str "match"]), ("LENGTHS", .tuple quarters)]

def exmT (x y : Str) : Option Bool := if x = "InvalidScript" ∧ y = "InvalidScript" then some true else none

/-- the table without the specs: enough for the check -/
def G0 : GE := ⟨fun k => conT[k]?, fun k => tab[k]?, fun _ => ⟨fun _ _ => True, fun _ _ _ _ => True, fun _ _ _ => False⟩, ["InvalidScript"], exmT⟩

theorem c_lowest : chkSs G0 n_lowest 0 (defScope t_lowest) b_lowest (defBody t_lowest) = true := by decide +kernel
theorem c_is_less : chkSs G0 n_is_less 0 (defScope t_is_less) b_is_less (defBody t_is_less) = true := by decide +kernel
theorem c_is_whole : chkSs G0 n_is_whole 0 (defScope t_is_whole) b_is_whole (defBody t_is_whole) = true := by decide +kernel
theorem c_is_fraction : chkSs G0 n_is_fraction 1 (defScope t_is_fraction) b_is_fraction (defBody t_is_fraction) = true := by decide +kernel
theorem c_is_length : chkSs G0 n_is_length 2 (defScope t_is_length) b_is_length (defBody t_is_length) = true := by decide +kernel
theorem c_is_plain_step : chkSs G0 n_is_plain_step 3 (defScope t_is_plain_step) b_is_plain_step (defBody t_is_plain_step) = true := by decide +kernel
theorem c_is_right_step : chkSs G0 n_is_right_step 4 (defScope t_is_right_step) b_is_right_step (defBody t_is_right_step) = true := by decide +kernel
theorem c_is_right_script : chkSs G0 n_is_right_script 5 (defScope t_is_right_script) b_is_right_script (defBody t_is_right_script) = true := by decide +kernel
theorem c_is_right_pattern : chkSs G0 n_is_right_pattern 2 (defScope t_is_right_pattern) b_is_right_pattern (defBody t_is_right_pattern) = true := by decide +kernel
theorem c_need_script : chkSs G0 n_need_script 6 (defScope t_need_script) b_need_script (defBody t_need_script) = true := by decide +kernel
theorem c_spread : chkSs G0 n_spread 0 (defScope t_spread) b_spread (defBody t_spread) = true := by decide +kernel
theorem c_is_step : chkSs G0 n_is_step 5 (defScope t_is_step) b_is_step (defBody t_is_step) = true := by decide +kernel
theorem c_is_script : chkSs G0 n_is_script 6 (defScope t_is_script) b_is_script (defBody t_is_script) = true := by decide +kernel
theorem c_is_pattern : chkSs G0 n_is_pattern 3 (defScope t_is_pattern) b_is_pattern (defBody t_is_pattern) = true := by decide +kernel
theorem c_plain : chkSs G0 n_plain 7 (defScope t_plain) b_plain (defBody t_plain) = true := by decide +kernel
theorem c_law_source : chkSs G0 n_law_source 0 (defScope t_law_source) b_law_source (defBody t_law_source) = true := by decide +kernel
theorem c_law_pick : chkSs G0 n_law_pick 0 (defScope t_law_pick) b_law_pick (defBody t_law_pick) = true := by decide +kernel
theorem c_law_chosen : chkSs G0 n_law_chosen 1 (defScope t_law_chosen) b_law_chosen (defBody t_law_chosen) = true := by decide +kernel
theorem c_law_is_bool : chkSs G0 n_law_is_bool 0 (defScope t_law_is_bool) b_law_is_bool (defBody t_law_is_bool) = true := by decide +kernel
theorem c_law_wide : chkSs G0 n_law_wide 0 (defScope t_law_wide) b_law_wide (defBody t_law_wide) = true := by decide +kernel
theorem c_law_whole : chkSs G0 n_law_whole 0 (defScope t_law_whole) b_law_whole (defBody t_law_whole) = true := by decide +kernel
theorem c_law_among : chkSs G0 n_law_among 0 (defScope t_law_among) b_law_among (defBody t_law_among) = true := by decide +kernel
theorem c_law_lowest : chkSs G0 n_law_lowest 0 (defScope t_law_lowest) b_law_lowest (defBody t_law_lowest) = true := by decide +kernel
theorem c_law_good_plain : chkSs G0 n_law_good_plain 1 (defScope t_law_good_plain) b_law_good_plain (defBody t_law_good_plain) = true := by decide +kernel
theorem c_law_good_step : chkSs G0 n_law_good_step 2 (defScope t_law_good_step) b_law_good_step (defBody t_law_good_step) = true := by decide +kernel
theorem c_law_good_script : chkSs G0 n_law_good_script 3 (defScope t_law_good_script) b_law_good_script (defBody t_law_good_script) = true := by decide +kernel
theorem c_law_single : chkSs G0 n_law_single 2 (defScope t_law_single) b_law_single (defBody t_law_single) = true := by decide +kernel
theorem c_law_some : chkSs G0 n_law_some 3 (defScope t_law_some) b_law_some (defBody t_law_some) = true := by decide +kernel
theorem c_law_spread : chkSs G0 n_law_spread 0 (defScope t_law_spread) b_law_spread (defBody t_law_spread) = true := by decide +kernel
theorem c_law_less : chkSs G0 n_law_less 0 (defScope t_law_less) b_law_less (defBody t_law_less) = true := by decide +kernel
theorem c_law_patterns : chkSs G0 n_law_patterns 1 (defScope t_law_patterns) b_law_patterns (defBody t_law_patterns) = true := by decide +kernel
theorem c_law_good_pattern : chkSs G0 n_law_good_pattern 1 (defScope t_law_good_pattern) b_law_good_pattern (defBody t_law_good_pattern) = true := by decide +kernel
theorem c_law_refused : chkSs G0 n_law_refused 8 (defScope t_law_refused) b_law_refused (defBody t_law_refused) = true := by decide +kernel
theorem c_law : chkSs G0 n_law 10 (defScope t_law) b_law (defBody t_law) = true := by decide +kernel
end K1

set_option Elab.async false
set_option linter.all false
set_option maxRecDepth 100000
set_option maxHeartbeats 1000000
namespace K1
open PySem PySem.Spec PyProof.Rows L2 Mp
/-! ### good data -/
def gd (m : Nat) : Nat → PyData → Bool
  | _, .none => true
  | _, .bool _ => true
  | _, .int i => decide (i.natAbs ≤ 10 ^ 41)
  | _, .str s => PyData.strOk s && decide (s.length ≤ 100)
  | 0, .list _ => false
  | 0, .tuple _ => false
  | n + 1, .list ds => decide (ds.length ≤ m) && ds.all (gd m n)
  | n + 1, .tuple ds => decide (ds.length ≤ m) && ds.all (gd m n)
  | _, .dict _ => false
theorem lay_all {ds : List PyData} (h : ∀ d ∈ ds, d.canLay0 = true) : PyData.canLayAll0 ds = true := by
  induction ds with
  | nil => rfl
  | cons d r ih => simp only [PyData.canLayAll0, Bool.and_eq_true]; exact ⟨h d List.mem_cons_self, ih fun x hx => h x (List.mem_cons_of_mem _ hx)⟩
theorem dep_all {ds : List PyData} {n : Nat} (h : ∀ d ∈ ds, d.depth ≤ n) : PyData.depthAll ds ≤ n := by
  induction ds with
  | nil => exact Nat.zero_le _
  | cons d r ih => exact Nat.max_le.mpr ⟨h d List.mem_cons_self, ih fun x hx => h x (List.mem_cons_of_mem _ hx)⟩
theorem gd_ok {m : Nat} : ∀ {n : Nat} {d : PyData}, gd m n d = true → d.canLay0 = true ∧ d.depth ≤ n
  | n, .none, _ => ⟨rfl, Nat.zero_le _⟩
  | n, .bool _, _ => ⟨rfl, Nat.zero_le _⟩
  | n, .int _, _ => ⟨rfl, Nat.zero_le _⟩
  | n, .str s, h => by
    have h : (PyData.strOk s && decide (s.length ≤ 100)) = true := by cases n <;> exact h
    exact ⟨(Bool.and_eq_true_iff.mp h).1, Nat.zero_le _⟩
  | 0, .list _, h => by cases h
  | 0, .tuple _, h => by cases h
  | n + 1, .list ds, h => by
    have h := (Bool.and_eq_true_iff.mp (show (decide (ds.length ≤ m) && ds.all (gd m n)) = true from h)).2
    have h2 := List.all_eq_true.mp h
    exact ⟨lay_all fun d hd => (gd_ok (h2 d hd)).1, Nat.succ_le_succ (dep_all fun d hd => (gd_ok (h2 d hd)).2)⟩
  | n + 1, .tuple ds, h => by
    have h := (Bool.and_eq_true_iff.mp (show (decide (ds.length ≤ m) && ds.all (gd m n)) = true from h)).2
    have h2 := List.all_eq_true.mp h
    exact ⟨lay_all fun d hd => (gd_ok (h2 d hd)).1, Nat.succ_le_succ (dep_all fun d hd => (gd_ok (h2 d hd)).2)⟩
  | n, .dict _, h => by cases n <;> cases h
theorem shaped_of {m n : Nat} {d : PyData} (h : gd m n d = true) (hn : n ≤ 64) : SeqAt.shaped d = true := by
  obtain ⟨h1, h2⟩ := gd_ok h
  unfold SeqAt.shaped
  rw [h1, decide_eq_true (Nat.le_trans h2 hn)]
  rfl
/-! ### what the defs tell -/
def wholeB (v : PyData) (lo hi : Int) : Bool := match v with
  | .int i => decide (lo ≤ i) && decide (i ≤ hi)
  | _ => false
def fracB : PyData → Bool
  | .tuple [.int a, .int b] => decide (1 ≤ b) && decide (Int.gcd a b = 1)
  | _ => false
def lenT : List (Int × Int) := [(1, 4), (1, 2), (3, 4), (1, 1), (5, 4), (3, 2), (7, 4), (2, 1)]
def lenB : PyData → Bool
  | .tuple [.int a, .int b] => decide ((a, b) ∈ lenT)
  | _ => false
def placeT : List Str := ["drop", "half", "mark", "match"]
def plainB : PyData → Bool
  | .tuple [.str s] => decide (s ∈ placeT)
  | .tuple [.str s, l] => decide (s = "cut") && lenB l
  | _ => false
def repB : PyData → Bool
  | .tuple [.str s, .int n, .tuple inner] => decide (s = "repeat") && (decide (2 ≤ n) && decide (n ≤ 5)) && (decide (1 ≤ inner.length) && decide (inner.length ≤ 4)) && inner.all plainB
  | _ => false
def stepB (v : PyData) : Bool := plainB v || repB v
def scriptB : PyData → Bool
  | .tuple ds => decide (ds.length ≤ 8) && ds.all stepB
  | _ => false
def patB : PyData → Bool
  | .tuple [.int a, .int b] => decide (1 ≤ b) && decide (Int.gcd a b = 1) && decide (b ≤ 4 * a)
  | _ => false
def gdV (v : PyData) : Prop := gd 100000 40 v = true
def lowD (a b : Int) : PyData := .tuple [.int (a / (Int.gcd a b : Int)), .int (b / (Int.gcd a b : Int))]
def s_low : FSpec := pureS (fun ds => ∃ a b : Int, ds = [.int a, .int b] ∧ 1 ≤ b ∧ b.natAbs.log2 < 1000) fun ds => match ds with
  | [.int a, .int b] => lowD a b
  | _ => .none
def s_less : FSpec := pureS (fun ds => ∃ a b c d : Int, ds = [.tuple [.int a, .int b], .tuple [.int c, .int d]] ∧ a.natAbs.log2 < 1000 ∧ b.natAbs.log2 < 1000 ∧ c.natAbs.log2 < 1000 ∧ d.natAbs.log2 < 1000) fun ds => match ds with
  | [.tuple [.int a, .int b], .tuple [.int c, .int d]] => .bool (decide (a * d < c * b))
  | _ => .none
def s_whole : FSpec := pureS (fun ds => ∃ v lo hi, ds = [v, .int lo, .int hi] ∧ gdV v) fun ds => match ds with
  | [v, .int lo, .int hi] => .bool (wholeB v lo hi)
  | _ => .none
def one (f : PyData → Bool) : FSpec := pureS (fun ds => ∃ v, ds = [v] ∧ gdV v) fun ds => match ds with
  | [v] => .bool (f v)
  | _ => .none
def spreadD : Nat → List PyData → List PyData
  | _, [] => []
  | i, .tuple [.str s, .int n, .tuple inner] :: r => (List.replicate n.toNat (inner.map fun x => .tuple [.int (i : Nat), x])).flatten ++ spreadD (i + 1) r
  | i, x :: r => .tuple [.int (i : Nat), x] :: spreadD (i + 1) r
def sndD : PyData → PyData
  | .tuple [_, x] => x
  | x => x
def s_spread : FSpec := ⟨fun _ ds => ∃ l, ds = [.tuple l] ∧ scriptB (.tuple l) = true ∧ gdV (.tuple l), fun _ ds r _ => ∃ l, ds = [.tuple l] ∧ r = .o (spreadD 0 l), fun _ _ _ => False⟩
def s_need : FSpec := ⟨fun _ ds => ∃ v, ds = [v] ∧ gdV v, fun _ ds _ _ => ∃ v, ds = [v] ∧ scriptB v = true, fun _ ds x => x = "InvalidScript" ∧ ∃ v, ds = [v] ∧ scriptB v = false⟩
def s_plain : FSpec := ⟨fun _ ds => ∃ v, ds = [v] ∧ gdV v, fun _ ds r _ => ∃ l, ds = [.tuple l] ∧ scriptB (.tuple l) = true ∧ r = .v (.tuple ((spreadD 0 l).map sndD)), fun _ ds x => x = "InvalidScript" ∧ ∃ v, ds = [v] ∧ scriptB v = false⟩
def Src (ds : List PyData) : Prop := ∃ a b : Int, ds = [.int a, .int b] ∧ 0 ≤ a ∧ 0 ≤ b ∧ b < 2 ^ 40
def s_source : FSpec := ⟨fun h ds => ∃ ns k, h = .sc ns ∧ ds = [.int k] ∧ 0 ≤ k ∧ k ≤ 20, fun _ _ r _ => ∃ ds, r = .o ds ∧ Src ds, fun _ _ _ => False⟩
def ioS (pre : List PyData → Prop) (post : List PyData → R → Prop) : FSpec := ⟨fun h ds => ∃ src, h = .io src ∧ Src src ∧ pre ds, fun _ ds r h => ∃ src, h = .io src ∧ Src src ∧ post ds r, fun _ _ _ => False⟩
def isR (r : R) (d : PyData) : Prop := r = .v d ∨ ∃ ds, r = .o ds ∧ d = .list ds
def s_pick : FSpec := ioS (fun ds => ∃ n : Int, ds = [.int n] ∧ 0 < n ∧ n < 2 ^ 60) fun ds r => ∃ n m : Int, ds = [.int n] ∧ r = .v (.int m) ∧ 0 ≤ m ∧ m < n
def s_chosen : FSpec := ioS (fun ds => ∃ l, ds = [.list l] ∧ l ≠ [] ∧ l.length < 2 ^ 59) fun ds r => ∃ l x, ds = [.list l] ∧ x ∈ l ∧ r = .v x
def s_isbool : FSpec := pureS (fun ds => ∃ a b, ds = [.bool a, .bool b]) fun ds => match ds with
  | [.bool a, .bool b] => .bool (a == b)
  | _ => .none
def wideB (v : PyData) (lo hi : Int) : Bool := match v with
  | .tuple l => decide (lo ≤ (l.length : Int)) && decide ((l.length : Int) ≤ hi)
  | _ => false
def s_wide : FSpec := pureS (fun ds => ∃ v lo hi, ds = [v, .int lo, .int hi] ∧ gdV v) fun ds => match ds with
  | [v, .int lo, .int hi] => .bool (wideB v lo hi)
  | _ => .none
def s_any (d : Nat) : FSpec := ioS (fun ds => ds = [.int (d : Nat)]) fun _ r => ∃ v, isR r v ∧ gd 4 (d + 1) v = true
def s_variant (d : Nat) : FSpec := ioS (fun ds => ∃ l m n, ds = [.tuple l, .int (d : Nat)] ∧ gd m n (.tuple l) = true ∧ n ≤ 40 ∧ m < 1000) fun ds r => ∃ l v, ds = [.tuple l, .int (d : Nat)] ∧ isR r v ∧ ∀ m n, 4 ≤ m → d + 4 ≤ n → gd m n (.tuple l) = true → gd (m + 1) n v = true
def isRep : PyData → Bool
  | .str s => decide (s = "repeat")
  | _ => false
def s_among : FSpec := pureS (fun ds => ∃ v, ds = [v, .list [.str "repeat"]] ∧ gdV v) fun ds => match ds with
  | [v, _] => .bool (isRep v)
  | _ => .none
def s_single : FSpec := ioS (fun ds => ds = []) fun _ r => ∃ v, r = .v v ∧ plainB v = true ∧ gd 8 3 v = true
def s_some : FSpec := ioS (fun ds => ds = [.int 8]) fun _ r => ∃ l, r = .v (.tuple l) ∧ l ≠ [] ∧ scriptB (.tuple l) = true ∧ gd 8 6 (.tuple l) = true
def s_patterns : FSpec := ioS (fun ds => ds = [.int 5]) fun _ r => ∃ l, r = .o l ∧ l.length = 5 ∧ ∀ v ∈ l, gd 8 3 v = true
def s_refused : FSpec := one fun v => !scriptB v
def s_law : FSpec := ⟨fun h ds => ∃ ns, h = .sc ns ∧ ds = [] ∧ ns.length ≤ 63, fun _ _ r _ => r = .v (.bool true), fun _ _ _ => False⟩
def fns : Nat → FSpec
  | 0 => s_low | 1 => s_less | 2 => s_whole | 3 => one fracB | 4 => one lenB | 5 => one plainB | 6 => one stepB | 7 => one scriptB | 8 => one patB | 9 => s_need
  | 10 => s_spread | 11 => one stepB | 12 => one scriptB | 13 => one patB | 14 => s_plain | 15 => s_source | 16 => s_pick | 17 => s_chosen | 18 => s_isbool | 19 => s_wide
  | 20 => s_any 0 | 21 => s_any 1 | 22 => s_any 2 | 23 => s_any 3 | 24 => s_variant 0 | 25 => s_variant 1 | 26 => s_variant 2 | 27 => s_variant 3
  | 28 => s_whole | 29 => s_among | 30 => s_low | 31 => one plainB | 32 => one stepB | 33 => one scriptB | 34 => s_single | 35 => s_some | 36 => s_spread | 37 => s_less
  | 38 => s_patterns | 39 => one patB | 40 => s_refused | 41 => s_law
  | _ => s_low
def G : GE := { G0 with fns := fns }
@[simp] theorem fns_0 : G.fns 0 = s_low := rfl
@[simp] theorem fns_1 : G.fns 1 = s_less := rfl
@[simp] theorem fns_2 : G.fns 2 = s_whole := rfl
@[simp] theorem fns_3 : G.fns 3 = one fracB := rfl
@[simp] theorem fns_4 : G.fns 4 = one lenB := rfl
@[simp] theorem fns_5 : G.fns 5 = one plainB := rfl
@[simp] theorem fns_6 : G.fns 6 = one stepB := rfl
@[simp] theorem fns_7 : G.fns 7 = one scriptB := rfl
@[simp] theorem fns_8 : G.fns 8 = one patB := rfl
@[simp] theorem fns_9 : G.fns 9 = s_need := rfl
@[simp] theorem fns_10 : G.fns 10 = s_spread := rfl
@[simp] theorem fns_11 : G.fns 11 = one stepB := rfl
@[simp] theorem fns_12 : G.fns 12 = one scriptB := rfl
@[simp] theorem fns_13 : G.fns 13 = one patB := rfl
@[simp] theorem fns_14 : G.fns 14 = s_plain := rfl
@[simp] theorem fns_15 : G.fns 15 = s_source := rfl
@[simp] theorem fns_16 : G.fns 16 = s_pick := rfl
@[simp] theorem fns_17 : G.fns 17 = s_chosen := rfl
@[simp] theorem fns_18 : G.fns 18 = s_isbool := rfl
@[simp] theorem fns_19 : G.fns 19 = s_wide := rfl
@[simp] theorem fns_20 : G.fns 20 = s_any 0 := rfl
@[simp] theorem fns_21 : G.fns 21 = s_any 1 := rfl
@[simp] theorem fns_22 : G.fns 22 = s_any 2 := rfl
@[simp] theorem fns_23 : G.fns 23 = s_any 3 := rfl
@[simp] theorem fns_24 : G.fns 24 = s_variant 0 := rfl
@[simp] theorem fns_25 : G.fns 25 = s_variant 1 := rfl
@[simp] theorem fns_26 : G.fns 26 = s_variant 2 := rfl
@[simp] theorem fns_27 : G.fns 27 = s_variant 3 := rfl
@[simp] theorem fns_28 : G.fns 28 = s_whole := rfl
@[simp] theorem fns_29 : G.fns 29 = s_among := rfl
@[simp] theorem fns_30 : G.fns 30 = s_low := rfl
@[simp] theorem fns_31 : G.fns 31 = one plainB := rfl
@[simp] theorem fns_32 : G.fns 32 = one stepB := rfl
@[simp] theorem fns_33 : G.fns 33 = one scriptB := rfl
@[simp] theorem fns_34 : G.fns 34 = s_single := rfl
@[simp] theorem fns_35 : G.fns 35 = s_some := rfl
@[simp] theorem fns_36 : G.fns 36 = s_spread := rfl
@[simp] theorem fns_37 : G.fns 37 = s_less := rfl
@[simp] theorem fns_38 : G.fns 38 = s_patterns := rfl
@[simp] theorem fns_39 : G.fns 39 = one patB := rfl
@[simp] theorem fns_40 : G.fns 40 = s_refused := rfl
@[simp] theorem fns_41 : G.fns 41 = s_law := rfl
@[simp] theorem con_0 : G.con 0 = some (("MOST_STEPS" : Str), (.int 8 : PyData)) := rfl
@[simp] theorem con_1 : G.con 1 = some (("LEAST_PATTERN" : Str), (.tuple [.int 1, .int 4] : PyData)) := rfl
@[simp] theorem con_2 : G.con 2 = some (("PLACES" : Str), (.tuple [.str "drop", .str "half", .str "mark", .str "match"] : PyData)) := rfl
@[simp] theorem con_3 : G.con 3 = some (("LENGTHS" : Str), (.tuple quarters : PyData)) := rfl
section
variable {hv : Hdv} {h : Hdv} {r : R} {x : Str} {v : PyData} {a b c d lo hi n k : Int} {src l : List PyData} {ds : List PyData}
@[simp] theorem low_pre : s_low.pre hv [.int a, .int b] = (1 ≤ b ∧ b.natAbs.log2 < 1000) := propext ⟨fun ⟨a', b', e, q⟩ => by cases e; exact q, fun q => ⟨a, b, rfl, q⟩⟩
@[simp] theorem low_post : s_low.post hv [.int a, .int b] r h = (r = .v (lowD a b)) := rfl
@[simp] theorem low_exc : s_low.exc hv ds x = False := rfl
@[simp] theorem less_pre : s_less.pre hv [.tuple [.int a, .int b], .tuple [.int c, .int d]] = (a.natAbs.log2 < 1000 ∧ b.natAbs.log2 < 1000 ∧ c.natAbs.log2 < 1000 ∧ d.natAbs.log2 < 1000) := propext ⟨fun ⟨a', b', c', d', e, q⟩ => by cases e; exact q, fun q => ⟨a, b, c, d, rfl, q⟩⟩
@[simp] theorem less_post : s_less.post hv [.tuple [.int a, .int b], .tuple [.int c, .int d]] r h = (r = .v (.bool (decide (a * d < c * b)))) := rfl
@[simp] theorem less_exc : s_less.exc hv ds x = False := rfl
@[simp] theorem whole_pre : s_whole.pre hv [v, .int lo, .int hi] = gdV v := by simp [s_whole]
@[simp] theorem whole_post : s_whole.post hv [v, .int lo, .int hi] r h = (r = .v (.bool (wholeB v lo hi))) := rfl
@[simp] theorem whole_exc : s_whole.exc hv ds x = False := rfl
@[simp] theorem wide_pre : s_wide.pre hv [v, .int lo, .int hi] = gdV v := by simp [s_wide]
@[simp] theorem wide_post : s_wide.post hv [v, .int lo, .int hi] r h = (r = .v (.bool (wideB v lo hi))) := rfl
@[simp] theorem wide_exc : s_wide.exc hv ds x = False := rfl
@[simp] theorem one_pre {f : PyData → Bool} : (one f).pre hv [v] = gdV v := by simp [one]
@[simp] theorem one_post {f : PyData → Bool} : (one f).post hv [v] r h = (r = .v (.bool (f v))) := rfl
@[simp] theorem one_exc {f : PyData → Bool} : (one f).exc hv ds x = False := rfl
@[simp] theorem isb_pre {a b : Bool} : s_isbool.pre hv [.bool a, .bool b] = True := propext ⟨fun _ => trivial, fun _ => ⟨a, b, rfl⟩⟩
@[simp] theorem isb_post {a b : Bool} : s_isbool.post hv [.bool a, .bool b] r h = (r = .v (.bool (a == b))) := rfl
@[simp] theorem isb_exc : s_isbool.exc hv ds x = False := rfl
@[simp] theorem among_pre : s_among.pre hv [v, .list [.str "repeat"]] = gdV v := by simp [s_among]
@[simp] theorem among_post : s_among.post hv [v, .list [.str "repeat"]] r h = (r = .v (.bool (isRep v))) := rfl
@[simp] theorem among_exc : s_among.exc hv ds x = False := rfl
@[simp] theorem need_pre : s_need.pre hv [v] = gdV v := by simp [s_need]
@[simp] theorem need_post : s_need.post hv [v] r h = (scriptB v = true) := by simp [s_need]
@[simp] theorem need_exc : s_need.exc hv [v] x = (x = "InvalidScript" ∧ scriptB v = false) := by simp [s_need]
@[simp] theorem plain_pre : s_plain.pre hv [v] = gdV v := by simp [s_plain]
@[simp] theorem plain_post : s_plain.post hv [v] r h = ∃ l, v = .tuple l ∧ scriptB (.tuple l) = true ∧ r = .v (.tuple ((spreadD 0 l).map sndD)) := by simp [s_plain]
@[simp] theorem plain_exc : s_plain.exc hv [v] x = (x = "InvalidScript" ∧ scriptB v = false) := by simp [s_plain]
@[simp] theorem spread_pre : s_spread.pre hv [.tuple l] = (scriptB (.tuple l) = true ∧ gdV (.tuple l)) := by simp [s_spread]
@[simp] theorem spread_post : s_spread.post hv [.tuple l] r h = (r = .o (spreadD 0 l)) := by simp [s_spread]
@[simp] theorem spread_exc : s_spread.exc hv ds x = False := rfl
@[simp] theorem source_pre {ns : List Int} : s_source.pre (.sc ns) [.int k] = (0 ≤ k ∧ k ≤ 20) := by simp [s_source]
@[simp] theorem source_post : s_source.post hv ds r h = ∃ src, r = .o src ∧ Src src := rfl
@[simp] theorem source_exc : s_source.exc hv ds x = False := rfl
@[simp] theorem io_exc {pre : List PyData → Prop} {post : List PyData → R → Prop} : (ioS pre post).exc hv ds x = False := rfl
@[simp] theorem pick_pre : s_pick.pre (.io src) [.int n] = (Src src ∧ 0 < n ∧ n < 2 ^ 60) := by simp [s_pick, ioS]
@[simp] theorem pick_post : s_pick.post hv [.int n] r h = ∃ src, h = .io src ∧ Src src ∧ ∃ m, r = .v (.int m) ∧ 0 ≤ m ∧ m < n := by simp [s_pick, ioS]
@[simp] theorem pick_exc : s_pick.exc hv ds x = False := rfl
@[simp] theorem chosen_pre : s_chosen.pre (.io src) [.list l] = (Src src ∧ l ≠ [] ∧ l.length < 2 ^ 59) := by simp [s_chosen, ioS]
@[simp] theorem chosen_post : s_chosen.post hv [.list l] r h = ∃ src, h = .io src ∧ Src src ∧ ∃ x, x ∈ l ∧ r = .v x := by simp [s_chosen, ioS]
@[simp] theorem chosen_exc : s_chosen.exc hv ds x = False := rfl
@[simp] theorem any_pre {d : Nat} : (s_any d).pre (.io src) [.int k] = (Src src ∧ k = (d : Int)) := by simp [s_any, ioS]
@[simp] theorem any_post {d : Nat} : (s_any d).post hv ds r h = ∃ src, h = .io src ∧ Src src ∧ ∃ v, isR r v ∧ gd 4 (d + 1) v = true := rfl
@[simp] theorem any_exc {d : Nat} : (s_any d).exc hv ds x = False := rfl
@[simp] theorem variant_pre {d : Nat} : (s_variant d).pre (.io src) [.tuple l, .int k] = (Src src ∧ k = (d : Int) ∧ ∃ m n, gd m n (.tuple l) = true ∧ n ≤ 40 ∧ m < 1000) := propext ⟨fun ⟨src', e, hs, l', m, n, e2, q⟩ => by cases e; cases e2; exact ⟨hs, rfl, m, n, q⟩, fun ⟨hs, e, m, n, q⟩ => by subst e; exact ⟨_, rfl, hs, l, m, n, rfl, q⟩⟩
@[simp] theorem variant_post {d : Nat} : (s_variant d).post hv [.tuple l, .int (d : Int)] r h = ∃ src, h = .io src ∧ Src src ∧ ∃ v, isR r v ∧ ∀ m n, 4 ≤ m → d + 4 ≤ n → gd m n (.tuple l) = true → gd (m + 1) n v = true := propext ⟨fun ⟨src', e, hs, l', v, e2, q⟩ => by cases e2; exact ⟨src', e, hs, v, q⟩, fun ⟨src', e, hs, v, q⟩ => ⟨src', e, hs, l, v, rfl, q⟩⟩
@[simp] theorem variant_exc {d : Nat} : (s_variant d).exc hv ds x = False := rfl
@[simp] theorem single_pre : s_single.pre (.io src) [] = Src src := by simp [s_single, ioS]
@[simp] theorem single_post : s_single.post hv ds r h = ∃ src, h = .io src ∧ Src src ∧ ∃ v, r = .v v ∧ plainB v = true ∧ gd 8 3 v = true := rfl
@[simp] theorem single_exc : s_single.exc hv ds x = False := rfl
@[simp] theorem some_pre : s_some.pre (.io src) [.int k] = (Src src ∧ k = 8) := by simp [s_some, ioS]
@[simp] theorem some_post : s_some.post hv ds r h = ∃ src, h = .io src ∧ Src src ∧ ∃ l, r = .v (.tuple l) ∧ l ≠ [] ∧ scriptB (.tuple l) = true ∧ gd 8 6 (.tuple l) = true := rfl
@[simp] theorem some_exc : s_some.exc hv ds x = False := rfl
@[simp] theorem patterns_pre : s_patterns.pre (.io src) [.int k] = (Src src ∧ k = 5) := by simp [s_patterns, ioS]
@[simp] theorem patterns_post : s_patterns.post hv ds r h = ∃ src, h = .io src ∧ Src src ∧ ∃ l, r = .o l ∧ l.length = 5 ∧ ∀ v ∈ l, gd 8 3 v = true := rfl
@[simp] theorem patterns_exc : s_patterns.exc hv ds x = False := rfl
@[simp] theorem refused_pre : s_refused.pre hv [v] = gdV v := by simp [s_refused]
@[simp] theorem refused_post : s_refused.post hv [v] r h = (r = .v (.bool (!scriptB v))) := rfl
@[simp] theorem refused_exc : s_refused.exc hv ds x = False := rfl
end
end K1

set_option Elab.async false
set_option linter.all false
set_option maxRecDepth 100000
set_option maxHeartbeats 1000000
namespace K1
open PySem PySem.Spec PyProof.Rows L2 Mp
theorem k_whole {b : Ss} (hb : b = b_is_whole) : Keeps G 3 .no 3 s_whole b := by
  subst hb
  rintro hv ds hk hl ⟨v, lo, hi, rfl, hn⟩
  cases hv <;> cases hk
  cases v <;> simp [b_is_whole, env0, wholeB, gdV, gd] at hn ⊢
  split <;> omega
theorem mul_ok {a b : Int} (ha : a.natAbs.log2 < 1000) (hb : b.natAbs.log2 < 1000) : MulOk a b := .inl (by omega)
theorem k_less : Keeps G 2 .no 2 s_less b_is_less := by
  rintro hv ds hk hl ⟨a, b, c, d, rfl, h1, h2, h3, h4⟩
  cases hv <;> cases hk
  have m1 := mul_ok h1 h4
  have m2 := mul_ok h3 h2
  simp [b_is_less, env0, m1, m2]
theorem log_of {a b : Nat} (h : a ≤ b) (hb : b.log2 < 1000) : a.log2 < 9000 := by
  have : a.log2 ≤ b.log2 := by
    rcases Nat.eq_zero_or_pos a with e | e
    · subst e; simp
    · exact (Nat.le_log2 (by omega)).mpr (Nat.le_trans (Nat.log2_self_le (by omega)) h)
  omega
theorem gcd_step {x y : Int} (hx : 0 ≤ x) (hy : 0 ≤ y) : Int.gcd y (x % y) = Int.gcd x y := by
  obtain ⟨a, rfl⟩ := Int.eq_ofNat_of_zero_le hx
  obtain ⟨b, rfl⟩ := Int.eq_ofNat_of_zero_le hy
  show Nat.gcd b (a % b) = Nat.gcd a b
  rw [Nat.gcd_comm a b, Nat.gcd_rec b a, Nat.gcd_comm]
theorem k_low : Keeps G 4 .no 2 s_low b_lowest := by
  rintro hv ds hk hl ⟨a, b, rfl, h1, h2⟩
  cases hv <;> cases hk
  simp [b_lowest, env0]
  refine whl_of (fun m e => ∃ x y : Int, e = [Sl.v (.int a), Sl.v (.int b), Sl.v (.int x), Sl.v (.int y)] ∧ 0 ≤ x ∧ 0 ≤ y ∧ Int.gcd x y = Int.gcd a b ∧ m = y.toNat) b.toNat ⟨_, b, rfl, by split <;> omega, by omega, ?_, rfl⟩ ?_
  · split
    · exact Int.neg_gcd
    · rfl
  · rintro m e ⟨x, y, rfl, hx, hy, hg, rfl⟩
    simp
    split
    · rename_i hy0
      subst hy0
      have hxg : x = (Int.gcd a b : Int) := by
        rw [← hg, Int.gcd_zero_right]; omega
      have hpos : 0 < Int.gcd a b := Int.gcd_pos_of_ne_zero_right _ (by omega)
      have hle : Int.gcd a b ≤ b.natAbs := Int.gcd_le_natAbs_right _ (by omega)
      have hlog := log_of hle h2
      subst hxg
      simp [lowD, hpos, hlog, line]
    · rename_i hy0
      refine ⟨by omega, (x % y).toNat, ?_, y, x % y, ⟨rfl, rfl⟩, hy, Int.emod_nonneg _ hy0, ?_, rfl⟩
      · have := Int.emod_lt_of_pos x (show 0 < y by omega)
        have := Int.emod_nonneg x hy0
        omega
      · rw [← hg, gcd_step hx hy]
theorem len2 {α : Type} {l : List α} (h : l.length = 2) : ∃ a b, l = [a, b] := by
  match l, h with
  | [a, b], _ => exact ⟨a, b, rfl⟩
theorem frac_eq {a b : Int} (h : 1 ≤ b) : (decide (a / (Int.gcd a b : Int) = a) && decide (b / (Int.gcd a b : Int) = b)) = decide (Int.gcd a b = 1) := by
  have hpos : 0 < Int.gcd a b := Int.gcd_pos_of_ne_zero_right _ (by omega)
  by_cases e : Int.gcd a b = 1
  · simp [e]
  · have : ¬ (b / (Int.gcd a b : Int) = b) := fun z => by
      have h2 : b / (Int.gcd a b : Int) * (Int.gcd a b : Int) = b := Int.ediv_mul_cancel (Int.gcd_dvd_right a b)
      rw [z] at h2
      have : b * ((Int.gcd a b : Int) - 1) = 0 := by rw [Int.mul_sub, h2]; omega
      rcases Int.mul_eq_zero.mp this with q | q <;> omega
    simp [e, this]
theorem log_int {i : Int} (h : i.natAbs ≤ 10 ^ 41) : i.natAbs.log2 < 1000 := by
  have : i.natAbs < 2 ^ 200 := Nat.lt_of_le_of_lt h (by decide)
  rcases Nat.eq_zero_or_pos i.natAbs with e | e
  · rw [e]; simp
  · have := (Nat.log2_lt (by omega)).mpr this
    omega
theorem k_frac : Keeps G 2 .no 1 (one fracB) b_is_fraction := by
  rintro hv ds hk hl ⟨v, rfl, hn⟩
  cases hv <;> cases hk
  cases v with
  | dict => cases hn
  | tuple xs =>
    have hsh := shaped_of hn (by decide)
    simp [b_is_fraction, env0]
    split
    · rename_i h2
      obtain ⟨x, y, rfl⟩ := len2 (show xs.length = 2 by omega)
      simp [gdV, gd] at hn
      obtain ⟨hx, hy⟩ := hn
      refine cmp_map (fun d => .bool (match d with
        | .int _ => true
        | _ => false)) (by simp [line]) ?_ ?_
      · intro d hd K k
        have : d = x ∨ d = y := by simpa using hd
        have hg : gd 100000 39 d = true := by rcases this with rfl | rfl <;> assumption
        cases d <;> simp [cturn] at k ⊢ <;> first | exact k | simp [gd] at hg
      · simp
        cases x <;> cases y <;> simp [fracB] at *
        rename_i a b
        split
        · rename_i hb
          have hlog : b.natAbs.log2 < 1000 := log_int (by simpa [gd] using hy)
          have hs2 : SeqAt.shaped (lowD a b) = true := by simp [SeqAt.shaped, lowD, PyData.canLay0, PyData.canLayAll0, PyData.depth, PyData.depthAll]
          have hf := frac_eq (a := a) hb
          refine ⟨⟨hb, hlog⟩, eqok_sh hs2 hsh, ?_⟩
          simp [lowD, hf, hb]
        · rename_i hb
          simp [hb]
    · rename_i h2
      cases xs with
      | nil => simp [fracB]
      | cons x xs =>
        cases xs with
        | nil => cases x <;> simp [fracB]
        | cons y xs =>
          cases xs with
          | nil => simp at h2
          | cons z xs => cases x <;> cases y <;> simp [fracB]
  | _ => simp [b_is_fraction, env0, fracB]
end K1

set_option Elab.async false
set_option linter.all false
set_option maxRecDepth 100000
set_option maxHeartbeats 1000000
namespace K1
open PySem PySem.Spec PyProof.Rows L2 Mp
theorem sh_quarters : SeqAt.shaped (.tuple quarters) = true := by decide +kernel
theorem sh_places : SeqAt.shaped (.tuple [.str "drop", .str "half", .str "mark", .str "match"]) = true := by decide +kernel
theorem gdV_sh {v : PyData} (h : gdV v) : SeqAt.shaped v = true := shaped_of h (by decide)
theorem frac_len {v : PyData} (h : fracB v = true) : ((quarters.any fun z => PyData.eqv z v)) = lenB v := by
  unfold fracB at h
  split at h
  · rename_i a b
    simp [quarters, lenB, lenT, eq_comm]
  · cases h
theorem len_frac {v : PyData} (h : lenB v = true) : fracB v = true := by
  unfold lenB at h
  split at h
  · rename_i a b
    simp [lenT] at h
    rcases h with ⟨rfl, rfl⟩ | ⟨rfl, rfl⟩ | ⟨rfl, rfl⟩ | ⟨rfl, rfl⟩ | ⟨rfl, rfl⟩ | ⟨rfl, rfl⟩ | ⟨rfl, rfl⟩ | ⟨rfl, rfl⟩ <;> decide
  · cases h
theorem k_len : Keeps G 1 .no 1 (one lenB) b_is_length := by
  rintro hv ds hk hl ⟨v, rfl, hn⟩
  cases hv <;> cases hk
  have hs := gdV_sh hn
  simp [b_is_length, env0, hn, hs, sh_quarters]
  split
  · rename_i h; exact frac_len h
  · rename_i h
    cases e : lenB v
    · simpa using h
    · exact absurd (len_frac e) h
theorem gd_in {m n : Nat} {l : List PyData} {x : PyData} (h : gd m (n + 1) (.tuple l) = true) (hx : x ∈ l) : gd m n x = true := by
  simp only [gd, Bool.and_eq_true, List.all_eq_true] at h
  exact h.2 x hx
theorem gd_inL {m n : Nat} {l : List PyData} {x : PyData} (h : gd m (n + 1) (.list l) = true) (hx : x ∈ l) : gd m n x = true := by
  simp only [gd, Bool.and_eq_true, List.all_eq_true] at h
  exact h.2 x hx
theorem gd_up1 {m m' : Nat} (hm : m ≤ m') : ∀ {n n' : Nat} {v : PyData}, n ≤ n' → gd m n v = true → gd m' n' v = true
  | n, n', .none, _, _ => by cases n' <;> rfl
  | n, n', .bool _, _, _ => by cases n' <;> rfl
  | n, n', .int _, _, h => by cases n <;> cases n' <;> exact h
  | n, n', .str _, _, h => by cases n <;> cases n' <;> exact h
  | 0, n', .list _, _, h => by cases h
  | 0, n', .tuple _, _, h => by cases h
  | n + 1, 0, .list _, l, h => by omega
  | n + 1, 0, .tuple _, l, h => by omega
  | n + 1, n' + 1, .list ds, l, h => by
    simp only [gd, Bool.and_eq_true, List.all_eq_true, decide_eq_true_eq] at h ⊢
    exact ⟨by omega, fun x hx => gd_up1 hm (by omega) (h.2 x hx)⟩
  | n + 1, n' + 1, .tuple ds, l, h => by
    simp only [gd, Bool.and_eq_true, List.all_eq_true, decide_eq_true_eq] at h ⊢
    exact ⟨by omega, fun x hx => gd_up1 hm (by omega) (h.2 x hx)⟩
  | n, n', .dict _, l, h => by cases n <;> cases h
theorem gdV_in {l : List PyData} {x : PyData} (h : gdV (.tuple l)) (hx : x ∈ l) : gdV x := gd_up1 (Nat.le_refl _) (by decide) (gd_in h hx)
theorem gdV_of {m n : Nat} {v : PyData} (h : gd m n v = true) (hm : m ≤ 100000) (hn : n ≤ 40) : gdV v := gd_up1 hm hn h
theorem sh_str {s : Str} (h : gdV (.str s)) : SeqAt.shaped (.str s) = true := gdV_sh h
theorem isTy_str {v : PyData} (h : gdV v) : ∃ b, isTy v "str" = some b ∧ (b = true ↔ ∃ s, v = .str s) := by
  cases v <;> simp
  cases h
theorem isTy_tup {v : PyData} (h : gdV v) : ∃ b, isTy v "tuple" = some b ∧ (b = true ↔ ∃ s, v = .tuple s) := by
  cases v <;> simp
  cases h
@[simp] theorem sh_nil : SeqAt.shaped (.tuple []) = true := by decide
theorem k_plain : Keeps G 1 .no 1 (one plainB) b_is_plain_step := by
  rintro hv ds hk hl ⟨v, rfl, hn⟩
  cases hv <;> cases hk
  cases v with
  | dict => cases hn
  | tuple xs =>
    have hs := gdV_sh hn
    simp [b_is_plain_step, env0, line, eqok_sh hs]
    cases xs with
    | nil => simp [plainB]
    | cons x xs =>
      have hx := gdV_in hn List.mem_cons_self
      simp
      cases x with
      | dict => cases hx
      | str s =>
        have hss := sh_str hx
        simp [hss, sh_places]
        split
        · rename_i hc
          subst hc
          cases xs with
          | nil => simp [plainB, placeT]; decide
          | cons y ys =>
            have hy := gdV_in hn (List.mem_cons_of_mem _ List.mem_cons_self)
            cases ys with
            | nil => simp [plainB, hy]
            | cons z zs => simp [plainB]; omega
        · rename_i hc
          cases xs with
          | nil => simp [plainB, placeT, eq_comm]
          | cons y ys =>
            cases ys with
            | nil => simp [plainB, hc]
            | cons z zs => simp [plainB]; omega
      | _ => simp [plainB]
  | _ => simp [b_is_plain_step, env0, plainB]
end K1

set_option Elab.async false
set_option linter.all false
set_option maxRecDepth 100000
set_option maxHeartbeats 1000000
namespace K1
open PySem PySem.Spec PyProof.Rows L2 Mp
theorem rep_len {l : List PyData} (h : l.length ≠ 3) : repB (.tuple l) = false := by
  unfold repB
  split
  · rename_i heq
    cases heq
    simp at h
  · rfl
theorem rep3 {s : Str} {y : PyData} {inner : List PyData} : repB (.tuple [.str s, y, .tuple inner]) = (decide (s = "repeat") && wholeB y 2 5 && (decide (1 ≤ inner.length) && decide (inner.length ≤ 4)) && inner.all plainB) := by
  cases y <;> simp [repB, wholeB]
theorem k_step : Keeps G 2 .no 1 (one stepB) b_is_right_step := by
  rintro hv ds hk hl ⟨v, rfl, hn⟩
  cases hv <;> cases hk
  simp [b_is_right_step, env0, hn]
  by_cases hp : plainB v = true
  · simp [hp, stepB]
  · simp [hp]
    have e : stepB v = repB v := by simp [stepB, hp]
    rw [e]
    cases v with
    | dict => cases hn
    | tuple xs =>
      by_cases h3 : xs.length = 3
      · obtain ⟨x, y, z, rfl⟩ : ∃ x y z, xs = [x, y, z] := by
          match xs, h3 with
          | [x, y, z], _ => exact ⟨x, y, z, rfl⟩
        have hx := gdV_in hn List.mem_cons_self
        have hy := gdV_in hn (List.mem_cons_of_mem _ List.mem_cons_self)
        have hz := gdV_in hn (List.mem_cons_of_mem _ (List.mem_cons_of_mem _ List.mem_cons_self))
        simp
        cases x with
        | dict => cases hx
        | str s =>
          cases z with
          | dict => cases hz
          | tuple inner =>
            simp [hy, rep3]
            by_cases hs : s = "repeat"
            · subst hs
              by_cases hw : wholeB y 2 5 = true
              · simp [hw]
                by_cases hc : 1 ≤ inner.length ∧ inner.length ≤ 4
                · have c1 : (1 : Int) ≤ inner.length := by omega
                  have c2 : (inner.length : Int) ≤ 4 := by omega
                  simp [c1, c2, hc.1, hc.2]
                  refine cmp_map (fun d => .bool (plainB d)) (by show inner.length ≤ 16777216; omega) (fun d hd K k => ?_) ?_
                  · have hg := gdV_in hz hd
                    simp [cturn, hg] at k ⊢
                    exact k
                  · simp [e, rep3, hw, hc.1, hc.2]
                · cases inner with
                  | nil => simp
                  | cons i0 inner =>
                    have c1 : (1 : Int) ≤ ((i0 :: inner).length : Int) := by simp; omega
                    have c2 : ¬ (((i0 :: inner).length : Int) ≤ 4) := by simp at hc ⊢; omega
                    simp only [c1, c2, if_true, if_false]
                    intro _ q; omega
              · simp [hw]
            · simp [hs]
          | _ =>
            simp [hy]
            by_cases hs : s = "repeat" <;> by_cases hw : wholeB y 2 5 = true <;> simp [hs, hw] <;> cases y <;> simp [repB]
        | _ => simp [repB]
      · have h3' : ¬ ((xs.length : Int) = 3) := by omega
        simp [rep_len h3, h3']
    | _ => simp [repB]
theorem k_script : Keeps G 2 .no 1 (one scriptB) b_is_right_script := by
  rintro hv ds hk hl ⟨v, rfl, hn⟩
  cases hv <;> cases hk
  cases v with
  | dict => cases hn
  | tuple xs =>
    simp [b_is_right_script, env0]
    split
    · rename_i h8
      refine cmp_map (fun d => .bool (stepB d)) (by show xs.length ≤ 16777216; omega) (fun d hd K k => ?_) ?_
      · have hg := gdV_in hn hd
        simp [cturn, hg] at k ⊢
        exact k
      · have h8' : xs.length ≤ 8 := by omega
        simp [scriptB, h8']
    · rename_i h8
      have h8' : ¬ xs.length ≤ 8 := by omega
      simp [scriptB, h8']
      omega
  | _ => simp [b_is_right_script, env0, scriptB]
theorem k_pat : Keeps G 1 .no 1 (one patB) b_is_right_pattern := by
  rintro hv ds hk hl ⟨v, rfl, hn⟩
  cases hv <;> cases hk
  simp [b_is_right_pattern, env0, hn]
  by_cases hf : fracB v = true
  · have hf' := hf
    unfold fracB at hf'
    split at hf'
    · rename_i a b
      have ha : gdV (.int a) := gdV_in hn List.mem_cons_self
      have hb : gdV (.int b) := gdV_in hn (List.mem_cons_of_mem _ List.mem_cons_self)
      have la := log_int (show a.natAbs ≤ 10 ^ 41 by simpa [gdV, gd] using ha)
      have lb := log_int (show b.natAbs ≤ 10 ^ 41 by simpa [gdV, gd] using hb)
      have l4 : Nat.log2 4 < 1000 := by decide
      have l1 : Nat.log2 1 < 1000 := by decide
      simp only [Bool.and_eq_true, decide_eq_true_eq] at hf'
      simp [hf, la, lb, l4, l1, patB, hf'.1, hf'.2]
      by_cases q : b ≤ 4 * a <;> simp [q] <;> omega
    · cases hf'
  · have : patB v = false := by
      unfold patB
      split
      · rename_i a b
        unfold fracB at hf
        simp at hf ⊢
        intro h1 h2
        exact absurd h2 (hf h1)
      · rfl
    simp [hf, this]
theorem k_need : Keeps G 1 .no 1 s_need b_need_script := by
  rintro hv ds hk hl ⟨v, rfl, hn⟩
  cases hv <;> cases hk
  simp [b_need_script, env0, hn]
theorem k_is1 (f : PyData → Bool) (i : Nat) (hi : G.fns i = one f) : Keeps G 1 .no 1 (one f) (.cons (.ret (.call i (.cons (.var 0) .nil))) .nil) := by
  rintro hv ds hk hl ⟨v, rfl, hn⟩
  cases hv <;> cases hk
  simp [env0, hn, hi]
theorem step_inv {d : PyData} (h : stepB d = true) : (∃ n inner, d = .tuple [.str "repeat", .int n, .tuple inner] ∧ 2 ≤ n ∧ n ≤ 5 ∧ 1 ≤ inner.length ∧ inner.length ≤ 4 ∧ inner.all plainB = true) ∨
    (plainB d = true ∧ ∃ s rest, d = .tuple (.str s :: rest) ∧ s ≠ "repeat" ∧ rest.length ≤ 1) := by
  simp only [stepB, Bool.or_eq_true] at h
  rcases h with h | h
  · refine .inr ⟨h, ?_⟩
    unfold plainB at h
    split at h
    · rename_i s
      refine ⟨s, [], rfl, fun e => ?_, by simp⟩
      subst e
      revert h; decide
    · rename_i s l
      simp only [Bool.and_eq_true, decide_eq_true_eq] at h
      obtain ⟨rfl, _⟩ := h
      exact ⟨"cut", [l], rfl, by decide, by simp⟩
    · cases h
  · unfold repB at h
    split at h
    · rename_i s n inner
      simp only [Bool.and_eq_true, decide_eq_true_eq] at h
      obtain ⟨⟨⟨rfl, h1, h2⟩, h3, h4⟩, h5⟩ := h
      exact .inl ⟨n, inner, rfl, h1, h2, h3, h4, h5⟩
    · cases h
theorem spread_plain {i : Nat} {s : Str} {rest r : List PyData} (h : rest.length ≤ 1) : spreadD i (.tuple (.str s :: rest) :: r) = .tuple [.int (i : Nat), .tuple (.str s :: rest)] :: spreadD (i + 1) r := by
  match rest, h with
  | [], _ => simp [spreadD]
  | [x], _ => simp [spreadD]
theorem script_in {l : List PyData} (h : scriptB (.tuple l) = true) : l.length ≤ 8 ∧ ∀ d ∈ l, stepB d = true := by
  simp only [scriptB, Bool.and_eq_true, decide_eq_true_eq, List.all_eq_true] at h
  exact h
theorem k_spread : Keeps G 6 .no 1 s_spread b_spread := by
  rintro hv ds hk hl ⟨l, rfl, hs, hn⟩
  cases hv <;> cases hk
  obtain ⟨h8, hst⟩ := script_in hs
  simp [b_spread, env0, hn, line]
  refine for_of (fun rem e => ∃ i r acc a b c d, rem = enumD i r ∧ e = [Sl.v (.tuple l), Sl.o acc, a, b, c, d] ∧ acc ++ spreadD i r = spreadD 0 l ∧ (∀ x ∈ r, x ∈ l) ∧ acc.length ≤ 20 * i ∧ i + r.length ≤ 8)
    ⟨0, l, [], _, _, _, _, rfl, rfl, by simp, fun _ h => h, by simp, by omega⟩ ?_ ?_
  · rintro d0 r0 e K hd ⟨i, r, acc, a, b, c, d, hrem, rfl, hacc, hin, hlen, hi⟩ hK
    cases r with
    | nil => cases hrem
    | cons x r =>
      simp only [enumD, List.cons.injEq] at hrem
      obtain ⟨rfl, rfl⟩ := hrem
      have hx := hst x (hin x List.mem_cons_self)
      have hgx := gdV_in hn (hin x List.mem_cons_self)
      have hin' : ∀ y ∈ r, y ∈ l := fun y hy => hin y (List.mem_cons_of_mem _ hy)
      have hi' : i + 1 + r.length ≤ 8 := by simp only [List.length_cons] at hi; omega
      rcases step_inv hx with ⟨n, inner, rfl, n1, n2, l1, l2, _⟩ | ⟨_, s, rest, rfl, hne, hr⟩
      · simp
        refine ⟨⟨by omega, by omega⟩, ?_⟩
        let block : List PyData := inner.map fun y => .tuple [.int (i : Nat), y]
        have hb : block.length = inner.length := by simp [block]
        refine for_of (fun rem e => ∃ j d2 d3, rem.length + j = n.toNat ∧ e = [Sl.v (.tuple l), Sl.o (acc ++ (List.replicate j block).flatten), Sl.v (.int (i : Nat)), Sl.v (.tuple [.str "repeat", .int n, .tuple inner]), d2, d3])
          ⟨0, _, _, by simp [rngD], by simp; exact ⟨rfl, rfl⟩⟩ ?_ ?_
        · rintro t rem e K2 ht ⟨j, d2, d3, hj, rfl⟩ hK2
          simp
          refine cmp_map (fun y => .tuple [.int (i : Nat), y]) (by show inner.length ≤ 16777216; omega) (fun y hy K3 k3 => ?_) ?_
          · simp [cturn, line] at k3 ⊢
            exact k3
          · have hfl : ((List.replicate j block).flatten).length = j * inner.length := by simp [hb]
            have : j * inner.length ≤ 5 * 4 := Nat.mul_le_mul (by omega) l2
            simp
            refine ⟨by show _ ≤ 16777216; simp [hb]; omega, ?_⟩
            refine hK2 _ ⟨j + 1, Sl.v t, Sl.no, by simp at hj; omega, ?_⟩
            simp [List.replicate_succ', block]
        · rintro e ⟨j, d2, d3, hj, rfl⟩
          simp at hj
          subst hj
          simp
          refine hK _ ⟨i + 1, r, _, _, _, _, _, rfl, rfl, ?_, hin', ?_, hi'⟩
          · rw [← hacc]
            simp [spreadD, block]
          · have : n.toNat * inner.length ≤ 5 * 4 := Nat.mul_le_mul (by omega) l2
            simp [hb]; omega
      · have hs0 := sh_str (gdV_in hgx List.mem_cons_self)
        simp [hne, line]
        refine ⟨by omega, ?_⟩
        refine hK _ ⟨i + 1, r, _, _, _, _, _, rfl, rfl, ?_, hin', by simp; omega, hi'⟩
        rw [← hacc, spread_plain hr]
        simp
  · rintro e ⟨i, r, acc, a, b, c, d, hrem, rfl, hacc, _⟩
    cases r with
    | cons => cases hrem
    | nil =>
      simp [spreadD] at hacc
      simp [hacc]
end K1

set_option Elab.async false
set_option linter.all false
set_option maxRecDepth 100000
set_option maxHeartbeats 1000000
namespace K1
open PySem PySem.Spec PyProof.Rows L2 Mp
theorem spread_pair : ∀ {l : List PyData} {i : Nat} {d : PyData}, d ∈ spreadD i l → ∃ j x, d = .tuple [j, x] := by
  intro l
  induction l with
  | nil => intro i d h; simp [spreadD] at h
  | cons y r ih =>
    intro i d h
    unfold spreadD at h
    split at h
    · cases ‹_ :: _ = []›
    · rename_i heq; cases heq
      rcases List.mem_append.mp h with h | h
      · obtain ⟨blk, hb, hd⟩ := List.mem_flatten.mp h
        obtain ⟨_, rfl⟩ := List.mem_replicate.mp hb
        obtain ⟨x, _, rfl⟩ := List.mem_map.mp hd
        exact ⟨_, _, rfl⟩
      · exact ih h
    · rename_i heq; cases heq
      rcases List.mem_cons.mp h with rfl | h
      · exact ⟨_, _, rfl⟩
      · exact ih h
theorem spread_len : ∀ {l : List PyData} {i : Nat}, (∀ d ∈ l, stepB d = true) → (spreadD i l).length ≤ 20 * l.length := by
  intro l
  induction l with
  | nil => intro i h; simp [spreadD]
  | cons y r ih =>
    intro i h
    have ih := ih (i := i + 1) fun d hd => h d (List.mem_cons_of_mem _ hd)
    rcases step_inv (h y List.mem_cons_self) with ⟨n, inner, rfl, n1, n2, l1, l2, _⟩ | ⟨_, s, rest, rfl, hne, hr⟩
    · have : n.toNat * inner.length ≤ 5 * 4 := Nat.mul_le_mul (by omega) l2
      simp [spreadD]; omega
    · rw [spread_plain hr]; simp; omega
theorem k_plainS : Keeps G 3 .no 1 s_plain b_plain := by
  rintro hv ds hk hl ⟨v, rfl, hn⟩
  cases hv <;> cases hk
  simp [b_plain, env0, hn]
  intro hs
  unfold scriptB at hs
  split at hs
  · rename_i l
    have hs' : scriptB (.tuple l) = true := hs
    obtain ⟨h8, hst⟩ := script_in hs'
    have hlen := spread_len (i := 0) hst
    simp [hn, hs']
    refine cmp_map sndD (by show _ ≤ 16777216; omega) (fun d hd K k => ?_) ?_
    · obtain ⟨j, x, rfl⟩ := spread_pair hd
      simp [cturn, sndD] at k ⊢
      exact k
    · simp
  · cases hs
theorem mul_r {a b : Int} (h : -(2 ^ 64) < b ∧ b < 2 ^ 64) : Mp.MulOk a b := .inr (.inr h)
theorem k_source : Keeps G 4 .sc 2 s_source b_law_source := by
  rintro hv ds hk hl ⟨ns, k, rfl, rfl, h0, h20⟩
  have m1 : ∀ a : Int, Mp.MulOk a 16807 := fun a => mul_r (by omega)
  have m2 : ∀ a : Int, Mp.MulOk a k := fun a => mul_r (by omega)
  have m3 : ∀ x : Int, Mp.MulOk (x % 2147481173) (x % 2147481173) := fun x => mul_r (by omega)
  have fin : ∀ n s : Int, 0 ≤ n → Src [.int n, .int (s % 2147481151 + 2 * k + 5)] := fun n s hn => ⟨n, _, rfl, hn, by omega, by omega⟩
  simp [b_law_source, env0, line, m1, m2, m3]
  have tail : ∀ n s : Int, (if 1000000000000000000 ≤ n then Src [.int n, .int (s % 2147481151 + 2 * k + 5)] else Src [.int 0, .int (s % 2147481151 + 2 * k + 5)]) := fun n s => by
    split
    · exact fin _ _ (by omega)
    · exact fin _ _ (by omega)
  split
  · rename_i hk2
    refine ixAt_n h0 (by simp; omega) ?_
    simp [m1, m2, m3, line, tail]
  · exact fin _ _ (by omega)
theorem k_pick : Keeps G 3 .io 2 s_pick b_law_pick := by
  rintro hv ds hk hl ⟨src, rfl, ⟨a, b, rfl, ha, hb, hb2⟩, n, rfl, n0, n1⟩
  have hlog : n.natAbs.log2 < 9000 := by
    rcases Nat.eq_zero_or_pos n.natAbs with e | e
    · rw [e]; simp
    · have h60 : n.natAbs < 2 ^ 60 := by omega
      have := (Nat.log2_lt (n := n.natAbs) (k := 60) (by omega)).mpr h60
      omega
  have m1 : ∀ a : Int, Mp.MulOk a 44497 := fun a => mul_r (by omega)
  have m3 : ∀ x : Int, Mp.MulOk (x % 2147483647) (x % 2147483647) := fun x => mul_r (by omega)
  simp [b_law_pick, env0, line, hlog, n0, m1, m3]
  split
  · rename_i h
    exact ⟨⟨_, _, rfl, Int.ediv_nonneg ha (by omega), hb, hb2⟩, Int.emod_nonneg _ (by omega), Int.emod_lt_of_pos _ n0⟩
  · rename_i h
    exact ⟨by decide, ⟨_, _, rfl, ha, by omega, by omega⟩, Int.emod_nonneg _ (by omega), Int.emod_lt_of_pos _ n0⟩
theorem k_chosen : Keeps G 2 .io 2 s_chosen b_law_chosen := by
  rintro hv ds hk hl ⟨src, rfl, hs, l, rfl, h1, h2⟩
  simp [b_law_chosen, env0, line, hs]
  refine ⟨⟨List.length_pos_iff.mpr h1, by omega⟩, ?_⟩
  rintro _ _ src' rfl hs' m rfl h0 h2
  simp
  refine ixAt_n h0 (by omega) ?_
  simp [hs']
theorem k_isbool : Keeps G 2 .no 2 s_isbool b_law_is_bool := by
  rintro hv ds hk hl ⟨a, b, rfl⟩
  cases hv <;> cases hk
  simp [b_law_is_bool, env0]
theorem k_wide : Keeps G 3 .no 3 s_wide b_law_wide := by
  rintro hv ds hk hl ⟨v, lo, hi, rfl, hn⟩
  cases hv <;> cases hk
  cases v <;> simp [b_law_wide, env0, wideB, gdV, gd] at hn ⊢
  split <;> omega
theorem sh_rep : SeqAt.shaped (.list [.str "repeat"]) = true := by decide +kernel
theorem k_among : Keeps G 2 .no 2 s_among b_law_among := by
  rintro hv ds hk hl ⟨v, rfl, hn⟩
  cases hv <;> cases hk
  have h1 := gdV_sh hn
  cases v <;> simp [b_law_among, env0, gdV, gd, h1, sh_rep, isRep] at hn ⊢
  exact eq_comm
theorem k_lawlow : Keeps G 4 .no 2 s_low b_law_lowest := by
  rintro hv ds hk hl ⟨a, b, rfl, h1, h2⟩
  cases hv <;> cases hk
  simp [b_law_lowest, env0]
  have hb : (if b < 0 then -b else b) = b := if_neg (by omega)
  rw [hb]
  have := k_low .no [.int a, .int b] rfl rfl ⟨a, b, rfl, h1, h2⟩
  simp [b_lowest, env0] at this
  exact this
theorem k_lawless : Keeps G 2 .no 2 s_less b_law_less := k_less
theorem k_lawwhole : Keeps G 3 .no 3 s_whole b_law_whole := k_whole rfl
theorem sh_int {i : Int} : SeqAt.shaped (.int i) = true := rfl
theorem sh_12 : SeqAt.shaped (.list [.int 1, .int 2]) = true := rfl
theorem sh_pl : SeqAt.shaped (.list [.str "drop", .str "half", .str "mark", .str "match"]) = true := by decide +kernel
theorem plain_1 {x : PyData} : plainB (.tuple [x]) = match x with
  | .str s => decide (s ∈ placeT)
  | _ => false := by cases x <;> rfl
theorem plain_long {xs : List PyData} (h : xs.length ≠ 1) (h2 : xs.length ≠ 2) : plainB (.tuple xs) = false := by
  unfold plainB
  split
  · rename_i heq; cases heq; simp at h
  · rename_i heq; cases heq; simp at h2
  · rfl
theorem lenB_ints {a b : Int} : lenB (.tuple [.int a, .int b]) = ((decide (1 ≤ a) && decide (a ≤ 8)) && (decide (1 ≤ b) && decide (b ≤ 4)) && !decide (b = 3) && decide (Int.gcd a b = 1) && decide (a ≤ 2 * b)) := by
  by_cases h : 1 ≤ a ∧ a ≤ 8 ∧ 1 ≤ b ∧ b ≤ 4
  · obtain ⟨h1, h2, h3, h4⟩ := h
    obtain ha | ha | ha | ha | ha | ha | ha | ha : a = 1 ∨ a = 2 ∨ a = 3 ∨ a = 4 ∨ a = 5 ∨ a = 6 ∨ a = 7 ∨ a = 8 := by omega
    all_goals
      obtain hb | hb | hb | hb : b = 1 ∨ b = 2 ∨ b = 3 ∨ b = 4 := by omega
      all_goals (subst ha; subst hb; decide)
  · have e : lenB (.tuple [.int a, .int b]) = false := by
      simp [lenB, lenT]
      omega
    rw [e]
    simp
    omega
theorem k_lawplain : Keeps G 3 .no 1 (one plainB) b_law_good_plain := by
  rintro hv ds hk hl ⟨v, rfl, hn⟩
  cases hv <;> cases hk
  cases v with
  | dict => cases hn
  | tuple xs =>
    match xs, hn with
    | [], hn => simp [b_law_good_plain, env0, sh_int, sh_12, plainB]
    | [x], hn =>
      have hx := gdV_in hn List.mem_cons_self
      cases x with
      | dict => cases hx
      | str s => simp [b_law_good_plain, env0, sh_int, sh_12, sh_str hx, sh_pl, plain_1, placeT, @eq_comm _ ("drop" : Str) s, @eq_comm _ ("half" : Str) s, @eq_comm _ ("mark" : Str) s, @eq_comm _ ("match" : Str) s]
      | _ => simp [b_law_good_plain, env0, sh_int, sh_12, plain_1]
    | [x, y], hn =>
      have hx := gdV_in hn List.mem_cons_self
      have hy := gdV_in hn (List.mem_cons_of_mem _ List.mem_cons_self)
      cases x with
      | dict => cases hx
      | str s =>
        simp [b_law_good_plain, env0, sh_int, sh_12, hy]
        by_cases hs : s = "cut"
        · subst hs
          simp
          cases y with
          | dict => cases hy
          | tuple ys =>
            by_cases h2 : ys.length = 2
            · obtain ⟨a, b, rfl⟩ := len2 h2
              have ha := gdV_in hy List.mem_cons_self
              have hb := gdV_in hy (List.mem_cons_of_mem _ List.mem_cons_self)
              simp [wideB, ha, hb]
              cases a with
              | int a =>
                cases b with
                | int b =>
                  have la := log_int (show a.natAbs ≤ 10 ^ 41 by simpa [gdV, gd] using ha)
                  have lb := log_int (show b.natAbs ≤ 10 ^ 41 by simpa [gdV, gd] using hb)
                  have hs2 : SeqAt.shaped (lowD a b) = true := by simp [SeqAt.shaped, lowD, PyData.canLay0, PyData.canLayAll0, PyData.depth, PyData.depthAll]
                  have hs3 := gdV_sh hy
                  simp [wholeB, lb, eqok_sh hs2 hs3, plainB, lenB_ints, mul_r]
                  by_cases h1 : 1 ≤ a ∧ a ≤ 8
                  · by_cases h2 : 1 ≤ b ∧ b ≤ 4
                    · by_cases h3 : b = 3
                      · simp [h1, h2, h3]
                      · have hf := frac_eq (a := a) h2.1
                        have he : PyData.eqv (lowD a b) (.tuple [.int a, .int b]) = decide (Int.gcd a b = 1) := by simp [lowD, hf]
                        have hm : Mp.MulOk 2 b := mul_r (by omega)
                        by_cases hg : Int.gcd a b = 1 <;> simp [h1, h2, h3, he, hm, hg]
                    · simp [h1, h2]
                      intros; omega
                  · simp [h1]
                    intros; omega
                | _ => simp [wholeB, plainB, lenB]; intro q1 q2 q3; omega
              | _ => cases b <;> simp [wholeB, plainB, lenB]
            · have : lenB (.tuple ys) = false := by
                unfold lenB
                split
                · rename_i heq; cases heq; simp at h2
                · rfl
              have hw : wideB (.tuple ys) 2 2 = false := by simp [wideB]; omega
              simp [hw, plainB, this]
          | _ => simp [wideB, plainB, lenB]
        · simp [hs, plainB]
      | _ => simp [b_law_good_plain, env0, sh_int, sh_12, plainB]
    | x :: y :: z :: r, hn =>
      have h1 : ¬ (1 = (r.length : Int) + 1 + 1 + 1) := by omega
      have h2 : ¬ (2 = (r.length : Int) + 1 + 1 + 1) := by omega
      simp [b_law_good_plain, env0, sh_int, sh_12, h1, h2, plain_long]
  | _ => simp [b_law_good_plain, env0, plainB]
theorem k_lawpat : Keeps G 1 .no 1 (one patB) b_law_good_pattern := by
  rintro hv ds hk hl ⟨v, rfl, hn⟩
  cases hv <;> cases hk
  simp [b_law_good_pattern, env0, hn]
  cases v with
  | dict => cases hn
  | tuple xs =>
    by_cases h2 : xs.length = 2
    · obtain ⟨a, b, rfl⟩ := len2 h2
      have ha := gdV_in hn List.mem_cons_self
      have hb := gdV_in hn (List.mem_cons_of_mem _ List.mem_cons_self)
      simp [wideB, ha, hb]
      cases a with
      | int a =>
        cases b with
        | int b =>
          have ba : a.natAbs ≤ 10 ^ 41 := by simpa [gdV, gd] using ha
          have bb : b.natAbs ≤ 10 ^ 41 := by simpa [gdV, gd] using hb
          have lb := log_int bb
          have hs2 : SeqAt.shaped (lowD a b) = true := by simp [SeqAt.shaped, lowD, PyData.canLay0, PyData.canLayAll0, PyData.depth, PyData.depthAll]
          have hs3 := gdV_sh hn
          have a1 : a ≤ 100000000000000000000000000000000000000000 := by omega
          have b1 : b ≤ 100000000000000000000000000000000000000000 := by omega
          have hm : Mp.MulOk 4 a := .inr (.inl (by omega))
          by_cases p2 : 1 ≤ b
          · have he : PyData.eqv (lowD a b) (.tuple [.int a, .int b]) = decide (Int.gcd a b = 1) := by
              have hf := frac_eq (a := a) p2
              simp [lowD, hf]
            by_cases p1 : 1 ≤ a
            · by_cases hg : Int.gcd a b = 1 <;> simp [wholeB, p1, p2, a1, b1, lb, eqok_sh hs2 hs3, he, hg, patB, hm]
            · simp [wholeB, p1, patB, p2]
              intros; omega
          · simp [wholeB, p2, patB]
        | _ => simp [wholeB, patB] <;> (intros; omega)
      | _ => cases b <;> simp [wholeB, patB]
    · have : patB (.tuple xs) = false := by
        unfold patB
        split
        · rename_i heq; cases heq; simp at h2
        · rfl
      have hw : wideB (.tuple xs) 2 2 = false := by simp [wideB]; omega
      simp [hw, this]
  | _ => simp [wideB, patB]
def badF (f : PyData → Bool) : PyData → Option PyData := fun d => if f d = true then none else some d
theorem bad_nil {f : PyData → Bool} : ∀ {xs : List PyData}, PyData.eqvAll (xs.filterMap (badF f)) [] = xs.all f
  | [] => by simp
  | x :: xs => by
    have ih := bad_nil (f := f) (xs := xs)
    by_cases h : f x = true
    · simp [badF, h] at ih ⊢; exact ih
    · simp [badF, h]
theorem bad_sh {f : PyData → Bool} {xs : List PyData} (h : gdV (.tuple xs)) : SeqAt.shaped (.list (xs.filterMap (badF f))) = true := by
  refine shaped_of (m := 100000) (n := 40) ?_ (by decide)
  have h' := h
  simp only [gdV, gd, Bool.and_eq_true, decide_eq_true_eq, List.all_eq_true] at h' ⊢
  refine ⟨Nat.le_trans (List.length_filterMap_le _ _) h'.1, fun x hx => ?_⟩
  obtain ⟨y, hy, e⟩ := List.mem_filterMap.mp hx
  unfold badF at e
  split at e
  · cases e
  · cases e; exact h'.2 _ hy
theorem sh_nilL : SeqAt.shaped (.list []) = true := rfl
theorem rep_z {x y z : PyData} (h : ∀ l, z ≠ .tuple l) : repB (.tuple [x, y, z]) = false := by
  unfold repB
  split
  · rename_i heq; cases heq; exact absurd rfl (h _)
  · rfl
theorem rep_x {x y z : PyData} (h : ∀ l, x ≠ .str l) : repB (.tuple [x, y, z]) = false := by
  unfold repB
  split
  · rename_i heq; cases heq; exact absurd rfl (h _)
  · rfl
theorem k_lawstep : Keeps G 2 .no 1 (one stepB) b_law_good_step := by
  rintro hv ds hk hl ⟨v, rfl, hn⟩
  cases hv <;> cases hk
  simp [b_law_good_step, env0, hn]
  by_cases hp : plainB v = true
  · simp [hp, stepB]
  · simp [hp]
    have e : stepB v = repB v := by simp [stepB, hp]
    rw [e]
    cases v with
    | dict => cases hn
    | tuple xs =>
      by_cases h3 : xs.length = 3
      · obtain ⟨x, y, z, rfl⟩ : ∃ x y z, xs = [x, y, z] := by
          match xs, h3 with
          | [x, y, z], _ => exact ⟨x, y, z, rfl⟩
        have hx := gdV_in hn List.mem_cons_self
        have hy := gdV_in hn (List.mem_cons_of_mem _ List.mem_cons_self)
        have hz := gdV_in hn (List.mem_cons_of_mem _ (List.mem_cons_of_mem _ List.mem_cons_self))
        have hw : wideB (.tuple [x, y, z]) 3 3 = true := by simp [wideB]
        cases x with
        | dict => cases hx
        | str s =>
          cases z with
          | dict => cases hz
          | tuple inner =>
            have hsb := bad_sh (f := plainB) hz
            simp [hw, hx, hy, hz, isRep, rep3]
            by_cases hs : s = "repeat"
            · by_cases hy5 : wholeB y 2 5 = true
              · by_cases hc : wideB (.tuple inner) 1 4 = true
                · simp [hs, hy5, hc]
                  refine cmp_filter (badF plainB) ?_ (fun d hd K k => ?_) ?_
                  · simp [wideB] at hc
                    show inner.length ≤ 16777216
                    omega
                  · have hg := gdV_in hz hd
                    by_cases hp : plainB d = true <;> simp [cturn, hg, badF, hp] at k ⊢ <;> exact k
                  · simp [wideB] at hc
                    have c1 : 1 ≤ inner.length := by omega
                    have c2 : inner.length ≤ 4 := by omega
                    subst hs
                    simp [eqok_sh hsb sh_nilL, bad_nil, e, rep3, hy5, c1, c2]
                · simp [hs, hy5, hc]
                  simp [wideB] at hc
                  subst hs
                  rw [e]
                  simp [rep3, hy5]
                  intro q1 q2
                  have := hc (by omega)
                  omega
              · simp [hs, hy5]
            · simp [hs]
          | _ => simp [hw, hx, hy, hz, isRep, rep_z, wideB, e] <;> (try (split <;> simp))
        | _ => simp [hw, hx, isRep, rep_x, e]
      · have hw : wideB (.tuple xs) 3 3 = false := by simp [wideB]; omega
        simp [rep_len h3, hw]
    | _ => simp [repB, wideB]
theorem k_lawscript : Keeps G 2 .no 1 (one scriptB) b_law_good_script := by
  rintro hv ds hk hl ⟨v, rfl, hn⟩
  cases hv <;> cases hk
  simp [b_law_good_script, env0, hn]
  cases v with
  | dict => cases hn
  | tuple xs =>
    have hsb := bad_sh (f := stepB) hn
    by_cases h8 : xs.length ≤ 8
    · have hw : wideB (.tuple xs) 0 8 = true := by simp [wideB]; omega
      simp [hw]
      refine cmp_filter (badF stepB) (by show xs.length ≤ 16777216; omega) (fun d hd K k => ?_) ?_
      · have hg := gdV_in hn hd
        by_cases hp : stepB d = true <;> simp [cturn, hg, badF, hp] at k ⊢ <;> exact k
      · simp [eqok_sh hsb sh_nilL, bad_nil, scriptB, h8]
    · have hw : wideB (.tuple xs) 0 8 = false := by simp [wideB]; omega
      simp [hw, scriptB, h8]
  | _ => simp [wideB, scriptB]
end K1

set_option Elab.async false
set_option linter.all false
set_option maxRecDepth 100000
set_option maxHeartbeats 1000000
namespace K1
open PySem PySem.Spec PyProof.Rows L2 Mp
theorem k_lawspread : Keeps G 5 .no 1 s_spread b_law_spread := by
  rintro hv ds hk hl ⟨l, rfl, hs, hn⟩
  cases hv <;> cases hk
  obtain ⟨h8, hst⟩ := script_in hs
  simp [b_law_spread, env0, hn]
  refine for_of (fun rem e => ∃ i r acc a b c, rem = enumD i r ∧ e = [Sl.v (.tuple l), Sl.o acc, a, b, c] ∧ acc ++ spreadD i r = spreadD 0 l ∧ (∀ x ∈ r, x ∈ l) ∧ acc.length ≤ 20 * i ∧ i + r.length ≤ 8)
    ⟨0, l, [], _, _, _, rfl, rfl, by simp, fun _ h => h, by simp, by omega⟩ ?_ ?_
  · rintro d0 r0 e K hd ⟨i, r, acc, a, b, c, hrem, rfl, hacc, hin, hlen, hi⟩ hK
    cases r with
    | nil => cases hrem
    | cons x r =>
      simp only [enumD, List.cons.injEq] at hrem
      obtain ⟨rfl, rfl⟩ := hrem
      have hx := hst x (hin x List.mem_cons_self)
      have hgx := gdV_in hn (hin x List.mem_cons_self)
      have hin' : ∀ y ∈ r, y ∈ l := fun y hy => hin y (List.mem_cons_of_mem _ hy)
      have hi' : i + 1 + r.length ≤ 8 := by simp only [List.length_cons] at hi; omega
      rcases step_inv hx with ⟨n, inner, rfl, n1, n2, l1, l2, _⟩ | ⟨_, s, rest, rfl, hne, hr⟩
      · simp
        have hmul : n.toNat * inner.length ≤ 5 * 4 := Nat.mul_le_mul (by omega) l2
        have hmul' : inner.length * n.toNat ≤ 5 * 4 := by rw [Nat.mul_comm]; exact hmul
        refine cmp_map (fun y => .tuple [.int (i : Nat), y]) (by show inner.length ≤ 16777216; omega) (fun y hy K3 k3 => ?_) ?_
        · simp [cturn] at k3 ⊢
          exact k3
        · simp
          refine ⟨⟨by omega, by omega, by omega⟩, by omega, ?_⟩
          refine hK _ ⟨i + 1, r, _, _, _, _, rfl, rfl, ?_, hin', ?_, hi'⟩
          · rw [← hacc]
            simp [spreadD]
          · simp; omega
      · have hs0 := sh_str (gdV_in hgx List.mem_cons_self)
        simp [hne]
        refine ⟨by omega, ?_⟩
        refine hK _ ⟨i + 1, r, _, _, _, _, rfl, rfl, ?_, hin', by simp; omega, hi'⟩
        rw [← hacc, spread_plain hr]
        simp
  · rintro e ⟨i, r, acc, a, b, c, hrem, rfl, hacc, _⟩
    cases r with
    | cons => cases hrem
    | nil =>
      simp [spreadD] at hacc
      simp [hacc]
theorem exm_1 : G.exm ("InvalidScript" : Str) ("InvalidScript" : Str) = some true := by decide +kernel
theorem one_8 {q : Int} (h : 1 ≤ q) (h2 : q ≤ 8) : q = 1 ∨ q = 2 ∨ q = 3 ∨ q = 4 ∨ q = 5 ∨ q = 6 ∨ q = 7 ∨ q = 8 := by omega
theorem low_4 {q : Int} (h : 1 ≤ q) (h2 : q ≤ 8) : plainB (.tuple [.str "cut", lowD q 4]) = true ∧ gd 8 3 (.tuple [.str "cut", lowD q 4]) = true := by
  obtain rfl | rfl | rfl | rfl | rfl | rfl | rfl | rfl := one_8 h h2 <;> decide +kernel
theorem k_refused : Keeps G 1 .no 1 s_refused b_law_refused := by
  rintro hv ds hk hl ⟨v, rfl, hn⟩
  cases hv <;> cases hk
  simp [b_law_refused, env0, hn, exm_1]
  intro _ x e h _
  rw [e]; exact h
theorem k_single : Keeps G 2 .io 1 s_single b_law_single := by
  rintro hv ds hk hl ⟨src, rfl, hs, rfl⟩
  simp [b_law_single, env0, hs]
  rintro _ _ src1 rfl hs1 m rfl h0 h1
  simp
  split
  · simp [hs1]
    rintro _ _ src2 rfl hs2 m2 rfl h02 h12
    simp [hs2]
    rintro r _ src3 rfl hs3 hx
    obtain ⟨q, rfl, hq1, hq2⟩ : ∃ q : Int, r = .v (.int q) ∧ 1 ≤ q ∧ q ≤ 8 := by
      rcases hx with h | h | h | h | h
      · exact ⟨_, h, by omega, by omega⟩
      · exact ⟨_, h, by omega, by omega⟩
      · exact ⟨_, h, by omega, by omega⟩
      · exact ⟨_, h, by omega, by omega⟩
      · exact ⟨_, h, by omega, by omega⟩
    have l4 : Nat.log2 4 < 1000 := by decide
    have lo := low_4 hq1 hq2
    simp [hs3, l4, lo.1, lo.2]
  · simp [hs1]
    rintro r _ src3 rfl hs3 hx
    obtain ⟨q, rfl, hq⟩ : ∃ q : Str, r = .v (.str q) ∧ q ∈ placeT := by
      rcases hx with h | h | h | h
      · exact ⟨_, h, by decide⟩
      · exact ⟨_, h, by decide⟩
      · exact ⟨_, h, by decide⟩
      · exact ⟨_, h, by decide⟩
    have h1 : plainB (.tuple [.str q]) = true := by simp [plain_1, hq]
    have h2 : gd 8 3 (.tuple [.str q]) = true := by
      simp only [placeT, List.mem_cons, List.not_mem_nil, or_false] at hq
      rcases hq with rfl | rfl | rfl | rfl <;> decide +kernel
    simp [hs3, h1, h2]
end K1

set_option Elab.async false
set_option linter.all false
set_option maxRecDepth 100000
set_option maxHeartbeats 1000000
namespace K1
open PySem PySem.Spec PyProof.Rows L2 Mp
theorem step_of_plain {v : PyData} (h : plainB v = true) : stepB v = true := by simp [stepB, h]
theorem all_snoc {P : PyData → Prop} {l : List PyData} {x : PyData} (h : ∀ y ∈ l, P y) (hx : P x) : ∀ y ∈ l ++ [x], P y := fun y hy => by
  rcases List.mem_append.mp hy with h' | h'
  · exact h y h'
  · rw [List.mem_singleton.mp h']; exact hx
theorem k_some : Keeps G 7 .io 2 s_some b_law_some := by
  rintro hv ds hk hl ⟨src, rfl, hs, rfl⟩
  simp [b_law_some, env0, hs]
  rintro _ _ src1 rfl hs1 m rfl h0 h1
  simp
  refine ⟨⟨by omega, by omega⟩, ?_⟩
  refine for_of (fun rem e => ∃ src acc a b c d, e = [Sl.io src, Sl.v (.int 8), Sl.v (.tuple acc), a, b, c, d] ∧ Src src ∧ acc.length + rem.length = (1 + m).toNat ∧ ∀ y ∈ acc, stepB y = true ∧ gd 8 5 y = true)
    ⟨src1, [], _, _, _, _, rfl, hs1, by simp [rngD], by simp⟩ ?_ ?_
  · rintro t rem e K ht ⟨src, acc, a, b, c, d, rfl, hs, hlen, hacc⟩ hK
    simp [hs]
    rintro _ _ src2 rfl hs2 v rfl hp hg
    simp [hs2]
    rintro _ _ src3 rfl hs3 m3 rfl h03 h13
    simp at hlen
    have la : acc.length < 8 := by omega
    simp
    split
    · simp [hs3]
      rintro _ _ src4 rfl hs4 m4 rfl h04 h14
      simp
      refine ⟨⟨by omega, by omega⟩, ?_⟩
      refine cmp_inv (fun rem' acc' e => ∃ src, e = [Sl.io src, Sl.v (.int 8), Sl.v (.tuple acc), Sl.v t, Sl.v v, c, Sl.no] ∧ Src src ∧ acc'.length + rem'.length = (1 + m4).toNat ∧ ∀ y ∈ acc', plainB y = true ∧ gd 8 3 y = true)
        ⟨src4, rfl, hs4, by simp [rngD], by simp⟩ ?_ ?_ ?_
      · rintro d' r' acc' e' K' ⟨src, rfl, hs', hlen', hacc'⟩ hsome hnone
        simp [cturn, hs']
        rintro _ _ src5 rfl hs5 v5 rfl hp5 hg5
        simp
        exact hsome _ _ ⟨src5, rfl, hs5, by simp at hlen' ⊢; omega, all_snoc hacc' ⟨hp5, hg5⟩⟩
      · rintro d' r' acc' e' ⟨src, rfl, hs', hlen', hacc'⟩
        simp at hlen'
        show _ < 16777216
        omega
      · rintro acc' e' ⟨src, rfl, hs', hlen', hacc'⟩
        simp at hlen'
        simp [hs']
        rintro _ _ src6 rfl hs6 m6 rfl h06 h16
        simp
        refine ⟨by omega, ?_⟩
        refine hK _ ⟨src6, _, _, _, _, _, rfl, hs6, by simp; omega, all_snoc hacc ⟨?_, ?_⟩⟩
        · have c1 : 2 ≤ 2 + m6 := by omega
          have c2 : 2 + m6 ≤ 5 := by omega
          have c3 : 1 ≤ acc'.length := by omega
          have c4 : acc'.length ≤ 4 := by omega
          have c5 : acc'.all plainB = true := List.all_eq_true.mpr fun y hy => (hacc' y hy).1
          simp [stepB, repB, c1, c2, c3, c4, c5]
        · have c4 : acc'.length ≤ 8 := by omega
          have c5 : ∀ y ∈ acc', gd 8 3 y = true := fun y hy => (hacc' y hy).2
          have c6 : (2 + m6).natAbs ≤ 100000000000000000000000000000000000000000 := by omega
          have c7 : PyData.strOk "repeat" = true := by decide +kernel
          have c8 : ("repeat" : Str).length ≤ 100 := by decide +kernel
          simp [gd, c4, c6, c7, c8]
          exact c5
    · refine ⟨by omega, ?_⟩
      exact hK _ ⟨src3, _, _, _, _, _, rfl, hs3, by simp; omega, all_snoc hacc ⟨step_of_plain hp, gd_up1 (by omega) (by omega) hg⟩⟩
  · rintro e ⟨src, acc, a, b, c, d, rfl, hs, hlen, hacc⟩
    simp at hlen
    have c1 : acc.length ≤ 8 := by omega
    have c2 : acc ≠ [] := fun z => by subst z; simp at hlen; omega
    have c3 : acc.all stepB = true := List.all_eq_true.mpr fun y hy => (hacc y hy).1
    have c4 : ∀ y ∈ acc, gd 8 5 y = true := fun y hy => (hacc y hy).2
    have c5 : gd 8 6 (.tuple acc) = true := by simp [gd, c1]; exact c4
    have c6 : scriptB (.tuple acc) = true := by simp [scriptB, c1]; simpa using c3
    simp [hs, c2, c5, c6]
theorem gd_low {a b : Int} (ha : a.natAbs ≤ 10 ^ 20) (hb : b.natAbs ≤ 10 ^ 20) (h1 : 1 ≤ b) : gd 8 3 (lowD a b) = true := by
  have hpos : 0 < Int.gcd a b := Int.gcd_pos_of_ne_zero_right _ (by omega)
  have l1 : (a / (Int.gcd a b : Int)).natAbs ≤ a.natAbs := by
    have := Int.natAbs_ediv_le_natAbs a (Int.gcd a b : Int)
    omega
  have l2 : (b / (Int.gcd a b : Int)).natAbs ≤ b.natAbs := by
    have := Int.natAbs_ediv_le_natAbs b (Int.gcd a b : Int)
    omega
  have c1 : (a / (Int.gcd a b : Int)).natAbs ≤ 100000000000000000000000000000000000000000 := by omega
  have c2 : (b / (Int.gcd a b : Int)).natAbs ≤ 100000000000000000000000000000000000000000 := by omega
  simp [lowD, gd, c1, c2]
theorem low_form {a b : Int} (h1 : 1 ≤ b) : ∃ p q : Int, lowD a b = .tuple [.int p, .int q] ∧ 1 ≤ q ∧ q ≤ b ∧ p.natAbs ≤ a.natAbs := by
  have hpos : 0 < Int.gcd a b := Int.gcd_pos_of_ne_zero_right _ (by omega)
  refine ⟨_, _, rfl, ?_, ?_, Int.natAbs_ediv_le_natAbs a _⟩
  · have hle : Int.gcd a b ≤ b.natAbs := Int.gcd_le_natAbs_right _ (by omega)
    exact (Int.le_ediv_iff_mul_le (by omega)).mpr (by omega)
  · have := Int.natAbs_ediv_le_natAbs b (Int.gcd a b : Int)
    omega
theorem log_small {i : Int} (h : i.natAbs ≤ 10 ^ 30) : i.natAbs.log2 < 1000 := log_int (by omega)
theorem k_patterns : Keeps G 6 .io 2 s_patterns b_law_patterns := by
  rintro hv ds hk hl ⟨src, rfl, hs, rfl⟩
  simp [b_law_patterns, env0, hs]
  refine for_of (fun rem e => ∃ src acc a b c, e = [Sl.io src, Sl.v (.int 5), Sl.o acc, a, b, c] ∧ Src src ∧ acc.length + rem.length = 5 ∧ ∀ y ∈ acc, gd 8 3 y = true)
    ⟨src, [], _, _, _, rfl, hs, by simp [rngD], by simp⟩ ?_ ?_
  · rintro t rem e K ht ⟨src, acc, a, b, c, rfl, hs, hlen, hacc⟩ hK
    simp at hlen
    simp [hs]
    rintro _ _ src2 rfl hs2 m2 rfl h02 h12
    simp [hs2]
    rintro _ _ src3 rfl hs3 m3 rfl h03 h13
    have hm3 : Mp.MulOk 2 (1 + m3) := mul_r (by omega)
    have hlg := log_small (i := 2 * (1 + m3)) (by omega)
    have h1b : 1 ≤ 2 * (1 + m3) := by omega
    obtain ⟨p, q, e, hq1, hq2, hp⟩ := low_form (a := 1 + m2) h1b
    simp [hs3, hm3, hlg, h1b, e]
    rintro _ _ src4 rfl hs4 m4 rfl h04 h14
    simp
    have l4 : Nat.log2 4 < 1000 := by decide
    have l1 : Nat.log2 1 < 1000 := by decide
    -- what is kept at the turn's end
    have fin : ∀ (src : List PyData) (x y : Int) (d : Sl), Src src → x.natAbs ≤ 10 ^ 20 → y.natAbs ≤ 10 ^ 20 → ∀ z, (z = .tuple [.int x, .int y] ∨ z = .tuple [.int 1, .int 4]) → K [Sl.io src, Sl.v (.int 5), Sl.o (acc ++ [z]), Sl.v t, Sl.v (.tuple [.int x, .int y]), d] := by
      intro src x y d hs hx hy z hz
      refine hK _ ⟨src, _, _, _, _, rfl, hs, by simp; omega, all_snoc hacc ?_⟩
      rcases hz with rfl | rfl
      · have c1 : x.natAbs ≤ 100000000000000000000000000000000000000000 := by omega
        have c2 : y.natAbs ≤ 100000000000000000000000000000000000000000 := by omega
        simp [gd, c1, c2]
      · decide +kernel
    split
    · rename_i e3
      subst e3
      have a1 : Mp.MulOk p 10000000 := mul_r (by omega)
      have a2 : Mp.MulOk q 10000000 := mul_r (by omega)
      have a3 : 1 ≤ q * 10000000 := by omega
      have a4 := log_small (i := q * 10000000) (by omega)
      obtain ⟨p', q', e', hq1', hq2', hp'⟩ := low_form (a := p * 10000000 + 1) a3
      have b1 := log_small (i := p') (by omega)
      have b2 := log_small (i := q') (by omega)
      simp [a1, a2, a3, a4, e', b1, b2, l4, l1]
      split
      · exact ⟨by omega, fin _ _ _ _ hs4 (by omega) (by omega) _ (.inr rfl)⟩
      · exact ⟨by omega, fin _ _ _ _ hs4 (by omega) (by omega) _ (.inl rfl)⟩
    · rename_i e3
      split
      · rename_i e4
        subst e4
        simp [hs4]
        rintro _ _ src5 rfl hs5 m5 rfl h05 h15
        simp [hs5]
        rintro _ _ src6 rfl hs6 m6 rfl h06 h16
        have a3 : 1 ≤ 1 + m6 := by omega
        have a4 := log_small (i := 1 + m6) (by omega)
        obtain ⟨p', q', e', hq1', hq2', hp'⟩ := low_form (a := 1 + m5) a3
        have b1 := log_small (i := p') (by omega)
        have b2 := log_small (i := q') (by omega)
        simp [a3, a4, e', b1, b2, l4, l1]
        split
        · exact ⟨by omega, fin _ _ _ _ hs6 (by omega) (by omega) _ (.inr rfl)⟩
        · exact ⟨by omega, fin _ _ _ _ hs6 (by omega) (by omega) _ (.inl rfl)⟩
      · have b1 := log_small (i := p) (by omega)
        have b2 := log_small (i := q) (by omega)
        simp [b1, b2, l4, l1]
        split
        · exact ⟨by omega, fin _ _ _ _ hs4 (by omega) (by omega) _ (.inr rfl)⟩
        · exact ⟨by omega, fin _ _ _ _ hs4 (by omega) (by omega) _ (.inl rfl)⟩
  · rintro e ⟨src, acc, a, b, c, rfl, hs, hlen, hacc⟩
    simp at hlen
    simp [hs, hlen]
    exact hacc
end K1

set_option Elab.async false
set_option linter.all false
set_option maxRecDepth 100000
set_option maxHeartbeats 1000000
namespace K1
open PySem PySem.Spec PyProof.Rows L2 Mp
def anyRc : Nat → Nat → Ps → P
  | 0 => fun _ _ => .dead
  | d + 1 => fun i es => .callIo (20 + d) i es
theorem simple_gd : ∀ x ∈ ([.none, .bool true, .bool false, .int 0, .int 1, .int 2, .int 4, .int (-2), .int 1000000000, .str "", .str "cut", .str "mark", .str "half", .str "same", .tuple [.int 1, .int 1], .tuple [.int 1, .int 2], .tuple [], .list []] : List PyData), gd 4 1 x = true := by decide +kernel
theorem k_any (d : Nat) (hf : ∀ j, d = j + 1 → G.fns (20 + j) = s_any j) : Keeps G 6 .io 2 (s_any d) (b_law_any_value (anyRc d)) := by
  rintro hv ds hk hl ⟨src, rfl, hs, rfl⟩
  have fin : ∀ x ∈ ([.none, .bool true, .bool false, .int 0, .int 1, .int 2, .int 4, .int (-2), .int 1000000000, .str "", .str "cut", .str "mark", .str "half", .str "same", .tuple [.int 1, .int 1], .tuple [.int 1, .int 2], .tuple [], .list []] : List PyData), isR (.v x) x ∧ gd 4 (d + 1) x = true := fun x hx => ⟨.inl rfl, gd_up1 (Nat.le_refl _) (by omega) (simple_gd x hx)⟩
  simp [b_law_any_value, env0, hs, -List.mem_cons]
  rintro _ _ src1 rfl hs1 m rfl h0 h1
  simp [-List.mem_cons]
  by_cases hd : (d : Int) < 1
  · simp [hd, hs1, -List.mem_cons]
    rintro _ _ src2 rfl hs2 x hx rfl
    simp [hs2]
    exact ⟨x, fin x hx⟩
  · simp [hd, -List.mem_cons]
    split
    · simp [hs1, -List.mem_cons]
      rintro _ _ src2 rfl hs2 x hx rfl
      simp [hs2]
      exact ⟨x, fin x hx⟩
    · obtain ⟨j, rfl⟩ : ∃ j, d = j + 1 := ⟨d - 1, by omega⟩
      have hfj := hf j rfl
      simp [hs1, -List.mem_cons]
      rintro _ _ src2 rfl hs2 m2 rfl h02 h12
      simp
      refine ⟨⟨by omega, by omega⟩, ?_⟩
      generalize Sl.o _ = L4
      refine cmp_inv (fun rem acc e => ∃ src, e = [Sl.io src, Sl.v (.int ((j : Int) + 1)), L4, Sl.v (.int m), Sl.no, Sl.no] ∧ Src src ∧ acc.length + rem.length = m2.toNat ∧ ∀ y ∈ acc, gd 4 (j + 1) y = true)
        ⟨src2, rfl, hs2, by simp [rngD], by simp⟩ ?_ ?_ ?_
      · rintro d' r' acc' e' K' ⟨src, rfl, hs', hlen', hacc'⟩ hsome hnone
        simp [cturn, anyRc, hfj, hs']
        rintro r _ src5 rfl hs5 v hr hg
        simp at hlen'
        have k := hsome v [Sl.io src5, Sl.v (.int ((j : Int) + 1)), L4, Sl.v (.int m), Sl.no, Sl.no] ⟨src5, rfl, hs5, by simp; omega, all_snoc hacc' hg⟩
        rcases hr with rfl | ⟨ds, rfl, rfl⟩
        · simp; exact k
        · simp; exact k
      · rintro d' r' acc' e' ⟨src, rfl, hs', hlen', hacc'⟩
        simp at hlen'
        show _ < 16777216
        omega
      · rintro acc' e' ⟨src, rfl, hs', hlen', hacc'⟩
        simp at hlen'
        have c1 : acc'.length ≤ 4 := by omega
        have c2 : gd 4 (j + 1 + 1) (.list acc') = true := by simp [gd, c1]; exact hacc'
        have c3 : gd 4 (j + 1 + 1) (.tuple acc') = true := by simp [gd, c1]; exact hacc'
        simp
        split
        · simp [hs']
          exact ⟨_, .inr ⟨_, rfl, rfl⟩, c2⟩
        · simp [hs']
          exact ⟨_, .inl rfl, c3⟩
theorem gd_tup {m n : Nat} {l : List PyData} (h1 : l.length ≤ m) (h2 : ∀ y ∈ l, gd m n y = true) : gd m (n + 1) (.tuple l) = true := by simp [gd, h1]; exact h2
theorem gd_lst {m n : Nat} {l : List PyData} (h1 : l.length ≤ m) (h2 : ∀ y ∈ l, gd m n y = true) : gd m (n + 1) (.list l) = true := by simp [gd, h1]; exact h2
def varRc : Nat → Nat → Ps → P
  | 0 => fun _ _ => .dead
  | d + 1 => fun i es => .callIo (24 + d) i es
theorem cut_to {xs : List PyData} {k : Nat} : cutD xs none (some (k : Int)) = xs.take k := by
  unfold Mp.cutD
  rw [HT.sIx_nat, HT.sIx_none]
  simp
theorem cut_from {xs : List PyData} {k : Nat} : cutD xs (some (k : Int)) none = xs.drop k := by
  unfold Mp.cutD
  rw [HT.sIx_nat, HT.sIx_none]
  by_cases h : k ≤ xs.length
  · rw [Nat.min_eq_left h]
    exact List.take_of_length_le (by simp)
  · rw [List.drop_eq_nil_of_le (show xs.length ≤ min k xs.length by omega), List.drop_eq_nil_of_le (show xs.length ≤ k by omega)]
    simp
theorem cut_to1 {xs : List PyData} {k : Nat} : Mp.cutD xs none (some ((k : Int) + 1)) = xs.take (k + 1) := cut_to (k := k + 1)
theorem cut_from1 {xs : List PyData} {k : Nat} : Mp.cutD xs (some ((k : Int) + 1)) none = xs.drop (k + 1) := cut_from (k := k + 1)
theorem cut_from2 {xs : List PyData} {k : Nat} : Mp.cutD xs (some ((k : Int) + 2)) none = xs.drop (k + 2) := cut_from (k := k + 2)
theorem cut_mid {xs : List PyData} {k : Nat} (h : k < xs.length) : Mp.cutD xs (some (k : Int)) (some ((k : Int) + 2)) = (xs.drop k).take 2 := by
  unfold Mp.cutD
  rw [show ((k : Int) + 2) = ((k + 2 : Nat) : Int) from rfl, HT.sIx_nat, HT.sIx_nat, Nat.min_eq_left (Nat.le_of_lt h), List.take_eq_take_iff]
  simp
  omega
theorem if3 {b p q : Prop} [Decidable b] [Decidable p] [Decidable q] {A A2 A3 B : Prop} (h1 : b → p → q → A) (h2 : B) : if b then (if p then (if q then A else B) else (if p then A2 else B)) else (if b then A3 else B) := by
  by_cases x : b
  · by_cases y : p
    · by_cases z : q
      · rw [if_pos x, if_pos y, if_pos z]; exact h1 x y z
      · rw [if_pos x, if_pos y, if_neg z]; exact h2
    · rw [if_pos x, if_neg y, if_neg y]; exact h2
  · rw [if_neg x, if_neg x]; exact h2
theorem cut_in {xs : List PyData} {lo hi : Option Int} {y : PyData} (h : y ∈ cutD xs lo hi) : y ∈ xs := List.mem_of_mem_drop (List.mem_of_mem_take h)
theorem clos {d : Nat} {l ps : List PyData} (hl : ps.length ≤ l.length + 1) (he : ∀ y ∈ ps, y ∈ l ∨ ∀ m n, 4 ≤ m → d + 3 ≤ n → (∀ x ∈ l, gd m n x = true) → gd (m + 1) n y = true) :
    ∀ m n, 4 ≤ m → d + 4 ≤ n → gd m n (.tuple l) = true → gd (m + 1) n (.tuple ps) = true ∧ gd (m + 1) n (.list ps) = true := by
  intro m n hm hn hg
  obtain ⟨n, rfl⟩ : ∃ k, n = k + 1 := ⟨n - 1, by omega⟩
  simp only [gd, Bool.and_eq_true, decide_eq_true_eq, List.all_eq_true] at hg
  have all : ∀ y ∈ ps, gd (m + 1) n y = true := fun y hy => (he y hy).elim (fun h => gd_up1 (by omega) (Nat.le_refl _) (hg.2 y h)) fun h => h m n hm (by omega) hg.2
  exact ⟨gd_tup (by omega) all, gd_lst (by omega) all⟩
theorem near_gd : ∀ x ∈ ([.int 0, .int 1, .int 2, .int 3, .int 5, .int 6, .int (-1), .bool true, .str "cut", .str "mark", .str "half", .str "drop", .str "repeat", .tuple [.int 1, .int 1], .tuple [.int 2, .int 4], .tuple [.int 3, .int 4], .tuple [.str "mark"]] : List PyData), gd 4 1 x = true := by decide +kernel
theorem mem_set' {ps : List PyData} {k : Nat} {v y : PyData} (h : y ∈ ps.set k v) : y ∈ ps ∨ y = v := by
  rcases List.mem_or_eq_of_mem_set h with h | h
  · exact .inl h
  · exact .inr h
theorem k_variant (d : Nat) (hf : ∀ j, d = j + 1 → G.fns (24 + j) = s_variant j) : Keeps G 8 .io 3 (s_variant d) (b_law_variant (varRc d)) := by
  rintro hv ds hk hl ⟨src, rfl, hs, l, m0, n0, rfl, hg, hd, hm⟩
  have hlen : l.length < 1000 := by
    cases n0 with
    | zero => cases hg
    | succ n0 => simp only [gd, Bool.and_eq_true, decide_eq_true_eq] at hg; omega
  have hin : ∀ y ∈ l, ∃ n, gd m0 n y = true ∧ n ≤ 40 := fun y hy => by
    cases n0 with
    | zero => cases hg
    | succ n0 => exact ⟨n0, gd_in hg hy, by omega⟩
  have hshl : SeqAt.shaped (.list l) = true := by
    cases n0 with
    | zero => cases hg
    | succ n0 =>
      simp only [gd, Bool.and_eq_true, decide_eq_true_eq, List.all_eq_true] at hg
      exact shaped_of (gd_lst hg.1 hg.2) (by omega)
  have finT : ∀ ps : List PyData, ps.length ≤ l.length + 1 → (∀ y ∈ ps, y ∈ l ∨ ∀ m n, 4 ≤ m → d + 3 ≤ n → (∀ x ∈ l, gd m n x = true) → gd (m + 1) n y = true) →
      ∃ v, isR (.v (.tuple ps)) v ∧ ∀ m n, 4 ≤ m → d + 4 ≤ n → gd m n (.tuple l) = true → gd (m + 1) n v = true := fun ps h1 h2 => ⟨_, .inl rfl, fun m n h3 h4 h5 => (clos h1 h2 m n h3 h4 h5).1⟩
  have finL : ∀ ps : List PyData, ps.length ≤ l.length + 1 → (∀ y ∈ ps, y ∈ l ∨ ∀ m n, 4 ≤ m → d + 3 ≤ n → (∀ x ∈ l, gd m n x = true) → gd (m + 1) n y = true) →
      ∃ v, isR (.o ps) v ∧ ∀ m n, 4 ≤ m → d + 4 ≤ n → gd m n (.tuple l) = true → gd (m + 1) n v = true := fun ps h1 h2 => ⟨_, .inr ⟨_, rfl, rfl⟩, fun m n h3 h4 h5 => (clos h1 h2 m n h3 h4 h5).2⟩
  have own : ∀ ps : List PyData, ps.length ≤ l.length + 1 → (∀ y ∈ ps, y ∈ l) → ∃ v, isR (.v (.tuple ps)) v ∧ ∀ m n, 4 ≤ m → d + 4 ≤ n → gd m n (.tuple l) = true → gd (m + 1) n v = true := fun ps h1 h2 => finT ps h1 fun y hy => .inl (h2 y hy)
  have newA : ∀ {v : PyData} {k : Nat}, gd 4 k v = true → k ≤ 3 → ∀ m n, 4 ≤ m → d + 3 ≤ n → (∀ x ∈ l, gd m n x = true) → gd (m + 1) n v = true := fun h hk m n h1 h2 _ => gd_up1 (by omega) (by omega) h
  by_cases hnil : l = []
  · subst hnil
    simp [b_law_variant, env0, eqok_sh sh_nilL sh_nilL, hs]
    rintro r _ src1 rfl hs1 v hr hg1
    have q := finT [v] (by simp) (by
      intro y hy
      rw [List.mem_singleton.mp hy]
      exact .inr (newA hg1 (by omega)))
    rcases hr with rfl | ⟨ds, rfl, rfl⟩
    · simp [hs1]; exact q
    · simp [hs1]; exact q
  · have hpos : 0 < l.length := List.length_pos_iff.mpr hnil
    have hne : PyData.eqvAll l [] = false := by
      cases l with
      | nil => exact absurd rfl hnil
      | cons => simp
    simp [b_law_variant, env0, eqok_sh hshl sh_nilL, hs, hne, hpos]
    refine ⟨by omega, ?_⟩
    rintro _ _ src1 rfl hs1 sp rfl h0 h1
    obtain ⟨k, rfl⟩ := Int.eq_ofNat_of_zero_le h0
    have hk2 : k < l.length := by omega
    simp [hs1]
    rintro _ _ src2 rfl hs2 way rfl hw0 hw1
    simp [-seqK_at]
    simp only [seqK_at]
    simp [-seqK_at]
    rw [ixAt_k (List.getElem?_eq_getElem hk2)]
    simp only [seqK_at]
    simp [-seqK_at]
    have hxl : l[k] ∈ l := List.getElem_mem hk2
    obtain ⟨nx, hgx, hnx⟩ := hin _ hxl
    obtain ⟨b, hb, hbt⟩ := isTy_tup (gdV_of hgx (by omega) hnx)
    rw [hb]
    simp [-seqK_at]
    refine if3 (b := b = true) (p := 0 < d) (q := 2 < way) (fun hb1 hd0 hw2 => ?_) ?_
    · obtain ⟨inner, hxi⟩ := hbt.mp hb1
      obtain ⟨j, rfl⟩ : ∃ j, d = j + 1 := ⟨d - 1, by omega⟩
      rw [hxi] at hgx hxl ⊢
      simp [varRc, hf j rfl, hs2]
      refine ⟨⟨m0, nx, hgx, hnx, hm⟩, ?_⟩
      rintro r _ src3 rfl hs3 v hr hv
      have q2 := finT (l.take k ++ v :: l.drop (k + 1)) (by simp; omega) (fun y hy => by
        rcases List.mem_append.mp hy with h | h
        · exact .inl (List.mem_of_mem_take h)
        · rcases List.mem_cons.mp h with rfl | h
          · exact .inr fun m n h1 h2 h3 => hv m n h1 (by omega) (h3 _ hxl)
          · exact .inl (List.mem_of_mem_drop h))
      have pe : ∀ v, (∃ v', isR (.v (.tuple v)) v' ∧ ∀ m n, 4 ≤ m → j + 1 + 4 ≤ n → gd m n (.tuple l) = true → gd (m + 1) n v' = true) → (s_variant (j + 1)).post (.io src) [.tuple l, .int ((j : Int) + 1)] (.v (.tuple v)) (.io src3) := fun v h => ⟨src3, rfl, hs3, l, _, rfl, h.choose_spec.1, h.choose_spec.2⟩
      rcases hr with rfl | ⟨ds, rfl, rfl⟩
      · simp [cut_to, cut_from1, hs3]
        exact ⟨by omega, by omega, pe _ q2⟩
      · simp [cut_to, cut_from1, hs3]
        exact ⟨by omega, by omega, pe _ q2⟩
    · simp [-List.mem_cons]
      split
      · simp [cut_to, cut_from1, hs2]
        exact ⟨by omega, own _ (by simp; omega) fun y hy => (List.mem_append.mp hy).elim List.mem_of_mem_take List.mem_of_mem_drop⟩
      · split
        · simp [cut_to1, cut_from, hs2]
          exact ⟨by omega, own _ (by simp; omega) fun y hy => (List.mem_append.mp hy).elim List.mem_of_mem_take List.mem_of_mem_drop⟩
        · split
          · simp [cut_to, cut_mid hk2, cut_from2, hs2]
            refine ⟨by omega, by omega, own _ (by simp; omega) fun y hy => ?_⟩
            rcases List.mem_append.mp hy with h | h
            · exact List.mem_of_mem_take h
            · rcases List.mem_append.mp h with h | h
              · exact List.mem_of_mem_drop (List.mem_of_mem_take (List.mem_reverse.mp h))
              · exact List.mem_of_mem_drop h
          · split
            · simp [hs2]
              exact finL l (by omega) fun y hy => .inl hy
            · have setF : ∀ v : PyData, (∀ m n, 4 ≤ m → d + 3 ≤ n → (∀ x ∈ l, gd m n x = true) → gd (m + 1) n v = true) → ∃ v', isR (.v (.tuple (l.set k v))) v' ∧ ∀ m n, 4 ≤ m → d + 4 ≤ n → gd m n (.tuple l) = true → gd (m + 1) n v' = true := fun v hv => finT _ (by simp) fun y hy => by
                rcases mem_set' hy with h | rfl
                · exact .inl h
                · exact .inr hv
              split
              · simp [hs2]
                rintro r _ src3 rfl hs3 v hr hg3
                have q := setF v (newA hg3 (by omega))
                rcases hr with rfl | ⟨ds, rfl, rfl⟩
                · simp
                  rw [ixSet_k (n := 0) hk2]
                  simp [hs3]
                  exact q
                · simp
                  rw [ixSet_k (n := 0) hk2]
                  simp [hs3]
                  exact q
              · simp [hs2, -List.mem_cons]
                rintro _ _ src3 rfl hs3 v hv rfl
                have q := setF v (newA (near_gd v hv) (by omega))
                simp
                rw [ixSet_k (n := 0) hk2]
                simp [hs3]
                exact q
end K1

set_option Elab.async false
set_option linter.all false
set_option maxRecDepth 100000
set_option maxHeartbeats 1000000
namespace K1
open PySem PySem.Spec PyProof.Rows L2 Mp
theorem spread_gd {l : List PyData} : ∀ {i : Nat}, (∀ d ∈ l, stepB d = true) → (∀ d ∈ l, gd 8 5 d = true) → ∀ y ∈ (spreadD i l).map sndD, gd 8 5 y = true := by
  induction l with
  | nil => intro i _ _ y hy; simp [spreadD] at hy
  | cons x r ih =>
    intro i h1 h2 y hy
    have ih' := ih (i := i + 1) (fun d hd => h1 d (List.mem_cons_of_mem _ hd)) (fun d hd => h2 d (List.mem_cons_of_mem _ hd)) y
    have hx := h2 x List.mem_cons_self
    rcases step_inv (h1 x List.mem_cons_self) with ⟨n, inner, rfl, n1, n2, l1, l2, _⟩ | ⟨_, s, rest, rfl, hne, hr⟩
    · simp only [spreadD, List.map_append, List.mem_append] at hy
      rcases hy with hy | hy
      · obtain ⟨z, hz, rfl⟩ := List.mem_map.mp hy
        obtain ⟨blk, hb, hd⟩ := List.mem_flatten.mp hz
        obtain ⟨_, rfl⟩ := List.mem_replicate.mp hb
        obtain ⟨w, hw, rfl⟩ := List.mem_map.mp hd
        have hi : gd 8 4 (.tuple inner) = true := gd_in hx (by simp)
        exact gd_up1 (Nat.le_refl _) (by omega) (gd_in hi hw)
      · exact ih' hy
    · rw [spread_plain hr, List.map_cons] at hy
      rcases List.mem_cons.mp hy with rfl | hy
      · exact hx
      · exact ih' hy
theorem step_tup {x : PyData} (h : stepB x = true) : ∃ l, x = .tuple l := by
  rcases step_inv h with ⟨n, inner, rfl, _⟩ | ⟨_, s, rest, rfl, _⟩
  · exact ⟨_, rfl⟩
  · exact ⟨_, rfl⟩
def VV (v : PyData) : Prop := gd 10 10 v = true
theorem VV_gdV {v : PyData} (h : VV v) : gdV v := gdV_of h (by omega) (by omega)
theorem f_0 : stepB (.tuple [.str "cut", .tuple [.int 1, .int 3]]) = false := by decide +kernel
theorem f_1 : stepB (.tuple [.str "cut", .tuple [.int 9, .int 4]]) = false := by decide +kernel
theorem f_2 : stepB (.tuple [.str "cut", .tuple [.int 0, .int 1]]) = false := by decide +kernel
theorem f_3 : stepB (.tuple [.str "cut", .tuple [.int 2, .int 4]]) = false := by decide +kernel
theorem f_4 : stepB (.tuple [.str "cut", .int 1]) = false := by decide +kernel
theorem f_5 : stepB (.tuple [.str "mark", .int 1]) = false := by decide +kernel
theorem f_6 : stepB (.tuple [.str "repeat", .int 1, .tuple []]) = false := by decide +kernel
theorem f_7 : stepB (.tuple [.str "repeat", .int 6, .tuple [.tuple [.str "mark"]]]) = false := by decide +kernel
theorem f_8 : stepB (.tuple [.str "repeat", .int 2, .tuple []]) = false := by decide +kernel
theorem f_9 : stepB (.tuple [.str "repeat", .int 2, .tuple [.tuple [.str "repeat", .int 2, .tuple [.tuple [.str "mark"]]]]]) = false := by decide +kernel
theorem f_all : ∀ d ∈ ([.tuple [.str "cut", .tuple [.int 1, .int 3]], .tuple [.str "cut", .tuple [.int 9, .int 4]], .tuple [.str "cut", .tuple [.int 0, .int 1]], .tuple [.str "cut", .tuple [.int 2, .int 4]], .tuple [.str "cut", .int 1], .tuple [.str "mark", .int 1], .tuple [.str "repeat", .int 1, .tuple []], .tuple [.str "repeat", .int 6, .tuple [.tuple [.str "mark"]]], .tuple [.str "repeat", .int 2, .tuple []], .tuple [.str "repeat", .int 2, .tuple [.tuple [.str "repeat", .int 2, .tuple [.tuple [.str "mark"]]]]]] : List PyData), gd 100000 40 d = true := by decide +kernel
theorem sh_10 : SeqAt.shaped (.list (List.replicate 10 (.bool false))) = true := by decide +kernel
@[simp] theorem variant_post3 {hv h : Hdv} {r : R} {l : List PyData} : (s_variant 3).post hv [.tuple l, .int 3] r h = ∃ src, h = .io src ∧ Src src ∧ ∃ v, isR r v ∧ ∀ m n, 4 ≤ m → 3 + 4 ≤ n → gd m n (.tuple l) = true → gd (m + 1) n v = true := variant_post (d := 3)
theorem consts_VV : ∀ v ∈ ([.none, .tuple [], .tuple [.int 1, .int 4], .tuple [.int 2, .int 8], .tuple [.int 1, .int 5], .tuple [.int 0, .int 1], .tuple [.int 1, .int 0], .tuple [.int (-1), .int 2], .tuple [.int 1, .int (-2)], .tuple [.bool true, .int 1], .tuple [.int 5, .bool true], .list [.int 1, .int 1]] : List PyData), gd 10 10 v = true := by decide +kernel
theorem gd_34 : gd 8 7 (.tuple [.int 3, .int 4]) = true := by decide +kernel
theorem sp_gdV : gdV (.tuple [.str "repeat", .int 5, .tuple [.tuple [.str "cut", .tuple [.int 7, .int 4]], .tuple [.str "cut", .tuple [.int 7, .int 4]], .tuple [.str "cut", .tuple [.int 7, .int 4]], .tuple [.str "cut", .tuple [.int 7, .int 4]]]]) := by show gd _ _ _ = true; decide +kernel
theorem sp_step : stepB (.tuple [.str "repeat", .int 5, .tuple [.tuple [.str "cut", .tuple [.int 7, .int 4]], .tuple [.str "cut", .tuple [.int 7, .int 4]], .tuple [.str "cut", .tuple [.int 7, .int 4]], .tuple [.str "cut", .tuple [.int 7, .int 4]]]]) = true := by decide +kernel
theorem k_law : Keeps G 12 .sc 1 s_law b_law := by
  rintro hv ds hk hl ⟨ns, rfl, rfl, h63⟩
  simp [b_law, env0]
  refine ⟨?_, ?_⟩
  · constructor <;> (repeat' split) <;> omega
  refine for_of (fun rem e => ∃ a b c d e1 f g h i j k, e = [Sl.sc ns, a, b, c, d, e1, f, g, h, i, j, k] ∧ ∀ x ∈ rem, ∃ q : Int, x = .int q ∧ 0 ≤ q ∧ q < 20) ?_ ?_ ?_
  · refine ⟨_, _, _, _, _, _, _, _, _, _, _, rfl, fun x hx => ?_⟩
    simp [rngD] at hx
    obtain ⟨q, hq, rfl⟩ := hx
    refine ⟨_, rfl, by omega, ?_⟩
    revert hq
    (repeat' split) <;> omega
  · rintro t rem e K ht ⟨a, b, c, d, e1, f, g, h, i, j, k, rfl, hin⟩ hK
    obtain ⟨q, rfl, hq0, hq1⟩ := hin t List.mem_cons_self
    have hin' : ∀ x ∈ rem, ∃ q : Int, x = .int q ∧ 0 ≤ q ∧ q < 20 := fun x hx => hin x (List.mem_cons_of_mem _ hx)
    simp [hq0, show q ≤ 20 by omega, -seqK_at]
    rintro _ src rfl hs
    simp [-seqK_at]
    -- some
    simp only [seqK_at]
    simp [hs, -seqK_at]
    rintro _ _ src1 rfl hs1 l rfl hne hsc hg
    simp [-seqK_at]
    simp only [seqK_at]
    obtain ⟨h8, hst⟩ := script_in hsc
    have hgl : ∀ d ∈ l, gd 8 5 d = true := fun d hd => gd_in hg hd
    have hgv : gdV (.tuple l) := gdV_of hg (by omega) (by omega)
    have hlen := spread_len (i := 0) hst
    have hsgd := spread_gd (i := 0) hst hgl
    have hshs : SeqAt.shaped (.tuple ((spreadD 0 l).map sndD)) = true := shaped_of (m := 200) (gd_tup (by simp; omega) fun y hy => gd_up1 (by omega) (Nat.le_refl 5) (hsgd y hy)) (by omega)
    have hrefl : PyData.eqvAll ((spreadD 0 l).map sndD) ((spreadD 0 l).map sndD) = true := by
      have h1 := SeqAt.eqv_refl (.tuple ((spreadD 0 l).map sndD)) (SeqAt.canLay_of_shaped hshs)
      simpa using h1
    simp [hgv, hsc, -seqK_at]
    refine cmp_map sndD (by show _ ≤ 16777216; omega) (fun d hd K k => ?_) ?_
    · obtain ⟨j, x, rfl⟩ := spread_pair hd
      simp [cturn, sndD] at k ⊢
      exact k
    simp [eqok_sh hshs hshs, hrefl, -seqK_at]
    -- values
    obtain ⟨x, xs, rfl⟩ : ∃ x xs, l = x :: xs := by
      cases l with
      | nil => exact absurd rfl hne
      | cons x xs => exact ⟨x, xs, rfl⟩
    obtain ⟨sx, rfl⟩ := step_tup (hst x List.mem_cons_self)
    simp only [seqK_at]
    simp [-seqK_at]
    simp only [seqK_at]
    simp [hs1, -seqK_at]
    rintro _ _ src2 rfl hs2 five rfl h5 hfive
    simp [-seqK_at]
    refine ⟨by omega, by omega, ?_⟩
    simp only [seqK_at]
    simp [-seqK_at]
    have hsx : gd 8 5 (.tuple sx) = true := hgl _ List.mem_cons_self
    have vL : VV (.tuple (.tuple sx :: xs)) := gd_up1 (by omega) (by omega) hg
    have vl : VV (.list (.tuple sx :: xs)) := gd_up1 (m := 8) (n := 6) (by omega) (by omega) (gd_lst (by omega) hgl)
    have vS : VV (.tuple sx) := gd_up1 (by omega) (by omega) hsx
    have hsx' := hsx
    simp only [gd, Bool.and_eq_true, decide_eq_true_eq, List.all_eq_true] at hsx'
    have vs : VV (.list sx) := gd_up1 (m := 8) (n := 5) (by omega) (by omega) (gd_lst hsx'.1 hsx'.2)
    have v9 : VV (.tuple [.tuple sx, .tuple sx, .tuple sx, .tuple sx, .tuple sx, .tuple sx, .tuple sx, .tuple sx, .tuple sx]) := gd_up1 (m := 10) (n := 6) (by omega) (by omega) (gd_tup (by simp) fun y hy => by
      have : y = .tuple sx := by simpa using hy
      rw [this]
      exact gd_up1 (by omega) (Nat.le_refl _) hsx)
    have vF : ∀ v ∈ five, VV v := fun v hv => gd_up1 (by omega) (by omega) (hfive v hv)
    have vC := consts_VV
    refine for_of (fun rem e => ∃ src vals c5 c6 c7 c8 c9, e = [Sl.sc ns, Sl.v (.int q), Sl.v (.tuple (.tuple sx :: xs)), Sl.o src, Sl.o vals, c5, c6, c7, c8, c9, Sl.no, Sl.no] ∧ Src src ∧ (∀ v ∈ vals, VV v) ∧ vals.length + 2 * rem.length ≤ 100) ?_ ?_ ?_
    · refine ⟨_, _, _, _, _, _, _, rfl, hs2, fun v hv => ?_, ?_⟩
      · simp only [List.mem_cons, List.not_mem_nil, or_false, forall_eq_or_imp, forall_eq] at vC
        obtain ⟨q1, q2, q3, q4, q5, q6, q7, q8, q9, q10, q11, q12⟩ := vC
        simp only [List.mem_append, List.mem_cons, List.not_mem_nil, or_false] at hv
        rcases hv with h | h | h | h | h | h | h | h | h | h | h | h | h | h | h | h | h | h <;> first
          | (rw [h]; assumption)
          | exact vF _ h
          | (rcases h with h | h <;> first
              | (rw [h]; assumption)
              | exact vF _ h)
      · simp [rngD, h5]
    · rintro t2 rem2 e K2 ht2 ⟨src, vals, c5, c6, c7, c8, c9, rfl, hs, hv, hlen2⟩ hK2
      simp at hlen2
      simp [hs, -seqK_at, -List.mem_cons]
      rintro _ _ src3 rfl hs3 x hx rfl
      obtain ⟨lx, rfl, hlx⟩ : ∃ lx, x = .tuple lx ∧ gd 8 7 (.tuple lx) = true := by
        simp only [List.mem_cons, List.not_mem_nil, or_false] at hx
        rcases hx with rfl | rfl | rfl
        · exact ⟨_, rfl, gd_up1 (by omega) (by omega) hg⟩
        · exact ⟨_, rfl, gd_up1 (by omega) (by omega) hsx⟩
        · exact ⟨_, rfl, gd_34⟩
      simp [hs3, -seqK_at]
      refine ⟨⟨8, 7, hlx, by omega, by omega⟩, ?_⟩
      rintro r _ src4 rfl hs4 v hr hgv
      have hv9 : gd 9 7 v = true := hgv 8 7 (by omega) (by omega) hlx
      have vv : VV v := gd_up1 (by omega) (by omega) hv9
      have hv' := all_snoc hv vv
      -- the rest of the turn, the odd value kept
      have fin : ∀ c, K2 [Sl.sc ns, Sl.v (.int q), Sl.v (.tuple (.tuple sx :: xs)), Sl.o src4, Sl.o (vals ++ [v]), Sl.v t2, c6, c, c8, c9, Sl.no, Sl.no] := fun c => hK2 _ ⟨_, _, _, _, _, _, _, rfl, hs4, hv', by simp; omega⟩
      have second : ∀ lx2 : List PyData, v = .tuple lx2 → gd 9 7 (.tuple lx2) = true := fun lx2 e => by rw [← e]; exact hv9
      rcases hr with rfl | ⟨ds, rfl, rfl⟩
      · simp [-seqK_at]
        simp only [seqK_at]
        simp [-seqK_at]
        refine ⟨by omega, ?_⟩
        simp only [seqK_at]
        obtain ⟨b, hb, hbt⟩ := isTy_tup (VV_gdV vv)
        simp [hb]
        split
        · rename_i hbb
          obtain ⟨lx2, rfl⟩ := hbt.mp hbb
          simp [hs4]
          rintro _ _ src5 rfl hs5 m5 rfl h05 h15
          have fin5 : ∀ c, K2 [Sl.sc ns, Sl.v (.int q), Sl.v (.tuple (.tuple sx :: xs)), Sl.o src5, Sl.o (vals ++ [.tuple lx2]), Sl.v t2, c6, c, c8, c9, Sl.no, Sl.no] := fun c => hK2 _ ⟨_, _, _, _, _, _, _, rfl, hs5, hv', by simp; omega⟩
          simp
          split
          · simp [hs5]
            refine ⟨⟨9, 7, hv9, by omega, by omega⟩, ?_⟩
            rintro r2 _ src6 rfl hs6 w hr2 hgw
            have hw : VV w := gd_up1 (m := 10) (n := 7) (by omega) (by omega) (hgw 9 7 (by omega) (by omega) hv9)
            have fin6 : ∀ c, K2 [Sl.sc ns, Sl.v (.int q), Sl.v (.tuple (.tuple sx :: xs)), Sl.o src6, Sl.o (vals ++ [.tuple lx2, w]), Sl.v t2, c6, c, c8, c9, Sl.no, Sl.no] := fun c => hK2 _ ⟨_, _, _, _, _, _, _, rfl, hs6, fun y hy => (by
              rcases List.mem_append.mp hy with h | h
              · exact hv _ h
              · simp only [List.mem_cons, List.not_mem_nil, or_false] at h
                rcases h with rfl | rfl
                · exact vv
                · exact hw), by simp; omega⟩
            rcases hr2 with rfl | ⟨ds, rfl, rfl⟩
            · simp
              exact ⟨by omega, fin6 _⟩
            · simp
              exact ⟨by omega, fin6 _⟩
          · exact fin5 _
        · exact fin _
      · simp [-seqK_at]
        simp only [seqK_at]
        simp [-seqK_at]
        refine ⟨by omega, ?_⟩
        simp only [seqK_at]
        simp
        exact fin _
    · rintro e ⟨src, vals, c5, c6, c7, c8, c9, rfl, hs, hv, hlen2⟩
      simp at hlen2
      simp [-seqK_at]
      simp only [seqK_at]
      simp [hs, -seqK_at]
      rintro r _ src3 rfl hs3 v hr hg3
      have hv3 : VV v := gd_up1 (by omega) (by omega) hg3
      have hall := all_snoc hv hv3
      rcases hr with rfl | ⟨ds, rfl, rfl⟩
      · simp
        refine ⟨by omega, ?_⟩
        refine for_of (fun rem e => ∃ c6 c8, e = [Sl.sc ns, Sl.v (.int q), Sl.v (.tuple (.tuple sx :: xs)), Sl.o src3, Sl.o vals, c5, c6, c7, c8, c9, Sl.no, Sl.no]) ⟨_, _, rfl⟩ ?_ ?_
        · rintro w rem3 e K3 hw ⟨c6, c8, rfl⟩ hK3
          have hg := VV_gdV (hall w hw)
          have done := hK3 _ ⟨Sl.v w, Sl.v (.bool (scriptB w)), rfl⟩
          by_cases hgood : scriptB w = true
          · rw [hgood] at done
            simp [hg, hgood]
            exact done
          · have hgood' : scriptB w = false := by simpa using hgood
            rw [hgood'] at done
            simp [hg, hgood']
            exact done
        · rintro e ⟨c6, c8, rfl⟩
          simp
          exact hK _ ⟨_, _, _, _, _, _, _, _, _, _, _, rfl, hin'⟩
      · simp
        refine ⟨by omega, ?_⟩
        refine for_of (fun rem e => ∃ c6 c8, e = [Sl.sc ns, Sl.v (.int q), Sl.v (.tuple (.tuple sx :: xs)), Sl.o src3, Sl.o vals, c5, c6, c7, c8, c9, Sl.no, Sl.no]) ⟨_, _, rfl⟩ ?_ ?_
        · rintro w rem3 e K3 hw ⟨c6, c8, rfl⟩ hK3
          have hg := VV_gdV (hall w hw)
          have done := hK3 _ ⟨Sl.v w, Sl.v (.bool (scriptB w)), rfl⟩
          by_cases hgood : scriptB w = true
          · rw [hgood] at done
            simp [hg, hgood]
            exact done
          · have hgood' : scriptB w = false := by simpa using hgood
            rw [hgood'] at done
            simp [hg, hgood']
            exact done
        · rintro e ⟨c6, c8, rfl⟩
          simp
          exact hK _ ⟨_, _, _, _, _, _, _, _, _, _, _, rfl, hin'⟩
  · rintro e ⟨a, b, c, d, e1, f, g, h, i, j, k, rfl, hin⟩
    simp [-seqK_at]
    simp only [seqK_at]
    simp
    refine cmp_map (fun d => .bool (stepB d)) (by simp) (fun d hd K k => ?_) ?_
    · have hgd : gdV d := f_all d hd
      simp [cturn, hgd] at k ⊢
      exact k
    · simp [f_0, f_1, f_2, f_3, f_4, f_5, f_6, f_7, f_8, f_9, sp_gdV, sp_step]
      exact ⟨by decide +kernel, rfl⟩
end K1

set_option Elab.async false
set_option linter.all false
set_option maxRecDepth 100000
set_option maxHeartbeats 1000000
namespace K1
open PySem PySem.Spec PyProof.Rows L2 Mp
def Has (K : PySem.W.Frag) (mg : Str → Option Value) (x : Str) (st : Stmt) (ps : List Str) : Prop := ∃ (f : Addr) (fd : FuncData), mg x = some (.ref f) ∧ Fun K x x st f fd ∧ Binds K fd ps []
abbrev Bnd (x : Str) (st : Stmt) (ps : List Str) : Prop := ∀ (kV doc pm : Value) (an : Option Addr) (cdv ct : Value) (us : List Value), us.length = ps.length → bindArgs (PySem.W.fnOf x x (defArgs st) (defBody st) (defScope st) .none kV doc pm an cdv ct) ⟨us, []⟩ = pure (ps.zip us)
theorem has_mk {K : PySem.W.Frag} {h : Heap} {mg : Str → Option Value} {x : Str} {st : Stmt} {ps : List Str} {f : Addr} {od an : Option Addr} {sl : Array (Option Value)} {oc kV dc pm cd ct : Value} (hb : Bnd x st ps) (X : K.In h) (Gn : h.Ns mainGlobals mg)
    (a1 : PySem.W.nsIn K mainGlobals x = some (some (.ref f))) (l1 : K.lookup f = some ⟨oc, od, .func (PySem.W.fnOf x x (defArgs st) (defBody st) (defScope st) .none kV dc pm an cd ct), sl⟩) (c1 : PySem.W.codeIn K cd x = true) (k1 : PySem.W.keepIn K (.ref f) = true) : Has K mg x st ps :=
  ⟨f, _, PySem.W.mg_of X Gn a1, fun_mk l1 c1 k1, (fun_mk l1 c1 k1).binds hb⟩
def HasC (K : PySem.W.Frag) (mg : Str → Option Value) (x : Str) (d : PyData) : Prop := ∃ v u, mg x = some u ∧ RelV v u ∧ Rep K (fun _ => none) v d
theorem rep_K {K : PySem.W.Frag} {H : Hp} {a : Addr} {od : Option Addr} {its : List Value} {n : Nat} {sl : Array (Option Value)} {xs : List V} {ds : List PyData} (e : K.lookup a = some ⟨.type "tuple", od, .seq its.toArray n, sl⟩) (hs : its.length ≤ 1000) (hv : Vals xs its) (r : Reps K H xs ds) : Rep K H (.ref a) (.tuple ds) :=
  .tup (.inr ⟨_, its.toArray, n, e, rfl, rfl, by rw [sizeLine_eq]; simp; omega, by simpa using hv⟩) r
theorem pair_K {K : PySem.W.Frag} {H : Hp} {a : Addr} {od : Option Addr} {t1 t2 : Tok} {n : Nat} {sl : Array (Option Value)} {i j : Int} (e : K.lookup a = some ⟨.type "tuple", od, .seq #[.int i t1, .int j t2] n, sl⟩) : Rep K H (.ref a) (.tuple [.int i, .int j]) :=
  rep_K (its := [.int i t1, .int j t2]) (xs := [.int i, .int j]) e (by simp) (.cons ⟨t1, rfl⟩ (.cons ⟨t2, rfl⟩ .nil)) (.cons (.int i) (.cons (.int j) .nil))
theorem con_strs {K : PySem.W.Frag} {h : Heap} {mg : Str → Option Value} {x : Str} {a : Addr} {od : Option Addr} {s1 s2 s3 s4 r1 r2 r3 r4 : Str} {t1 t2 t3 t4 : Tok} {n : Nat} {sl : Array (Option Value)} (X : K.In h) (Gn : h.Ns mainGlobals mg) (a1 : PySem.W.nsIn K mainGlobals x = some (some (.ref a)))
    (e : K.lookup a = some ⟨.type "tuple", od, .seq #[.str s1 t1, .str s2 t2, .str s3 t3, .str s4 t4] n, sl⟩) (hs : (s1 == r1 && s2 == r2 && s3 == r3 && s4 == r4) = true) : HasC K mg x (.tuple [.str r1, .str r2, .str r3, .str r4]) := by
  simp only [Bool.and_eq_true, beq_iff_eq] at hs
  obtain ⟨⟨⟨rfl, rfl⟩, rfl⟩, rfl⟩ := hs
  exact ⟨.ref a, _, PySem.W.mg_of X Gn a1, rfl, rep_K (its := [.str s1 t1, .str s2 t2, .str s3 t3, .str s4 t4]) (xs := [.str s1, .str s2, .str s3, .str s4]) e (by simp) (.cons ⟨t1, rfl⟩ (.cons ⟨t2, rfl⟩ (.cons ⟨t3, rfl⟩ (.cons ⟨t4, rfl⟩ .nil)))) (.cons (.str _) (.cons (.str _) (.cons (.str _) (.cons (.str _) .nil))))⟩
theorem con_int {K : PySem.W.Frag} {h : Heap} {mg : Str → Option Value} {x : Str} {i : Int} {t : Tok} (X : K.In h) (Gn : h.Ns mainGlobals mg) (a : PySem.W.nsIn K mainGlobals x = some (some (.int i t))) : HasC K mg x (.int i) := ⟨.int i, _, PySem.W.mg_of X Gn a, ⟨t, rfl⟩, .int i⟩
theorem con_tup {K : PySem.W.Frag} {h : Heap} {mg : Str → Option Value} {x : Str} {a : Addr} {d : PyData} (X : K.In h) (Gn : h.Ns mainGlobals mg) (e : PySem.W.nsIn K mainGlobals x = some (some (.ref a))) (r : Rep K (fun _ => none) (.ref a) d) : HasC K mg x d := ⟨.ref a, _, PySem.W.mg_of X Gn e, rfl, r⟩
def HasX (K : PySem.W.Frag) (mg : Str → Option Value) (x : Str) : Prop := ∃ (C : Addr) (bmB : List Value) (B newId initId : String), mg x = some (.ref C) ∧ ExcBaseFacts B newId initId bmB ∧ PySem.W.excIn K C bmB newId = true ∧ PySem.W.keepIn K (.ref C) = true ∧
    PySem.W.subIn K (.ref C) (.type "BaseException") = some true ∧ PySem.W.typeIn K (.ref C) = some (.type "type") ∧ PySem.W.exmOne K (.ref C) (.ref C) = some true
theorem exm_me {K : PySem.W.Frag} {C : Addr} (h1 : PySem.W.subIn K (.ref C) (.type "BaseException") = some true) (h2 : PySem.W.isClsIn K C = true) (h3 : PySem.W.typeIn K (.ref C) = some (.type "type")) (h4 : PySem.W.subIn K (.ref C) (.ref C) = some true) : PySem.W.exmOne K (.ref C) (.ref C) = some true := by
  have h2' : (PySem.W.clsIn K C).isSome = true := h2
  simp [PySem.W.exmOne, PySem.W.kitCls, h1, h2', h3, h4]
theorem hasX_mk {K : PySem.W.Frag} {h : Heap} {mg : Str → Option Value} {x : Str} {C : Addr} (X : K.In h) (Gn : h.Ns mainGlobals mg) (a : PySem.W.nsIn K mainGlobals x = some (some (.ref C))) (q : PySem.W.excIn K C [.type "ValueError", .type "Exception", .type "BaseException", .type "object"] "ValueError.__new__" = true)
    (k : PySem.W.keepIn K (.ref C) = true) (s : PySem.W.subIn K (.ref C) (.type "BaseException") = some true) (t : PySem.W.typeIn K (.ref C) = some (.type "type")) (ci : PySem.W.isClsIn K C = true) (e : PySem.W.subIn K (.ref C) (.ref C) = some true) : HasX K mg x := ⟨C, _, _, _, _, PySem.W.mg_of X Gn a, PySem.F.excBase_ValueError, q, k, s, t, exm_me s ci t e⟩
structure Facts (K : PySem.W.Frag) (mg : Str → Option Value) : Prop where
  h_lowest : Has K mg "lowest" t_lowest ["top", "below"]
  h_is_less : Has K mg "is_less" t_is_less ["one", "other"]
  h_is_whole : Has K mg "is_whole" t_is_whole ["value", "low", "high"]
  h_is_fraction : Has K mg "is_fraction" t_is_fraction ["value"]
  h_is_length : Has K mg "is_length" t_is_length ["value"]
  h_is_plain_step : Has K mg "is_plain_step" t_is_plain_step ["value"]
  h_is_right_step : Has K mg "is_right_step" t_is_right_step ["value"]
  h_is_right_script : Has K mg "is_right_script" t_is_right_script ["value"]
  h_is_right_pattern : Has K mg "is_right_pattern" t_is_right_pattern ["value"]
  h_need_script : Has K mg "need_script" t_need_script ["value"]
  h_spread : Has K mg "spread" t_spread ["script"]
  h_is_step : Has K mg "is_step" t_is_step ["value"]
  h_is_script : Has K mg "is_script" t_is_script ["value"]
  h_is_pattern : Has K mg "is_pattern" t_is_pattern ["value"]
  h_plain : Has K mg "plain" t_plain ["script"]
  h_law_source : Has K mg "_law_source" t_law_source ["script", "k"]
  h_law_pick : Has K mg "_law_pick" t_law_pick ["source", "many"]
  h_law_chosen : Has K mg "_law_chosen" t_law_chosen ["source", "things"]
  h_law_is_bool : Has K mg "_law_is_bool" t_law_is_bool ["told", "due"]
  h_law_wide : Has K mg "_law_wide" t_law_wide ["value", "low", "high"]
  h_law_any_value : Has K mg "_law_any_value" t_law_any_value ["source", "deep"]
  h_law_variant : Has K mg "_law_variant" t_law_variant ["source", "value", "deep"]
  h_law_whole : Has K mg "_law_whole" t_law_whole ["value", "low", "high"]
  h_law_among : Has K mg "_law_among" t_law_among ["value", "some"]
  h_law_lowest : Has K mg "_law_lowest" t_law_lowest ["top", "below"]
  h_law_good_plain : Has K mg "_law_good_plain" t_law_good_plain ["value"]
  h_law_good_step : Has K mg "_law_good_step" t_law_good_step ["value"]
  h_law_good_script : Has K mg "_law_good_script" t_law_good_script ["value"]
  h_law_single : Has K mg "_law_single" t_law_single ["source"]
  h_law_some : Has K mg "_law_some" t_law_some ["source", "most"]
  h_law_spread : Has K mg "_law_spread" t_law_spread ["script"]
  h_law_less : Has K mg "_law_less" t_law_less ["one", "other"]
  h_law_patterns : Has K mg "_law_patterns" t_law_patterns ["source", "many"]
  h_law_good_pattern : Has K mg "_law_good_pattern" t_law_good_pattern ["value"]
  h_law_refused : Has K mg "_law_refused" t_law_refused ["value"]
  h_law : Has K mg "law" t_law ["script"]
  c0 : HasC K mg "MOST_STEPS" (.int 8)
  c1 : HasC K mg "LEAST_PATTERN" (.tuple [.int 1, .int 4])
  c2 : HasC K mg "PLACES" (.tuple [.str "drop", .str "half", .str "mark", .str "match"])
  c3 : HasC K mg "LENGTHS" (.tuple quarters)
  x0 : HasX K mg "InvalidScript"
  blt : ∀ x ∈ bltNames, mg x = none
theorem bn_lowest : Bnd "lowest" t_lowest ["top", "below"] := fun _ _ _ _ _ _ us hl => match us, hl with | [_, _], _ => rfl
theorem sc_lowest : FnScope n_lowest ["top", "below"] (defScope t_lowest) := ⟨rfl, rfl, rfl, by decide +kernel, rfl, by decide +kernel, by decide +kernel⟩
theorem d_lowest_0 : chkSs G n_lowest 0 (defScope t_lowest) b_lowest (defBody t_lowest) = true := by decide +kernel
theorem bn_is_less : Bnd "is_less" t_is_less ["one", "other"] := fun _ _ _ _ _ _ us hl => match us, hl with | [_, _], _ => rfl
theorem sc_is_less : FnScope n_is_less ["one", "other"] (defScope t_is_less) := ⟨rfl, rfl, rfl, by decide +kernel, rfl, by decide +kernel, by decide +kernel⟩
theorem d_is_less_0 : chkSs G n_is_less 0 (defScope t_is_less) b_is_less (defBody t_is_less) = true := by decide +kernel
theorem bn_is_whole : Bnd "is_whole" t_is_whole ["value", "low", "high"] := fun _ _ _ _ _ _ us hl => match us, hl with | [_, _, _], _ => rfl
theorem sc_is_whole : FnScope n_is_whole ["value", "low", "high"] (defScope t_is_whole) := ⟨rfl, rfl, rfl, by decide +kernel, rfl, by decide +kernel, by decide +kernel⟩
theorem d_is_whole_0 : chkSs G n_is_whole 0 (defScope t_is_whole) b_is_whole (defBody t_is_whole) = true := by decide +kernel
theorem bn_is_fraction : Bnd "is_fraction" t_is_fraction ["value"] := fun _ _ _ _ _ _ us hl => match us, hl with | [_], _ => rfl
theorem sc_is_fraction : FnScope n_is_fraction ["value"] (defScope t_is_fraction) := ⟨rfl, rfl, rfl, by decide +kernel, rfl, by decide +kernel, by decide +kernel⟩
theorem d_is_fraction_0 : chkSs G n_is_fraction 1 (defScope t_is_fraction) b_is_fraction (defBody t_is_fraction) = true := by decide +kernel
theorem bn_is_length : Bnd "is_length" t_is_length ["value"] := fun _ _ _ _ _ _ us hl => match us, hl with | [_], _ => rfl
theorem sc_is_length : FnScope n_is_length ["value"] (defScope t_is_length) := ⟨rfl, rfl, rfl, by decide +kernel, rfl, by decide +kernel, by decide +kernel⟩
theorem d_is_length_0 : chkSs G n_is_length 2 (defScope t_is_length) b_is_length (defBody t_is_length) = true := by decide +kernel
theorem bn_is_plain_step : Bnd "is_plain_step" t_is_plain_step ["value"] := fun _ _ _ _ _ _ us hl => match us, hl with | [_], _ => rfl
theorem sc_is_plain_step : FnScope n_is_plain_step ["value"] (defScope t_is_plain_step) := ⟨rfl, rfl, rfl, by decide +kernel, rfl, by decide +kernel, by decide +kernel⟩
theorem d_is_plain_step_0 : chkSs G n_is_plain_step 3 (defScope t_is_plain_step) b_is_plain_step (defBody t_is_plain_step) = true := by decide +kernel
theorem bn_is_right_step : Bnd "is_right_step" t_is_right_step ["value"] := fun _ _ _ _ _ _ us hl => match us, hl with | [_], _ => rfl
theorem sc_is_right_step : FnScope n_is_right_step ["value"] (defScope t_is_right_step) := ⟨rfl, rfl, rfl, by decide +kernel, rfl, by decide +kernel, by decide +kernel⟩
theorem d_is_right_step_0 : chkSs G n_is_right_step 4 (defScope t_is_right_step) b_is_right_step (defBody t_is_right_step) = true := by decide +kernel
theorem bn_is_right_script : Bnd "is_right_script" t_is_right_script ["value"] := fun _ _ _ _ _ _ us hl => match us, hl with | [_], _ => rfl
theorem sc_is_right_script : FnScope n_is_right_script ["value"] (defScope t_is_right_script) := ⟨rfl, rfl, rfl, by decide +kernel, rfl, by decide +kernel, by decide +kernel⟩
theorem d_is_right_script_0 : chkSs G n_is_right_script 5 (defScope t_is_right_script) b_is_right_script (defBody t_is_right_script) = true := by decide +kernel
theorem bn_is_right_pattern : Bnd "is_right_pattern" t_is_right_pattern ["value"] := fun _ _ _ _ _ _ us hl => match us, hl with | [_], _ => rfl
theorem sc_is_right_pattern : FnScope n_is_right_pattern ["value"] (defScope t_is_right_pattern) := ⟨rfl, rfl, rfl, by decide +kernel, rfl, by decide +kernel, by decide +kernel⟩
theorem d_is_right_pattern_0 : chkSs G n_is_right_pattern 2 (defScope t_is_right_pattern) b_is_right_pattern (defBody t_is_right_pattern) = true := by decide +kernel
theorem bn_need_script : Bnd "need_script" t_need_script ["value"] := fun _ _ _ _ _ _ us hl => match us, hl with | [_], _ => rfl
theorem sc_need_script : FnScope n_need_script ["value"] (defScope t_need_script) := ⟨rfl, rfl, rfl, by decide +kernel, rfl, by decide +kernel, by decide +kernel⟩
theorem d_need_script_0 : chkSs G n_need_script 6 (defScope t_need_script) b_need_script (defBody t_need_script) = true := by decide +kernel
theorem bn_spread : Bnd "spread" t_spread ["script"] := fun _ _ _ _ _ _ us hl => match us, hl with | [_], _ => rfl
theorem sc_spread : FnScope n_spread ["script"] (defScope t_spread) := ⟨rfl, rfl, rfl, by decide +kernel, rfl, by decide +kernel, by decide +kernel⟩
theorem d_spread_0 : chkSs G n_spread 0 (defScope t_spread) b_spread (defBody t_spread) = true := by decide +kernel
theorem bn_is_step : Bnd "is_step" t_is_step ["value"] := fun _ _ _ _ _ _ us hl => match us, hl with | [_], _ => rfl
theorem sc_is_step : FnScope n_is_step ["value"] (defScope t_is_step) := ⟨rfl, rfl, rfl, by decide +kernel, rfl, by decide +kernel, by decide +kernel⟩
theorem d_is_step_0 : chkSs G n_is_step 5 (defScope t_is_step) b_is_step (defBody t_is_step) = true := by decide +kernel
theorem bn_is_script : Bnd "is_script" t_is_script ["value"] := fun _ _ _ _ _ _ us hl => match us, hl with | [_], _ => rfl
theorem sc_is_script : FnScope n_is_script ["value"] (defScope t_is_script) := ⟨rfl, rfl, rfl, by decide +kernel, rfl, by decide +kernel, by decide +kernel⟩
theorem d_is_script_0 : chkSs G n_is_script 6 (defScope t_is_script) b_is_script (defBody t_is_script) = true := by decide +kernel
theorem bn_is_pattern : Bnd "is_pattern" t_is_pattern ["value"] := fun _ _ _ _ _ _ us hl => match us, hl with | [_], _ => rfl
theorem sc_is_pattern : FnScope n_is_pattern ["value"] (defScope t_is_pattern) := ⟨rfl, rfl, rfl, by decide +kernel, rfl, by decide +kernel, by decide +kernel⟩
theorem d_is_pattern_0 : chkSs G n_is_pattern 3 (defScope t_is_pattern) b_is_pattern (defBody t_is_pattern) = true := by decide +kernel
theorem bn_plain : Bnd "plain" t_plain ["script"] := fun _ _ _ _ _ _ us hl => match us, hl with | [_], _ => rfl
theorem sc_plain : FnScope n_plain ["script"] (defScope t_plain) := ⟨rfl, rfl, rfl, by decide +kernel, rfl, by decide +kernel, by decide +kernel⟩
theorem d_plain_0 : chkSs G n_plain 7 (defScope t_plain) b_plain (defBody t_plain) = true := by decide +kernel
theorem bn_law_source : Bnd "_law_source" t_law_source ["script", "k"] := fun _ _ _ _ _ _ us hl => match us, hl with | [_, _], _ => rfl
theorem sc_law_source : FnScope n_law_source ["script", "k"] (defScope t_law_source) := ⟨rfl, rfl, rfl, by decide +kernel, rfl, by decide +kernel, by decide +kernel⟩
theorem d_law_source_0 : chkSs G n_law_source 0 (defScope t_law_source) b_law_source (defBody t_law_source) = true := by decide +kernel
theorem bn_law_pick : Bnd "_law_pick" t_law_pick ["source", "many"] := fun _ _ _ _ _ _ us hl => match us, hl with | [_, _], _ => rfl
theorem sc_law_pick : FnScope n_law_pick ["source", "many"] (defScope t_law_pick) := ⟨rfl, rfl, rfl, by decide +kernel, rfl, by decide +kernel, by decide +kernel⟩
theorem d_law_pick_0 : chkSs G n_law_pick 0 (defScope t_law_pick) b_law_pick (defBody t_law_pick) = true := by decide +kernel
theorem bn_law_chosen : Bnd "_law_chosen" t_law_chosen ["source", "things"] := fun _ _ _ _ _ _ us hl => match us, hl with | [_, _], _ => rfl
theorem sc_law_chosen : FnScope n_law_chosen ["source", "things"] (defScope t_law_chosen) := ⟨rfl, rfl, rfl, by decide +kernel, rfl, by decide +kernel, by decide +kernel⟩
theorem d_law_chosen_0 : chkSs G n_law_chosen 1 (defScope t_law_chosen) b_law_chosen (defBody t_law_chosen) = true := by decide +kernel
theorem bn_law_is_bool : Bnd "_law_is_bool" t_law_is_bool ["told", "due"] := fun _ _ _ _ _ _ us hl => match us, hl with | [_, _], _ => rfl
theorem sc_law_is_bool : FnScope n_law_is_bool ["told", "due"] (defScope t_law_is_bool) := ⟨rfl, rfl, rfl, by decide +kernel, rfl, by decide +kernel, by decide +kernel⟩
theorem d_law_is_bool_0 : chkSs G n_law_is_bool 0 (defScope t_law_is_bool) b_law_is_bool (defBody t_law_is_bool) = true := by decide +kernel
theorem bn_law_wide : Bnd "_law_wide" t_law_wide ["value", "low", "high"] := fun _ _ _ _ _ _ us hl => match us, hl with | [_, _, _], _ => rfl
theorem sc_law_wide : FnScope n_law_wide ["value", "low", "high"] (defScope t_law_wide) := ⟨rfl, rfl, rfl, by decide +kernel, rfl, by decide +kernel, by decide +kernel⟩
theorem d_law_wide_0 : chkSs G n_law_wide 0 (defScope t_law_wide) b_law_wide (defBody t_law_wide) = true := by decide +kernel
theorem bn_law_any_value : Bnd "_law_any_value" t_law_any_value ["source", "deep"] := fun _ _ _ _ _ _ us hl => match us, hl with | [_, _], _ => rfl
theorem sc_law_any_value : FnScope n_law_any_value ["source", "deep"] (defScope t_law_any_value) := ⟨rfl, rfl, rfl, by decide +kernel, rfl, by decide +kernel, by decide +kernel⟩
theorem d_law_any_value_0 : chkSs G n_law_any_value 2 (defScope t_law_any_value) (b_law_any_value (anyRc 0)) (defBody t_law_any_value) = true := by decide +kernel
theorem d_law_any_value_1 : chkSs G n_law_any_value 3 (defScope t_law_any_value) (b_law_any_value (anyRc 1)) (defBody t_law_any_value) = true := by decide +kernel
theorem d_law_any_value_2 : chkSs G n_law_any_value 4 (defScope t_law_any_value) (b_law_any_value (anyRc 2)) (defBody t_law_any_value) = true := by decide +kernel
theorem d_law_any_value_3 : chkSs G n_law_any_value 5 (defScope t_law_any_value) (b_law_any_value (anyRc 3)) (defBody t_law_any_value) = true := by decide +kernel
theorem bn_law_variant : Bnd "_law_variant" t_law_variant ["source", "value", "deep"] := fun _ _ _ _ _ _ us hl => match us, hl with | [_, _, _], _ => rfl
theorem sc_law_variant : FnScope n_law_variant ["source", "value", "deep"] (defScope t_law_variant) := ⟨rfl, rfl, rfl, by decide +kernel, rfl, by decide +kernel, by decide +kernel⟩
theorem d_law_variant_0 : chkSs G n_law_variant 6 (defScope t_law_variant) (b_law_variant (varRc 0)) (defBody t_law_variant) = true := by decide +kernel
theorem d_law_variant_1 : chkSs G n_law_variant 7 (defScope t_law_variant) (b_law_variant (varRc 1)) (defBody t_law_variant) = true := by decide +kernel
theorem d_law_variant_2 : chkSs G n_law_variant 8 (defScope t_law_variant) (b_law_variant (varRc 2)) (defBody t_law_variant) = true := by decide +kernel
theorem d_law_variant_3 : chkSs G n_law_variant 9 (defScope t_law_variant) (b_law_variant (varRc 3)) (defBody t_law_variant) = true := by decide +kernel
theorem bn_law_whole : Bnd "_law_whole" t_law_whole ["value", "low", "high"] := fun _ _ _ _ _ _ us hl => match us, hl with | [_, _, _], _ => rfl
theorem sc_law_whole : FnScope n_law_whole ["value", "low", "high"] (defScope t_law_whole) := ⟨rfl, rfl, rfl, by decide +kernel, rfl, by decide +kernel, by decide +kernel⟩
theorem d_law_whole_0 : chkSs G n_law_whole 0 (defScope t_law_whole) b_law_whole (defBody t_law_whole) = true := by decide +kernel
theorem bn_law_among : Bnd "_law_among" t_law_among ["value", "some"] := fun _ _ _ _ _ _ us hl => match us, hl with | [_, _], _ => rfl
theorem sc_law_among : FnScope n_law_among ["value", "some"] (defScope t_law_among) := ⟨rfl, rfl, rfl, by decide +kernel, rfl, by decide +kernel, by decide +kernel⟩
theorem d_law_among_0 : chkSs G n_law_among 0 (defScope t_law_among) b_law_among (defBody t_law_among) = true := by decide +kernel
theorem bn_law_lowest : Bnd "_law_lowest" t_law_lowest ["top", "below"] := fun _ _ _ _ _ _ us hl => match us, hl with | [_, _], _ => rfl
theorem sc_law_lowest : FnScope n_law_lowest ["top", "below"] (defScope t_law_lowest) := ⟨rfl, rfl, rfl, by decide +kernel, rfl, by decide +kernel, by decide +kernel⟩
theorem d_law_lowest_0 : chkSs G n_law_lowest 0 (defScope t_law_lowest) b_law_lowest (defBody t_law_lowest) = true := by decide +kernel
theorem bn_law_good_plain : Bnd "_law_good_plain" t_law_good_plain ["value"] := fun _ _ _ _ _ _ us hl => match us, hl with | [_], _ => rfl
theorem sc_law_good_plain : FnScope n_law_good_plain ["value"] (defScope t_law_good_plain) := ⟨rfl, rfl, rfl, by decide +kernel, rfl, by decide +kernel, by decide +kernel⟩
theorem d_law_good_plain_0 : chkSs G n_law_good_plain 1 (defScope t_law_good_plain) b_law_good_plain (defBody t_law_good_plain) = true := by decide +kernel
theorem bn_law_good_step : Bnd "_law_good_step" t_law_good_step ["value"] := fun _ _ _ _ _ _ us hl => match us, hl with | [_], _ => rfl
theorem sc_law_good_step : FnScope n_law_good_step ["value"] (defScope t_law_good_step) := ⟨rfl, rfl, rfl, by decide +kernel, rfl, by decide +kernel, by decide +kernel⟩
theorem d_law_good_step_0 : chkSs G n_law_good_step 2 (defScope t_law_good_step) b_law_good_step (defBody t_law_good_step) = true := by decide +kernel
theorem bn_law_good_script : Bnd "_law_good_script" t_law_good_script ["value"] := fun _ _ _ _ _ _ us hl => match us, hl with | [_], _ => rfl
theorem sc_law_good_script : FnScope n_law_good_script ["value"] (defScope t_law_good_script) := ⟨rfl, rfl, rfl, by decide +kernel, rfl, by decide +kernel, by decide +kernel⟩
theorem d_law_good_script_0 : chkSs G n_law_good_script 3 (defScope t_law_good_script) b_law_good_script (defBody t_law_good_script) = true := by decide +kernel
theorem bn_law_single : Bnd "_law_single" t_law_single ["source"] := fun _ _ _ _ _ _ us hl => match us, hl with | [_], _ => rfl
theorem sc_law_single : FnScope n_law_single ["source"] (defScope t_law_single) := ⟨rfl, rfl, rfl, by decide +kernel, rfl, by decide +kernel, by decide +kernel⟩
theorem d_law_single_0 : chkSs G n_law_single 2 (defScope t_law_single) b_law_single (defBody t_law_single) = true := by decide +kernel
theorem bn_law_some : Bnd "_law_some" t_law_some ["source", "most"] := fun _ _ _ _ _ _ us hl => match us, hl with | [_, _], _ => rfl
theorem sc_law_some : FnScope n_law_some ["source", "most"] (defScope t_law_some) := ⟨rfl, rfl, rfl, by decide +kernel, rfl, by decide +kernel, by decide +kernel⟩
theorem d_law_some_0 : chkSs G n_law_some 3 (defScope t_law_some) b_law_some (defBody t_law_some) = true := by decide +kernel
theorem bn_law_spread : Bnd "_law_spread" t_law_spread ["script"] := fun _ _ _ _ _ _ us hl => match us, hl with | [_], _ => rfl
theorem sc_law_spread : FnScope n_law_spread ["script"] (defScope t_law_spread) := ⟨rfl, rfl, rfl, by decide +kernel, rfl, by decide +kernel, by decide +kernel⟩
theorem d_law_spread_0 : chkSs G n_law_spread 0 (defScope t_law_spread) b_law_spread (defBody t_law_spread) = true := by decide +kernel
theorem bn_law_less : Bnd "_law_less" t_law_less ["one", "other"] := fun _ _ _ _ _ _ us hl => match us, hl with | [_, _], _ => rfl
theorem sc_law_less : FnScope n_law_less ["one", "other"] (defScope t_law_less) := ⟨rfl, rfl, rfl, by decide +kernel, rfl, by decide +kernel, by decide +kernel⟩
theorem d_law_less_0 : chkSs G n_law_less 0 (defScope t_law_less) b_law_less (defBody t_law_less) = true := by decide +kernel
theorem bn_law_patterns : Bnd "_law_patterns" t_law_patterns ["source", "many"] := fun _ _ _ _ _ _ us hl => match us, hl with | [_, _], _ => rfl
theorem sc_law_patterns : FnScope n_law_patterns ["source", "many"] (defScope t_law_patterns) := ⟨rfl, rfl, rfl, by decide +kernel, rfl, by decide +kernel, by decide +kernel⟩
theorem d_law_patterns_0 : chkSs G n_law_patterns 1 (defScope t_law_patterns) b_law_patterns (defBody t_law_patterns) = true := by decide +kernel
theorem bn_law_good_pattern : Bnd "_law_good_pattern" t_law_good_pattern ["value"] := fun _ _ _ _ _ _ us hl => match us, hl with | [_], _ => rfl
theorem sc_law_good_pattern : FnScope n_law_good_pattern ["value"] (defScope t_law_good_pattern) := ⟨rfl, rfl, rfl, by decide +kernel, rfl, by decide +kernel, by decide +kernel⟩
theorem d_law_good_pattern_0 : chkSs G n_law_good_pattern 1 (defScope t_law_good_pattern) b_law_good_pattern (defBody t_law_good_pattern) = true := by decide +kernel
theorem bn_law_refused : Bnd "_law_refused" t_law_refused ["value"] := fun _ _ _ _ _ _ us hl => match us, hl with | [_], _ => rfl
theorem sc_law_refused : FnScope n_law_refused ["value"] (defScope t_law_refused) := ⟨rfl, rfl, rfl, by decide +kernel, rfl, by decide +kernel, by decide +kernel⟩
theorem d_law_refused_0 : chkSs G n_law_refused 8 (defScope t_law_refused) b_law_refused (defBody t_law_refused) = true := by decide +kernel
theorem bn_law : Bnd "law" t_law ["script"] := fun _ _ _ _ _ _ us hl => match us, hl with | [_], _ => rfl
theorem sc_law : FnScope n_law ["script"] (defScope t_law) := ⟨rfl, rfl, rfl, by decide +kernel, rfl, by decide +kernel, by decide +kernel⟩
theorem d_law_0 : chkSs G n_law 10 (defScope t_law) b_law (defBody t_law) = true := by decide +kernel
section
variable {P : Program} {w : World} {K : PySem.W.Frag} {mg : Str → Option Value} {base : Heap}
def Ok (P : Program) (w : World) (K : PySem.W.Frag) (mg : Str → Option Value) (base : Heap) (k : Nat) (fi : FnI) : Prop := ∃ (f : Addr) (fd : FuncData), mg fi.name = some (.ref f) ∧ PySem.W.keepIn K (.ref f) = true ∧ Binds K fd fi.pars [] ∧ FnOk P w K mg base (L2.CX P w) fi.lev f fd fi.pars (prom K mg fi.hd fi.pars.length (G.fns k))
theorem oks (T : Facts K mg) : ∀ (k : Nat) (fi : FnI), G.fni k = some fi → Kn G (fi.lev - 1) P w K mg base → Ok P w K mg base k fi
  | 0, _, rfl, kn => by
    obtain ⟨f, fd, m, F, b⟩ := T.h_lowest
    exact ⟨f, fd, m, F.kp, b, def_ok F sc_lowest kn d_lowest_0 (k_low)⟩
  | 1, _, rfl, kn => by
    obtain ⟨f, fd, m, F, b⟩ := T.h_is_less
    exact ⟨f, fd, m, F.kp, b, def_ok F sc_is_less kn d_is_less_0 (k_less)⟩
  | 2, _, rfl, kn => by
    obtain ⟨f, fd, m, F, b⟩ := T.h_is_whole
    exact ⟨f, fd, m, F.kp, b, def_ok F sc_is_whole kn d_is_whole_0 (k_whole rfl)⟩
  | 3, _, rfl, kn => by
    obtain ⟨f, fd, m, F, b⟩ := T.h_is_fraction
    exact ⟨f, fd, m, F.kp, b, def_ok F sc_is_fraction kn d_is_fraction_0 (k_frac)⟩
  | 4, _, rfl, kn => by
    obtain ⟨f, fd, m, F, b⟩ := T.h_is_length
    exact ⟨f, fd, m, F.kp, b, def_ok F sc_is_length kn d_is_length_0 (k_len)⟩
  | 5, _, rfl, kn => by
    obtain ⟨f, fd, m, F, b⟩ := T.h_is_plain_step
    exact ⟨f, fd, m, F.kp, b, def_ok F sc_is_plain_step kn d_is_plain_step_0 (k_plain)⟩
  | 6, _, rfl, kn => by
    obtain ⟨f, fd, m, F, b⟩ := T.h_is_right_step
    exact ⟨f, fd, m, F.kp, b, def_ok F sc_is_right_step kn d_is_right_step_0 (k_step)⟩
  | 7, _, rfl, kn => by
    obtain ⟨f, fd, m, F, b⟩ := T.h_is_right_script
    exact ⟨f, fd, m, F.kp, b, def_ok F sc_is_right_script kn d_is_right_script_0 (k_script)⟩
  | 8, _, rfl, kn => by
    obtain ⟨f, fd, m, F, b⟩ := T.h_is_right_pattern
    exact ⟨f, fd, m, F.kp, b, def_ok F sc_is_right_pattern kn d_is_right_pattern_0 (k_pat)⟩
  | 9, _, rfl, kn => by
    obtain ⟨f, fd, m, F, b⟩ := T.h_need_script
    exact ⟨f, fd, m, F.kp, b, def_ok F sc_need_script kn d_need_script_0 (k_need)⟩
  | 10, _, rfl, kn => by
    obtain ⟨f, fd, m, F, b⟩ := T.h_spread
    exact ⟨f, fd, m, F.kp, b, def_ok F sc_spread kn d_spread_0 (k_spread)⟩
  | 11, _, rfl, kn => by
    obtain ⟨f, fd, m, F, b⟩ := T.h_is_step
    exact ⟨f, fd, m, F.kp, b, def_ok F sc_is_step kn d_is_step_0 (k_is1 stepB 6 rfl)⟩
  | 12, _, rfl, kn => by
    obtain ⟨f, fd, m, F, b⟩ := T.h_is_script
    exact ⟨f, fd, m, F.kp, b, def_ok F sc_is_script kn d_is_script_0 (k_is1 scriptB 7 rfl)⟩
  | 13, _, rfl, kn => by
    obtain ⟨f, fd, m, F, b⟩ := T.h_is_pattern
    exact ⟨f, fd, m, F.kp, b, def_ok F sc_is_pattern kn d_is_pattern_0 (k_is1 patB 8 rfl)⟩
  | 14, _, rfl, kn => by
    obtain ⟨f, fd, m, F, b⟩ := T.h_plain
    exact ⟨f, fd, m, F.kp, b, def_ok F sc_plain kn d_plain_0 (k_plainS)⟩
  | 15, _, rfl, kn => by
    obtain ⟨f, fd, m, F, b⟩ := T.h_law_source
    exact ⟨f, fd, m, F.kp, b, def_ok F sc_law_source kn d_law_source_0 (k_source)⟩
  | 16, _, rfl, kn => by
    obtain ⟨f, fd, m, F, b⟩ := T.h_law_pick
    exact ⟨f, fd, m, F.kp, b, def_ok F sc_law_pick kn d_law_pick_0 (k_pick)⟩
  | 17, _, rfl, kn => by
    obtain ⟨f, fd, m, F, b⟩ := T.h_law_chosen
    exact ⟨f, fd, m, F.kp, b, def_ok F sc_law_chosen kn d_law_chosen_0 (k_chosen)⟩
  | 18, _, rfl, kn => by
    obtain ⟨f, fd, m, F, b⟩ := T.h_law_is_bool
    exact ⟨f, fd, m, F.kp, b, def_ok F sc_law_is_bool kn d_law_is_bool_0 (k_isbool)⟩
  | 19, _, rfl, kn => by
    obtain ⟨f, fd, m, F, b⟩ := T.h_law_wide
    exact ⟨f, fd, m, F.kp, b, def_ok F sc_law_wide kn d_law_wide_0 (k_wide)⟩
  | 20, _, rfl, kn => by
    obtain ⟨f, fd, m, F, b⟩ := T.h_law_any_value
    exact ⟨f, fd, m, F.kp, b, def_ok F sc_law_any_value kn d_law_any_value_0 (k_any 0 (fun j hj => by cases hj))⟩
  | 21, _, rfl, kn => by
    obtain ⟨f, fd, m, F, b⟩ := T.h_law_any_value
    exact ⟨f, fd, m, F.kp, b, def_ok F sc_law_any_value kn d_law_any_value_1 (k_any 1 (fun j hj => by cases hj; rfl))⟩
  | 22, _, rfl, kn => by
    obtain ⟨f, fd, m, F, b⟩ := T.h_law_any_value
    exact ⟨f, fd, m, F.kp, b, def_ok F sc_law_any_value kn d_law_any_value_2 (k_any 2 (fun j hj => by cases hj; rfl))⟩
  | 23, _, rfl, kn => by
    obtain ⟨f, fd, m, F, b⟩ := T.h_law_any_value
    exact ⟨f, fd, m, F.kp, b, def_ok F sc_law_any_value kn d_law_any_value_3 (k_any 3 (fun j hj => by cases hj; rfl))⟩
  | 24, _, rfl, kn => by
    obtain ⟨f, fd, m, F, b⟩ := T.h_law_variant
    exact ⟨f, fd, m, F.kp, b, def_ok F sc_law_variant kn d_law_variant_0 (k_variant 0 (fun j hj => by cases hj))⟩
  | 25, _, rfl, kn => by
    obtain ⟨f, fd, m, F, b⟩ := T.h_law_variant
    exact ⟨f, fd, m, F.kp, b, def_ok F sc_law_variant kn d_law_variant_1 (k_variant 1 (fun j hj => by cases hj; rfl))⟩
  | 26, _, rfl, kn => by
    obtain ⟨f, fd, m, F, b⟩ := T.h_law_variant
    exact ⟨f, fd, m, F.kp, b, def_ok F sc_law_variant kn d_law_variant_2 (k_variant 2 (fun j hj => by cases hj; rfl))⟩
  | 27, _, rfl, kn => by
    obtain ⟨f, fd, m, F, b⟩ := T.h_law_variant
    exact ⟨f, fd, m, F.kp, b, def_ok F sc_law_variant kn d_law_variant_3 (k_variant 3 (fun j hj => by cases hj; rfl))⟩
  | 28, _, rfl, kn => by
    obtain ⟨f, fd, m, F, b⟩ := T.h_law_whole
    exact ⟨f, fd, m, F.kp, b, def_ok F sc_law_whole kn d_law_whole_0 (k_lawwhole)⟩
  | 29, _, rfl, kn => by
    obtain ⟨f, fd, m, F, b⟩ := T.h_law_among
    exact ⟨f, fd, m, F.kp, b, def_ok F sc_law_among kn d_law_among_0 (k_among)⟩
  | 30, _, rfl, kn => by
    obtain ⟨f, fd, m, F, b⟩ := T.h_law_lowest
    exact ⟨f, fd, m, F.kp, b, def_ok F sc_law_lowest kn d_law_lowest_0 (k_lawlow)⟩
  | 31, _, rfl, kn => by
    obtain ⟨f, fd, m, F, b⟩ := T.h_law_good_plain
    exact ⟨f, fd, m, F.kp, b, def_ok F sc_law_good_plain kn d_law_good_plain_0 (k_lawplain)⟩
  | 32, _, rfl, kn => by
    obtain ⟨f, fd, m, F, b⟩ := T.h_law_good_step
    exact ⟨f, fd, m, F.kp, b, def_ok F sc_law_good_step kn d_law_good_step_0 (k_lawstep)⟩
  | 33, _, rfl, kn => by
    obtain ⟨f, fd, m, F, b⟩ := T.h_law_good_script
    exact ⟨f, fd, m, F.kp, b, def_ok F sc_law_good_script kn d_law_good_script_0 (k_lawscript)⟩
  | 34, _, rfl, kn => by
    obtain ⟨f, fd, m, F, b⟩ := T.h_law_single
    exact ⟨f, fd, m, F.kp, b, def_ok F sc_law_single kn d_law_single_0 (k_single)⟩
  | 35, _, rfl, kn => by
    obtain ⟨f, fd, m, F, b⟩ := T.h_law_some
    exact ⟨f, fd, m, F.kp, b, def_ok F sc_law_some kn d_law_some_0 (k_some)⟩
  | 36, _, rfl, kn => by
    obtain ⟨f, fd, m, F, b⟩ := T.h_law_spread
    exact ⟨f, fd, m, F.kp, b, def_ok F sc_law_spread kn d_law_spread_0 (k_lawspread)⟩
  | 37, _, rfl, kn => by
    obtain ⟨f, fd, m, F, b⟩ := T.h_law_less
    exact ⟨f, fd, m, F.kp, b, def_ok F sc_law_less kn d_law_less_0 (k_lawless)⟩
  | 38, _, rfl, kn => by
    obtain ⟨f, fd, m, F, b⟩ := T.h_law_patterns
    exact ⟨f, fd, m, F.kp, b, def_ok F sc_law_patterns kn d_law_patterns_0 (k_patterns)⟩
  | 39, _, rfl, kn => by
    obtain ⟨f, fd, m, F, b⟩ := T.h_law_good_pattern
    exact ⟨f, fd, m, F.kp, b, def_ok F sc_law_good_pattern kn d_law_good_pattern_0 (k_lawpat)⟩
  | 40, _, rfl, kn => by
    obtain ⟨f, fd, m, F, b⟩ := T.h_law_refused
    exact ⟨f, fd, m, F.kp, b, def_ok F sc_law_refused kn d_law_refused_0 (k_refused)⟩
  | 41, _, rfl, kn => by
    obtain ⟨f, fd, m, F, b⟩ := T.h_law
    exact ⟨f, fd, m, F.kp, b, def_ok F sc_law kn d_law_0 (k_law)⟩
  | n + 42, fi, e, _ => by
    have : (tab[n + 42]? : Option FnI) = none := List.getElem?_eq_none (by show tab.length ≤ n + 42; simp [tab])
    rw [show G.fni (n + 42) = tab[n + 42]? from rfl, this] at e
    cases e
theorem lev_pos : ∀ fi ∈ tab, 1 ≤ fi.lev := by decide +kernel
theorem kn (T : Facts K mg) : ∀ L, Kn G L P w K mg base
  | 0 => by
    refine ⟨fun k x d e => ?_, fun k fi e l => ?_, fun x h => ?_, fun x y b e => ?_, T.blt⟩
    · match k, e with
      | 0, e => cases e; exact T.c0
      | 1, e => cases e; exact T.c1
      | 2, e => cases e; exact T.c2
      | 3, e => cases e; exact T.c3
      | n + 4, e => exact absurd (show (none : Option (Str × PyData)) = some (x, d) from e) (by simp)
    · have := lev_pos fi (List.mem_of_getElem? (show tab[k]? = some fi from e))
      omega
    · have : x = "InvalidScript" := by
        have h : (["InvalidScript"] : List Str).contains x = true := h
        simpa using h
      subst this
      obtain ⟨C, bmB, B, n, i, q1, q2, q3, q4, q5, q6, q7⟩ := T.x0
      exact ⟨C, bmB, B, n, i, q1, q2, q3, q4, q5, q6⟩
    · have e : exmT x y = some b := e
      unfold exmT at e
      split at e
      · rename_i hxy
        obtain ⟨rfl, rfl⟩ := hxy
        cases e
        obtain ⟨C, bmB, B, n, i, q1, q2, q3, q4, q5, q6, q7⟩ := T.x0
        exact ⟨C, C, q1, q1, q7⟩
      · cases e
  | L + 1 => by
    have ih := kn T L
    refine ⟨ih.con, fun k fi e l => ?_, ih.exc, ih.exm, T.blt⟩
    by_cases h : fi.lev ≤ L
    · exact ih.fn k fi e h
    · exact oks T k fi e (by rw [show fi.lev - 1 = L by omega]; exact ih)
def spLaw (K : PySem.W.Frag) : Sp := fun vs H Q _ => ∃ (a : Addr) (ns : List Int), vs = [.ref a] ∧ SqL K H a (ns.map V.int) ∧ ns.length ≤ 63 ∧ ∀ H', Q (.bl true) H'
theorem law_ok (T : Facts K mg) {fa : Addr} (hfa : mg "law" = some (.ref fa)) : ∃ fd : FuncData, (∀ (s : Shared) (u : Value), BindsTo s fd ⟨[u], []⟩ [("script", u)]) ∧ ∀ base : Heap, FnOk P w K mg base (L2.CX P w) 11 fa fd ["script"] (spLaw K) := by
  obtain ⟨f, fd, m, F, b⟩ := T.h_law
  rw [hfa] at m
  cases m
  refine ⟨fd, fun s u => ?_, fun base => (def_ok F sc_law (kn T 10) d_law_0 k_law).imp fun vs H Q E ⟨a, ns, e, hS, hl, q⟩ => ?_⟩
  · obtain ⟨oc, od, kV, doc, pm, an, cdv, ct, osl, rfl, lk, hcd⟩ := F.ex
    exact .of_eq rfl
  · subst e
    have e0 : hid [] H = H := by funext x; simp [hid]
    refine ⟨.sc ns, [], [], none, [], rfl, rfl, ⟨a, rfl, rfl, by rw [e0]; exact hS⟩, .nil, fun a h => (by cases h), ⟨ns, rfl, rfl, hl⟩, fun r h v H' O' hp l => ?_, fun x C H' h => h.elim⟩
    have hp : r = .v (.bool true) := hp
    subst hp
    have := l.res
    have hv : v = .bl true := Rep.bl_inv this
    rw [hv]
    exact q H'
theorem law_end {h : Heap} (T : Facts K mg) {fa : Addr} (hfa : mg "law" = some (.ref fa)) : ∃ fd : FuncData, (∀ (s : Shared) (u : Value), BindsTo s fd ⟨[u], []⟩ [("script", u)]) ∧ ∀ base : Heap, K.In base → base.Ns mainGlobals mg → FnOk P w K mg base (L2.CX P w) 11 fa fd ["script"] (spLaw K) := by
  obtain ⟨fd, hb, hF⟩ := law_ok (P := P) (w := w) T hfa
  exact ⟨fd, hb, fun base _ _ => hF base⟩
end
end K1

open PySem PySem.W PyProof.Rows
set_option maxHeartbeats 0 in
theorem PySem.Challenge.cw_rollstrips_k01_steps_and_scripts_recogni_holds : PySem.Challenge.rw_rollstrips_k01_steps_and_scripts_recogni.Holds := by
  w_on; o_law; k_head; (case hw => w_witness2)
  k_fill
  refine L2.walk_of (l := PySem.Challenge.rw_rollstrips_k01_steps_and_scripts_recogni) (n := 63) (k := 11) (x := "script") (CX := fun w => L2.CX (PySem.Challenge.rw_rollstrips_k01_steps_and_scripts_recogni).prog w) (sp := fun w => K1.spLaw _) rfl (by decide) rfl ⟨rfl, by decide, by decide⟩ (fun w h Y => PySem.W.kIn_of Y) ?F (fun _ _ a ns hl _ hS => ⟨a, ns, rfl, hS, hl, fun _ => rfl⟩) (fun _ _ _ _ _ h => by obtain ⟨_, _, _, _, _, _, _, _, _, _, _, _, z⟩ := h; exact z)
  case F =>
    intro w mg fa h KX Gn hmg
    refine' K1.law_end (h := h) ?T hmg
    case T =>
      refine' ⟨?h_lowest, ?h_is_less, ?h_is_whole, ?h_is_fraction, ?h_is_length, ?h_is_plain_step, ?h_is_right_step, ?h_is_right_script, ?h_is_right_pattern, ?h_need_script, ?h_spread, ?h_is_step, ?h_is_script, ?h_is_pattern, ?h_plain, ?h_law_source, ?h_law_pick, ?h_law_chosen, ?h_law_is_bool, ?h_law_wide, ?h_law_any_value, ?h_law_variant, ?h_law_whole, ?h_law_among, ?h_law_lowest, ?h_law_good_plain, ?h_law_good_step, ?h_law_good_script, ?h_law_single, ?h_law_some, ?h_law_spread, ?h_law_less, ?h_law_patterns, ?h_law_good_pattern, ?h_law_refused, ?h_law, ?c0, ?c1, ?c2, ?c3, ?x0, ?blt⟩
      (case h_lowest => refine' K1.has_mk K1.bn_lowest KX Gn ?a ?l ?c ?k; (case a => k_is); (case l => k_is); (case c => k_is); (case k => k_is))
      (case h_is_less => refine' K1.has_mk K1.bn_is_less KX Gn ?a ?l ?c ?k; (case a => k_is); (case l => k_is); (case c => k_is); (case k => k_is))
      (case h_is_whole => refine' K1.has_mk K1.bn_is_whole KX Gn ?a ?l ?c ?k; (case a => k_is); (case l => k_is); (case c => k_is); (case k => k_is))
      (case h_is_fraction => refine' K1.has_mk K1.bn_is_fraction KX Gn ?a ?l ?c ?k; (case a => k_is); (case l => k_is); (case c => k_is); (case k => k_is))
      (case h_is_length => refine' K1.has_mk K1.bn_is_length KX Gn ?a ?l ?c ?k; (case a => k_is); (case l => k_is); (case c => k_is); (case k => k_is))
      (case h_is_plain_step => refine' K1.has_mk K1.bn_is_plain_step KX Gn ?a ?l ?c ?k; (case a => k_is); (case l => k_is); (case c => k_is); (case k => k_is))
      (case h_is_right_step => refine' K1.has_mk K1.bn_is_right_step KX Gn ?a ?l ?c ?k; (case a => k_is); (case l => k_is); (case c => k_is); (case k => k_is))
      (case h_is_right_script => refine' K1.has_mk K1.bn_is_right_script KX Gn ?a ?l ?c ?k; (case a => k_is); (case l => k_is); (case c => k_is); (case k => k_is))
      (case h_is_right_pattern => refine' K1.has_mk K1.bn_is_right_pattern KX Gn ?a ?l ?c ?k; (case a => k_is); (case l => k_is); (case c => k_is); (case k => k_is))
      (case h_need_script => refine' K1.has_mk K1.bn_need_script KX Gn ?a ?l ?c ?k; (case a => k_is); (case l => k_is); (case c => k_is); (case k => k_is))
      (case h_spread => refine' K1.has_mk K1.bn_spread KX Gn ?a ?l ?c ?k; (case a => k_is); (case l => k_is); (case c => k_is); (case k => k_is))
      (case h_is_step => refine' K1.has_mk K1.bn_is_step KX Gn ?a ?l ?c ?k; (case a => k_is); (case l => k_is); (case c => k_is); (case k => k_is))
      (case h_is_script => refine' K1.has_mk K1.bn_is_script KX Gn ?a ?l ?c ?k; (case a => k_is); (case l => k_is); (case c => k_is); (case k => k_is))
      (case h_is_pattern => refine' K1.has_mk K1.bn_is_pattern KX Gn ?a ?l ?c ?k; (case a => k_is); (case l => k_is); (case c => k_is); (case k => k_is))
      (case h_plain => refine' K1.has_mk K1.bn_plain KX Gn ?a ?l ?c ?k; (case a => k_is); (case l => k_is); (case c => k_is); (case k => k_is))
      (case h_law_source => refine' K1.has_mk K1.bn_law_source KX Gn ?a ?l ?c ?k; (case a => k_is); (case l => k_is); (case c => k_is); (case k => k_is))
      (case h_law_pick => refine' K1.has_mk K1.bn_law_pick KX Gn ?a ?l ?c ?k; (case a => k_is); (case l => k_is); (case c => k_is); (case k => k_is))
      (case h_law_chosen => refine' K1.has_mk K1.bn_law_chosen KX Gn ?a ?l ?c ?k; (case a => k_is); (case l => k_is); (case c => k_is); (case k => k_is))
      (case h_law_is_bool => refine' K1.has_mk K1.bn_law_is_bool KX Gn ?a ?l ?c ?k; (case a => k_is); (case l => k_is); (case c => k_is); (case k => k_is))
      (case h_law_wide => refine' K1.has_mk K1.bn_law_wide KX Gn ?a ?l ?c ?k; (case a => k_is); (case l => k_is); (case c => k_is); (case k => k_is))
      (case h_law_any_value => refine' K1.has_mk K1.bn_law_any_value KX Gn ?a ?l ?c ?k; (case a => k_is); (case l => k_is); (case c => k_is); (case k => k_is))
      (case h_law_variant => refine' K1.has_mk K1.bn_law_variant KX Gn ?a ?l ?c ?k; (case a => k_is); (case l => k_is); (case c => k_is); (case k => k_is))
      (case h_law_whole => refine' K1.has_mk K1.bn_law_whole KX Gn ?a ?l ?c ?k; (case a => k_is); (case l => k_is); (case c => k_is); (case k => k_is))
      (case h_law_among => refine' K1.has_mk K1.bn_law_among KX Gn ?a ?l ?c ?k; (case a => k_is); (case l => k_is); (case c => k_is); (case k => k_is))
      (case h_law_lowest => refine' K1.has_mk K1.bn_law_lowest KX Gn ?a ?l ?c ?k; (case a => k_is); (case l => k_is); (case c => k_is); (case k => k_is))
      (case h_law_good_plain => refine' K1.has_mk K1.bn_law_good_plain KX Gn ?a ?l ?c ?k; (case a => k_is); (case l => k_is); (case c => k_is); (case k => k_is))
      (case h_law_good_step => refine' K1.has_mk K1.bn_law_good_step KX Gn ?a ?l ?c ?k; (case a => k_is); (case l => k_is); (case c => k_is); (case k => k_is))
      (case h_law_good_script => refine' K1.has_mk K1.bn_law_good_script KX Gn ?a ?l ?c ?k; (case a => k_is); (case l => k_is); (case c => k_is); (case k => k_is))
      (case h_law_single => refine' K1.has_mk K1.bn_law_single KX Gn ?a ?l ?c ?k; (case a => k_is); (case l => k_is); (case c => k_is); (case k => k_is))
      (case h_law_some => refine' K1.has_mk K1.bn_law_some KX Gn ?a ?l ?c ?k; (case a => k_is); (case l => k_is); (case c => k_is); (case k => k_is))
      (case h_law_spread => refine' K1.has_mk K1.bn_law_spread KX Gn ?a ?l ?c ?k; (case a => k_is); (case l => k_is); (case c => k_is); (case k => k_is))
      (case h_law_less => refine' K1.has_mk K1.bn_law_less KX Gn ?a ?l ?c ?k; (case a => k_is); (case l => k_is); (case c => k_is); (case k => k_is))
      (case h_law_patterns => refine' K1.has_mk K1.bn_law_patterns KX Gn ?a ?l ?c ?k; (case a => k_is); (case l => k_is); (case c => k_is); (case k => k_is))
      (case h_law_good_pattern => refine' K1.has_mk K1.bn_law_good_pattern KX Gn ?a ?l ?c ?k; (case a => k_is); (case l => k_is); (case c => k_is); (case k => k_is))
      (case h_law_refused => refine' K1.has_mk K1.bn_law_refused KX Gn ?a ?l ?c ?k; (case a => k_is); (case l => k_is); (case c => k_is); (case k => k_is))
      (case h_law => refine' K1.has_mk K1.bn_law KX Gn ?a ?l ?c ?k; (case a => k_is); (case l => k_is); (case c => k_is); (case k => k_is))
      (case c0 => refine' K1.con_int KX Gn ?a; (case a => k_is))
      (case c1 => refine' K1.con_tup KX Gn ?a (K1.pair_K ?b); (case a => k_is); (case b => k_is))
      (case c2 => refine' K1.con_strs KX Gn ?a ?b ?sq; (case a => k_is); (case b => k_is); (case sq => decide +kernel))
      (case c3 =>
        refine' K1.con_tup KX Gn ?a (K1.rep_K (its := [.ref _, .ref _, .ref _, .ref _, .ref _, .ref _, .ref _, .ref _]) (xs := [.ref _, .ref _, .ref _, .ref _, .ref _, .ref _, .ref _, .ref _]) ?b (by simp) (.cons rfl (.cons rfl (.cons rfl (.cons rfl (.cons rfl (.cons rfl (.cons rfl (.cons rfl .nil)))))))) (.cons (K1.pair_K ?p0) (.cons (K1.pair_K ?p1) (.cons (K1.pair_K ?p2) (.cons (K1.pair_K ?p3) (.cons (K1.pair_K ?p4) (.cons (K1.pair_K ?p5) (.cons (K1.pair_K ?p6) (.cons (K1.pair_K ?p7) .nil)))))))))
        (case a => k_is); (case b => k_is); (case p0 => k_is); (case p1 => k_is); (case p2 => k_is); (case p3 => k_is); (case p4 => k_is); (case p5 => k_is); (case p6 => k_is); (case p7 => k_is))
      (case x0 => refine' K1.hasX_mk KX Gn ?xa ?xq ?xk ?xs ?xt ?xi ?xe; (case xa => k_is); (case xq => k_exc); (case xk => k_is); (case xs => k_is); (case xt => k_is); (case xi => k_is); (case xe => first | rfl | k_is))
      (case blt =>
        intro x hx
        simp only [Mp.bltNames, List.mem_cons, List.not_mem_nil, or_false] at hx
        rcases hx with rfl | rfl | rfl | rfl | rfl | rfl | rfl | rfl | rfl | rfl | rfl | rfl | rfl | rfl | rfl <;> exact PySem.W.mg_none_of KX Gn (by k_is))

