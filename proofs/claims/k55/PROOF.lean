import PyProof.Rows.All
import Wide.All
import OpenK.AllK
import Wide.FinOn
import HandS.ForMost
import HandS.ForExc
import HandS.More
import HandS.Defaults
import HandS.Deep
import HandS.Flow
import HandS.TupAny
import HandS.TupMul
import HandS.Wide
import HandS.Zip
import HandS.IsInst
import HandS.Head0
import HandS.Head1
import HandS.Head2
import HandS.HeadEnd
import HandS.HeadHook1
import HandS.HeadHook2
import HandS.HeadWalk
import HandS.WordsExc
import KE.GoesEnum
import HandS.Conv
import KE.SortData
import PySem.Challenge.RW_cornerbids_k55_whole_where_rules_part
set_option Elab.async false
set_option linter.all false
set_option maxRecDepth 100000
set_option maxHeartbeats 0
/-! tuple * 1: the tuple itself. -/
namespace CB
open PySem PySem.Spec PyProof.Rows L2
theorem tuple_mul1 (l : Addr) (items : Array Value) (n : Nat) (dd : Option Addr) (sl : Array (Option Value)) (u : Tok) :
    Meets (Builtin.«tuple.__mul__» ⟨[.ref l, .int 1 u], []⟩) (fun _ R s => s.heap.get? l = some { cls := .type "tuple", dict := dd, data := .seq items n, slots := sl } ∧ R (.ok (.ret (.ref l))) s) :=
  .of_wp fun prog w A R s h => by
    obtain ⟨hp, g, d, tk, os⟩ := s
    obtain ⟨hl, h⟩ := h
    have f1 := AutoSeq1.idx_int
    have c0 : (decide ((1 : Int) < -(2 ^ 63)) || decide ((1 : Int) ≥ 2 ^ 63)) = false := by decide
    have c1 : (items.isEmpty || (1 : Int) == 1) = true := by simp
    wp_walk using wpAny_loadPart' hl
    repeat (first
      | (refine wpAny_ite_false (decide_eq_false (by rw [c0]; exact Bool.false_ne_true)) ?_; wp_walk using wpAny_loadPart' hl)
      | (refine wpAny_ite_true (decide_eq_true (by rw [c1])) ?_; wp_walk using wpAny_loadPart' hl))
    exact ⟨_, rfl, h⟩
def rRep1 (K : PySem.W.Frag) : R2 := fun x y H Q => ∃ l xs, x = .ref l ∧ y = .int 1 ∧ SqT K H l xs ∧ Q (.ref l) H
section
variable {X : Cx}
theorem op_rep1 : OpR X (binaryOp .Mult) (rRep1 X.K) := by
  intro pins s σ H x y v u Q I rx ry h
  obtain ⟨l, xs, rfl, rfl, hT, q⟩ := h
  cases rx
  obtain ⟨t, rfl⟩ := ry
  obtain ⟨its, r, ⟨⟨cls, dd, data, sl⟩, ho, hc, n, hd⟩, hs⟩ := I.tuple hT
  simp only at hc hd
  subst hc hd
  refine wpAny_binaryOp_repeat_ref (T := "tuple") (U := "int") (by decide) ⟨_, ho, rfl⟩ (fun s' => typeIs_int s' 1 t) noFill_tuple_mul F.fills_int_mul F.slot_int_rmul repeat_tuple F.slot_int_index.lookup
    (call_meets F.slot_int_rmul (typeIs_int s 1 t) F.entry_int_rmul (F.args_int_rmul_2 _ _) (int_rmul_tuple 1 t l its.toArray n dd sl)
      ⟨ho, rfl, ⟨_, ho, rfl⟩, call_meets F.slot_tuple_mul ⟨_, ho, rfl⟩ F.entry_tuple_mul (F.args_tuple_mul_2 _ _) (tuple_mul1 l its.toArray n dd sl t) ⟨ho, ?_⟩⟩)
  exact ⟨.ref l, _, I, rfl, q⟩
end
end CB

/-! enumerate over a tuple. -/
namespace PySem
theorem cb_enumerate_new {v : Value} {o : Obj} {H : Heap → Prop} (B : Begins v o H) :
    Meets (Builtin.«enumerate.__new__» ⟨[.type "enumerate", v], []⟩) (fun _ R s => H s.heap ∧
      R (.ok (.ret (.ref (s.heap.push o).objs.size))) { s with heap := (s.heap.push o).push { cls := .type "enumerate", data := .fields #[.none, .bool false, .ref s.heap.objs.size, rawInt 0, .none, .none] } }) :=
  .of_wp fun prog w A R s h => by
    obtain ⟨hp, g, d, tk, os⟩ := s; obtain ⟨h1, h⟩ := h
    have hsub := sub_enumerate
    have q1 : ∀ {A' : Around} {E : Value → Shared → Prop} {Q : Value → Shared → Prop}, Q (.ref hp.objs.size) ⟨hp.push o, g, d, tk, os⟩ → wpAny (model prog w) A' (pyIter v) Q E ⟨hp, g, d, tk, os⟩ :=
      fun q => B.iter prog w _ _ ⟨hp, g, d, tk, os⟩ _ h1 q
    wp_walk using q1
    refine wpAny_stack_any fun st => wpAny_pure ?_
    split
    · rename_i c _ _ _ _ _
      cases (c == Value.type "enumerate")
      · wp_walk using q1
        exact ⟨_, rfl, h⟩
      · wp_walk using q1
        exact ⟨_, rfl, h⟩
    · wp_walk using q1
      exact ⟨_, rfl, h⟩
theorem cb_call_enumerate {prog : Program} {w : World} {A : Around} {E : Value → Shared → Prop} {s : Shared} {v : Value} {o : Obj} {H : Heap → Prop} {Q : Value → Shared → Prop} (B : Begins v o H) (h1 : H s.heap)
    (h : ∀ h', IsEnum h' (s.heap.objs.size + 1) s.heap.objs.size 0 .none → h'.get? s.heap.objs.size = some o → h'.objs.size = s.heap.objs.size + 2 →
      (∀ b o, s.heap.get? b = some o → h'.get? b = some o) → Q (.ref (s.heap.objs.size + 1)) { s with heap := h' }) :
    wpAny (model prog w) A (call (.type "enumerate") [v]) Q E s := by
  refine callType_new F.called_enumerate (by decide) (F.typeCall_enumerate_1 _) (F.newCall_enumerate_1 _) (fun obj => F.args_object_init_2 obj _) F.entry_enumerate_new
    (cb_enumerate_new B) ⟨h1, ?_⟩
  have hz : (s.heap.push o).objs.size = s.heap.objs.size + 1 := Heap.size_push ..
  show _ ∧ _
  rw [hz]
  have he : IsEnum ((s.heap.push o).push { cls := .type "enumerate", data := .fields #[.none, .bool false, .ref s.heap.objs.size, rawInt 0, .none, .none] }) (s.heap.objs.size + 1) s.heap.objs.size 0 .none := by
    have := Heap.get?_push_size (s.heap.push o) (o := { cls := .type "enumerate", data := .fields #[.none, .bool false, .ref s.heap.objs.size, rawInt 0, .none, .none] }) rfl
    rw [hz] at this; exact this
  refine ⟨⟨_, he, rfl⟩, h _ he (Heap.get?_push_of_some _ (Heap.get?_push_size _ B.free)) (by rw [Heap.size_push, hz]) fun b o x => Heap.get?_push_of_some _ (Heap.get?_push_of_some _ x)⟩
theorem cb_enum_endT {prog : Program} {w : World} {A : Around} {E : Value → Shared → Prop} {s : Shared} {e it l : Addr} {i : Nat} {items : Array Value} {c : Int} {old : Value} {Q : Option Value → Shared → Prop} (hh : A.handled = none)
    (he : IsEnum s.heap e it c old) (hit : s.heap.IsTupleIter it l i) (hl : s.heap.IsTuple l items) (hx : items[i]? = none)
    (hQ : ∀ h', Heap.ExtBut it s.heap h' → Q none { s with heap := h' }) : wpAny (model prog w) A (pyNext (.ref e)) Q E s := by
  have hT : s.TypeIs (.ref e) "enumerate" := ⟨_, he, rfl⟩
  unfold pyNext
  refine wpAny_bind (wpAny_attempt (wpAny_callSpecial?_slot (name := Str.ofString "__next__") hT F.slot_enumerate_next
    (wpAny_call_entry F.slot_enumerate_next hT F.entry_enumerate_next ?_ (F.args_enumerate_next_1 _))))
  show wpAny _ _ (field (.ref e) 2 >>= _) _ _ _
  refine wpAny_bind (wpAny_field he rfl (x := .ref it) rfl ?_)
  refine wpAny_bind (wpAny_nextOf_tuple_end hh hit hl hx fun h' x he' hx' => ?_)
  obtain ⟨o, ho, hc⟩ := hx'
  refine wpAny_bind (wpAny_isInstance (T := "StopIteration") (b := true) ⟨o, ho, hc⟩ isSubtype_stop ?_)
  exact wpAny_pure (hQ _ he')
end PySem
namespace CB
open PySem PySem.Spec PyProof.Rows L2
/-- the tuple at a as it stands at each turn, each item in a new pair -/
def IteT (K : PySem.W.Frag) (a : Addr) : It :=
  ⟨fun i H => ∃ (xs : List V) (x : V), SqT K H a xs ∧ xs[i]? = some x, fun i H v H' => ∃ T x, v = .ref T ∧ H T = none ∧ H' = upd H T (.tup [.int (i : Nat), x]) ∧ ∀ xs, SqT K H a xs → xs[i]? = some x, fun i H => ∃ xs : List V, SqT K H a xs ∧ xs.length ≤ i⟩
theorem turn_enumT {P : Program} {w : World} {K : PySem.W.Frag} {elts : List Expr} {kk : Nat} {tpos : Pos} (a e it : Addr) :
    Turn P w K (.Tuple elts kk tpos) (IteT K a) [e, it] e (fun i h => (∃ old, IsEnum h e it ((i : Nat) : Int) old) ∧ h.IsTupleIter it a i ∧ e ≠ it) where
  mem := by simp
  obj := fun i h st b hb => by
    obtain ⟨⟨old, he⟩, ⟨o, ho, hc, hd⟩, _⟩ := st
    have e' : b = e ∨ b = it := by simpa using hb
    rcases e' with z | z
    · rw [z]; exact ⟨_, he, fun v q => nomatch q⟩
    · rw [z]; exact ⟨o, ho, fun v q => by rw [hd] at q; cases q⟩
  keep := fun i h h' st k => let ⟨⟨old, he⟩, hi, hne⟩ := st; ⟨⟨old, k e (by simp) _ he⟩, hi.at fun o q => k it (by simp) o q, hne⟩
  item := by
    intro X hP hw hK hc i pins s σ H E I hf st hg
    subst hP hw hK
    obtain ⟨⟨old, he⟩, hit, hne⟩ := st
    obtain ⟨xs, x, hq, hx⟩ := hg
    obtain ⟨its, rv, p, hz⟩ := I.tuple hq
    obtain ⟨u, hu, ru⟩ := rv.get hx
    have hel : e < s.heap.objs.size := Heap.lt_size he
    have hil : it < s.heap.objs.size := by obtain ⟨_, q, _⟩ := hit; exact Heap.lt_size q
    have hae : a ≠ e := by
      rintro rfl
      obtain ⟨o, e1, hc, _⟩ := p
      rw [he] at e1
      cases e1
      exact absurd hc (by simp)
    have hai : a ≠ it := by
      rintro rfl
      obtain ⟨o, e1, hc, _⟩ := p
      obtain ⟨o2, e2, hc2, _⟩ := hit
      rw [e1] at e2
      cases e2
      rw [hc] at hc2
      exact absurd hc2 (by simp)
    have hi : i < its.toArray.size := by have := (List.getElem?_eq_some_iff.1 hu).1; simpa using this
    refine wpAny_pyNext_enum_itemD (Draws.tuple (prog := X.prog) (w := X.w) (A := X.A.in1) (I.ok.hd hc) it a hai its.toArray) he ⟨hit, p⟩ hi hne (by simp; exact ⟨hne, fun q => hae q.symm⟩) fun x' h' tk hP ho hs' hT hsz hk => ?_
    have ex : x' = u := by
      have : its[i]? = some x' := by simpa using hP
      rw [hu] at this; exact (Option.some.inj this).symm
    subst ex
    obtain ⟨hit', _⟩ := hs'
    refine ⟨_, rfl, wpAny_letOwnedTupleGo_enum (s := { s with heap := h', toks := tk + 1 }) ho fun h'' he' sb => ?_⟩
    have hT2 : h''.get? s.heap.objs.size = some { cls := .type "tuple", data := .seq #[.int i tk, x'] } := (sb.2 _ (Nat.ne_of_gt hel)).trans hT
    have new : ObjOk X.prog X.w (upd H s.heap.objs.size (.tup [.int (i : Nat), x])) h'' s.heap.objs.size (.tup [.int (i : Nat), x]) :=
      ⟨by show 2 ≤ sizeLine; decide, [.int i tk, x'], .cons ⟨_, rfl⟩ (.cons ru .nil), ⟨_, hT2, rfl, _, rfl⟩⟩
    have I1 : Inv X pins σ (upd H s.heap.objs.size (.tup [.int (i : Nat), x])) { s with heap := h'', toks := tk + 1 } :=
      I.turnedNew (ch := [e, it]) (fun b ob hb q => (sb.2 b (fun z => hb (by simp [z]))).trans (hk b ob (fun z => hb (by simp [z])) (fun z => hb (by simp [z])) q)) hf (Nat.le_refl _) new
    refine ⟨.ref s.heap.objs.size, _, I1, rfl, ⟨_, x, rfl, I.hok.fresh (Nat.le_refl _), rfl, fun ys hy => by rw [I.tuple_inj hy hq]; exact hx⟩, ⟨⟨x', ?_⟩, hit'.at fun o q => (sb.2 it (Ne.symm hne)).trans q, hne⟩, fun b hb => ?_⟩
    · have e1 : ((i + 1 : Nat) : Int) = (i : Int) + 1 := by omega
      rw [e1]; exact he'
    · have hb' : b < s.heap.objs.size := by
        have e' : b = e ∨ b = it := by simpa using hb
        rcases e' with z | z
        · rw [z]; exact hel
        · rw [z]; exact hil
      rw [upd_ne (Nat.ne_of_lt hb')]
      exact (hf b hb).1
  done := by
    intro X hP hw hK hc i pins s σ H E I hf st hg
    subst hP hw hK
    obtain ⟨⟨old, he⟩, hit, hne⟩ := st
    obtain ⟨xs, hq, hx⟩ := hg
    obtain ⟨its, rv, p, hz⟩ := I.tuple hq
    obtain ⟨f0, f1, f2, f3, f4, f5⟩ := hf it (by simp)
    have hl := rv.length
    exact cb_enum_endT (I.ok.hd hc) he hit p (by simp; omega) fun h' eb => ⟨rfl, I.turned (t' := s.toks) (fun b o hb q => eb b o hb q) f0 f1 f3 f4 f5⟩
  self := fun A i s Q E st h => let ⟨⟨_, he⟩, _⟩ := st; wpAny_pyIter_enum he h
def iEnumA (K : PySem.W.Frag) (ta : TA) : TI := fun σ H R => ta σ H fun vs H1 => ∃ a xs, vs = [.ref a] ∧ ((SqL K H1 a xs ∧ R (Ite K a) H1) ∨ (SqT K H1 a xs ∧ R (IteT K a) H1))
theorem pi_enumA {X : Cx} {e : Expr} {ta : TA} {p pos tpos : Pos} {elts : List Expr} {kk : Nat} (hg : Gl X "enumerate") (hm : X.mg "enumerate" = none) (ha : PA X [e] ta) (hs : starEach [e] X.env = [(false, eval e X.env)] := by rfl) :
    PI X (.Tuple elts kk tpos) (.Call (.Name "enumerate" p) [e] [] pos) (iEnumA X.K ta) := by
  refine ⟨fun pins s σ H R I h => ?_⟩
  refine Call_ (ld_blt I hg hm boot_enumerate (PyProof.Rows.callWith_type1 (thn (ha.run pos pins s σ H _ I h) fun us s1 ⟨vs, H1, I1, r1, q1⟩ => ?_) hs rfl))
  obtain ⟨a, xs, ex, hq⟩ := q1
  subst ex
  cases r1 with
  | cons r rr =>
    cases rr
    cases r
    have fresh : ∀ b, b ∈ [s1.heap.objs.size + 1, s1.heap.objs.size] → FpOk X pins H1 b := fun b hb => by
      have e' : b = s1.heap.objs.size + 1 ∨ b = s1.heap.objs.size := by simpa using hb
      have hle : s1.heap.objs.size ≤ b := by
        rcases e' with z | z
        · rw [z]; exact Nat.le_add_right _ _
        · rw [z]; exact Nat.le_refl _
      exact I1.fpOk hle (I1.hok.fresh hle)
    rcases hq with ⟨hq, q⟩ | ⟨hq, q⟩
    · obtain ⟨its, rv, p', hz⟩ := I1.list hq
      refine call_enumerate_list p'.isList fun h' he hit hsz hk => wpAny_pyIter_enum he ?_
      have I2 : Inv X pins σ H1 { s1 with heap := h' } := I1.kept (t' := s1.toks) hk
      exact ⟨s1.heap.objs.size + 1, [s1.heap.objs.size + 1, s1.heap.objs.size], _, _, H1, rfl, I2, turn_enum a (s1.heap.objs.size + 1) s1.heap.objs.size, ⟨⟨.none, he⟩, hit, Nat.succ_ne_self _⟩, fresh, q⟩
    · obtain ⟨its, rv, p', hz⟩ := I1.tuple hq
      refine cb_call_enumerate (begins_tuple a its.toArray) p' fun h' he hit hsz hk => wpAny_pyIter_enum he ?_
      have I2 : Inv X pins σ H1 { s1 with heap := h' } := I1.kept (t' := s1.toks) hk
      exact ⟨s1.heap.objs.size + 1, [s1.heap.objs.size + 1, s1.heap.objs.size], _, _, H1, rfl, I2, turn_enumT a (s1.heap.objs.size + 1) s1.heap.objs.size, ⟨⟨.none, he⟩, ⟨_, hit, rfl, rfl⟩, Nat.succ_ne_self _⟩, fresh, q⟩
end CB

/-! sorted of lists of alike data. -/
namespace PySem.W
open PySem PySem.Calls PyProof.Rows
def SortableL (ds : List PyData) : Prop := Sortable ds ∨ (ds.length ≤ 1 ∧ ∀ d, d ∈ ds → d ≠ .none)
theorem cb_sortsAt {prog : Program} {w : World} {A : Around} {s : Shared} {vs : List Value} {ds : List PyData} (e : EachIs (fun v d => ∃ as, Reads s.heap v d as) vs ds) (hal : AllAlike ds) (hk : SortableL ds) (hu : ∀ d, d ∈ ds → A.units + d.depth < cLine) : SortsAt prog w A s (dataKind s.heap ds) vs := by
  rcases hk with hk | ⟨hl, hn⟩
  · exact SortsAt.data e hal hk hu
  · refine ⟨fun v hv => ?_, general', fun E x y a b Q ha hb hq => ?_, fun h2 => ?_⟩
    · obtain ⟨d, hd, as, r⟩ := e.left v hv
      exact ⟨_, dataKind_some hal hd r⟩
    · obtain ⟨d, as, hd, ra, rfl⟩ := dataKind_inv ha
      obtain ⟨d', as', hd', rb, rfl⟩ := dataKind_inv hb
      show wpAny _ _ (oneLt' false x y) _ _ _
      exact oneLt_alike (fun q => by cases q) ra rb (hal d hd d' hd') (hn d hd) (Nat.lt_of_le_of_lt (Nat.add_le_add_left (Nat.min_le_left _ _) _) (hu d hd)) hq
    · have := e.length
      exact absurd h2 (by omega)
theorem cb_sorted_data {prog : Program} {w : World} {A : Around} {E : Value → Shared → Prop} {s : Shared} {β : Type} {vs : List Value} {bs : List β} {enc : β → PyData} {R : Value → β → Prop} {l : Addr} {Q : Value → Shared → Prop} (hl : s.heap.IsList l vs.toArray) (e : EachIs R vs bs) (er : EachIs (fun v b => ∃ as, Reads s.heap v (enc b) as) vs bs) (hal : AllAlike (bs.map enc)) (hk : SortableL (bs.map enc)) (hL : bs.length ≤ sizeLine)
    (hu : ∀ b, b ∈ bs → A.units + 2 + (enc b).depth < cLine) (h : ∀ out, out.length = bs.length → EachIs R out (bs.mergeSort (dataLe false enc)) → Q (.ref (s.heap.objs.size + 1)) { s with heap := sortedAll s.heap vs (List.toArray out) }) :
    wpAny (model prog w) A (call (.builtin "sorted") [.ref l]) Q E s := by
  have er' : EachIs (fun v b => ∃ as, Reads (sortingHeap (copyHeap s.heap vs) (s.heap.objs.size + 1) vs) v (enc b) as) vs bs := er.mono fun _ _ ⟨as, r⟩ => ⟨as, PyProof.Rows.Reads.keeps (fun _ _ => sorting_copy_old) r⟩
  exact sorted_vals hl (cb_sortsAt (s := { s with heap := sortingHeap (copyHeap s.heap vs) (s.heap.objs.size + 1) vs }) (each_map (R := fun v d => ∃ as, Reads (sortingHeap (copyHeap s.heap vs) (s.heap.objs.size + 1) vs) v d as) enc er') hal hk (bound_map hu)) (by rw [e.length]; exact hL)
    (h _ (by rw [sortVals_length false rfl]; exact e.length) (sortVals_data false e er' hal))
end PySem.W
namespace CB
open PySem PySem.Spec PyProof.Rows L2
/-- sorted of a list of alike data -/
def rSortD (K : PySem.W.Frag) : List V → Hp → VK → Prop := fun vs H Q => ∃ (a : Addr) (ps : List (V × PyData)), vs = [V.ref a] ∧ SqL K H a (ps.map (·.1)) ∧ (∀ p ∈ ps, Dp K H p.1 p.2) ∧ PySem.W.AllAlike (ps.map (·.2)) ∧ PySem.W.SortableL (ps.map (·.2)) ∧ (∀ p ∈ ps, p.2.depth ≤ 60) ∧
  ∀ q, H q = none → Q (.ref q) (upd H q (.lst ((ps.mergeSort (PySem.W.dataLe false (·.2))).map (·.1))))
theorem each_vals {α : Type} (f : α → V) : ∀ {ps : List α} {us : List Value}, Vals (ps.map f) us → PySem.W.EachIs (fun u p => RelV (f p) u) us ps
  | [], us, h => by cases h; exact .nil
  | p :: ps, us, h => by
    cases h with
    | cons r rr => exact .cons r (each_vals f rr)
theorem vals_each {α : Type} (f : α → V) : ∀ {ps : List α} {us : List Value}, PySem.W.EachIs (fun u p => RelV (f p) u) us ps → Vals (ps.map f) us
  | _, _, .nil => .nil
  | _, _, .cons r rr => .cons r (vals_each f rr)
theorem each_with {α β : Type} {R : α → β → Prop} {P : β → Prop} : ∀ {as : List α} {bs : List β}, PySem.W.EachIs R as bs → (∀ b ∈ bs, P b) → PySem.W.EachIs (fun a b => R a b ∧ P b) as bs
  | _, _, .nil, _ => .nil
  | _, _, .cons r rr, h => .cons ⟨r, h _ List.mem_cons_self⟩ (each_with rr fun b m => h b (List.mem_cons_of_mem _ m))
theorem cr_sortD {X : Cx} (hu : X.A.units + 65 < cLine) : CallR X (.builtin "sorted") (rSortD X.K) := by
  intro pins s σ H vs us Q I r h
  obtain ⟨a, ps, rfl, hs, hd, hal, hk, hdep, q⟩ := h
  obtain ⟨its, rv, hl, hz⟩ := I.list hs
  rw [Vals.ref1 r]
  have e := each_vals (fun p : V × PyData => p.1) rv
  have er : PySem.W.EachIs (fun v (p : V × PyData) => ∃ as, Reads s.heap v p.2 as) its ps := (each_with e hd).mono fun u p z => Dp.reads I p.2 p.1 u z.2 z.1
  refine PySem.W.cb_sorted_data (R := fun u p => RelV p.1 u) (enc := fun p : V × PyData => p.2) hl.isList e er hal hk (by rw [List.length_map] at hz; exact hz) (fun b m => by have := hdep b m; omega) fun out hlen eo => ?_
  obtain ⟨ep, he'⟩ := PyProof.Rows.sortedAll_at s.heap its out.toArray
  have vo := vals_each (fun p : V × PyData => p.1) eo
  have hlen2 : ((ps.mergeSort (PySem.W.dataLe false (·.2))).map (·.1)).length ≤ sizeLine := by
    rw [List.length_map, List.length_mergeSort]
    rw [List.length_map] at hz
    exact hz
  exact ⟨.ref _, upd H (s.heap.objs.size + 1) (.lst ((ps.mergeSort (PySem.W.dataLe false (·.2))).map (·.1))), I.laid (t' := s.toks) (fun _ _ => PyProof.Rows.sortedAll_old) (Nat.le_succ _) ⟨hlen2, out, ep, vo, he'⟩, rfl, q _ (I.hok.fresh (Nat.le_succ _))⟩
end CB

/-! A small language of trees: its values, its heap, its run. -/
namespace CB
open PySem

/-- values: texts, numbers and tuples are trees; what can change stands in the heap -/
inductive T where
  | non | bl (b : Bool) | int (i : Int) | str (s : Str) | tup (xs : List T) | rf (a : Nat) | frz (ns : List Int)
/-- what stands in the heap: lists, dicts, instances -/
inductive O where
  | lst (xs : List T) | dct (kvs : List (T × T)) | ins (c : Nat) (fs : List (Nat × T))
abbrev Hs := List O
/-- an exception: its class, what it was made with -/
structure Exn where
  cls : Nat
  arg : Option T
inductive Res (α : Type) where
  | ok (a : α) (h : Hs) | exc (x : Exn) (h : Hs) | bad
abbrev M (α : Type) := Hs → Res α
def ret {α} (a : α) : M α := fun h => .ok a h
def bnd {α β} (m : M α) (f : α → M β) : M β := fun h => match m h with
  | .ok a h1 => f a h1
  | .exc x h1 => .exc x h1
  | .bad => .bad
def badM {α} : M α := fun _ => .bad
def ofO {α} : Option α → M α
  | some a => ret a
  | none => badM
def alloc (o : O) : M T := fun h => .ok (.rf h.length) (h ++ [o])
/-- a run that lets no exception out -/
def noX {α} (m : M α) : M α := fun h => match m h with
  | .ok a h1 => .ok a h1
  | _ => .bad
abbrev SZ : Nat := 16777216

/-! ### operations on values -/
inductive Bop where | add | sub | mul | fdiv | mod | pow
  deriving DecidableEq
inductive Cop where | eq | ne | lt | le | gt | ge | isIn | notIn | is | isNot
  deriving DecidableEq
/-- the items of a list -/
def lstOf (h : Hs) : T → Option (List T)
  | .rf a => (match h[a]? with
    | some (.lst xs) => some xs
    | _ => none)
  | .frz ns => some (ns.map .int)
  | _ => none
/-- the items of a list or tuple -/
def seqOf (h : Hs) : T → Option (List T)
  | .tup xs => some xs
  | t => lstOf h t
def tru (h : Hs) : T → Option Bool
  | .non => some false
  | .bl b => some b
  | .int i => some (i != 0)
  | .str s => if s.length ≤ SZ then some ((s.length : Int) != 0) else none
  | t => (seqOf h t).map fun xs => !xs.isEmpty
def mulOk (i j : Int) : Bool := decide (i.natAbs.log2 + j.natAbs.log2 < 1000000)
def divOk (j : Int) : Bool := decide (0 < j) && decide (j.natAbs.log2 < 9000)
def powOk (i j : Int) : Bool := decide (0 ≤ j) && decide (j ≤ 1000000) && decide (i.natAbs < 2 ^ 64)
def binI (o : Bop) (x y : T) : M T := match o, x, y with
  | .add, .int i, .int j => ret (.int (i + j))
  | .sub, .int i, .int j => ret (.int (i - j))
  | .mul, .int i, .int j => if mulOk i j then ret (.int (i * j)) else badM
  | .fdiv, .int i, .int j => if divOk j then ret (.int (i / j)) else badM
  | .mod, .int i, .int j => if 0 < j then ret (.int (i % j)) else badM
  | .pow, .int i, .int j => if powOk i j then ret (.int (i ^ j.toNat)) else badM
  | .add, .tup xs, .tup ys => if xs.length + ys.length ≤ SZ then ret (.tup (xs ++ ys)) else badM
  | .add, .str x, .str y => if x.length + y.length ≤ SZ then ret (.str (x ++ y)) else badM
  | .add, .rf a, .rf b => fun h => (match h[a]?, h[b]? with
    | some (.lst xs), some (.lst ys) => if xs.length + ys.length ≤ SZ then alloc (.lst (xs ++ ys)) h else .bad
    | _, _ => .bad)
  | .mul, .rf a, .int k => fun h => (match h[a]? with
    | some (.lst xs) => if 0 ≤ k ∧ k < 1000 ∧ xs.length * k.toNat ≤ SZ then alloc (.lst (List.replicate k.toNat xs).flatten) h else .bad
    | _ => .bad)
  | .mul, .tup xs, .int k => if xs ≠ [] ∧ 1 ≤ k ∧ k ≤ 1000 ∧ xs.length ≤ 1000 then ret (.tup (List.replicate k.toNat xs).flatten) else badM
  | _, _, _ => badM
def mapO {α β : Type} (f : α → Option β) : List α → Option (List β)
  | [] => some []
  | x :: xs => match f x, mapO f xs with
    | some y, some ys => some (y :: ys)
    | _, _ => none
/-- the datum that a value tells (lists by the heap; n: how deep) -/
def dat (h : Hs) : Nat → T → Option PyData
  | 0, _ => none
  | n + 1, t => match t with
    | .non => some .none
    | .bl b => some (.bool b)
    | .int i => some (.int i)
    | .str s => some (.str s)
    | .tup xs => (mapO (dat h n) xs).map .tuple
    | .rf a => (match h[a]? with
      | some (.lst xs) => (mapO (dat h n) xs).map .list
      | _ => none)
    | .frz _ => none
abbrev DP : Nat := 66
def datS (h : Hs) (t : T) : Option PyData := match dat h DP t with
  | some d => if SeqAt.shaped d = true then some d else none
  | none => none
def eqI (h : Hs) (x y : T) : Option Bool := match datS h x, datS h y with
  | some d, some e => some (PyData.eqv d e)
  | _, _ => none
/-- is it in a list or tuple -/
def flatT : T → Bool
  | .non => true | .bl _ => true | .int _ => true | .str _ => true | _ => false
def eqF : T → T → Bool
  | .non, .non => true
  | .bl a, .bl b => a == b
  | .bl a, .int b => (if a then 1 else 0) == b
  | .int a, .bl b => a == (if b then 1 else 0)
  | .int a, .int b => a == b
  | .str a, .str b => a == b
  | _, _ => false
def inI (h : Hs) (x y : T) : Option Bool := match seqOf h y with
  | some ys => if flatT x && ys.all flatT then some (ys.any fun z => eqF z x) else (match y, datS h x, datS h y with
    | .rf _, some d, some (.list ds) => some (ds.any fun z => PyData.eqv z d)
    | _, _, _ => none)
  | none => none
def icmp (f : Int → Int → Bool) : T → T → Option Bool
  | .int i, .int j => some (f i j)
  | _, _ => none
def isN : T → Bool
  | .non => true
  | _ => false
def cmpI (o : Cop) (x y : T) (h : Hs) : Option Bool := match o with
  | .eq => eqI h x y
  | .ne => (eqI h x y).map (!·)
  | .lt => icmp (fun i j => decide (i < j)) x y
  | .le => icmp (fun i j => decide (i ≤ j)) x y
  | .gt => icmp (fun i j => decide (j < i)) x y
  | .ge => icmp (fun i j => decide (j ≤ i)) x y
  | .isIn => inI h x y
  | .notIn => (inI h x y).map (!·)
  | .is => if isN y then some (isN x) else none
  | .isNot => if isN y then some (!isN x) else none
def optM {α} (f : Hs → Option α) : M α := fun h => match f h with
  | some a => .ok a h
  | none => .bad
def idxI (x y : T) : M T := match y with
  | .int i => optM fun h => (seqOf h x).bind fun xs => L2.atI xs i
  | _ => badM
def cutT (xs : List T) (lo hi : Option Int) : List T := (xs.drop (HT.sIx xs.length 0 lo)).take (HT.sIx xs.length xs.length hi - HT.sIx xs.length 0 lo)
def slcI (x : T) (lo hi : Option Int) : M T := match x with
  | .tup xs => ret (.tup (cutT xs lo hi))
  | t => fun h => match lstOf h t with
    | some xs => alloc (.lst (cutT xs lo hi)) h
    | none => .bad
def attI (x : T) (f : Nat) (h : Hs) : Option T := match x with
  | .rf a => (match h[a]? with
    | some (.ins _ fs) => fs.lookup f
    | _ => none)
  | _ => none
/-- built-ins -/
inductive Blt where | len | tuple | list | abs | int | sum | all | any | min2 | max2 | sorted
  deriving DecidableEq
def boolsOf : List T → Option (List Bool)
  | [] => some []
  | .bl b :: r => (boolsOf r).map (b :: ·)
  | _ :: _ => none
def intsOf : List T → Option (List Int)
  | [] => some []
  | .int i :: r => (intsOf r).map (i :: ·)
  | _ :: _ => none
/-- rows that sorted sorts here -/
def srtN : PyData → Bool
  | .tuple (_ :: _) => true
  | _ => false
def srtO : PyData → Bool
  | .none => false
  | .tuple _ => false
  | _ => true
def srtS : PyData → Bool
  | .none => false
  | _ => true
def srtB (ds : List PyData) : Bool := ds.all (fun d => ds.all (PySem.W.alike d)) && (ds.all srtN || ds.all srtO || (decide (ds.length ≤ 1) && ds.all srtS)) && ds.all (fun d => decide (d.depth ≤ 60))
def srtT (h : Hs) (xs : List T) : Option (List T) := match mapO (fun t => (datS h t).map fun d => (t, d)) xs with
  | some ps => if srtB (ps.map (·.2)) = true then some ((ps.mergeSort (PySem.W.dataLe false (·.2))).map (·.1)) else none
  | none => none
def bltI (b : Blt) (ts : List T) : M T := match b, ts with
  | .len, [t] => (match t with
    | .str s => if s.length ≤ SZ then ret (.int s.length) else badM
    | t => optM fun h => (seqOf h t).map fun xs => .int xs.length)
  | .tuple, [t] => optM fun h => (seqOf h t).map .tup
  | .list, [t] => fun h => (match seqOf h t with
    | some xs => alloc (.lst xs) h
    | none => .bad)
  | .abs, [.int i] => ret (.int (if i < 0 then -i else i))
  | .int, [.int i] => ret (.int i)
  | .int, [.bl b] => ret (.int (if b then 1 else 0))
  | .sum, [t] => optM fun h => ((lstOf h t).bind intsOf).map fun ns => .int ns.sum
  | .all, [t] => optM fun h => ((lstOf h t).bind boolsOf).map fun bs => .bl (bs.all id)
  | .any, [t] => optM fun h => ((lstOf h t).bind boolsOf).map fun bs => .bl (bs.any id)
  | .min2, [.int i, .int j] => ret (.int (if j < i then j else i))
  | .max2, [.int i, .int j] => ret (.int (if j > i then j else i))
  | .sorted, [t] => fun h => (match (lstOf h t).bind (srtT h) with
    | some ys => alloc (.lst ys) h
    | none => .bad)
  | _, _ => badM
/-- kinds that isinstance asks for -/
inductive Kd where | ty (n : String) | own (c : Nat)
  deriving DecidableEq
def tyN (h : Hs) : T → Option String
  | .non => some "NoneType"
  | .bl _ => some "bool"
  | .int _ => some "int"
  | .str _ => some "str"
  | .tup _ => some "tuple"
  | .rf a => (match h[a]? with
    | some (.lst _) => some "list"
    | some (.dct _) => some "dict"
    | _ => none)
  | .frz _ => none
def isiI (k : Kd) (t : T) (h : Hs) : Option Bool := match k with
  | .ty n => (tyN h t).bind fun m => L2.kitB m n
  | .own _ => none
/-- x op= y: ints -/
def augI (o : Bop) (x y : T) : M T := match o, x, y with
  | .add, .int i, .int j => ret (.int (i + j))
  | .sub, .int i, .int j => ret (.int (i - j))
  | _, _, _ => badM
/-- methods of built-in types -/
inductive Mth where | append | extend | pop | insert | index | popAt
  deriving DecidableEq
def setO (a : Nat) (o : O) (t : T) : M T := fun h => .ok t (h.set a o)
def metI (m : Mth) (x : T) (ts : List T) : M T := match x with
  | .rf a => fun h => (match h[a]? with
    | some (.lst xs) => (match m, ts with
      | .append, [t] => if xs.length < SZ then setO a (.lst (xs ++ [t])) .non h else .bad
      | .extend, [.rf b] => (match h[b]? with
        | some (.lst ys) => if xs.length + ys.length ≤ SZ then setO a (.lst (xs ++ ys)) .non h else .bad
        | _ => .bad)
      | .pop, [] => (match xs.getLast? with
        | some t => setO a (.lst xs.dropLast) t h
        | none => .bad)
      | .popAt, [.int i] => if 0 ≤ i ∧ i < 2 ^ 62 then (match xs[i.toNat]? with
        | some t => setO a (.lst (xs.eraseIdx i.toNat)) t h
        | none => .bad) else .bad
      | .insert, [.int i, t] => if 0 ≤ i ∧ i < 2 ^ 63 ∧ xs.length < SZ then setO a (.lst (xs.take i.toNat ++ t :: xs.drop i.toNat)) .non h else .bad
      | _, _ => .bad)
    | _ => .bad)
  | _ => badM

def putN (f : Nat) (v : T) : List (Nat × T) → List (Nat × T)
  | [] => [(f, v)]
  | (g, w) :: r => if f == g then (g, v) :: r else (g, w) :: putN f v r

/-! ### syntax -/
inductive Tg where
  | name (i : Nat) | nil | cons (t : Tg) (ts : Tg)      -- nil, cons: a tuple of targets
mutual
inductive E where
  | cst (t : T) | var (i : Nat)
  | tup (es : Es) | lst (es : Es)
  | bin (o : Bop) (a b : E) | neg (a : E)
  | cmp (o : Cop) (a b : E) | chn (o p : Cop) (a b c : E)
  | and (a b : E) | or (a b : E) | not (a : E) | ife (c a b : E)
  | idx (a b : E) | slc (a : E) (lo hi : Eo) | att (a : E) (f : Nat)
  | call (f : Nat) (es : Es) | make (c i : Nat) (es : Es)
  | blt (b : Blt) (es : Es) | isi (a : E) (k : Kd) | met (m : Mth) (o : E) (es : Es)
  | rgv (b : Bool) (a : E)
  | lc (elt : E) (tg : Tg) (src : Src) (cond : Eo) (own : List Nat)
inductive Es where
  | nil | cons (e : E) (es : Es)
inductive Eo where
  | non | som (e : E)
inductive Src where
  | over (e : E) | rng1 (a : E) | rng2 (a b : E) | enum (e : E) | zip (a b : E)
end
mutual
inductive S where
  | exp (e : E) | asg (tg : Tg) (e : E) | par (i j : Nat) (a b : E)
  | aug (i : Nat) (o : Bop) (e : E) | sti (o i e : E) | sta (o : E) (f : Nat) (e : E)
  | ret (e : E) | retN | ifs (c : E) (a b : Ss) | whl (c : E) (b : Ss) | for (tg : Tg) (src : Src) (b : Ss)
  | brk | cnt | pas | rse (c : Nat) | nev
inductive Ss where
  | nil | cons (s : S) (r : Ss)
end
structure Fn where
  np : Nat
  ns : Nat
  body : Ss

/-! ### the run -/
abbrev Env := List (Option T)
def wipeE (σ : Env) : List Nat → Env
  | [] => σ
  | v :: vs => (wipeE σ vs).set v none
/-- a target takes a value -/
def tak : Tg → T → Env → Option Env
  | .name i, t, σ => some (σ.set i (some t))
  | .nil, .tup [], σ => some σ
  | .cons a r, .tup (x :: xs), σ => (tak a x σ).bind (tak r (.tup xs))
  | _, _, _ => none
/-- what is walked: the items, and what must stand while they are walked -/
structure Wk where
  its : List T
  std : Hs → Prop
def walkL (h : Hs) (t : T) : Option Wk := match t with
  | .tup xs => some ⟨xs, fun _ => True⟩
  | t => (lstOf h t).map fun xs => ⟨xs, fun h' => lstOf h' t = some xs⟩
def iota (lo : Int) (n : Nat) : List T := (List.range n).map fun i : Nat => .int (lo + (i : Nat))
def enumT (xs : List T) : List T := xs.zipIdx.map fun p => .tup [.int p.2, p.1]
def zipT (xs ys : List T) : List T := (xs.zip ys).map fun p => .tup [p.1, p.2]
def rngOk (i : Int) : Prop := -(2 ^ 62) ≤ i ∧ i < 2 ^ 62
noncomputable instance (i : Int) : Decidable (rngOk i) := Classical.propDecidable _
open Classical in
/-- the turns of a comprehension -/
noncomputable def lcRun (std : Hs → Prop) (f : T → M (Option T)) : List T → List T → M (List T)
  | [], acc => fun h => if std h then .ok acc h else .bad
  | t :: ts, acc => fun h => if std h then bnd (noX (f t)) (fun o => match o with
      | some y => if acc.length < SZ then lcRun std f ts (acc ++ [y]) else badM
      | none => lcRun std f ts acc) h else .bad
section
variable (cl : Nat → List T → M T)
mutual
noncomputable def evE : E → Env → M T
  | .cst t, _ => ret t
  | .var i, σ => ofO (σ[i]?.join)
  | .tup es, σ => bnd (evEs es σ) fun ts => if ts.length ≤ SZ then ret (.tup ts) else badM
  | .lst es, σ => bnd (evEs es σ) fun ts => if ts.length ≤ SZ then alloc (.lst ts) else badM
  | .bin o a b, σ => bnd (evE a σ) fun x => bnd (evE b σ) fun y => binI o x y
  | .neg a, σ => bnd (evE a σ) fun x => match x with
    | .int i => ret (.int (-i))
    | _ => badM
  | .cmp o a b, σ => bnd (evE a σ) fun x => bnd (evE b σ) fun y => bnd (optM (cmpI o x y)) fun k => ret (.bl k)
  | .chn o p a b c, σ => bnd (evE a σ) fun x => bnd (evE b σ) fun y => bnd (optM (cmpI o x y)) fun k => if k = true then
      bnd (evE c σ) fun z => bnd (optM (cmpI p y z)) fun k => ret (.bl k) else ret (.bl false)
  | .and a b, σ => bnd (evE a σ) fun x => bnd (optM fun h => tru h x) fun k => if k = true then evE b σ else ret x
  | .or a b, σ => bnd (evE a σ) fun x => bnd (optM fun h => tru h x) fun k => if k = true then ret x else evE b σ
  | .not a, σ => bnd (evE a σ) fun x => bnd (optM fun h => tru h x) fun k => ret (.bl (!k))
  | .ife c a b, σ => bnd (evE c σ) fun x => bnd (optM fun h => tru h x) fun k => if k = true then evE a σ else evE b σ
  | .idx a b, σ => bnd (evE a σ) fun x => bnd (evE b σ) fun y => idxI x y
  | .slc a lo hi, σ => bnd (evE a σ) fun x => bnd (evEo lo σ) fun l => bnd (evEo hi σ) fun u => slcI x l u
  | .att a f, σ => bnd (evE a σ) fun x => optM (attI x f)
  | .call f es, σ => bnd (evEs es σ) fun ts => cl f ts
  | .make c i es, σ => bnd (evEs es σ) fun ts => bnd (alloc (.ins c [])) fun x => bnd (cl i (x :: ts)) fun r => match r with
    | .non => ret x
    | _ => badM
  | .blt b es, σ => bnd (evEs es σ) fun ts => bltI b ts
  | .isi a k, σ => bnd (evE a σ) fun x => bnd (optM (isiI k x)) fun b => ret (.bl b)
  | .met m o es, σ => bnd (evE o σ) fun x => bnd (optM fun h => lstOf h x) fun _ => bnd (evEs es σ) fun ts => metI m x ts
  | .rgv b a, σ => bnd (evE a σ) fun x => match x with
    | .int j => if 0 ≤ j ∧ j ≤ 16777216 then (if b = true then ret (.tup (iota 0 j.toNat)) else alloc (.lst (iota 0 j.toNat))) else badM
    | _ => badM
  | .lc elt tg src cond own, σ => bnd (evSrc src σ) fun w =>
      bnd (lcRun w.std (fun t => match tak tg t (wipeE σ own) with
        | some σ2 => bnd (evCond cond σ2) fun k => if k = true then bnd (evE elt σ2) fun y => ret (some y) else ret none
        | none => badM) w.its []) fun ys => alloc (.lst ys)
noncomputable def evEs : Es → Env → M (List T)
  | .nil, _ => ret []
  | .cons e es, σ => bnd (evE e σ) fun x => bnd (evEs es σ) fun xs => ret (x :: xs)
noncomputable def evEo : Eo → Env → M (Option Int)
  | .non, _ => ret none
  | .som e, σ => bnd (evE e σ) fun x => match x with
    | .int i => ret (some i)
    | _ => badM
noncomputable def evCond : Eo → Env → M Bool
  | .non, _ => ret true
  | .som e, σ => bnd (evE e σ) fun x => optM fun h => tru h x
noncomputable def evSrc : Src → Env → M Wk
  | .over e, σ => bnd (evE e σ) fun x => optM fun h => walkL h x
  | .rng1 a, σ => bnd (evE a σ) fun x => match x with
    | .int j => if rngOk j then ret ⟨iota 0 j.toNat, fun _ => True⟩ else badM
    | _ => badM
  | .rng2 a b, σ => bnd (evE a σ) fun x => bnd (evE b σ) fun y => match x, y with
    | .int i, .int j => if rngOk i ∧ rngOk j then ret ⟨iota i (j - i).toNat, fun _ => True⟩ else badM
    | _, _ => badM
  | .enum e, σ => bnd (evE e σ) fun x => match x with
    | .tup xs => ret ⟨enumT xs, fun _ => True⟩
    | x => optM fun h => (lstOf h x).map fun xs => ⟨enumT xs, fun h' => lstOf h' x = some xs⟩
  | .zip a b, σ => bnd (evE a σ) fun x => bnd (evE b σ) fun y => match x, y with
    | .tup xs, .tup ys => ret ⟨zipT xs ys, fun _ => True⟩
    | x, y => optM fun h => (match lstOf h x, lstOf h y with
      | some xs, some ys => some ⟨zipT xs ys, fun h' => lstOf h' x = some xs ∧ lstOf h' y = some ys⟩
      | _, _ => none)
end
end
/-- how a statement ends -/
inductive Out where
  | nx (σ : Env) (h : Hs) | ret (t : T) (h : Hs) | brk (σ : Env) (h : Hs) | cnt (σ : Env) (h : Hs) | exc (x : Exn) (σ : Env) (h : Hs) | bad
def thenO (m : M α) (σ : Env) (h : Hs) (f : α → Hs → Out) : Out := match m h with
  | .ok a h1 => f a h1
  | .exc x h1 => .exc x σ h1
  | .bad => .bad
open Classical in
noncomputable def forRun (std : Hs → Prop) (tg : Tg) (body : Env → Hs → Out) : List T → Env → Hs → Out
  | [], σ, h => if std h then .nx σ h else .bad
  | t :: ts, σ, h => if std h then (match tak tg t σ with
      | some σ1 => (match body σ1 h with
        | .nx σ2 h2 => forRun std tg body ts σ2 h2
        | .cnt σ2 h2 => forRun std tg body ts σ2 h2
        | .brk σ2 h2 => .nx σ2 h2
        | o => o)
      | none => .bad) else .bad
/-- a turn of a while: once more, or an end -/
inductive Tn where
  | again (σ : Env) (h : Hs) | done (o : Out)
def whN (f : Env → Hs → Tn) : Nat → Env → Hs → Option Out
  | 0, _, _ => none
  | n + 1, σ, h => match f σ h with
    | .again σ2 h2 => whN f n σ2 h2
    | .done o => some o
open Classical in
noncomputable def whRun (f : Env → Hs → Tn) (σ : Env) (h : Hs) : Out := if q : ∃ n o, whN f n σ h = some o then (Classical.choose_spec q).choose else .bad
section
variable (cl : Nat → List T → M T)
mutual
noncomputable def exS : S → Env → Hs → Out
  | .exp e, σ, h => thenO (evE cl e σ) σ h fun _ h1 => .nx σ h1
  | .asg tg e, σ, h => thenO (evE cl e σ) σ h fun x h1 => match tak tg x σ with
    | some σ1 => .nx σ1 h1
    | none => .bad
  | .par i j a b, σ, h => thenO (evE cl a σ) σ h fun x h1 => thenO (evE cl b σ) σ h1 fun y h2 => .nx ((σ.set i (some x)).set j (some y)) h2
  | .aug i o e, σ, h => match σ[i]?.join with
    | some x => thenO (evE cl e σ) σ h fun y h1 => thenO (augI o x y) σ h1 fun z h2 => .nx (σ.set i (some z)) h2
    | none => .bad
  | .sti o i e, σ, h => thenO (evE cl e σ) σ h fun v h1 => thenO (evE cl o σ) σ h1 fun x h2 => thenO (evE cl i σ) σ h2 fun y h3 => match x, y with
    | .rf a, .int k => (match h3[a]? with
      | some (.lst xs) => (match L2.ixN xs.length k with
        | some j => .nx σ (h3.set a (.lst (xs.set j v)))
        | none => .bad)
      | _ => .bad)
    | _, _ => .bad
  | .sta o f e, σ, h => thenO (evE cl e σ) σ h fun v h1 => thenO (evE cl o σ) σ h1 fun x h2 => match x with
    | .rf a => (match h2[a]? with
      | some (.ins c fs) => if fs.length < 900 then .nx σ (h2.set a (.ins c (putN f v fs))) else .bad
      | _ => .bad)
    | _ => .bad
  | .ret e, σ, h => thenO (evE cl e σ) σ h fun x h1 => .ret x h1
  | .retN, σ, h => .ret .non h
  | .ifs c a b, σ, h => thenO (evCond cl (.som c) σ) σ h fun k h1 => if k = true then exSs a σ h1 else exSs b σ h1
  | .whl c b, σ, h => whRun (fun σ h => match evCond cl (.som c) σ h with
      | .ok true h1 => (match exSs b σ h1 with
        | .nx σ2 h2 => .again σ2 h2
        | .cnt σ2 h2 => .again σ2 h2
        | .brk σ2 h2 => .done (.nx σ2 h2)
        | o => .done o)
      | .ok false h1 => .done (.nx σ h1)
      | .exc x h1 => .done (.exc x σ h1)
      | .bad => .done .bad) σ h
  | .for tg src b, σ, h => thenO (evSrc cl src σ) σ h fun w h1 => forRun w.std tg (exSs b) w.its σ h1
  | .brk, σ, h => .brk σ h
  | .cnt, σ, h => .cnt σ h
  | .pas, σ, h => .nx σ h
  | .rse c, σ, h => .exc ⟨c, none⟩ σ h
  | .nev, _, _ => .bad
noncomputable def exSs : Ss → Env → Hs → Out
  | .nil, σ, h => .nx σ h
  | .cons s r, σ, h => match exS s σ h with
    | .nx σ1 h1 => exSs r σ1 h1
    | o => o
end
end
/-- a def's run -/
noncomputable def runF (cl : Nat → List T → M T) (fn : Fn) (ts : List T) : M T := fun h =>
  if ts.length = fn.np ∧ fn.np ≤ fn.ns then match exSs cl fn.body (ts.map some ++ List.replicate (fn.ns - fn.np) none) h with
    | .nx _ h1 => .ok .non h1
    | .ret t h1 => .ok t h1
    | .exc x _ h1 => .exc x h1
    | _ => .bad
  else .bad
/-- a call, at most so deep -/
noncomputable def callN (tb : Nat → Option Fn) : Nat → Nat → List T → M T
  | 0, _, _ => badM
  | d + 1, f, ts => match tb f with
    | some fn => runF (callN tb d) fn ts
    | none => badM
end CB

/-! Trees and the hand layer's heap: how the one stands for the other. -/
namespace CB
open PySem PySem.Spec PyProof.Rows L2
def Imm : HO → Prop
  | .tup _ => True
  | .frz _ _ => True
  | _ => False
section
variable (K : PySem.W.Frag)
/-- a list that never changes -/
def SqF (H : Hp) (a : Addr) (xs : List V) : Prop :=
  (∃ o, H a = some (.frz o (.lst xs))) ∨
    ∃ (o : Obj) (its : Array Value) (n : Nat), K.lookup a = some o ∧ o.cls = .type "list" ∧ o.dict = none ∧ o.data = .seq its n ∧ its.size ≤ sizeLine ∧ Vals xs its.toList
theorem SqF.sq {H : Hp} {a : Addr} {xs : List V} (h : SqF K H a xs) : SqL K H a xs := by
  rcases h with h | h
  · exact .inl (.inr h)
  · exact .inr h
mutual
inductive Rf (ρ : List Addr) (H : Hp) : T → V → Prop
  | non : Rf ρ H .non .non
  | bl (b : Bool) : Rf ρ H (.bl b) (.bl b)
  | int (i : Int) : Rf ρ H (.int i) (.int i)
  | str (x : Str) : Rf ρ H (.str x) (.str x)
  | tup {a : Addr} {xs : List V} {ts : List T} : SqT K H a xs → RfL ρ H ts xs → Rf ρ H (.tup ts) (.ref a)
  | rf {i : Nat} {a : Addr} : ρ[i]? = some a → Rf ρ H (.rf i) (.ref a)
  | frz {a : Addr} {ns : List Int} : SqF K H a (ns.map V.int) → Rf ρ H (.frz ns) (.ref a)
inductive RfL (ρ : List Addr) (H : Hp) : List T → List V → Prop
  | nil : RfL ρ H [] []
  | cons {t : T} {v : V} {ts : List T} {vs : List V} : Rf ρ H t v → RfL ρ H ts vs → RfL ρ H (t :: ts) (v :: vs)
end
end
/-- the heap goes on -/
structure Ex (ρ : List Addr) (H : Hp) (ρ' : List Addr) (H' : Hp) : Prop where
  pre : ∃ δ, ρ' = ρ ++ δ ∧ ∀ a ∈ δ, H a = none
  keep : ∀ b o, H b = some o → (b ∉ ρ ∨ Imm o) → H' b = some o
  trk : ∀ a ∈ ρ', H' a ≠ none
section
variable {K : PySem.W.Frag} {ρ ρ1 ρ' : List Addr} {H H1 H' : Hp} {t : T} {v : V} {ts : List T} {vs : List V}
theorem Ex.trans (a : Ex ρ H ρ1 H1) (b : Ex ρ1 H1 ρ' H') : Ex ρ H ρ' H' := by
  obtain ⟨⟨δ, e, n⟩, k, t⟩ := a
  obtain ⟨⟨δ', e', n'⟩, k', t'⟩ := b
  refine ⟨⟨δ ++ δ', by rw [e', e, List.append_assoc], fun a ha => ?_⟩, fun b o hb hc => ?_, t'⟩
  · rcases List.mem_append.mp ha with ha | ha
    · exact n a ha
    · have q := n' a ha
      cases h : H a with
      | none => rfl
      | some o =>
        by_cases hr : a ∈ ρ
        · exact absurd q (t a (by rw [e]; exact List.mem_append_left _ hr))
        · rw [k a o h (.inl hr)] at q; cases q
  · have h1 := k b o hb hc
    refine k' b o h1 ?_
    rcases hc with hc | hc
    · refine .inl fun hm => ?_
      rw [e] at hm
      rcases List.mem_append.mp hm with hm | hm
      · exact hc hm
      · rw [n b hm] at hb; cases hb
    · exact .inr hc
theorem Ex.get (x : Ex ρ H ρ' H') {i : Nat} {a : Addr} (h : ρ[i]? = some a) : ρ'[i]? = some a := by
  obtain ⟨⟨δ, e, _⟩, _, _⟩ := x
  rw [e, List.getElem?_append_left (List.getElem?_eq_some_iff.mp h).1]
  exact h
/-- what trees lean on -/
structure Le (ρ : List Addr) (H : Hp) (ρ' : List Addr) (H' : Hp) : Prop where
  get : ∀ (i : Nat) (a : Addr), ρ[i]? = some a → ρ'[i]? = some a
  imm : ∀ b o, H b = some o → Imm o → H' b = some o
theorem Ex.le (x : Ex ρ H ρ' H') : Le ρ H ρ' H' := ⟨fun _ _ h => x.get h, fun b o e i => x.keep b o e (.inr i)⟩
theorem SqT.ex (x : Le ρ H ρ' H') {a : Addr} {xs : List V} (h : SqT K H a xs) : SqT K H' a xs := by
  rcases h with (h | ⟨o, h⟩) | h
  · exact .inl (.inl (x.imm _ _ h trivial))
  · exact .inl (.inr ⟨o, x.imm _ _ h trivial⟩)
  · exact .inr h
theorem SqF.ex (x : Le ρ H ρ' H') {a : Addr} {xs : List V} (h : SqF K H a xs) : SqF K H' a xs := by
  rcases h with ⟨o, h⟩ | h
  · exact .inl ⟨o, x.imm _ _ h trivial⟩
  · exact .inr h
mutual
theorem Rf.le (x : Le ρ H ρ' H') : ∀ {t : T} {v : V}, Rf K ρ H t v → Rf K ρ' H' t v
  | _, _, .non => .non
  | _, _, .bl b => .bl b
  | _, _, .int i => .int i
  | _, _, .str s => .str s
  | _, _, .tup h r => .tup (SqT.ex x h) (RfL.le x r)
  | _, _, .rf h => .rf (x.get _ _ h)
  | _, _, .frz h => .frz (SqF.ex x h)
theorem RfL.le (x : Le ρ H ρ' H') : ∀ {ts : List T} {vs : List V}, RfL K ρ H ts vs → RfL K ρ' H' ts vs
  | _, _, .nil => .nil
  | _, _, .cons h r => .cons (Rf.le x h) (RfL.le x r)
end
theorem Rf.ex (x : Ex ρ H ρ' H') {t : T} {v : V} (r : Rf K ρ H t v) : Rf K ρ' H' t v := Rf.le x.le r
theorem RfL.ex (x : Ex ρ H ρ' H') {ts : List T} {vs : List V} (r : RfL K ρ H ts vs) : RfL K ρ' H' ts vs := RfL.le x.le r
theorem RfL.length : ∀ {ts : List T} {vs : List V}, RfL K ρ H ts vs → ts.length = vs.length
  | _, _, .nil => rfl
  | _, _, .cons _ r => by rw [List.length_cons, List.length_cons, r.length]
theorem RfL.get : ∀ {ts : List T} {vs : List V} {i : Nat} {t : T}, RfL K ρ H ts vs → ts[i]? = some t → ∃ v, vs[i]? = some v ∧ Rf K ρ H t v
  | _, _, _, _, .nil, e => by simp at e
  | _, _, 0, _, .cons r _, e => by simp at e; subst e; exact ⟨_, rfl, r⟩
  | _, _, i + 1, _, .cons _ q, e => by
    obtain ⟨v, h1, h2⟩ := RfL.get (i := i) q (by simpa using e)
    exact ⟨v, by simpa using h1, h2⟩
theorem RfL.getV : ∀ {ts : List T} {vs : List V} {i : Nat} {v : V}, RfL K ρ H ts vs → vs[i]? = some v → ∃ t, ts[i]? = some t ∧ Rf K ρ H t v
  | _, _, _, _, .nil, e => by simp at e
  | _, _, 0, _, .cons r _, e => by simp at e; subst e; exact ⟨_, rfl, r⟩
  | _, _, i + 1, _, .cons _ q, e => by
    obtain ⟨v, h1, h2⟩ := RfL.getV (i := i) q (by simpa using e)
    exact ⟨v, by simpa using h1, h2⟩
theorem RfL.append : ∀ {ts ts' : List T} {vs vs' : List V}, RfL K ρ H ts vs → RfL K ρ H ts' vs' → RfL K ρ H (ts ++ ts') (vs ++ vs')
  | _, _, _, _, .nil, s => s
  | _, _, _, _, .cons r q, s => .cons r (RfL.append q s)
theorem RfL.take : ∀ {ts : List T} {vs : List V} (n : Nat), RfL K ρ H ts vs → RfL K ρ H (ts.take n) (vs.take n)
  | _, _, 0, _ => .nil
  | _, _, _ + 1, .nil => .nil
  | _, _, n + 1, .cons r q => .cons r (RfL.take n q)
theorem RfL.drop : ∀ {ts : List T} {vs : List V} (n : Nat), RfL K ρ H ts vs → RfL K ρ H (ts.drop n) (vs.drop n)
  | _, _, 0, r => r
  | _, _, _ + 1, .nil => .nil
  | _, _, n + 1, .cons _ q => RfL.drop n q
theorem RfL.set {t : T} {v : V} (r : Rf K ρ H t v) : ∀ {ts : List T} {vs : List V} (i : Nat), RfL K ρ H ts vs → RfL K ρ H (ts.set i t) (vs.set i v)
  | _, _, _, .nil => .nil
  | _, _, 0, .cons _ q => .cons r q
  | _, _, i + 1, .cons p q => .cons p (RfL.set r i q)
theorem RfL.eraseIdx : ∀ {ts : List T} {vs : List V} (i : Nat), RfL K ρ H ts vs → RfL K ρ H (ts.eraseIdx i) (vs.eraseIdx i)
  | _, _, _, .nil => .nil
  | _, _, 0, .cons _ l => l
  | _, _, i + 1, .cons r l => .cons r (l.eraseIdx i)
theorem RfL.dropLast : ∀ {ts : List T} {vs : List V}, RfL K ρ H ts vs → RfL K ρ H ts.dropLast vs.dropLast
  | _, _, .nil => .nil
  | _, _, .cons _ .nil => .nil
  | _, _, .cons p (.cons q r) => .cons p (RfL.dropLast (.cons q r))
theorem RfL.flatRep {n : Nat} (r : RfL K ρ H ts vs) : RfL K ρ H (List.replicate n ts).flatten (List.replicate n vs).flatten := by
  induction n with
  | zero => exact .nil
  | succ n ih => rw [List.replicate_succ, List.replicate_succ, List.flatten_cons, List.flatten_cons]; exact r.append ih
theorem RfL.ints {ns : List Int} : RfL K ρ H (ns.map T.int) (ns.map V.int) := by
  induction ns with
  | nil => exact .nil
  | cons n r ih => exact .cons (.int n) ih
theorem RfL.isNil (r : RfL K ρ H ts vs) : (!ts.isEmpty) = !vs.isEmpty := by cases r <;> rfl
end
/-! ### the heap -/
/-- attributes by number -/
def attrN : Nat → Str
  | 0 => "people"
  | 1 => "term"
  | _ => "?"
section
variable (K : PySem.W.Frag) (ca : Nat → Addr)
inductive RfF (ρ : List Addr) (H : Hp) : List (Nat × T) → List (Str × V) → Prop
  | nil : RfF ρ H [] []
  | cons {f : Nat} {t : T} {v : V} {fs : List (Nat × T)} {gs : List (Str × V)} : f < 2 → Rf K ρ H t v → RfF ρ H fs gs → RfF ρ H ((f, t) :: fs) ((attrN f, v) :: gs)
/-- a class of ours: its attributes are plain -/
structure CO (C : Addr) : Prop where
  cls : Cls K C
  noat : ∀ f, f < 2 → NoAttr K C (attrN f)
inductive RO (ρ : List Addr) (H : Hp) : O → HO → Prop
  | lst {xs : List T} {vs : List V} : RfL K ρ H xs vs → RO ρ H (.lst xs) (.lst vs)
  | ins {c : Nat} {dx : Addr} {fs : List (Nat × T)} {gs : List (Str × V)} : CO K (ca c) → RfF K ρ H fs gs → RO ρ H (.ins c fs) (.ins (ca c) dx gs)
structure Sm (ρ : List Addr) (h : Hs) (H : Hp) : Prop where
  len : ρ.length = h.length
  nd : ρ.Nodup
  ob : ∀ (i : Nat) (o : O) (a : Addr), h[i]? = some o → ρ[i]? = some a → ∃ ho, H a = some ho ∧ RO K ca ρ H o ho
end
section
variable {K : PySem.W.Frag} {ca : Nat → Addr} {ρ ρ1 ρ' : List Addr} {H H1 H' : Hp} {h h1 h' : Hs} {t : T} {v : V} {ts : List T} {vs : List V}
theorem RfF.le (x : Le ρ H ρ' H') : ∀ {fs : List (Nat × T)} {gs : List (Str × V)}, RfF K ρ H fs gs → RfF K ρ' H' fs gs
  | _, _, .nil => .nil
  | _, _, .cons l h r => .cons l (Rf.le x h) (RfF.le x r)
theorem RO.le (x : Le ρ H ρ' H') {o : O} {ho : HO} (r : RO K ca ρ H o ho) : RO K ca ρ' H' o ho := by
  cases r with
  | lst r => exact .lst (RfL.le x r)
  | ins q r => exact .ins q (RfF.le x r)
theorem RO.ex (x : Ex ρ H ρ' H') {o : O} {ho : HO} (r : RO K ca ρ H o ho) : RO K ca ρ' H' o ho := RO.le x.le r
theorem RO.mut {o : O} {ho : HO} (r : RO K ca ρ H o ho) : ¬ Imm ho := by
  cases r <;> exact fun z => z
theorem Sm.trk (m : Sm K ca ρ h H) : ∀ a ∈ ρ, H a ≠ none := fun a ha => by
  obtain ⟨i, hi, e⟩ := List.getElem_of_mem ha
  obtain ⟨ho, q, _⟩ := m.ob i (h[i]'(by rw [← m.len]; exact hi)) a (by simp [← m.len, hi]) (by simp [hi, e])
  rw [q]; exact fun z => nomatch z
theorem Sm.refl (m : Sm K ca ρ h H) : Ex ρ H ρ H := ⟨⟨[], by simp, fun _ h => nomatch h⟩, fun _ _ e _ => e, m.trk⟩
theorem Sm.fresh (m : Sm K ca ρ h H) {p : Addr} (hp : H p = none) : p ∉ ρ := fun z => m.trk p z hp
/-- something new that is not ours: a tuple -/
theorem Sm.newT (m : Sm K ca ρ h H) {p : Addr} (hp : H p = none) (xs : List V) : Ex ρ H ρ (upd H p (.tup xs)) ∧ Sm K ca ρ h (upd H p (.tup xs)) := by
  have k : ∀ b o, H b = some o → upd H p (.tup xs) b = some o := fun b o e => by rw [upd_ne (ne_of_none e hp)]; exact e
  have x : Ex ρ H ρ (upd H p (.tup xs)) := ⟨⟨[], by simp, fun _ h => nomatch h⟩, fun b o e _ => k b o e, fun a ha z => by
    cases q : H a with
    | none => exact m.trk a ha q
    | some o => rw [k a o q] at z; cases z⟩
  refine ⟨x, m.len, m.nd, fun i o a h1 h2 => ?_⟩
  obtain ⟨ho, q, r⟩ := m.ob i o a h1 h2
  exact ⟨ho, k a ho q, r.ex x⟩
/-- what is not ours is written -/
theorem Sm.other (m : Sm K ca ρ h H) {p : Addr} (hp : p ∉ ρ) {ho : HO} (hi : ∀ o, H p = some o → ¬ Imm o) : Sm K ca ρ h (upd H p ho) ∧ Le ρ H ρ (upd H p ho) := by
  have x : Le ρ H ρ (upd H p ho) := ⟨fun _ _ e => e, fun b o e i => by
    rw [upd_ne (fun z => by subst z; exact hi o e i)]; exact e⟩
  refine ⟨⟨m.len, m.nd, fun i o a h1 h2 => ?_⟩, x⟩
  obtain ⟨hu, q, r⟩ := m.ob i o a h1 h2
  exact ⟨hu, by rw [upd_ne (fun z => by subst z; exact hp (List.mem_of_getElem? h2))]; exact q, r.le x⟩
theorem Ex.out (x : Ex ρ H ρ' H') {b : Addr} {o : HO} (e : H b = some o) (n : b ∉ ρ) : b ∉ ρ' ∧ H' b = some o := by
  refine ⟨fun z => ?_, x.keep b o e (.inl n)⟩
  obtain ⟨⟨δ, q, hn⟩, _, _⟩ := x
  rw [q] at z
  rcases List.mem_append.mp z with z | z
  · exact n z
  · rw [hn b z] at e; cases e
/-- something at p, new once, is taken as ours -/
theorem Sm.adopt (m : Sm K ca ρ h H) {p : Addr} (hp : p ∉ ρ) {o : O} {ho : HO} (e : H p = some ho) (r : RO K ca ρ H o ho) {ρ0 : List Addr} {H0 : Hp} (x : Ex ρ0 H0 ρ H) (h0 : H0 p = none) : Ex ρ0 H0 (ρ ++ [p]) H ∧ Sm K ca (ρ ++ [p]) (h ++ [o]) H := by
  obtain ⟨⟨δ, q, hn⟩, hk, ht⟩ := x
  have le : Le ρ H (ρ ++ [p]) H := ⟨fun i a e => by rw [List.getElem?_append_left (List.getElem?_eq_some_iff.mp e).1]; exact e, fun _ _ e _ => e⟩
  refine ⟨⟨⟨δ ++ [p], by rw [q, List.append_assoc], fun a ha => (List.mem_append.mp ha).elim (hn a) fun z => by rw [List.mem_singleton.mp z]; exact h0⟩, hk, fun a ha => (List.mem_append.mp ha).elim (ht a) fun z => by rw [List.mem_singleton.mp z, e]; exact fun z => nomatch z⟩, by simp [m.len], ?_, fun i o' a h1 h2 => ?_⟩
  · rw [List.nodup_append]
    refine ⟨m.nd, by simp, fun a ha b hb => ?_⟩
    rw [List.mem_singleton.mp hb]
    rintro rfl
    exact hp ha
  · by_cases hi : i < h.length
    · rw [List.getElem?_append_left hi] at h1
      rw [List.getElem?_append_left (by rw [m.len]; exact hi)] at h2
      obtain ⟨ho', q, r'⟩ := m.ob i o' a h1 h2
      exact ⟨ho', q, r'.le le⟩
    · have e1 : i = h.length := by
        have := (List.getElem?_eq_some_iff.mp h1).1
        simp at this
        omega
      subst e1
      simp at h1
      rw [← m.len] at h2
      simp at h2
      subst h1 h2
      exact ⟨ho, e, r.le le⟩
/-- a new object of ours -/
theorem Sm.new (m : Sm K ca ρ h H) {p : Addr} (hp : H p = none) {o : O} {ho : HO} (r : RO K ca ρ H o ho) : Ex ρ H (ρ ++ [p]) (upd H p ho) ∧ Sm K ca (ρ ++ [p]) (h ++ [o]) (upd H p ho) := by
  have k : ∀ b o, H b = some o → upd H p ho b = some o := fun b o e => by rw [upd_ne (ne_of_none e hp)]; exact e
  have x : Ex ρ H (ρ ++ [p]) (upd H p ho) := ⟨⟨[p], rfl, fun a ha => by rw [List.mem_singleton.mp ha]; exact hp⟩, fun b o e _ => k b o e, fun a ha z => by
    rcases List.mem_append.mp ha with ha | ha
    · cases q : H a with
      | none => exact m.trk a ha q
      | some o => rw [k a o q] at z; cases z
    · rw [List.mem_singleton.mp ha, upd_same] at z; cases z⟩
  refine ⟨x, by simp [m.len], ?_, fun i o' a h1 h2 => ?_⟩
  · rw [List.nodup_append]
    refine ⟨m.nd, by simp, fun a ha b hb => ?_⟩
    rw [List.mem_singleton.mp hb]
    rintro rfl
    exact m.fresh hp ha
  · by_cases hi : i < h.length
    · rw [List.getElem?_append_left hi] at h1
      rw [List.getElem?_append_left (by rw [m.len]; exact hi)] at h2
      obtain ⟨ho', q, r'⟩ := m.ob i o' a h1 h2
      exact ⟨ho', k a ho' q, r'.ex x⟩
    · have e1 : i = h.length := by
        have := (List.getElem?_eq_some_iff.mp h1).1
        simp at this
        omega
      subst e1
      simp at h1
      rw [← m.len] at h2
      simp at h2
      subst h1 h2
      exact ⟨ho, upd_same, r.ex x⟩
/-- an object of ours is written -/
theorem Sm.write (m : Sm K ca ρ h H) {i : Nat} {a : Addr} {o o' : O} {ho' : HO} (ho : h[i]? = some o) (ha : ρ[i]? = some a) (r : RO K ca ρ H o' ho') : Ex ρ H ρ (upd H a ho') ∧ Sm K ca ρ (h.set i o') (upd H a ho') := by
  obtain ⟨ho0, q0, r0⟩ := m.ob i o a ho ha
  have hm : a ∈ ρ := List.mem_of_getElem? ha
  have x : Ex ρ H ρ (upd H a ho') := ⟨⟨[], by simp, fun _ h => nomatch h⟩, fun b ob e hc => by
    by_cases hb : b = a
    · subst hb
      rcases hc with hc | hc
      · exact absurd hm hc
      · rw [q0] at e; cases e; exact absurd hc r0.mut
    · rw [upd_ne hb]; exact e, fun b hb z => by
    by_cases hb' : b = a
    · subst hb'; rw [upd_same] at z; cases z
    · rw [upd_ne hb'] at z; exact m.trk b hb z⟩
  refine ⟨x, by simp [m.len], m.nd, fun j u b h1 h2 => ?_⟩
  by_cases hj : i = j
  · subst hj
    have hi : i < h.length := (List.getElem?_eq_some_iff.mp ho).1
    rw [List.getElem?_set_self hi] at h1
    cases h1
    rw [ha] at h2; cases h2
    exact ⟨ho', upd_same, r.ex x⟩
  · rw [List.getElem?_set_ne hj] at h1
    obtain ⟨hu, q, ru⟩ := m.ob j u b h1 h2
    have hb : b ≠ a := fun e => by
      subst e
      have l1 := (List.getElem?_eq_some_iff.mp ha).1
      obtain ⟨l2, e2⟩ := List.getElem?_eq_some_iff.mp h2
      have e1 := (List.getElem?_eq_some_iff.mp ha).2
      exact hj ((List.getElem_inj m.nd).mp (e1.trans e2.symm))
    exact ⟨hu, by rw [upd_ne hb]; exact q, ru.ex x⟩
/-- what is not ours and no tuple is not asked -/
theorem Sm.obj (m : Sm K ca ρ h H) {i : Nat} {o : O} {a : Addr} (ho : h[i]? = some o) (ha : ρ[i]? = some a) : ∃ u, H a = some u ∧ RO K ca ρ H o u := m.ob i o a ho ha
theorem lst_of (m : Sm K ca ρ h H) (r : Rf K ρ H t v) {xs : List T} (e : lstOf h t = some xs) : ∃ a vs, v = .ref a ∧ SqL K H a vs ∧ RfL K ρ H xs vs := by
  cases r with
  | rf ha =>
    rename_i i a
    unfold lstOf at e
    cases q : h[i]? with
    | none => simp [q] at e
    | some o =>
      obtain ⟨u, hu, ro⟩ := m.ob i o a q ha
      cases ro with
      | lst r => simp [q] at e; subst e; exact ⟨a, _, rfl, SqL.of hu, r⟩
      | ins _ r => simp [q] at e
  | frz hs =>
    unfold lstOf at e
    cases e
    exact ⟨_, _, rfl, hs.sq, RfL.ints⟩
  | _ => simp [lstOf] at e
theorem seq_of (m : Sm K ca ρ h H) (r : Rf K ρ H t v) {xs : List T} (e : seqOf h t = some xs) : ∃ a vs, v = .ref a ∧ (SqL K H a vs ∨ SqT K H a vs) ∧ RfL K ρ H xs vs := by
  cases r with
  | tup hs hr =>
    unfold seqOf at e
    cases e
    exact ⟨_, _, rfl, .inr hs, hr⟩
  | rf ha =>
    obtain ⟨a, vs, q1, q2, q3⟩ := lst_of m (.rf ha) (show lstOf h (.rf _) = some xs from e)
    exact ⟨a, vs, q1, .inl q2, q3⟩
  | frz hs =>
    obtain ⟨a, vs, q1, q2, q3⟩ := lst_of m (.frz hs) (show lstOf h (.frz _) = some xs from e)
    exact ⟨a, vs, q1, .inl q2, q3⟩
  | _ => simp [seqOf, lstOf] at e
end
/-! ### what is left behind -/
section
variable (K : PySem.W.Frag) (ca : Nat → Addr)
/-- an exception as the layer has it -/
def RX (ρ : List Addr) (H : Hp) (x : Exn) (cls : Value) (d : Option Addr) : Prop := cls = .ref (ca x.cls) ∧ x.arg = none ∧ d = none
abbrev WX' := Value → Option Addr → Hp → Prop
def tM {α : Type} (R : List Addr → Hp → α → Prop) (W : WX') (r : Res α) (ρ : List Addr) (H : Hp) : Prop :=
  match r with
  | .ok t h' => ∀ ρ' H', Ex ρ H ρ' H' → Sm K ca ρ' h' H' → R ρ' H' t
  | .exc x h' => ∀ ρ' H' cls d, Ex ρ H ρ' H' → Sm K ca ρ' h' H' → RX ca ρ' H' x cls d → W cls d H'
  | .bad => False
end
section
variable {K : PySem.W.Frag} {ca : Nat → Addr} {ρ ρ1 ρ' : List Addr} {H H1 H' : Hp} {h h1 h' : Hs} {W : WX'}
theorem tM.ex {α : Type} {R : List Addr → Hp → α → Prop} {r : Res α} (x : Ex ρ H ρ1 H1) (q : tM K ca R W r ρ H) : tM K ca R W r ρ1 H1 := by
  cases r with
  | ok t h' => exact fun ρ' H' y => q ρ' H' (x.trans y)
  | exc e h' => exact fun ρ' H' cls d y => q ρ' H' cls d (x.trans y)
  | bad => exact q
theorem tM.bnd {α β : Type} {m : M α} {f : α → M β} {R : List Addr → Hp → β → Prop} (q : tM K ca R W (bnd m f h) ρ H) :
    tM K ca (fun ρ1 H1 a => ∀ h1, m h = .ok a h1 → tM K ca R W (f a h1) ρ1 H1) W (m h) ρ H := by
  unfold CB.bnd at q
  cases e : m h with
  | ok a h1 =>
    rw [e] at q
    intro ρ1 H1 x s h1' e'
    cases e'
    exact tM.ex x q
  | exc y h1 =>
    rw [e] at q
    exact q
  | bad => rw [e] at q; exact q
theorem tM.mono {α : Type} {R R' : List Addr → Hp → α → Prop} {r : Res α} (q : tM K ca R W r ρ H) (f : ∀ ρ' H' t h', r = .ok t h' → Ex ρ H ρ' H' → Sm K ca ρ' h' H' → R ρ' H' t → R' ρ' H' t) : tM K ca R' W r ρ H := by
  cases r with
  | ok t h' => exact fun ρ' H' x s => f ρ' H' t h' rfl x s (q ρ' H' x s)
  | exc e h' => exact q
  | bad => exact q
end
end CB

/-! From the model's syntax to the small language: a checker that the kernel runs. -/
namespace CB
open PySem PySem.Spec PyProof.Rows L2
/-- the names of a text -/
structure Nm where
  fns : List (Str × Nat × Nat)      -- a def: its number, how many parameters
  cls : List (Str × Nat × Nat × Nat)      -- a class: its number, its __init__'s number and parameters
  cons : List (Str × T)
  free : List Str
/-- a scope: the block's, and (in a comprehension) the one whose own names may be stored -/
structure Sc where
  sc : Scope
  fn : Option Scope
def kd (c : Sc) (x : Str) : Option NameKind := c.sc.names.lookup x
def visB (c : Sc) (x : Str) : Bool := match kd c x with
  | some .local => true
  | some .cell => true
  | some .free => true
  | _ => false
def locB (c : Sc) (x : Str) : Bool := match kd c x with
  | some .local => true
  | some .cell => true
  | _ => false
def fnB (c : Sc) (x : Str) : Bool := match c.fn with
  | none => true
  | some s => s.names.lookup x == some .cell
def stoB (c : Sc) (x : Str) : Bool := locB c x && (fnB c x || kd c x == some .local)
def gloB (c : Sc) (x : Str) : Bool := kd c x == some .globalImplicit
def slot : List Str → Str → Option Nat
  | [], _ => none
  | y :: r, x => if y = x then some 0 else (slot r x).map (· + 1)
def dbgB (x : Str) : Bool := !(x == ("__debug__" : Str)) && !(x == ("__classdict__" : Str)) && !(x == ("__name__" : Str))
def when {α} (b : Bool) (o : Option α) : Option α := match b with
  | true => o
  | false => none
def bopOf : Operator → Option Bop
  | .Add => some .add | .Sub => some .sub | .Mult => some .mul | .FloorDiv => some .fdiv | .Mod => some .mod | .Pow => some .pow
  | _ => none
def copOf : CmpOp → Option Cop
  | .Eq => some .eq | .NotEq => some .ne | .Lt => some .lt | .LtE => some .le | .Gt => some .gt | .GtE => some .ge
  | .In => some .isIn | .NotIn => some .notIn | .Is => some .is | .IsNot => some .isNot
def bltOf (x : Str) (n : Nat) : Option Blt :=
  if x = "len" ∧ n = 1 then some .len else if x = "tuple" ∧ n = 1 then some .tuple else if x = "list" ∧ n = 1 then some .list
  else if x = "abs" ∧ n = 1 then some .abs else if x = "int" ∧ n = 1 then some .int else if x = "sum" ∧ n = 1 then some .sum
  else if x = "all" ∧ n = 1 then some .all else if x = "any" ∧ n = 1 then some .any
  else if x = "min" ∧ n = 2 then some .min2 else if x = "max" ∧ n = 2 then some .max2 else if x = "sorted" ∧ n = 1 then some .sorted else none
def tyOf (x : Str) : Option String :=
  if x = "int" then some "int" else if x = "bool" then some "bool" else if x = "tuple" then some "tuple" else if x = "list" then some "list"
  else if x = "str" then some "str" else if x = "dict" then some "dict" else none
def mthOf (x : Str) (n : Nat) : Option Mth :=
  if x = "append" ∧ n = 1 then some .append else if x = "extend" ∧ n = 1 then some .extend else if x = "pop" ∧ n = 0 then some .pop
  else if x = "insert" ∧ n = 2 then some .insert else if x = "pop" ∧ n = 1 then some .popAt else none
def attOf (f : Str) : Option Nat := if f = attrN 0 then some 0 else if f = attrN 1 then some 1 else none
def okBase : Expr → Bool
  | .Name .. => true
  | .Subscript .. => true
  | .Attribute .. => true
  | .Call _ (_ :: _) [] _ => true
  | _ => false
def cL (f : Expr → Option E) : List Expr → Option Es
  | [] => some .nil
  | e :: r => match f e, cL f r with
    | some a, some b => some (.cons a b)
    | _, _ => none
def cO (f : Expr → Option E) : Option Expr → Option Eo
  | none => some .non
  | some e => (f e).map .som
def cBool (o : BoolOp) (f : Expr → Option E) : List Expr → Option E
  | [] => none
  | [e] => f e
  | e :: r => match f e, cBool o f r with
    | some a, some b => some (match o with
      | .And => .and a b
      | .Or => .or a b)
    | _, _ => none
section
variable (nm : Nm) (N : List Str)
/-- a target -/
def cT (c : Sc) : Nat → Expr → Option Tg
  | 0, _ => none
  | n + 1, e => match e with
    | .Name x _ => when (stoB c x) ((slot N x).map .name)
    | .Tuple es _ _ => cTs (cT c n) es
    | _ => none
where cTs (f : Expr → Option Tg) : List Expr → Option Tg
  | [] => some .nil
  | e :: r => match f e, cTs f r with
    | some a, some b => some (.cons a b)
    | _, _ => none
def isTup : Expr → Bool
  | .Tuple .. => true
  | _ => false
def freeB (c : Sc) (x : Str) : Bool := gloB c x && (nm.free.contains x && dbgB x)
/-- what is walked -/
def cSrc (c : Sc) (f : Expr → Option E) (tg : Expr) (e : Expr) : Option Src := match e with
  | .Call (.Name x _) [a] [] _ =>
    if x = "range" then when (freeB nm c x) ((f a).map .rng1)
    else if x = "enumerate" then when (freeB nm c x && isTup tg) ((f a).map .enum)
    else (f e).map .over
  | .Call (.Name x _) [a, b] [] _ =>
    if x = "range" then when (freeB nm c x) (match f a, f b with
      | some a, some b => some (.rng2 a b)
      | _, _ => none)
    else if x = "zip" then when (freeB nm c x && isTup tg) (match f a, f b with
      | some a, some b => some (.zip a b)
      | _, _ => none)
    else (f e).map .over
  | e => (f e).map .over
/-- a range told whole: list(range(a)), tuple(range(a)) -/
def rgB (c : Sc) (x : Str) : List Expr → Option (Bool × Expr)
  | [.Call (.Name y _) [a] [] _] => if y = "range" then when (freeB nm c y) (if x = "list" then some (false, a) else if x = "tuple" then some (true, a) else none) else none
  | _ => none
def slotsIn (own : List Nat) : Tg → Bool
  | .name i => own.contains i
  | .nil => true
  | .cons a b => slotsIn own a && slotsIn own b
def ownOf (scope : Scope) : List (Str × Nat) := scope.names.filterMap fun p => if p.2 == .local || p.2 == .cell then (slot N p.1).map fun i => (p.1, i) else none
/-- an expression -/
def cE : Nat → Sc → Expr → Option E
  | 0, _, _ => none
  | n + 1, c, e => match e with
    | .Constant v _ _ => (match v with
      | .none => some (.cst .non)
      | .bool b => some (.cst (.bl b))
      | .int i => some (.cst (.int i))
      | .str x => some (.cst (.str x))
      | _ => none)
    | .Name x _ => when (dbgB x) (match visB c x with
      | true => (slot N x).map .var
      | false => when (gloB c x) ((nm.cons.lookup x).map .cst))
    | .Tuple es _ _ => (cL (cE n c) es).map .tup
    | .List es _ => (cL (cE n c) es).map .lst
    | .BinOp a op b _ => (match bopOf op, cE n c a, cE n c b with
      | some o, some a, some b => some (.bin o a b)
      | _, _, _ => none)
    | .UnaryOp .USub a _ => (cE n c a).map .neg
    | .UnaryOp .Not a _ => (cE n c a).map .not
    | .BoolOp o es _ => cBool o (cE n c) es
    | .IfExp t a b _ => (match cE n c t, cE n c a, cE n c b with
      | some t, some a, some b => some (.ife t a b)
      | _, _, _ => none)
    | .Compare a [o] [b] _ => (match copOf o, cE n c a, cE n c b with
      | some o, some a, some b => some (.cmp o a b)
      | _, _, _ => none)
    | .Compare a [o, p] [b, d] _ => (match copOf o, copOf p, cE n c a, cE n c b, cE n c d with
      | some o, some p, some a, some b, some d => some (.chn o p a b d)
      | _, _, _, _, _ => none)
    | .Subscript a (.Slice lo hi none _) _ => (match cE n c a, cO (cE n c) lo, cO (cE n c) hi with
      | some a, some l, some h => some (.slc a l h)
      | _, _, _ => none)
    | .Subscript a b _ => (match cE n c a, cE n c b with
      | some a, some b => some (.idx a b)
      | _, _ => none)
    | .Attribute o f _ => when (okBase o) (match cE n c o, attOf f with
      | some o, some f => some (.att o f)
      | _, _ => none)
    | .Call (.Name x _) args [] _ => when (gloB c x && dbgB x) (match nm.fns.lookup x with
      | some (f, k) => when (args.length == k) ((cL (cE n c) args).map (.call f))
      | none => (match nm.cls.lookup x, args with
        | some (m, i, k), e :: r => when ((e :: r).length + 1 == k) ((cL (cE n c) (e :: r)).map (.make m i))
        | _, _ => when (nm.free.contains x) (match rgB nm c x args with
          | some (b, a) => (cE n c a).map (.rgv b)
          | none => (match args with
          | [a, .Name y _] => if x = "isinstance" then when (freeB nm c y) (match cE n c a, tyOf y with
              | some a, some k => some (.isi a (.ty k))
              | _, _ => none)
            else (match bltOf x 2, cL (cE n c) args with
              | some b, some es => some (.blt b es)
              | _, _ => none)
          | e :: r => (match bltOf x (e :: r).length, cL (cE n c) (e :: r) with
            | some b, some es => some (.blt b es)
            | _, _ => none)
          | [] => none))))
    | .Call (.Attribute o m apos) args [] cpos => when (okBase o && apos.endLine == cpos.line) (match mthOf m args.length, cE n c o, cL (cE n c) args with
      | some m, some o, some es => some (.met m o es)
      | _, _, _ => none)
    | .ListComp elt [⟨tg, iter, ifs, 0⟩] scope _ =>
      when (blkC N c.sc scope (ownOf N scope)) (match cT N ⟨relS scope c.sc, some scope⟩ 9 tg, cSrc nm c (cE n c) tg iter, cE n ⟨relS scope c.sc, some scope⟩ elt with
        | some t, some s, some e => when (slotsIn ((ownOf N scope).map (·.2)) t) (match ifs with
          | [] => some (.lc e t s .non ((ownOf N scope).map (·.2)))
          | [q] => (cE n ⟨relS scope c.sc, some scope⟩ q).map fun q => .lc e t s (.som q) ((ownOf N scope).map (·.2))
          | _ => none)
        | _, _, _ => none)
    | _ => none
def isLc : Expr → Bool
  | .ListComp .. => true
  | _ => false
/-- a list comprehension that is laid straight into a local name -/
def swB (c : Sc) (x : Str) (line : Nat) : Expr → Bool
  | .ListComp _ _ scope p => kd c x == some .local && line == p.line && !(scope.names.any fun (n, k) => n == x && (k == .local || k == .cell))
  | _ => false
def parB (c : Sc) (x y : Str) (lx ly : Nat) (a b : Expr) : Bool :=
  c.sc.kind == .function && kd c x == some .local && kd c y == some .local && !(x == y) && ly == lx &&
    !([a, b].all (foldedForSure 8)) && !([a, b].all (constantsAlone 8))
def cSs (f : Stmt → Option S) : List Stmt → Option Ss
  | [] => some .nil
  | s :: r => match f s, cSs f r with
    | some a, some b => some (.cons a b)
    | _, _ => none
/-- a statement -/
def cS : Nat → Sc → Stmt → Option S
  | 0, _, _ => none
  | n + 1, c, s => match s with
    | .Expr (.Constant (.str _) _ _) _ => some .pas
    | .Expr e _ => when (!isLc e) ((cE nm N n c e).map .exp)
    | .Assign [.Name x p] e _ => when (stoB c x) (match slot N x, cE nm N n c e with
      | some i, some e => some (.asg (.name i) e)
      | _, _ => none)
    | .Assign [.Tuple [.Name x px, .Name y py] _ _] (.Tuple [a, b] _ _) _ => when (parB c x y px.line py.line a b) (match slot N x, slot N y, cE nm N n c a, cE nm N n c b with
      | some i, some j, some a, some b => some (.par i j a b)
      | _, _, _, _ => none)
    | .Assign [.Tuple es k p] e _ => when (!isLc e && !isTup e) (match cT N c 9 (.Tuple es k p), cE nm N n c e with
      | some t, some e => some (.asg t e)
      | _, _ => none)
    | .Assign [.Subscript o i _] e _ => when (!isLc e && !isTup e) (match cE nm N n c o, cE nm N n c i, cE nm N n c e with
      | some o, some i, some e => some (.sti o i e)
      | _, _, _ => none)
    | .Assign [.Attribute o f _] e _ => when (!isLc e) (match cE nm N n c o, attOf f, cE nm N n c e with
      | some o, some f, some e => some (.sta o f e)
      | _, _, _ => none)
    | .AugAssign (.Name x _) op e _ => when (stoB c x) (match slot N x, op, cE nm N n c e with
      | some i, .Add, some e => some (.aug i .add e)
      | some i, .Sub, some e => some (.aug i .sub e)
      | _, _, _ => none)
    | .Return none _ => some .retN
    | .Return (some e) _ => (cE nm N n c e).map .ret
    | .If t a b _ => (match cE nm N n c t, cSs (cS n c) a, cSs (cS n c) b with
      | some t, some a, some b => some (.ifs t a b)
      | _, _, _ => none)
    | .While t a [] _ => (match cE nm N n c t, cSs (cS n c) a with
      | some t, some a => some (.whl t a)
      | _, _ => none)
    | .For tg it a [] _ => (match cT N c 9 tg, cSrc nm c (cE nm N n c) tg it, cSs (cS n c) a with
      | some t, some s, some a => some (.for t s a)
      | _, _, _ => none)
    | .Break _ => some .brk
    | .Continue _ => some .cnt
    | .Pass _ => some .pas
    | .Raise _ _ _ => some .nev
    | _ => none
end
/-- a def: its names by slot, how many parameters, its scope, its body -/
def cF (nm : Nm) (N : List Str) (np : Nat) (sc : Scope) (body : List Stmt) : Option Fn := (cSs (cS nm N 60 ⟨sc, none⟩) body).map fun b => ⟨np, N.length, b⟩
end CB

/-! Soundness, part one: operations by values. -/
namespace CB
open PySem PySem.Spec PyProof.Rows L2
theorem szL : (SZ : Nat) = sizeLine := sizeLine_eq.symm
section
variable {K : PySem.W.Frag} {ca : Nat → Addr} {ρ : List Addr} {H : Hp} {h : Hs} {W : WX'} {Q : VK}
/-- the wish of a value -/
abbrev RV (K : PySem.W.Frag) (Q : VK) : List Addr → Hp → T → Prop := fun ρ' H' t => ∀ v, Rf K ρ' H' t v → Q v H'
theorem tM.fin {α : Type} {R : List Addr → Hp → α → Prop} {t : α} (m : Sm K ca ρ h H) (q : tM K ca R W (.ok t h) ρ H) : R ρ H t := q ρ H m.refl m
theorem tM.val {t : T} {v : V} (m : Sm K ca ρ h H) (q : tM K ca (RV K Q) W (ret t h) ρ H) (r : Rf K ρ H t v) : Q v H := tM.fin m q v r
/-- a new tuple -/
theorem tM.tup {ts : List T} {vs : List V} (m : Sm K ca ρ h H) (q : tM K ca (RV K Q) W (ret (.tup ts) h) ρ H) (r : RfL K ρ H ts vs) : ∀ p, H p = none → Q (.ref p) (upd H p (.tup vs)) := fun p hp => by
  obtain ⟨x, s⟩ := m.newT hp vs
  exact q ρ _ x s _ (.tup (.inl (.inl upd_same)) (r.ex x))
/-- a new object -/
theorem tM.obj {o : O} {ho : HO} (m : Sm K ca ρ h H) (q : tM K ca (RV K Q) W (alloc o h) ρ H) (r : RO K ca ρ H o ho) : ∀ p, H p = none → Q (.ref p) (upd H p ho) := fun p hp => by
  obtain ⟨x, s⟩ := m.new hp r
  exact q _ _ x s _ (.rf (by simp [m.len]))
theorem ite_bad {α : Type} {R : List Addr → Hp → α → Prop} {c : Prop} [Decidable c] {a : M α} (q : tM K ca R W ((if c then a else badM) h) ρ H) : c ∧ tM K ca R W (a h) ρ H := by
  by_cases hc : c
  · rw [if_pos hc] at q; exact ⟨hc, q⟩
  · rw [if_neg hc] at q; exact q.elim
theorem optM_some {α : Type} {R : List Addr → Hp → α → Prop} {f : Hs → Option α} (q : tM K ca R W (optM f h) ρ H) : ∃ a, f h = some a ∧ tM K ca R W (.ok a h) ρ H := by
  unfold optM at q
  cases e : f h with
  | none => rw [e] at q; exact q.elim
  | some a => rw [e] at q; exact ⟨a, rfl, q⟩
end
/-! ### binary operations -/
section
variable {X : Cx} {ca : Nat → Addr}
def rB (K : PySem.W.Frag) (ca : Nat → Addr) (o : Bop) : R2 := fun x y H Q => ∃ ρ h t u W, Sm K ca ρ h H ∧ Rf K ρ H t x ∧ Rf K ρ H u y ∧ tM K ca (RV K Q) W (binI o t u h) ρ H
def opOf : Bop → Operator
  | .add => .Add | .sub => .Sub | .mul => .Mult | .fdiv => .FloorDiv | .mod => .Mod | .pow => .Pow
theorem lst_at {K : PySem.W.Frag} {ρ : List Addr} {H : Hp} {h : Hs} {a : Nat} {p : Addr} {xs : List T} (m : Sm K ca ρ h H) (ha : ρ[a]? = some p) (e : h[a]? = some (.lst xs)) : ∃ vs, H p = some (.lst vs) ∧ RfL K ρ H xs vs := by
  obtain ⟨u, hu, ro⟩ := m.obj e ha
  cases ro with
  | lst r => exact ⟨_, hu, r⟩
theorem sound_bin (o : Bop) : OpR X (binaryOp (opOf o)) (rB X.K ca o) := by
  intro pins s σ H x y v u Q I rx ry hq
  obtain ⟨ρ, h, t, t', W, m, r1, r2, q⟩ := hq
  unfold binI at q
  split at q
  · cases r1; cases r2
    exact op_add pins s σ H _ _ v u Q I rx ry ⟨_, _, rfl, rfl, tM.val m q (.int _)⟩
  · cases r1; cases r2
    exact op_sub pins s σ H _ _ v u Q I rx ry ⟨_, _, rfl, rfl, tM.val m q (.int _)⟩
  · cases r1; cases r2
    obtain ⟨hc, q⟩ := ite_bad q
    exact op_mulW pins s σ H _ _ v u Q I rx ry ⟨_, _, rfl, rfl, (by have z := of_decide_eq_true hc; exact z), tM.val m q (.int _)⟩
  · cases r1; cases r2
    obtain ⟨hc, q⟩ := ite_bad q
    unfold divOk at hc
    rw [Bool.and_eq_true] at hc
    exact op_fdivW pins s σ H _ _ v u Q I rx ry ⟨_, _, rfl, rfl, ⟨of_decide_eq_true hc.1, of_decide_eq_true hc.2⟩, tM.val m q (.int _)⟩
  · cases r1; cases r2
    obtain ⟨hc, q⟩ := ite_bad q
    exact op_mod pins s σ H _ _ v u Q I rx ry ⟨_, _, rfl, rfl, hc, tM.val m q (.int _)⟩
  · cases r1; cases r2
    obtain ⟨hc, q⟩ := ite_bad q
    unfold powOk at hc
    rw [Bool.and_eq_true, Bool.and_eq_true] at hc
    exact op_pow pins s σ H _ _ v u Q I rx ry ⟨_, _, rfl, rfl, ⟨of_decide_eq_true hc.1.1, of_decide_eq_true hc.1.2, of_decide_eq_true hc.2⟩, tM.val m q (.int _)⟩
  · rename_i xs ys
    obtain ⟨hc, q⟩ := ite_bad q
    rcases r1 with _ | _ | _ | _ | ⟨s1, l1⟩ | _ | _
    rcases r2 with _ | _ | _ | _ | ⟨s2, l2⟩ | _ | _
    refine op_catA pins s σ H _ _ v u Q I rx ry ⟨_, _, _, _, rfl, rfl, s1, s2, by rw [← l1.length, ← l2.length, ← szL]; exact hc, fun e => ?_, fun e1 e => ?_, fun e1 e2 => ?_⟩
    · subst e
      cases l1
      exact tM.val m q (.tup s2 (by simpa using l2))
    · subst e
      cases l2
      exact tM.val m q (.tup s1 (by simpa using l1))
    · exact tM.tup m q (l1.append l2)
  · obtain ⟨hc, q⟩ := ite_bad q
    cases r1; cases r2
    exact op_add_str pins s σ H _ _ v u Q I rx ry ⟨_, _, rfl, rfl, by rw [← szL]; exact hc, tM.val m q (.str _)⟩
  · rename_i a b
    cases r1 with
    | rf h1 =>
      cases r2 with
      | rf h2 =>
        split at q
        · rename_i xs ys e1 e2
          obtain ⟨vs, k1, l1⟩ := lst_at m h1 e1
          obtain ⟨ws, k2, l2⟩ := lst_at m h2 e2
          by_cases hc : xs.length + ys.length ≤ SZ
          · rw [if_pos hc] at q
            exact op_cat pins s σ H _ _ v u Q I rx ry ⟨_, _, _, _, rfl, rfl, k1, k2, by rw [← l1.length, ← l2.length, ← szL]; exact hc, tM.obj m q (.lst (l1.append l2))⟩
          · rw [if_neg hc] at q; exact q.elim
        · exact q.elim
  · rename_i a k
    cases r1 with
    | rf h1 =>
      cases r2
      split at q
      · rename_i xs e1
        obtain ⟨vs, k1, l1⟩ := lst_at m h1 e1
        by_cases hc : 0 ≤ k ∧ k < 1000 ∧ xs.length * k.toNat ≤ SZ
        · rw [if_pos hc] at q
          exact op_rep pins s σ H _ _ v u Q I rx ry ⟨_, _, _, rfl, rfl, k1, by omega, by omega, by rw [← l1.length, ← szL]; exact hc.2.2, tM.obj m q (.lst l1.flatRep)⟩
        · rw [if_neg hc] at q; exact q.elim
      · exact q.elim
  · rename_i xs k
    obtain ⟨hc, q⟩ := ite_bad q
    rcases r1 with _ | _ | _ | _ | ⟨s1, l1⟩ | _ | _
    cases r2
    by_cases k1 : k = 1
    · subst k1
      refine op_rep1 pins s σ H _ _ v u Q I rx ry ⟨_, _, rfl, rfl, s1, ?_⟩
      have e1 : (List.replicate (1 : Int).toNat xs).flatten = xs := by simp
      rw [e1] at q
      exact tM.val m q (.tup s1 l1)
    refine op_repT pins s σ H _ _ v u Q I rx ry ⟨_, _, _, rfl, rfl, s1, fun e => ?_, by omega, hc.2.2.1, by rw [← l1.length]; exact hc.2.2.2, tM.tup m q l1.flatRep⟩
    subst e
    cases l1
    exact hc.1 rfl
  · exact q.elim
end
/-! ### data, equality -/
section
variable {K : PySem.W.Frag} {ca : Nat → Addr} {ρ : List Addr} {H : Hp} {h : Hs}
theorem dat_ok (m : Sm K ca ρ h H) : ∀ (n : Nat) {t : T} {v : V} {d : PyData}, Rf K ρ H t v → dat h n t = some d → Dp K H v d
  | 0, _, _, _, _, e => by cases e
  | n + 1, _, _, _, r, e => by
    have all : ∀ {ts : List T} {vs : List V} {ds : List PyData}, RfL K ρ H ts vs → mapO (dat h n) ts = some ds → DpAll K H vs ds := by
      intro ts
      induction ts with
      | nil => intro vs ds r e; cases r; cases e; exact .nil
      | cons t ts ih =>
        intro vs ds r e
        cases r with
        | cons r1 r2 =>
          unfold mapO at e
          split at e
          · rename_i y ys e1 e2
            cases e
            exact .cons (dat_ok m n r1 e1) (ih r2 e2)
          · cases e
    cases r with
    | non => cases e; exact .non
    | bl b => cases e; exact .bl b
    | int i => cases e; exact .int i
    | str x => cases e; exact .str x
    | tup hs hr =>
      unfold dat at e
      obtain ⟨ds, e1, rfl⟩ := Option.map_eq_some_iff.mp e
      exact .tup hs (all hr e1)
    | rf ha =>
      unfold dat at e
      dsimp only at e
      split at e
      · rename_i xs e1
        obtain ⟨vs, k1, l1⟩ := lst_at m ha e1
        obtain ⟨ds, e2, rfl⟩ := Option.map_eq_some_iff.mp e
        exact .lst (SqL.of k1) (all l1 e2)
      · cases e
    | frz hs => cases e
theorem datS_ok (m : Sm K ca ρ h H) {t : T} {v : V} {d : PyData} (r : Rf K ρ H t v) (e : datS h t = some d) : Dp K H v d ∧ SeqAt.shaped d = true := by
  unfold datS at e
  split at e
  · rename_i d' e1
    split at e
    · rename_i hs
      cases e
      exact ⟨dat_ok m _ r e1, hs⟩
    · cases e
  · cases e
theorem flat_ok {t : T} {v : V} (r : Rf K ρ H t v) (e : flatT t = true) : flatV v = true := by
  cases r <;> first | rfl | cases e
theorem eqF_ok {t u : T} {v w : V} (r : Rf K ρ H t v) (r' : Rf K ρ H u w) (e : flatT t = true) (e' : flatT u = true) : eqF t u = eqV v w := by
  cases r <;> cases r' <;> first | rfl | cases e | cases e'
theorem flats_ok : ∀ {ts : List T} {vs : List V}, RfL K ρ H ts vs → ts.all flatT = true → vs.all flatV = true
  | _, _, .nil, _ => rfl
  | _, _, .cons r rs, e => by
    rw [List.all_cons, Bool.and_eq_true] at e ⊢
    exact ⟨flat_ok r e.1, flats_ok rs e.2⟩
theorem any_ok {x : T} {v : V} (r : Rf K ρ H x v) (hx : flatT x = true) : ∀ {ts : List T} {vs : List V}, RfL K ρ H ts vs → ts.all flatT = true → (ts.any fun z => eqF z x) = inV v vs
  | _, _, .nil, _ => rfl
  | _, _, .cons r' rs, e => by
    rw [List.all_cons, Bool.and_eq_true] at e
    have ih := any_ok r hx rs e.2
    unfold inV at ih ⊢
    rw [List.any_cons, List.any_cons, ih, eqF_ok r' r e.1 hx]
end
/-! ### comparisons -/
section
variable {X : Cx} {ca : Nat → Addr}
def cpOf : Cop → CmpOp
  | .eq => .Eq | .ne => .NotEq | .lt => .Lt | .le => .LtE | .gt => .Gt | .ge => .GtE | .isIn => .In | .notIn => .NotIn | .is => .Is | .isNot => .IsNot
def rC (K : PySem.W.Frag) (ca : Nat → Addr) (o : Cop) : R2 := fun x y H Q => ∃ ρ h t u k, Sm K ca ρ h H ∧ Rf K ρ H t x ∧ Rf K ρ H u y ∧ cmpI o t u h = some k ∧ Q (.bl k) H
theorem eqI_ok {K : PySem.W.Frag} {ρ : List Addr} {H : Hp} {h : Hs} {t u : T} {x y : V} {k : Bool} (m : Sm K ca ρ h H) (r1 : Rf K ρ H t x) (r2 : Rf K ρ H u y) (e : eqI h t u = some k) :
    ∃ d f, Dp K H x d ∧ Dp K H y f ∧ SeqAt.shaped d = true ∧ SeqAt.shaped f = true ∧ k = PyData.eqv d f := by
  unfold eqI at e
  split at e
  · rename_i d f e1 e2
    cases e
    obtain ⟨a, b⟩ := datS_ok m r1 e1
    obtain ⟨a', b'⟩ := datS_ok m r2 e2
    exact ⟨d, f, a, a', b, b', rfl⟩
  · cases e
theorem in_cases {K : PySem.W.Frag} {ρ : List Addr} {H : Hp} {h : Hs} {t u : T} {x y : V} {k : Bool} (m : Sm K ca ρ h H) (r1 : Rf K ρ H t x) (r2 : Rf K ρ H u y) (e : inI h t u = some k) :
    (∃ p xs, y = .ref p ∧ (SqL K H p xs ∨ SqT K H p xs) ∧ flatV x = true ∧ xs.all flatV = true ∧ k = inV x xs) ∨
    (∃ d ds, Dp K H x d ∧ Dp K H y (.list ds) ∧ SeqAt.shaped d = true ∧ SeqAt.shaped (.list ds) = true ∧ k = ds.any fun z => PyData.eqv z d) := by
  unfold inI at e
  split at e
  · rename_i ys e1
    obtain ⟨a, vs, ey, hs, l⟩ := seq_of m r2 e1
    by_cases hf : (flatT t && ys.all flatT) = true
    · rw [if_pos hf] at e
      rw [Bool.and_eq_true] at hf
      cases e
      exact .inl ⟨a, vs, ey, hs, flat_ok r1 hf.1, flats_ok l hf.2, any_ok r1 hf.1 l hf.2⟩
    · rw [if_neg hf] at e
      split at e
      · rename_i b d ds e2 e3
        cases e
        obtain ⟨p, q⟩ := datS_ok m r1 e2
        obtain ⟨p', q'⟩ := datS_ok m r2 e3
        exact .inr ⟨d, ds, p, p', q, q', rfl⟩
      · cases e
  · cases e
theorem sound_cmp (o : Cop) (hu : X.A.units + 65 < cLine) : OpR X (compareOp (cpOf o)) (rC X.K ca o) := by
  intro pins s σ H x y v u Q I rx ry hq
  obtain ⟨ρ, h, t, t', k, m, r1, r2, e, q⟩ := hq
  have intc : ∀ {f : Int → Int → Bool} {op : CmpOp}, OpR X (compareOp op) (rI0 fun i j => .bl (f i j)) → icmp f t t' = some k → wpAny (model X.prog X.w) X.A (compareOp op v u) (EP X pins σ Q) X.xe s := by
    intro f op hop e
    cases r1 with
    | int i =>
      cases r2 with
      | int j =>
        cases e
        exact hop pins s σ H _ _ v u Q I rx ry ⟨_, _, rfl, rfl, q⟩
      | _ => cases e
    | _ => cases e
  unfold cmpI at e
  cases o with
  | eq =>
    obtain ⟨d, f, a, b, c, g, rfl⟩ := eqI_ok m r1 r2 e
    exact op_eqD (by omega) pins s σ H x y v u Q I rx ry ⟨d, f, a, b, c, g, q⟩
  | ne =>
    obtain ⟨k', e', rfl⟩ := Option.map_eq_some_iff.mp e
    obtain ⟨d, f, a, b, c, g, rfl⟩ := eqI_ok m r1 r2 e'
    exact op_neD (by omega) pins s σ H x y v u Q I rx ry ⟨d, f, a, b, c, g, q⟩
  | lt => exact intc op_lt e
  | le => exact intc op_le e
  | gt => exact intc (f := fun i j => decide (j < i)) op_gt e
  | ge => exact intc (f := fun i j => decide (j ≤ i)) op_ge e
  | isIn =>
    rcases in_cases m r1 r2 e with ⟨p, xs, a, b, c, d, rfl⟩ | ⟨d, ds, a, b, c, f, rfl⟩
    · exact op_in_seq pins s σ H x y v u Q I rx ry ⟨p, xs, a, b, c, d, q⟩
    · exact op_inD hu pins s σ H x y v u Q I rx ry ⟨d, ds, a, b, c, f, q⟩
  | notIn =>
    obtain ⟨k', e', rfl⟩ := Option.map_eq_some_iff.mp e
    rcases in_cases m r1 r2 e' with ⟨p, xs, a, b, c, d, rfl⟩ | ⟨d, ds, a, b, c, f, rfl⟩
    · exact op_notIn_seq pins s σ H x y v u Q I rx ry ⟨p, xs, a, b, c, d, q⟩
    · exact op_notInD hu pins s σ H x y v u Q I rx ry ⟨d, ds, a, b, c, f, q⟩
  | is =>
    have e : (if isN t' then some (isN t) else none) = some k := e
    split at e
    · rename_i hn
      cases e
      have ey : y = .non := by cases r2 <;> first | rfl | cases hn
      refine op_isN pins s σ H x y v u Q I rx ry ⟨ey, ?_⟩
      have : decide (x = V.non) = isN t := by cases r1 <;> rfl
      rw [this]; exact q
    · cases e
  | isNot =>
    have e : (if isN t' then some (!isN t) else none) = some k := e
    split at e
    · rename_i hn
      cases e
      have ey : y = .non := by cases r2 <;> first | rfl | cases hn
      refine op_notN pins s σ H x y v u Q I rx ry ⟨ey, ?_⟩
      have : decide (x = V.non) = isN t := by cases r1 <;> rfl
      rw [this]; exact q
    · cases e
/-! ### truth -/
theorem tru_sound {K : PySem.W.Frag} {ρ : List Addr} {H : Hp} {h : Hs} {t : T} {x : V} {k : Bool} (m : Sm K ca ρ h H) (r : Rf K ρ H t x) (e : tru h t = some k) : TruV K x H k := by
  cases r with
  | non => cases e; rfl
  | bl b => cases e; rfl
  | int i => cases e; rfl
  | str z =>
    unfold tru at e
    dsimp only at e
    split at e
    · rename_i hc
      cases e
      exact ⟨by rw [← szL]; exact hc, rfl⟩
    · cases e
  | tup hs l =>
    unfold tru at e
    obtain ⟨xs, e1, rfl⟩ := Option.map_eq_some_iff.mp e
    cases e1
    exact .inr (.inl ⟨_, hs, l.isNil⟩)
  | rf ha =>
    unfold tru at e
    obtain ⟨xs, e1, rfl⟩ := Option.map_eq_some_iff.mp e
    obtain ⟨a, vs, ey, hs, l⟩ := lst_of m (.rf ha) e1
    cases ey
    exact .inl ⟨_, hs, l.isNil⟩
  | frz hz =>
    unfold tru at e
    obtain ⟨xs, e1, rfl⟩ := Option.map_eq_some_iff.mp e
    obtain ⟨a, vs, ey, hs, l⟩ := lst_of m (.frz hz) e1
    cases ey
    exact .inl ⟨_, hs, l.isNil⟩
end
end CB

/-! Soundness, part two: subscripts, attributes, built-ins, methods; what is walked. -/
namespace CB
open PySem PySem.Spec PyProof.Rows L2
section
variable {K : PySem.W.Frag} {ca : Nat → Addr} {ρ : List Addr} {H : Hp} {h : Hs} {W : WX'} {Q : VK}
theorem atI_ok {ts : List T} {vs : List V} {i : Int} {t : T} (l : RfL K ρ H ts vs) (e : atI ts i = some t) : ∃ v, atI vs i = some v ∧ Rf K ρ H t v := by
  unfold atI at e ⊢
  rw [← l.length]
  obtain ⟨j, e1, e2⟩ := Option.bind_eq_some_iff.mp e
  obtain ⟨v, h1, h2⟩ := l.get e2
  exact ⟨v, by rw [e1]; exact h1, h2⟩
theorem cut_ok {ts : List T} {vs : List V} {lo hi : Option Int} (l : RfL K ρ H ts vs) : RfL K ρ H (cutT ts lo hi) (cutV vs lo hi) := by
  unfold cutT cutV
  rw [← l.length]
  exact (l.drop _).take _
theorem cut_whole {ts : List T} {lo hi : Option Int} (h : HT.sIx ts.length 0 lo = 0 ∧ HT.sIx ts.length ts.length hi = ts.length) : cutT ts lo hi = ts := by
  unfold cutT
  rw [h.1, h.2]
  simp
theorem attrN_inj {f g : Nat} (hf : f < 2) (hg : g < 2) (e : attrN f = attrN g) : f = g := by
  have h : ∀ f : Fin 2, ∀ g : Fin 2, attrN f.1 = attrN g.1 → f = g := by decide
  exact congrArg Fin.val (h ⟨f, hf⟩ ⟨g, hg⟩ e)
theorem RfF.lt : ∀ {fs : List (Nat × T)} {gs : List (Str × V)} {f : Nat} {t : T}, RfF K ρ H fs gs → fs.lookup f = some t → f < 2
  | _, _, _, _, .nil, e => by cases e
  | _, _, f, t, .cons (f := g) l r q, e => by
    rw [List.lookup_cons] at e
    split at e
    · rename_i hb
      rw [beq_iff_eq.mp hb]; exact l
    · exact q.lt e
theorem RfF.look : ∀ {fs : List (Nat × T)} {gs : List (Str × V)} {f : Nat} {t : T}, RfF K ρ H fs gs → fs.lookup f = some t → ∃ v, gs.lookup (attrN f) = some v ∧ Rf K ρ H t v
  | _, _, _, _, .nil, e => by cases e
  | _, _, f, t, .cons (f := g) (v := w) l r q, e => by
    have hf : f < 2 := (RfF.cons l r q).lt e
    rw [List.lookup_cons] at e
    split at e
    · rename_i hb
      cases e
      rw [beq_iff_eq.mp hb]
      exact ⟨w, by rw [List.lookup_cons, beq_self_eq_true], r⟩
    · rename_i hb
      obtain ⟨v, h1, h2⟩ := q.look e
      have hne : (attrN f == attrN g) = false := by
        rw [beq_eq_false_iff_ne]
        intro z
        have := attrN_inj hf l z
        subst this
        rw [beq_self_eq_true] at hb; cases hb
      exact ⟨v, by rw [List.lookup_cons, hne]; exact h1, h2⟩
theorem RfF.put {f : Nat} {t : T} {v : V} (hf : f < 2) (r : Rf K ρ H t v) : ∀ {fs : List (Nat × T)} {gs : List (Str × V)}, RfF K ρ H fs gs → RfF K ρ H (putN f t fs) (putF (attrN f) v gs)
  | _, _, .nil => .cons hf r .nil
  | _, _, .cons (f := g) (gs := gs) (v := w) l q rs => by
    unfold putN putF
    by_cases e : f = g
    · subst e
      rw [if_pos (beq_self_eq_true _), if_pos (by simp)]
      exact .cons hf r rs
    · rw [if_neg (by simpa using e), if_neg (by
        intro z
        exact e (attrN_inj hf l (by simpa using z.symm)))]
      exact .cons l q (RfF.put hf r rs)
theorem RfF.length : ∀ {fs : List (Nat × T)} {gs : List (Str × V)}, RfF K ρ H fs gs → fs.length = gs.length
  | _, _, .nil => rfl
  | _, _, .cons _ _ q => by rw [List.length_cons, List.length_cons, q.length]
theorem ints_ok : ∀ {ts : List T} {vs : List V} {ns : List Int}, RfL K ρ H ts vs → intsOf ts = some ns → vs = ns.map V.int
  | _, _, _, .nil, e => by cases e; rfl
  | _, _, _, .cons r q, e => by
    cases r with
    | int i =>
      obtain ⟨ms, e1, rfl⟩ := Option.map_eq_some_iff.mp e
      rw [ints_ok q e1]; rfl
    | _ => cases e
theorem bools_ok : ∀ {ts : List T} {vs : List V} {ns : List Bool}, RfL K ρ H ts vs → boolsOf ts = some ns → vs = ns.map V.bl
  | _, _, _, .nil, e => by cases e; rfl
  | _, _, _, .cons r q, e => by
    cases r with
    | bl i =>
      obtain ⟨ms, e1, rfl⟩ := Option.map_eq_some_iff.mp e
      rw [bools_ok q e1]; rfl
    | _ => cases e
theorem RfL.one {t : T} {vs : List V} (l : RfL K ρ H [t] vs) : ∃ v, vs = [v] ∧ Rf K ρ H t v := by
  cases l with
  | cons r q => cases q; exact ⟨_, rfl, r⟩
theorem RfL.two {t u : T} {vs : List V} (l : RfL K ρ H [t, u] vs) : ∃ v w, vs = [v, w] ∧ Rf K ρ H t v ∧ Rf K ρ H u w := by
  cases l with
  | cons r q =>
    obtain ⟨w, rfl, r'⟩ := q.one
    exact ⟨_, w, rfl, r, r'⟩
end
section
variable {X : Cx} {ca : Nat → Addr}
def rIxI (K : PySem.W.Frag) (ca : Nat → Addr) : R2 := fun x y H Q => ∃ ρ h t u W, Sm K ca ρ h H ∧ Rf K ρ H t x ∧ Rf K ρ H u y ∧ tM K ca (RV K Q) W (idxI t u h) ρ H
theorem sound_idx : IxR X (rIxI X.K ca) := by
  intro value slice pins s σ H x y v u Q I rx ry hq hs
  obtain ⟨ρ, h, t, t', W, m, r1, r2, q⟩ := hq
  unfold idxI at q
  split at q
  · rename_i i
    obtain ⟨t2, e, q⟩ := optM_some q
    obtain ⟨xs, e1, e2⟩ := Option.bind_eq_some_iff.mp e
    obtain ⟨a, vs, ex, hsq, l⟩ := seq_of m r1 e1
    obtain ⟨w, e3, rw3⟩ := atI_ok l e2
    cases r2
    refine ix_seq value slice pins s σ H x _ v u Q I rx ry ?_ hs
    rcases hsq with hsq | hsq
    · exact .inl ⟨a, vs, i, w, ex, rfl, hsq, e3, tM.fin m q w rw3⟩
    · exact .inr (.inl ⟨a, vs, i, w, ex, rfl, hsq, e3, tM.fin m q w rw3⟩)
  · exact q.elim
def rSlI (K : PySem.W.Frag) (ca : Nat → Addr) : V → Option Int → Option Int → Hp → VK → Prop := fun x lo hi H Q => ∃ ρ h t W, Sm K ca ρ h H ∧ Rf K ρ H t x ∧ tM K ca (RV K Q) W (slcI t lo hi h) ρ H
theorem sound_slc : SlR X (rSlI X.K ca) := by
  intro pins s σ H x v vl vu lo hi sl Q I rx hsl hl hu hq
  obtain ⟨ρ, h, t, W, m, r, q⟩ := hq
  refine (sl_tupA.or sl_list) pins s σ H x v vl vu lo hi sl Q I rx hsl hl hu ?_
  have lst : ∀ {t : T} {x : V}, Rf X.K ρ H t x → tM X.K ca (RV X.K Q) W ((match lstOf h t with
      | some xs => alloc (.lst (cutT xs lo hi)) h
      | none => .bad)) ρ H → rSlL X.K x lo hi H Q := by
    intro t x r q
    split at q
    · rename_i xs e
      obtain ⟨a, vs, ex, hs, l⟩ := lst_of m r e
      exact ⟨a, vs, ex, hs, tM.obj m q (.lst (cut_ok l))⟩
    · exact q.elim
  cases r with
  | tup hs l =>
    refine .inl ⟨_, _, rfl, hs, fun e => ?_, fun _ => tM.tup m q (cut_ok l)⟩
    rw [← l.length] at e
    have q : tM X.K ca (RV X.K Q) W (ret (.tup (cutT _ lo hi)) h) ρ H := q
    rw [cut_whole e] at q
    exact tM.val m q (.tup hs l)
  | rf ha => exact .inr (lst (.rf ha) q)
  | frz hz => exact .inr (lst (.frz hz) q)
  | _ => exact (show False from by
      have q : tM X.K ca (RV X.K Q) W .bad ρ H := q
      exact q).elim
/-! ### built-ins -/
def bltV : Blt → Value
  | .len => .builtin "len" | .tuple => .type "tuple" | .list => .type "list" | .abs => .builtin "abs" | .int => .type "int"
  | .sum => .builtin "sum" | .all => .builtin "all" | .any => .builtin "any" | .min2 => .builtin "min" | .max2 => .builtin "max" | .sorted => .builtin "sorted"
def rBl (K : PySem.W.Frag) (ca : Nat → Addr) (b : Blt) : List V → Hp → VK → Prop := fun vs H Q => ∃ ρ h ts W, Sm K ca ρ h H ∧ RfL K ρ H ts vs ∧ tM K ca (RV K Q) W (bltI b ts h) ρ H
theorem mapO_pairs {K : PySem.W.Frag} {ca : Nat → Addr} {ρ : List Addr} {H : Hp} {h : Hs} (m : Sm K ca ρ h H) : ∀ {xs : List T} {vs : List V} {ps : List (T × PyData)}, RfL K ρ H xs vs → mapO (fun t => (datS h t).map fun d => (t, d)) xs = some ps →
    ∃ L : List (T × V × PyData), ps = L.map (fun x => (x.1, x.2.2)) ∧ vs = L.map (fun x => x.2.1) ∧ xs = L.map (·.1) ∧ ∀ x ∈ L, Rf K ρ H x.1 x.2.1 ∧ Dp K H x.2.1 x.2.2
  | [], vs, ps, l, e => by cases l; cases e; exact ⟨[], rfl, rfl, rfl, fun _ q => by cases q⟩
  | x :: xs, _, ps, .cons r l, e => by
    simp only [mapO] at e
    split at e
    · rename_i y ys e1 e2
      cases e
      obtain ⟨d, e3, rfl⟩ := Option.map_eq_some_iff.mp e1
      obtain ⟨L, rfl, rfl, rfl, q⟩ := mapO_pairs m l e2
      refine ⟨(x, _, d) :: L, rfl, rfl, rfl, fun z hz => ?_⟩
      rcases List.mem_cons.mp hz with rfl | hz
      · exact ⟨r, (datS_ok m r e3).1⟩
      · exact q z hz
    · cases e
theorem rfl_map {K : PySem.W.Frag} {ρ : List Addr} {H : Hp} : ∀ {L : List (T × V × PyData)}, (∀ x ∈ L, Rf K ρ H x.1 x.2.1) → RfL K ρ H (L.map (·.1)) (L.map fun x => x.2.1)
  | [], _ => .nil
  | x :: L, h => .cons (h x List.mem_cons_self) (rfl_map fun y m => h y (List.mem_cons_of_mem _ m))
theorem srtB_ok {ds : List PyData} (h : srtB ds = true) : PySem.W.AllAlike ds ∧ PySem.W.SortableL ds ∧ ∀ d ∈ ds, d.depth ≤ 60 := by
  unfold srtB at h
  simp only [Bool.and_eq_true, Bool.or_eq_true, List.all_eq_true, decide_eq_true_eq] at h
  obtain ⟨⟨h1, h2⟩, h3⟩ := h
  refine ⟨fun d hd d' hd' => h1 d hd d' hd', ?_, h3⟩
  rcases h2 with (h2 | h2) | ⟨h2, h4⟩
  · refine .inl (.inl fun d hd => ?_)
    have := h2 d hd
    unfold srtN at this
    split at this
    · exact ⟨_, _, rfl⟩
    · cases this
  · refine .inl (.inr fun d hd => ?_)
    have := h2 d hd
    unfold srtO at this
    split at this
    · cases this
    · cases this
    · rename_i n1 n2; exact ⟨n1, n2⟩
  · refine .inr ⟨h2, fun d hd => ?_⟩
    have := h4 d hd
    unfold srtS at this
    split at this
    · cases this
    · rename_i n1; exact n1
theorem sound_blt (b : Blt) (hu : X.A.units + 65 < cLine) (hc : X.calm = true) : CallR X (bltV b) (rBl X.K ca b) := by
  intro pins s σ H vs us Q I rv hq
  obtain ⟨ρ, h, ts, W, m, l, q⟩ := hq
  have lenR : ∀ {t : T} {v : V}, Rf X.K ρ H t v → tM X.K ca (RV X.K Q) W (optM (fun h => (seqOf h t).map fun xs => T.int xs.length) h) ρ H → ∃ n, LenV X.K v H n ∧ Q (.int n) H := by
    intro t v r q
    obtain ⟨t2, e, q⟩ := optM_some q
    obtain ⟨xs, e1, rfl⟩ := Option.map_eq_some_iff.mp e
    obtain ⟨a, ws, ex, hs, l2⟩ := seq_of m r e1
    subst ex
    refine ⟨ws.length, ?_, by have z := tM.fin m q _ (.int _); rw [l2.length] at z; exact z⟩
    rcases hs with hs | hs
    · exact .inl ⟨ws, hs, rfl⟩
    · exact .inr ⟨ws, hs, rfl⟩
  unfold bltI at q
  split at q
  · obtain ⟨v, rfl, r⟩ := l.one
    have fin : (∃ n, LenV X.K v H n ∧ Q (.int n) H) → wpAny (model X.prog X.w) X.A (call (.builtin "len") us) (EP X pins σ Q) X.xe s := fun ⟨n, h1, h2⟩ =>
      call_len pins s σ H [v] us Q I rv ⟨v, n, rfl, h1, h2⟩
    refine fin ?_
    cases r with
    | str z =>
      obtain ⟨hc, q⟩ := ite_bad q
      exact ⟨z.length, ⟨by rw [← szL]; exact hc, rfl⟩, tM.val m q (.int _)⟩
    | non => exact lenR .non q
    | bl b => exact lenR (.bl b) q
    | int i => exact lenR (.int i) q
    | tup a b => exact lenR (.tup a b) q
    | rf a => exact lenR (.rf a) q
    | frz a => exact lenR (.frz a) q
  · obtain ⟨v, rfl, r⟩ := l.one
    obtain ⟨t2, e, q⟩ := optM_some q
    obtain ⟨xs, e1, rfl⟩ := Option.map_eq_some_iff.mp e
    obtain ⟨a, ws, ex, hs, l2⟩ := seq_of m r e1
    subst ex
    refine call_tuple_of pins s σ H _ us Q I rv ⟨a, ws, rfl, ?_⟩
    rcases hs with hs | hs
    · exact .inl ⟨hs, tM.tup m q l2⟩
    · exact .inr ⟨hs, tM.val m q (.tup hs l2)⟩
  · obtain ⟨v, rfl, r⟩ := l.one
    split at q
    · rename_i xs e1
      obtain ⟨a, ws, ex, hs, l2⟩ := seq_of m r e1
      subst ex
      exact call_list_of pins s σ H _ us Q I rv ⟨a, ws, rfl, hs, tM.obj m q (.lst l2)⟩
    · exact q.elim
  · obtain ⟨v, rfl, r⟩ := l.one
    cases r
    exact call_abs pins s σ H _ us Q I rv ⟨_, rfl, tM.val m q (.int _)⟩
  · obtain ⟨v, rfl, r⟩ := l.one
    cases r
    exact call_int1 pins s σ H _ us Q I rv (.inl ⟨_, rfl, tM.val m q (.int _)⟩)
  · obtain ⟨v, rfl, r⟩ := l.one
    cases r
    exact call_int1 pins s σ H _ us Q I rv (.inr ⟨_, rfl, tM.val m q (.int _)⟩)
  · obtain ⟨v, rfl, r⟩ := l.one
    obtain ⟨t2, e, q⟩ := optM_some q
    obtain ⟨ns, e1, rfl⟩ := Option.map_eq_some_iff.mp e
    obtain ⟨xs, e2, e3⟩ := Option.bind_eq_some_iff.mp e1
    obtain ⟨a, ws, ex, hs, l2⟩ := lst_of m r e2
    subst ex
    have := ints_ok l2 e3
    subst this
    exact cr_sum hc pins s σ H _ us Q I rv ⟨a, ns, rfl, hs, tM.fin m q _ (.int _)⟩
  · obtain ⟨v, rfl, r⟩ := l.one
    obtain ⟨t2, e, q⟩ := optM_some q
    obtain ⟨ns, e1, rfl⟩ := Option.map_eq_some_iff.mp e
    obtain ⟨xs, e2, e3⟩ := Option.bind_eq_some_iff.mp e1
    obtain ⟨a, ws, ex, hs, l2⟩ := lst_of m r e2
    subst ex
    have := bools_ok l2 e3
    subst this
    exact cr_all hc pins s σ H _ us Q I rv ⟨a, ns, rfl, hs, tM.fin m q _ (.bl _)⟩
  · obtain ⟨v, rfl, r⟩ := l.one
    obtain ⟨t2, e, q⟩ := optM_some q
    obtain ⟨ns, e1, rfl⟩ := Option.map_eq_some_iff.mp e
    obtain ⟨xs, e2, e3⟩ := Option.bind_eq_some_iff.mp e1
    obtain ⟨a, ws, ex, hs, l2⟩ := lst_of m r e2
    subst ex
    have := bools_ok l2 e3
    subst this
    exact cr_any hc pins s σ H _ us Q I rv ⟨a, ns, rfl, hs, tM.fin m q _ (.bl _)⟩
  · obtain ⟨v, w, rfl, r, r'⟩ := l.two
    cases r; cases r'
    exact call_min2 hc pins s σ H _ us Q I rv ⟨_, _, rfl, tM.val m q (.int _)⟩
  · obtain ⟨v, w, rfl, r, r'⟩ := l.two
    cases r; cases r'
    exact call_max2 hc pins s σ H _ us Q I rv ⟨_, _, rfl, tM.val m q (.int _)⟩
  · obtain ⟨v, rfl, r⟩ := l.one
    split at q
    · rename_i ys e1
      obtain ⟨xs, e2, e3⟩ := Option.bind_eq_some_iff.mp e1
      obtain ⟨a, ws, ex, hs, l2⟩ := lst_of m r e2
      subst ex
      unfold srtT at e3
      split at e3
      · rename_i ps e4
        split at e3
        · rename_i hb
          cases e3
          obtain ⟨L, rfl, rfl, rfl, hL⟩ := mapO_pairs m l2 e4
          obtain ⟨b1, b2, b3⟩ := srtB_ok hb
          rw [List.map_map] at b1 b2 b3
          have e5 : ((L.map fun x => (x.1, x.2.2)).mergeSort (PySem.W.dataLe false (·.2))).map (·.1) = (L.mergeSort (PySem.W.dataLe false (fun x : T × V × PyData => x.2.2))).map (·.1) := by
            rw [← List.map_mergeSort (f := fun x : T × V × PyData => ((x.1, x.2.2) : T × PyData)) (s := PySem.W.dataLe false (·.2)) (r := PySem.W.dataLe false (fun x : T × V × PyData => x.2.2)) (fun _ _ _ _ => rfl), List.map_map]
            rfl
          have e6 : ((L.map fun x => (x.2.1, x.2.2)).mergeSort (PySem.W.dataLe false (·.2))).map (·.1) = (L.mergeSort (PySem.W.dataLe false (fun x : T × V × PyData => x.2.2))).map (fun x => x.2.1) := by
            rw [← List.map_mergeSort (f := fun x : T × V × PyData => ((x.2.1, x.2.2) : V × PyData)) (s := PySem.W.dataLe false (·.2)) (r := PySem.W.dataLe false (fun x : T × V × PyData => x.2.2)) (fun _ _ _ _ => rfl), List.map_map]
            rfl
          rw [e5] at q
          refine cr_sortD hu pins s σ H _ us Q I rv ⟨a, L.map (fun x => (x.2.1, x.2.2)), rfl, by rw [List.map_map]; exact hs, fun p hp => ?_, by rw [List.map_map]; exact b1, by rw [List.map_map]; exact b2, fun p hp => ?_, ?_⟩
          · obtain ⟨x, hx, rfl⟩ := List.mem_map.mp hp
            exact (hL x hx).2
          · obtain ⟨x, hx, rfl⟩ := List.mem_map.mp hp
            exact b3 _ (List.mem_map.mpr ⟨x, hx, rfl⟩)
          · rw [e6]
            exact tM.obj m q (.lst (rfl_map fun x hx => (hL x (List.mem_mergeSort.mp hx)).1))
        · cases e3
      · cases e3
    · exact q.elim
  · exact q.elim
theorem ty_ok {K : PySem.W.Frag} {ρ : List Addr} {H : Hp} {h : Hs} {t : T} {v : V} {n : String} (m : Sm K ca ρ h H) (r : Rf K ρ H t v) (e : tyN h t = some n) : TyX K H v (.type n) := by
  cases r with
  | non => cases e; exact .base .non
  | bl b => cases e; exact .base (.bl b)
  | int i => cases e; exact .base (.int i)
  | str z => cases e; exact .base (.str z)
  | tup hs l =>
    cases e
    rcases hs with (hs | ⟨o, hs⟩) | ⟨o, its, n, h1, h2, _⟩
    · exact .base (.tup hs)
    · exact .fTuple hs
    · exact .kTuple h1 h2
  | rf ha =>
    unfold tyN at e
    dsimp only at e
    split at e
    · rename_i xs e1
      cases e
      obtain ⟨vs, k1, l1⟩ := lst_at m ha e1
      exact .base (.lst k1)
    · rename_i e1
      obtain ⟨u, hu, ro⟩ := m.obj e1 ha
      cases ro
    · cases e
  | frz hz => cases e
theorem sound_isi : CallR X (.builtin "isinstance") (fun vs H Q => ∃ x n ρ h t b, vs = [x, .ty n] ∧ Sm X.K ca ρ h H ∧ Rf X.K ρ H t x ∧ isiI (.ty n) t h = some b ∧ Q (.bl b) H) := by
  intro pins s σ H vs us Q I rv hq
  obtain ⟨x, n, ρ, h, t, b, ev, m, r, e, q⟩ := hq
  unfold isiI at e
  obtain ⟨k, e1, e2⟩ := Option.bind_eq_some_iff.mp e
  exact call_isi pins s σ H vs us Q I rv ⟨x, .ty n, _, _, b, ev, .ty n, ty_ok m r e1, kit_ty e2, q⟩
/-! ### methods of lists -/
def mthN : Mth → Str
  | .append => "append" | .extend => "extend" | .pop => "pop" | .insert => "insert" | .index => "index" | .popAt => "pop"
def rMe (K : PySem.W.Frag) (ca : Nat → Addr) (mt : Mth) : V → List V → Hp → VK → Prop := fun x vs H Q => ∃ ρ h t ts W, Sm K ca ρ h H ∧ Rf K ρ H t x ∧ RfL K ρ H ts vs ∧ tM K ca (RV K Q) W (metI mt t ts h) ρ H
def mthI : Mth → String
  | .append => "list.append" | .extend => "list.extend" | .pop => "list.pop" | .insert => "list.insert" | .index => "list.index" | .popAt => "list.pop"
theorem set_ok {K : PySem.W.Frag} {ρ : List Addr} {H : Hp} {h : Hs} {W : WX'} {Q : VK} {a : Nat} {p : Addr} {o o' : O} {ho' : HO} {t : T} {v : V} (m : Sm K ca ρ h H) (ha : ρ[a]? = some p) (e : h[a]? = some o)
    (q : tM K ca (RV K Q) W (setO a o' t h) ρ H) (r : RO K ca ρ H o' ho') (rt : Rf K ρ H t v) : Q v (upd H p ho') := by
  obtain ⟨x, s⟩ := m.write e ha r
  exact q _ _ x s v (rt.ex x)
theorem seqIndex_nat {i : Int} {n : Nat} (h : 0 ≤ i) (l : i.toNat < n) : seqIndex? i n = some i.toNat := by
  unfold seqIndex?
  have h1 : ¬ i < 0 := by omega
  have h2 : i < (n : Int) := by omega
  simp [h1, h, h2]
theorem sound_met (mt : Mth) : MtR X (mthI mt) (rMe X.K ca mt) := by
  intro pins s σ H x vs v us Q I rx rv hq
  obtain ⟨ρ, h, t, ts, W, m, r, l, q⟩ := hq
  unfold metI at q
  split at q
  · rename_i a
    split at q
    · rename_i xs e1
      cases r with
      | rf ha =>
        obtain ⟨ws, k1, l1⟩ := lst_at m ha e1
        split at q
        · split at q
          · rename_i hc
            obtain ⟨y, rfl, ry⟩ := l.one
            exact mt_append pins s σ H _ _ v us Q I rx rv ⟨_, ws, y, rfl, rfl, k1, by rw [← l1.length, ← szL]; exact hc, set_ok m ha e1 q (.lst (l1.append (.cons ry .nil))) .non⟩
          · exact q.elim
        · split at q
          · rename_i ys e2
            split at q
            · rename_i hc
              obtain ⟨y, rfl, ry⟩ := l.one
              cases ry with
              | rf hb =>
                obtain ⟨zs, k2, l2⟩ := lst_at m hb e2
                exact mt_extend pins s σ H _ _ v us Q I rx rv ⟨_, _, ws, zs, rfl, rfl, k1, k2, by rw [← l1.length, ← l2.length, ← szL]; exact hc, set_ok m ha e1 q (.lst (l1.append l2)) .non⟩
            · exact q.elim
          · exact q.elim
        · split at q
          · rename_i t2 e2
            cases l
            rw [List.getLast?_eq_getElem?] at e2
            obtain ⟨y, e3, ry⟩ := l1.get e2
            exact mt_pop pins s σ H _ _ v us Q I rx rv ⟨_, ws, y, rfl, rfl, k1, by rw [← l1.length]; exact e3, set_ok m ha e1 q (.lst l1.dropLast) ry⟩
          · exact q.elim
        · rename_i i
          split at q
          · rename_i hc
            split at q
            · rename_i t2 e2
              obtain ⟨y, rfl, ry⟩ := l.one
              cases ry
              obtain ⟨y, e3, ry⟩ := l1.get e2
              have il := (List.getElem?_eq_some_iff.mp e3).1
              refine mt_popAt pins s σ H _ _ v us Q I rx rv ⟨_, ws, i, i.toNat, y, rfl, rfl, k1, by omega, by omega, ?_, e3, set_ok m ha e1 q (.lst (l1.eraseIdx _)) ry⟩
              exact seqIndex_nat hc.1 il
            · exact q.elim
          · exact q.elim
        · rename_i i t2
          split at q
          · rename_i hc
            obtain ⟨y, z, rfl, ry, rz⟩ := l.two
            cases ry
            refine mt_insert pins s σ H _ _ v us Q I rx rv ⟨_, ws, i, z, rfl, rfl, k1, by rw [← l1.length, ← szL]; exact hc.2.2, hc.1, hc.2.1, set_ok m ha e1 q (.lst ?_) .non⟩
            rw [List.append_assoc]
            exact (l1.take _).append (.cons rz (l1.drop _))
          · exact q.elim
        · exact q.elim
    · exact q.elim
  · exact q.elim
end
/-! ### what is walked -/
section
variable {K : PySem.W.Frag} {ca : Nat → Addr} {ρ ρ1 : List Addr} {H H1 : Hp} {h h1 : Hs}
/-- the walk of the layer does what is said here, from ρ, H on -/
structure WkOk (K : PySem.W.Frag) (ca : Nat → Addr) (ρ : List Addr) (H : Hp) (w : Wk) (J : It) : Prop where
  go : ∀ ρ1 h1 H1 i t, Ex ρ H ρ1 H1 → Sm K ca ρ1 h1 H1 → w.std h1 → w.its[i]? = some t → J.go i H1 ∧ ∀ x H2, J.yld i H1 x H2 → Ex ρ1 H1 ρ1 H2 ∧ Sm K ca ρ1 h1 H2 ∧ Rf K ρ1 H2 t x
  stop : ∀ ρ1 h1 H1, Ex ρ H ρ1 H1 → Sm K ca ρ1 h1 H1 → w.std h1 → J.stop w.its.length H1
theorem wk_tup {ts : List T} {vs : List V} {a : Addr} (hs : SqT K H a vs) (l : RfL K ρ H ts vs) : WkOk K ca ρ H ⟨ts, fun _ => True⟩ (Itt K a) := by
  refine ⟨fun ρ1 h1 H1 i t x m _ e => ?_, fun ρ1 h1 H1 x m _ => ⟨vs, SqT.ex x.le hs, by rw [← l.length]; exact Nat.le_refl _⟩⟩
  obtain ⟨v, e1, r⟩ := (l.ex x).get e
  refine ⟨⟨vs, v, SqT.ex x.le hs, e1⟩, fun y H2 hy => ?_⟩
  obtain ⟨rfl, hy⟩ := hy
  have := hy vs (SqT.ex x.le hs)
  rw [e1] at this
  cases this
  exact ⟨m.refl, m, r⟩
theorem wk_lst {t : T} {v : V} {ts : List T} {a : Addr} (ev : v = .ref a) (r : Rf K ρ H t v) : WkOk K ca ρ H ⟨ts, fun h' => lstOf h' t = some ts⟩ (Itl K a) := by
  subst ev
  refine ⟨fun ρ1 h1 H1 i u x m st e => ?_, fun ρ1 h1 H1 x m st => ?_⟩
  · obtain ⟨b, vs, eb, hs, l⟩ := lst_of m (r.ex x) st
    cases eb
    obtain ⟨w, e1, rw1⟩ := l.get e
    refine ⟨⟨vs, w, hs, e1⟩, fun y H2 hy => ?_⟩
    obtain ⟨rfl, hy⟩ := hy
    have := hy vs hs
    rw [e1] at this
    cases this
    exact ⟨m.refl, m, rw1⟩
  · obtain ⟨b, vs, eb, hs, l⟩ := lst_of m (r.ex x) st
    cases eb
    exact ⟨vs, hs, by rw [← l.length]; exact Nat.le_refl _⟩
theorem wk_rng {lo : Int} {n : Nat} : WkOk K ca ρ H ⟨iota lo n, fun _ => True⟩ (Itr lo n) := by
  refine ⟨fun ρ1 h1 H1 i u x m _ e => ?_, fun ρ1 h1 H1 x m _ => by show n ≤ (iota lo n).length; simp [iota]⟩
  unfold iota at e
  rw [List.getElem?_map] at e
  obtain ⟨j, e1, rfl⟩ := Option.map_eq_some_iff.mp e
  obtain ⟨h1', e2⟩ := List.getElem?_eq_some_iff.mp e1
  simp at e2 h1'
  subst e2
  refine ⟨h1', fun y H2 hy => ?_⟩
  obtain ⟨rfl, rfl⟩ := hy
  exact ⟨m.refl, m, .int _⟩
theorem zidx {α : Type} {xs : List α} {i : Nat} {f : α × Nat → T} {t : T} (e : (xs.zipIdx.map f)[i]? = some t) : ∃ x, xs[i]? = some x ∧ t = f (x, i) := by
  rw [List.getElem?_map, List.getElem?_zipIdx] at e
  cases q : xs[i]? with
  | none => rw [q] at e; cases e
  | some x => rw [q] at e; simp at e; exact ⟨x, rfl, e.symm⟩
theorem wk_enum {t : T} {v : V} {ts : List T} {a : Addr} (ev : v = .ref a) (r : Rf K ρ H t v) : WkOk K ca ρ H ⟨enumT ts, fun h' => lstOf h' t = some ts⟩ (Ite K a) := by
  subst ev
  refine ⟨fun ρ1 h1 H1 i u x m st e => ?_, fun ρ1 h1 H1 x m st => ?_⟩
  · obtain ⟨b, vs, eb, hs, l⟩ := lst_of m (r.ex x) st
    cases eb
    obtain ⟨y, e0, rfl⟩ := zidx e
    obtain ⟨w, e1, rw1⟩ := l.get e0
    refine ⟨⟨vs, w, hs, e1⟩, fun y H2 hy => ?_⟩
    obtain ⟨q, z, rfl, hn, rfl, hy⟩ := hy
    have := hy vs hs
    rw [e1] at this
    cases this
    obtain ⟨x', s'⟩ := m.newT hn [V.int (i : Nat), w]
    exact ⟨x', s', .tup (.inl (.inl upd_same)) (.cons (.int _) (.cons (rw1.ex x') .nil))⟩
  · obtain ⟨b, vs, eb, hs, l⟩ := lst_of m (r.ex x) st
    cases eb
    exact ⟨vs, hs, by rw [← l.length]; simp [enumT]⟩
theorem wk_enumT {ts : List T} {vs : List V} {a : Addr} (hs : SqT K H a vs) (l : RfL K ρ H ts vs) : WkOk K ca ρ H ⟨enumT ts, fun _ => True⟩ (IteT K a) := by
  refine ⟨fun ρ1 h1 H1 i t x m _ e => ?_, fun ρ1 h1 H1 x m _ => ⟨vs, SqT.ex x.le hs, by rw [← l.length]; simp [enumT]⟩⟩
  obtain ⟨y, e0, rfl⟩ := zidx e
  obtain ⟨v, e3, r⟩ := (l.ex x).get e0
  refine ⟨⟨vs, v, SqT.ex x.le hs, e3⟩, fun y H2 hy => ?_⟩
  obtain ⟨q, p, rfl, hn, rfl, h1⟩ := hy
  have z1 := h1 vs (SqT.ex x.le hs)
  rw [e3] at z1
  cases z1
  obtain ⟨x', s'⟩ := m.newT hn [V.int (i : Nat), v]
  exact ⟨x', s', .tup (.inl (.inl upd_same)) (.cons (.int _) (.cons (r.ex x') .nil))⟩
theorem zipx {xs ys : List T} {i : Nat} {t : T} (e : (zipT xs ys)[i]? = some t) : ∃ x y, xs[i]? = some x ∧ ys[i]? = some y ∧ t = .tup [x, y] := by
  unfold zipT at e
  rw [List.getElem?_map] at e
  obtain ⟨p, e1, rfl⟩ := Option.map_eq_some_iff.mp e
  obtain ⟨h1, h2⟩ := List.getElem?_zip_eq_some.mp e1
  exact ⟨p.1, p.2, h1, h2, rfl⟩
theorem zip_len {xs ys : List T} {n k : Nat} (h1 : xs.length = n) (h2 : ys.length = k) : n ≤ (zipT xs ys).length ∨ k ≤ (zipT xs ys).length := by
  have : (zipT xs ys).length = min xs.length ys.length := by simp [zipT]
  rw [this]
  omega
theorem wk_zipT {ts us : List T} {vs ws : List V} {a b : Addr} (hs : SqT K H a vs) (l : RfL K ρ H ts vs) (hs' : SqT K H b ws) (l' : RfL K ρ H us ws) : WkOk K ca ρ H ⟨zipT ts us, fun _ => True⟩ (RZ.ItzT K a b) := by
  refine ⟨fun ρ1 h1 H1 i t x m _ e => ?_, fun ρ1 h1 H1 x m _ => ⟨vs, ws, SqT.ex x.le hs, SqT.ex x.le hs', zip_len l.length l'.length⟩⟩
  obtain ⟨y, z, e1, e2, rfl⟩ := zipx e
  obtain ⟨v, e3, r⟩ := (l.ex x).get e1
  obtain ⟨w, e4, r'⟩ := (l'.ex x).get e2
  refine ⟨⟨vs, ws, v, w, SqT.ex x.le hs, SqT.ex x.le hs', e3, e4⟩, fun y H2 hy => ?_⟩
  obtain ⟨q, p, p', rfl, hn, rfl, h1, h2⟩ := hy
  have z1 := h1 vs (SqT.ex x.le hs)
  have z2 := h2 ws (SqT.ex x.le hs')
  rw [e3] at z1; rw [e4] at z2
  cases z1; cases z2
  obtain ⟨x', s'⟩ := m.newT hn [v, w]
  exact ⟨x', s', .tup (.inl (.inl upd_same)) (.cons (r.ex x') (.cons (r'.ex x') .nil))⟩
theorem wk_zipL {t u : T} {ts us : List T} {a b : Addr} (r : Rf K ρ H t (.ref a)) (r' : Rf K ρ H u (.ref b)) : WkOk K ca ρ H ⟨zipT ts us, fun h' => lstOf h' t = some ts ∧ lstOf h' u = some us⟩ (Itz K a b) := by
  refine ⟨fun ρ1 h1 H1 i t x m st e => ?_, fun ρ1 h1 H1 x m st => ?_⟩
  · obtain ⟨_, vs, eb, hs, l⟩ := lst_of m (r.ex x) st.1
    cases eb
    obtain ⟨_, ws, eb, hs', l'⟩ := lst_of m (r'.ex x) st.2
    cases eb
    obtain ⟨y, z, e1, e2, rfl⟩ := zipx e
    obtain ⟨v, e3, rv⟩ := l.get e1
    obtain ⟨w, e4, rw'⟩ := l'.get e2
    refine ⟨⟨vs, ws, v, w, hs, hs', e3, e4⟩, fun y H2 hy => ?_⟩
    obtain ⟨q, p, p', rfl, hn, rfl, h1, h2⟩ := hy
    have z1 := h1 vs hs
    have z2 := h2 ws hs'
    rw [e3] at z1; rw [e4] at z2
    cases z1; cases z2
    obtain ⟨x', s'⟩ := m.newT hn [v, w]
    exact ⟨x', s', .tup (.inl (.inl upd_same)) (.cons (rv.ex x') (.cons (rw'.ex x') .nil))⟩
  · obtain ⟨_, vs, eb, hs, l⟩ := lst_of m (r.ex x) st.1
    cases eb
    obtain ⟨_, ws, eb, hs', l'⟩ := lst_of m (r'.ex x) st.2
    cases eb
    exact ⟨vs, ws, hs, hs', zip_len l.length l'.length⟩
end
end CB

/-! Soundness, part three: expressions. -/
namespace CB
open PySem PySem.Spec PyProof.Rows L2
/-- the slots -/
structure EnvR (K : PySem.W.Frag) (ρ : List Addr) (H : Hp) (es : Env) (σ : L2.St) : Prop where
  len : es.length = σ.length
  get : ∀ (i : Nat) (t : T), es[i]? = some (some t) → ∃ v, σ[i]? = some (some v) ∧ Rf K ρ H t v
section
variable {K : PySem.W.Frag} {ρ ρ' : List Addr} {H H' : Hp} {es : Env} {σ : L2.St}
theorem EnvR.ex (e : EnvR K ρ H es σ) (x : Ex ρ H ρ' H') : EnvR K ρ' H' es σ := ⟨e.len, fun i t h => by
  obtain ⟨v, h1, h2⟩ := e.get i t h
  exact ⟨v, h1, h2.ex x⟩⟩
theorem EnvR.set (e : EnvR K ρ H es σ) {i : Nat} {t : T} {v : V} (r : Rf K ρ H t v) : EnvR K ρ H (es.set i (some t)) (σ.set i (some v)) := ⟨by simp [e.len], fun j u h => by
  by_cases hj : i = j
  · subst hj
    by_cases hl : i < es.length
    · rw [List.getElem?_set_self hl] at h
      cases h
      exact ⟨v, List.getElem?_set_self (by rw [← e.len]; exact hl), r⟩
    · rw [List.getElem?_eq_none (by simpa using hl)] at h; cases h
  · rw [List.getElem?_set_ne hj] at h ⊢
    exact e.get j u h⟩
theorem EnvR.setN (e : EnvR K ρ H es σ) {i : Nat} : EnvR K ρ H (es.set i none) (σ.set i none) := ⟨by simp [e.len], fun j u h => by
  by_cases hj : i = j
  · subst hj
    by_cases hl : i < es.length
    · rw [List.getElem?_set_self hl] at h; cases h
    · rw [List.getElem?_eq_none (by simpa using hl)] at h; cases h
  · rw [List.getElem?_set_ne hj] at h ⊢
    exact e.get j u h⟩
theorem EnvR.wipe (e : EnvR K ρ H es σ) : ∀ vs : List Nat, EnvR K ρ H (wipeE es vs) (L2.wipe σ vs)
  | [] => e
  | v :: vs => (EnvR.wipe e vs).setN
end
/-- a reading by the run m -/
def tG {α β : Type} (K : PySem.W.Frag) (ca : Nat → Addr) (W : WX) (J : List Addr → Hp → α → β → Prop) (m : Env → M α)   : L2.St → Hp → (β → Hp → Prop) → Prop := fun σ H Q =>
  ∃ ρ h es, EnvR K ρ H es σ ∧ Sm K ca ρ h H ∧ tM K ca (fun ρ' H' a => ∀ b, J ρ' H' a b → Q b H') (fun cls d H' => W cls d σ H') (m es h) ρ H
abbrev tE (K : PySem.W.Frag) (ca : Nat → Addr) (W : WX) (m : Env → M T) : TE := tG K ca W (Rf K) m
abbrev tA (K : PySem.W.Frag) (ca : Nat → Addr) (W : WX) (m : Env → M (List T)) : TA := tG K ca W (RfL K) m
abbrev tT (K : PySem.W.Frag) (ca : Nat → Addr) (W : WX) (m : Env → M Bool) : TT := tG K ca W (fun _ _ a b => a = b) m
abbrev tOI (K : PySem.W.Frag) (ca : Nat → Addr) (W : WX) (m : Env → M (Option Int)) : TO := tG K ca W (fun _ _ a b => a = b) m
section
variable {α β γ : Type} {K : PySem.W.Frag} {ca : Nat → Addr} {W : WX} {ρ : List Addr} {H : Hp} {h : Hs} {es : Env} {σ : L2.St}
/-- the first of two -/
theorem go {J : List Addr → Hp → α → β → Prop} {m : Env → M α} {f : α → M γ} {R : List Addr → Hp → γ → Prop} (e : EnvR K ρ H es σ) (s : Sm K ca ρ h H)
    (q : tM K ca R (fun cls d H' => W cls d σ H') (bnd (m es) f h) ρ H) {P : β → Hp → Prop}
    (k : ∀ ρ1 h1 H1 a b, EnvR K ρ1 H1 es σ → Sm K ca ρ1 h1 H1 → Ex ρ H ρ1 H1 → J ρ1 H1 a b → m es h = .ok a h1 → tM K ca R (fun cls d H' => W cls d σ H') (f a h1) ρ1 H1 → P b H1) :
    tG K ca W J m σ H P :=
  ⟨ρ, h, es, e, s, (tM.bnd q).mono fun ρ' H' a h' ea x s' z b jb => k ρ' h' H' a b (e.ex x) s' x jb ea (z h' ea)⟩
/-- the only one -/
theorem last {J : List Addr → Hp → α → β → Prop} {m : Env → M α} {P : β → Hp → Prop} (e : EnvR K ρ H es σ) (s : Sm K ca ρ h H)
    (q : tM K ca (fun ρ' H' a => ∀ b, J ρ' H' a b → P b H') (fun cls d H' => W cls d σ H') (m es h) ρ H) : tG K ca W J m σ H P := ⟨ρ, h, es, e, s, q⟩
theorem bnd_ok {m : M α} {f : α → M γ} {R : List Addr → Hp → γ → Prop} {W' : WX'} (q : tM K ca R W' (bnd m f h) ρ H) : (∃ a h1, m h = .ok a h1) ∨ ∃ x h1, m h = .exc x h1 := by
  unfold bnd at q
  cases e : m h with
  | ok a h1 => exact .inl ⟨a, h1, rfl⟩
  | exc x h1 => exact .inr ⟨x, h1, rfl⟩
  | bad => rw [e] at q; exact q.elim
theorem bnd_opt {o : Hs → Option α} {f : α → M γ} {R : List Addr → Hp → γ → Prop} {W' : WX'} (q : tM K ca R W' (bnd (optM o) f h) ρ H) : ∃ a, o h = some a ∧ tM K ca R W' (f a h) ρ H := by
  unfold bnd optM at q
  cases e : o h with
  | none => rw [e] at q; exact q.elim
  | some a => rw [e] at q; exact ⟨a, rfl, q⟩
end
/-! ### weaker readings -/
section
variable {X : Cx}
theorem _root_.L2.PE.imp {e : Expr} {t t' : TE} (p : PE X e t) (h : ∀ σ H Q, t' σ H Q → t σ H Q) : PE X e t' := ⟨fun pins s σ H Q I q => p.run pins s σ H Q I (h σ H Q q)⟩
theorem _root_.L2.PT.imp {e : Expr} {t t' : TT} (p : PT X e t) (h : ∀ σ H Q, t' σ H Q → t σ H Q) : PT X e t' := ⟨fun pins s σ H Q I q => p.run pins s σ H Q I (h σ H Q q)⟩
theorem _root_.L2.PW.imp {e : Expr} {t t' : TT} (p : PW X e t) (h : ∀ σ H Q, t' σ H Q → t σ H Q) : PW X e t' := ⟨fun wh pins s σ H Q I q => p.run wh pins s σ H Q I (h σ H Q q)⟩
theorem _root_.L2.PA.imp {es : List Expr} {t t' : TA} (p : PA X es t) (h : ∀ σ H Q, t' σ H Q → t σ H Q) : PA X es t' := ⟨fun pos pins s σ H Q I q => p.run pos pins s σ H Q I (h σ H Q q)⟩
theorem _root_.L2.PO.imp {e : Option Expr} {t t' : TO} (p : PO X e t) (h : ∀ σ H Q, t' σ H Q → t σ H Q) : PO X e t' := ⟨fun pins s σ H Q I q => p.run pins s σ H Q I (h σ H Q q)⟩
theorem _root_.L2.PI.imp {tg e : Expr} {t t' : TI} (p : PI X tg e t) (h : ∀ σ H Q, t' σ H Q → t σ H Q) : PI X tg e t' := ⟨fun pins s σ H Q I q => p.run pins s σ H Q I (h σ H Q q)⟩
theorem _root_.L2.PI.or {tg e : Expr} {t t' : TI} (p : PI X tg e t) (p' : PI X tg e t') : PI X tg e (fun σ H R => t σ H R ∨ t' σ H R) := ⟨fun pins s σ H Q I q => q.elim (p.run pins s σ H Q I) (p'.run pins s σ H Q I)⟩
end
/-! ### what the text gives -/
/-- a def's promise: what the run of it gives -/
def spC (K : PySem.W.Frag) (ca : Nat → Addr) (np : Nat) (m : List T → M T) : Sp := fun vs H Q E => ∃ ρ h ts, Sm K ca ρ h H ∧ RfL K ρ H ts vs ∧ ts.length = np ∧
  tM K ca (RV K Q) E (m ts h) ρ H
structure FnF (P : Program) (w : World) (K : PySem.W.Frag) (mg : Str → Option Value) (base : Heap) (ca : Nat → Addr) (k : Nat) (a : Addr) (np : Nat) (m : List T → M T) : Prop where
  ok : ∃ fd ps, Binds K fd ps [] ∧ FnOk P w K mg base (CX P w) k a fd ps (spC K ca np m)
structure Fx (P : Program) (w : World) (K : PySem.W.Frag) (mg : Str → Option Value) (base : Heap) (nm : Nm) (ca : Nat → Addr) (cl : Nat → List T → M T) (k : Nat) : Prop where
  fns : ∀ x f n, nm.fns.lookup x = some (f, n) → ∃ a, mg x = some (.ref a) ∧ PySem.W.keepIn K (.ref a) = true ∧ FnF P w K mg base ca k a n (cl f)
  cls : ∀ x c i n, nm.cls.lookup x = some (c, i, n) → mg x = some (.ref (ca c)) ∧ CO K (ca c) ∧ ∃ a, Mk K (ca c) a ∧ FnF P w K mg base ca k a n (cl i)
  cons : ∀ x t, nm.cons.lookup x = some t → ∃ u v, mg x = some u ∧ RelV v u ∧ ∀ ρ H, Rf K ρ H t v
  free : ∀ x, nm.free.contains x = true → mg x = none
/-- a context as the checker sees it -/
structure Gd (X : Cx) (N : List Str) (c : Sc) (nm : Nm) (ca : Nat → Addr) (cl : Nat → List T → M T) (k : Nat) : Prop where
  hN : X.N = N
  nd : N.Nodup
  sc : X.env.scope = c.sc
  fn : ∀ x, fnB c x = true → X.fn x = true
  calm : X.calm = true
  room : Room (k + 1) X.A
  fx : Fx X.prog X.w X.K X.mg X.base nm ca cl k
section
variable {X : Cx} {N : List Str} {c : Sc} {nm : Nm} {ca : Nat → Addr} {cl : Nat → List T → M T} {k : Nat} {W : WX}
theorem slot_ok : ∀ {N : List Str} {x : Str} {i : Nat}, slot N x = some i → N[i]? = some x
  | [], _, _, e => by cases e
  | y :: r, x, i, e => by
    unfold slot at e
    split at e
    · rename_i hy
      cases e
      simp [hy]
    · obtain ⟨j, e1, rfl⟩ := Option.map_eq_some_iff.mp e
      simpa using slot_ok e1
theorem when_some {α : Type} {b : Bool} {o : Option α} {a : α} (e : when b o = some a) : b = true ∧ o = some a := by
  unfold when at e
  split at e
  · exact ⟨rfl, e⟩
  · cases e
theorem kd_eq (g : Gd X N c nm ca cl k) (x : Str) : X.env.scope.names.lookup x = kd c x := by rw [g.sc]; rfl
theorem vis_of (g : Gd X N c nm ca cl k) {x : Str} (h : visB c x = true) : Vis X.env.scope x := by
  unfold visB at h
  unfold Vis
  rw [kd_eq g x]
  split at h <;> first | (rename_i e; rw [e]; simp) | cases h
theorem gl_of (g : Gd X N c nm ca cl k) {x : Str} (h : gloB c x = true) : Gl X x := by
  show X.env.scope.names.lookup x = _
  rw [kd_eq g x]
  exact beq_iff_eq.mp h
theorem dbg1 {x : Str} (h : dbgB x = true) : (x == ("__debug__" : Str)) = false := by
  unfold dbgB at h
  simp only [Bool.and_eq_true, Bool.not_eq_true'] at h
  exact h.1.1
theorem dbg2 {x : Str} (h : dbgB x = true) : (x == ("__classdict__" : Str)) = false := by
  unfold dbgB at h
  simp only [Bool.and_eq_true, Bool.not_eq_true'] at h
  exact h.1.2
theorem dbg3 {x : Str} (h : dbgB x = true) : x ≠ "__name__" := by
  unfold dbgB at h
  simp only [Bool.and_eq_true, Bool.not_eq_true'] at h
  exact beq_eq_false_iff_ne.mp h.2
theorem loc_of (g : Gd X N c nm ca cl k) {x : Str} (h : stoB c x = true) : L2.Loc X.env.scope x ∧ (X.fn x = true ∨ X.env.scope.names.lookup x = some .local) := by
  unfold stoB at h
  rw [Bool.and_eq_true, Bool.or_eq_true] at h
  refine ⟨?_, ?_⟩
  · have h := h.1
    unfold locB at h
    unfold L2.Loc
    rw [kd_eq g x]
    split at h <;> first | (rename_i e; rw [e]; simp) | cases h
  · rcases h.2 with h | h
    · exact .inl (g.fn x h)
    · exact .inr (by rw [kd_eq g x]; exact beq_iff_eq.mp h)
/-! ### syntax that a checked expression cannot be -/
theorem notStar {n : Nat} {e : Expr} {ir : E} (h : cE nm N n c e = some ir) (r : List Expr) (env : PySem.Env) : starEach (e :: r) env = (false, eval e env) :: starEach r env := by
  cases n with
  | zero => cases h
  | succ n => cases e <;> first | rfl | cases h
theorem plainArgs {n : Nat} (pos : Pos) (env : PySem.Env) : ∀ {es : List Expr} {ir : Es}, cL (cE nm N n c) es = some ir → (backTo pos (starEach es env)).any (·.1) = false
  | [], _, _ => rfl
  | e :: r, ir, h => by
    unfold cL at h
    split at h
    · rename_i a b h1 h2
      rw [notStar h1]
      show ((false : Bool) || (backTo pos (starEach r env)).any (·.1)) = false
      rw [plainArgs pos env h2]; rfl
    · cases h
theorem notTest {n : Nat} {e : Expr} {ir : E} (h : cE nm N n c e = some ir) : (∃ o es p, e = .BoolOp o es p) ∨ (∃ a p, e = .UnaryOp .Not a p) ∨ (∃ a b d p, e = .IfExp a b d p) ∨ (∃ a o es p, e = .Compare a o es p) ∨
    ∀ env whole, isTrue e env whole = (do let v ← whole; standAt e.pos; holding [v] (truthy v)) := by
  cases e with
  | BoolOp o es p => exact .inl ⟨_, _, _, rfl⟩
  | UnaryOp o a p => cases o <;> first | exact .inr (.inl ⟨_, _, rfl⟩) | exact .inr (.inr (.inr (.inr fun _ _ => rfl)))
  | IfExp a b d p => exact .inr (.inr (.inl ⟨_, _, _, _, rfl⟩))
  | Compare a o es p => exact .inr (.inr (.inr (.inl ⟨_, _, _, _, rfl⟩)))
  | _ => exact .inr (.inr (.inr (.inr fun _ _ => rfl)))
theorem base_ok {o : Expr} (h : okBase o = true) (f : Str) (env : PySem.Env) (whole : Sem Value) : attributeBase o f env whole = whole := by
  unfold okBase at h
  split at h <;> first | rfl | (cases h; done) | (rename_i g _ _ _; cases g <;> rfl)
theorem plainIx {n : Nat} {b : Expr} {ir : E} (h : cE nm N n c b = some ir) : PlainIx b := by
  intro o i
  cases n with
  | zero => cases h
  | succ n => cases b <;> first | rfl | cases h
theorem notMark {n : Nat} {b : Expr} {ir : E} (h : cE nm N n c b = some ir) (op : CmpOp) : behindInMarks op b = false := by
  cases n with
  | zero => cases h
  | succ n => cases b <;> first | rfl | cases h
theorem notSet {n : Nat} {b : Expr} {ir : E} (h : cE nm N n c b = some ir) (env : PySem.Env) (x : Value) : foldedSetIterable b env x = pure x := by
  cases n with
  | zero => cases h
  | succ n => cases b <;> first | rfl | cases h
/-! ### names of built-ins -/
theorem blt_boot {x : Str} {n : Nat} {b : Blt} (h : bltOf x n = some b) : bootBuiltins x = some (bltV b) := by
  unfold bltOf at h
  repeat' split at h
  all_goals first
    | (rename_i q; obtain ⟨rfl, rfl⟩ := q; cases h; decide +kernel)
    | cases h
theorem blt_n {x : Str} {n : Nat} {b : Blt} (h : bltOf x n = some b) : n = 1 ∨ n = 2 := by
  unfold bltOf at h
  repeat' split at h
  all_goals first
    | (rename_i q; obtain ⟨rfl, rfl⟩ := q; first | exact .inl rfl | exact .inr rfl)
    | cases h
theorem ty_boot {x : Str} {n : String} (h : tyOf x = some n) : bootBuiltins x = some (.type n) := by
  unfold tyOf at h
  repeat' split at h
  all_goals first
    | (rename_i q; subst q; cases h; decide +kernel)
    | cases h
end
end CB

/-! Soundness, part four: each expression that the checker takes. -/
namespace CB
open PySem PySem.Spec PyProof.Rows L2
section
variable {X : Cx} {N : List Str} {c : Sc} {nm : Nm} {ca : Nat → Addr} {cl : Nat → List T → M T} {k : Nat} {W : WX}
/-! ### calls (more forms) -/
theorem pe_callS0 {CX : CXT} {f : Addr} {fd : FuncData} {ps : List Str} {sp : Sp} {E : L2.St → XK} {x : Str} {p pos : Pos} {kk : Nat} (F : FnOk X.prog X.w X.K X.mg X.base CX kk f fd ps sp) (hr : Room kk X.A) (hg : Gl X x) (hm : X.mg x = some (.ref f)) (hk : PySem.W.keepIn X.K (.ref f) = true) (hb : Binds X.K fd ps []) (hx : ∀ σ, PassesAt CX X σ (E σ))
    (hdb : (x == ("__debug__" : Str)) = false := by decide) : PE X (.Call (.Name x p) [] [] pos) (tCallS sp E tNil) := by
  refine ⟨fun pins s σ H Q I h => ?_⟩
  refine wpAny_Call_Name_kw (ld_glob I hg hm ?_ hdb)
  exact PySem.W.callWith_K0 I.kIn hk (run_fnS F hr hb (hx σ) I .nil h)
def tMakeS (C : Addr) (sp : Sp) (E : L2.St → XK) (t : TA) : TE := fun σ H Q => t σ H fun vs H1 => ∀ x dx, H1 x = none → H1 dx = none → dx ≠ x →
  sp (.ref x :: vs) (upd (upd H1 dx (.own x)) x (.ins C dx [])) (fun v H2 => v = .non ∧ Q (.ref x) H2) (E σ)
theorem run_makeS {CX : CXT} {C f : Addr} {fd : FuncData} {ps : List Str} {sp : Sp} {E : XK} {kk : Nat} {pins : List (Addr × Obj)} {σ : L2.St} {H : Hp} {s : Shared} {Q : VK} {us : List Value} {vs : List V} (M : Mk X.K C f) (F : FnOk X.prog X.w X.K X.mg X.base CX kk f fd ps sp) (hr : Room (kk + 1) X.A) (hb : Binds X.K fd ps [])
    (hx : PassesAt CX X σ E) (hxe : ∀ (s : Shared) (H' : Hp) (I : Inv X pins σ H' s), True) (I : Inv X pins σ H s) (r : Vals vs us)
    (h : ∀ x dx, H x = none → H dx = none → dx ≠ x → sp (.ref x :: vs) (upd (upd H dx (.own x)) x (.ins C dx [])) (fun v H2 => v = .non ∧ Q (.ref x) H2) E) :
    wpAny (model X.prog X.w) X.A (call (.ref C) us) (EP X pins σ Q) X.xe s := by
  have hq := h (s.heap.objs.size + 1) s.heap.objs.size (I.hok.fresh (Nat.le_succ _)) (I.hok.fresh (Nat.le_refl _)) (Nat.ne_of_lt (Nat.lt_succ_self _))
  have I2 := Inv.made (C := C) I
  have r2 : Vals (V.ref (s.heap.objs.size + 1) :: vs) (Value.ref (s.heap.objs.size + 1) :: us) := .cons rfl r
  have hl : (Value.ref (s.heap.objs.size + 1) :: us).length = ps.length := by
    rw [← r2.length]; exact F.len _ _ _ _ hq
  have b := hb _ (Value.ref (s.heap.objs.size + 1) :: us) I2.kIn (by rw [List.append_nil]; exact hl)
  rw [List.append_nil] at b
  refine wpAny_call (make_map (f := f) I.kIn M.makes M.init (beq_iff_eq.mp M.fn) (codeAny_mono (F.run _ X.stack _ _ ⟨Value.ref (s.heap.objs.size + 1) :: us, []⟩ (Value.ref (s.heap.objs.size + 1) :: us) _ _ E (hr.make C us [])
    (I2.env0.make C us []) b r2 hq) fun r s' hq' => ?_))
  cases r with
  | error e => exact hx pins _ _ e s' I2 hq'
  | ok fl =>
    cases fl with
    | ret u =>
      obtain ⟨v, H', I3, rv, ev, q3⟩ := I2.after hq'
      subst ev
      exact ⟨rv, ⟨V.ref (s.heap.objs.size + 1), H', I3, rfl, q3⟩⟩
    | next => exact False.elim hq'
    | brk => exact False.elim hq'
    | cont => exact False.elim hq'
theorem pe_makeS {CX : CXT} {C f : Addr} {fd : FuncData} {ps : List Str} {sp : Sp} {E : L2.St → XK} {x : Str} {p pos : Pos} {kk : Nat} {e : Expr} {es : List Expr} {t : TA} (M : Mk X.K C f) (F : FnOk X.prog X.w X.K X.mg X.base CX kk f fd ps sp) (hr : Room (kk + 1) X.A) (hg : Gl X x) (hm : X.mg x = some (.ref C)) (hb : Binds X.K fd ps []) (hx : ∀ σ, PassesAt CX X σ (E σ))
    (ha : PA X (e :: es) t) (hdb : (x == ("__debug__" : Str)) = false) (he : starEach (e :: es) X.env = (false, eval e X.env) :: starEach es X.env) (hpl : (backTo pos (starEach es X.env)).any (·.1) = false) :
    PE X (.Call (.Name x p) (e :: es) [] pos) (tMakeS C sp E t) := by
  refine ⟨fun pins s σ H Q I h => ?_⟩
  refine wpAny_Call_Name_kw (ld_glob I hg hm ?_ hdb)
  refine PySem.W.callWith_K (h₀ := X.base) I.ok.mod.kin M.kp (thn (ha.run pos pins s σ H _ I h) fun us s1 ⟨vs, H1, I1, r, q⟩ => ⟨I1.kIn, ?_⟩) he hpl
  exact run_makeS M F hr hb (hx σ) (fun _ _ _ => trivial) I1 r q
/-! ### the induction's claims -/
/-- an expression, and it as a test -/
structure Se (X : Cx) (ca : Nat → Addr) (cl : Nat → List T → M T) (W : WX) (e : Expr) (ir : E) : Prop where
  pe : PE X e (tE X.K ca W (evE cl ir))
  pt : PT X e (tT X.K ca W (evCond cl (.som ir)))
  pw : ∀ o es p, e = .BoolOp o es p → PW X e (tT X.K ca W (evCond cl (.som ir)))
theorem se_pa {f : Expr → Option E} (nst : ∀ {e ir}, f e = some ir → ∀ r env, starEach (e :: r) env = (false, eval e env) :: starEach r env) (h : ∀ e ir, f e = some ir → PE X e (tE X.K ca W (evE cl ir))) : ∀ {es : List Expr} {irs : Es}, cL f es = some irs → PA X es (tA X.K ca W (evEs cl irs))
  | [], irs, q => by
    cases q
    refine pa_nil.imp fun σ H Q ⟨ρ, hh, es, e, s, z⟩ => ?_
    exact tM.fin s (show tM X.K ca _ _ (.ok [] hh) ρ H from z) _ .nil
  | e :: r, irs, q => by
    unfold cL at q
    split at q
    · rename_i a b h1 h2
      cases q
      refine (pa_cons (h e a h1) (se_pa nst h h2) (nst h1 r _)).imp fun σ H Q ⟨ρ, hh, es, en, s, z⟩ => ?_
      refine go en s (show tM X.K ca _ _ (bnd (evE cl a es) (fun x => bnd (evEs cl b es) fun xs => ret (x :: xs)) hh) ρ H from z) fun ρ1 h1 H1 t v en1 s1 x1 r1 _ z1 => ?_
      refine go en1 s1 z1 fun ρ2 h2 H2 ts vs en2 s2 x2 r2 _ z2 => ?_
      exact tM.fin s2 (show tM X.K ca _ _ (.ok (t :: ts) h2) ρ2 H2 from z2) _ (.cons (r1.ex x2) r2)
    · cases q
/-- the value's truth -/
theorem se_truth {e : Expr} {ir : E} (p : PE X e (tE X.K ca W (evE cl ir))) (he : ∀ whole, isTrue e X.env whole = (do let v ← whole; standAt e.pos; holding [v] (truthy v))) : PT X e (tT X.K ca W (evCond cl (.som ir))) := by
  refine (pt_truth p he).imp fun σ H Q ⟨ρ, hh, es, en, s, z⟩ => ?_
  refine go en s (show tM X.K ca _ _ (bnd (evE cl ir es) (fun x => optM fun h => tru h x) hh) ρ H from z) fun ρ1 h1 H1 t v en1 s1 x1 r1 _ z1 => ?_
  obtain ⟨b, e1, z2⟩ := optM_some z1
  exact ⟨b, tru_sound s1 r1 e1, tM.fin s1 z2 _ rfl⟩
theorem se_val {e : Expr} {ir : E} (p : PE X e (tE X.K ca W (evE cl ir))) (he : ∀ env whole, isTrue e env whole = (do let v ← whole; standAt e.pos; holding [v] (truthy v))) (hb : ∀ o es q, e ≠ .BoolOp o es q) : Se X ca cl W e ir :=
  ⟨p, se_truth p (he _), fun o es q z => absurd z (hb o es q)⟩
/-- a comparison, as a test: its value is a bool -/
theorem se_tb {m : Env → M Bool} {σ : L2.St} {H : Hp} {Q : Bool → Hp → Prop} {t : TE} {ir : E} (hv : ∀ es, evE cl ir es = bnd (m es) fun k => ret (.bl k))
    (h : ∀ σ H Q, tE X.K ca W (evE cl ir) σ H Q → t σ H Q) (z : tT X.K ca W (evCond cl (.som ir)) σ H Q) : tTest t σ H Q := by
  obtain ⟨ρ, hh, es, en, s, z⟩ := z
  refine h σ H _ ⟨ρ, hh, es, en, s, ?_⟩
  have z : tM X.K ca _ _ (bnd (evE cl ir es) (fun x => optM fun h => tru h x) hh) ρ H := z
  rw [hv] at z ⊢
  unfold bnd ret at z ⊢
  cases q : m es hh with
  | ok a h1 =>
    rw [q] at z
    intro ρ' H' x s' v rv
    cases rv
    exact ⟨a, rfl, z ρ' H' x s' _ rfl⟩
  | exc x h1 => rw [q] at z; exact z
  | bad => rw [q] at z; exact z
theorem bop_of {o : Operator} {b : Bop} (h : bopOf o = some b) : o = opOf b := by
  cases o <;> first | (cases h; rfl) | cases h
theorem cop_of {o : CmpOp} {b : Cop} (h : copOf o = some b) : o = cpOf b := by
  cases o <;> first | (cases h; rfl) | cases h
end
end CB

/-! Soundness, part five: targets, sources, comprehensions, the induction over expressions. -/
namespace CB
open PySem PySem.Spec PyProof.Rows L2
section
variable {X : Cx} {N : List Str} {c : Sc} {nm : Nm} {ca : Nat → Addr} {cl : Nat → List T → M T} {k : Nat} {W : WX}
/-! ### targets -/
def gI (K : PySem.W.Frag) (ca : Nat → Addr) (tg : Tg) : TG := fun v σ H Q => ∃ ρ h es t es', EnvR K ρ H es σ ∧ Sm K ca ρ h H ∧ Rf K ρ H t v ∧ tak tg t es = some es' ∧
  ∀ σ', EnvR K ρ H es' σ' → (∀ own, slotsIn own tg = true → wipe σ' own = wipe σ own) → Q σ' H
theorem wipe_set {σ : L2.St} {i : Nat} {o : Option V} : ∀ {own : List Nat}, own.contains i = true → wipe (σ.set i o) own = wipe σ own
  | [], h => by cases h
  | j :: r, h => by
    unfold wipe
    by_cases e : j = i
    · subst e
      have : ∀ r : List Nat, (wipe (σ.set j o) r).set j none = (wipe σ r).set j none := by
        intro r
        induction r with
        | nil => unfold wipe; rw [List.set_set]
        | cons a r ih =>
          unfold wipe
          by_cases ha : a = j
          · subst ha; rw [List.set_set, List.set_set]; exact ih
          · rw [List.set_comm _ _ ha, ih, List.set_comm _ _ ha]
      exact this r
    · have h' : r.contains i = true := by
        rw [List.contains_cons] at h
        rw [Bool.or_eq_true] at h
        rcases h with h | h
        · exact absurd (beq_iff_eq.mp h).symm e
        · exact h
      rw [wipe_set h']
theorem assign_noStar {n : Nat} {e : Expr} {t : Tg} (h : cT N c n e = some t) (r : List Expr) (env : PySem.Env) : assignEach (e :: r) env = (false, assign e env) :: assignEach r env := by
  cases n with
  | zero => cases h
  | succ n => cases e <;> first | rfl | cases h
theorem sound_t (g : Gd X N c nm ca cl k) : ∀ (n : Nat) (e : Expr) (t : Tg), cT N c n e = some t → PG X e (gI X.K ca t)
  | 0, _, _, h => by cases h
  | n + 1, e, t, h => by
    unfold cT at h
    split at h
    · rename_i x p
      obtain ⟨h1, h2⟩ := when_some h
      obtain ⟨i, h3, rfl⟩ := Option.map_eq_some_iff.mp h2
      obtain ⟨hl, hf⟩ := loc_of g h1
      have hN := g.hN
      refine ⟨fun pins s σ H v u Q I r q => ?_⟩
      obtain ⟨ρ, hh, es, t, es', en, sm, rt, e1, q⟩ := q
      cases e1
      exact (pg_name (by rw [hN]; exact g.nd) (by rw [hN]; exact slot_ok h3) hl hf).run pins s σ H v u Q I r (q _ (en.set rt) fun own ho => wipe_set ho)
    · rename_i es kk p
      have all : ∀ (es : List Expr) (t : Tg), cT.cTs (cT N c n) es = some t → PGs X es (fun vs σ H Q => ∃ ρ h e ts e', EnvR X.K ρ H e σ ∧ Sm X.K ca ρ h H ∧ RfL X.K ρ H ts vs ∧ tak t (.tup ts) e = some e' ∧
          ∀ σ', EnvR X.K ρ H e' σ' → (∀ own, slotsIn own t = true → wipe σ' own = wipe σ own) → Q σ' H) ∧ (∀ env, (assignEach es env).findIdx? (·.1) = none ∧ (assignEach es env).length = es.length) ∧ ∀ ts e e', tak t (.tup ts) e = some e' → ts.length = es.length := by
        intro es
        induction es with
        | nil =>
          intro t ht
          cases ht
          refine ⟨⟨fun pins s σ H vs us Q I r q => ?_⟩, fun env => ⟨rfl, rfl⟩, fun ts e e' q => ?_⟩
          · obtain ⟨ρ, hh, e, ts, e', en, sm, rl, e1, q⟩ := q
            cases ts with
            | nil =>
              cases e1
              cases rl
              exact pgs_nil.run pins s σ H [] us Q I r ⟨rfl, q σ en fun _ _ => rfl⟩
            | cons _ _ => cases e1
          · cases ts with
            | nil => rfl
            | cons _ _ => cases q
        | cons a rest ih =>
          intro t ht
          unfold cT.cTs at ht
          split at ht
          · rename_i ta tb h1 h2
            cases ht
            obtain ⟨ih1, ih2, ih3⟩ := ih _ h2
            refine ⟨⟨fun pins s σ H vs us Q I r q => ?_⟩, fun env => ?_, fun ts e e' q => ?_⟩
            · obtain ⟨ρ, hh, e, ts, e', en, sm, rl, e1, q⟩ := q
              cases ts with
              | nil => cases e1
              | cons t0 ts =>
                cases rl with
                | cons r0 rl =>
                  obtain ⟨e2, h3, h4⟩ := Option.bind_eq_some_iff.mp e1
                  refine (pgs_cons (sound_t g n a ta h1) ih1 (by rw [assign_noStar h1]; rfl)).run pins s σ H _ us Q I r ⟨_, _, rfl, ρ, hh, e, t0, e2, en, sm, r0, h3, fun σ1 en1 w1 => ?_⟩
                  refine ⟨ρ, hh, e2, ts, e', en1, sm, rl, h4, fun σ2 en2 w2 => q σ2 en2 fun own ho => ?_⟩
                  unfold slotsIn at ho
                  rw [Bool.and_eq_true] at ho
                  rw [w2 own ho.2, w1 own ho.1]
            · rw [assign_noStar h1]
              obtain ⟨z1, z2⟩ := ih2 env
              exact ⟨by rw [List.findIdx?_cons]; simp [z1], by simp [z2]⟩
            · cases ts with
              | nil => cases q
              | cons t0 ts =>
                obtain ⟨e2, h3, h4⟩ := Option.bind_eq_some_iff.mp q
                simp [ih3 ts e2 e' h4]
          · cases ht
      obtain ⟨p1, p2, p3⟩ := all es t h
      refine ⟨fun pins s σ H v u Q I r q => ?_⟩
      obtain ⟨ρ, hh, e, t0, e', en, sm, rt, e1, q⟩ := q
      have tupd : ∃ ts, t0 = .tup ts := by
        cases t with
        | name i =>
          exfalso
          cases es with
          | nil => cases h
          | cons a r => unfold cT.cTs at h; split at h <;> cases h
        | nil => cases t0 <;> first | cases e1 | exact ⟨_, rfl⟩
        | cons a b => cases t0 <;> first | cases e1 | exact ⟨_, rfl⟩
      obtain ⟨ts, rfl⟩ := tupd
      cases rt with
      | tup hs rl =>
        refine (pg_tup g.calm p1 (p2 _).2 (p2 _).1).run pins s σ H _ u Q I r ⟨_, _, rfl, hs, by rw [← rl.length]; exact p3 ts e e' e1, ρ, hh, e, ts, e', en, sm, rl, e1, q⟩
    · cases h
/-! ### sources -/
def tSr (K : PySem.W.Frag) (ca : Nat → Addr) (W : WX) (m : Env → M Wk) : TI := fun σ H R => ∃ ρ h es, EnvR K ρ H es σ ∧ Sm K ca ρ h H ∧
  tM K ca (fun ρ' H' w => ∀ J, WkOk K ca ρ' H' w J → R J H') (fun cls d H' => W cls d σ H') (m es h) ρ H
theorem rfl_iota {K : PySem.W.Frag} {ρ : List Addr} {H : Hp} (lo : Int) : ∀ xs : List Nat, RfL K ρ H (xs.map fun i : Nat => T.int (lo + (i : Nat))) (xs.map fun i : Nat => V.int (lo + (i : Nat)))
  | [] => .nil
  | x :: xs => .cons (.int _) (rfl_iota lo xs)
theorem rfl_rg {K : PySem.W.Frag} {ρ : List Addr} {H : Hp} (j : Int) : RfL K ρ H (iota 0 j.toNat) (rgV 0 j) := by
  unfold rgV iota
  rw [Int.sub_zero]
  exact rfl_iota 0 _
theorem rgB_some {nm : Nm} {c : Sc} {x : Str} {args : List Expr} {b : Bool} {a : Expr} (h : rgB nm c x args = some (b, a)) : ∃ py p, args = [.Call (.Name "range" py) [a] [] p] ∧ freeB nm c "range" = true ∧ ((x = "list" ∧ b = false) ∨ (x = "tuple" ∧ b = true)) := by
  unfold rgB at h
  split at h
  · rename_i y py a' p
    split at h
    · rename_i hy
      subst hy
      obtain ⟨h1, h2⟩ := when_some h
      split at h2
      · rename_i hx
        cases h2
        exact ⟨_, _, rfl, h1, .inl ⟨hx, rfl⟩⟩
      · split at h2
        · rename_i hx
          cases h2
          exact ⟨_, _, rfl, h1, .inr ⟨hx, rfl⟩⟩
        · cases h2
    · cases h
  · cases h
theorem free_of (g : Gd X N c nm ca cl k) {x : Str} (h : freeB nm c x = true) : Gl X x ∧ X.mg x = none ∧ dbgB x = true := by
  unfold freeB at h
  rw [Bool.and_eq_true, Bool.and_eq_true] at h
  exact ⟨gl_of g h.1, g.fx.free x h.2.1, h.2.2⟩
theorem sound_src (g : Gd X N c nm ca cl k) {n : Nat} (he : ∀ e ir, cE nm N n c e = some ir → PE X e (tE X.K ca W (evE cl ir))) {tg it : Expr} {s : Src} (h : cSrc nm c (cE nm N n c) tg it = some s) :
    PI X tg it (tSr X.K ca W (evSrc cl s)) ∧ ∀ x, foldedSetIterable it X.env x = pure x := by
  have over : ∀ {it : Expr} {s : Src}, (cE nm N n c it).map Src.over = some s → PI X tg it (tSr X.K ca W (evSrc cl s)) ∧ ∀ x, foldedSetIterable it X.env x = pure x := by
    intro it s h
    obtain ⟨ir, h1, rfl⟩ := Option.map_eq_some_iff.mp h
    refine ⟨((pi_list (he it ir h1)).or (pi_tup (he it ir h1))).imp fun σ H R ⟨ρ, hh, es, en, sm, z⟩ => ?_, fun x => notSet h1 _ x⟩
    have z : tM X.K ca _ _ (bnd (evE cl ir es) (fun x => optM fun h => walkL h x) hh) ρ H := z
    cases q : evE cl ir es hh with
    | ok t h1 =>
      -- by what came
      have key : ∀ ρ1 H1 v, Ex ρ H ρ1 H1 → Sm X.K ca ρ1 h1 H1 → Rf X.K ρ1 H1 t v → (∃ a, v = .ref a ∧ (∃ xs, SqL X.K H1 a xs) ∧ R (Itl X.K a) H1 ∧ seqOf h1 t = lstOf h1 t ∧ ∀ xs, t ≠ .tup xs) ∨ (∃ a, v = .ref a ∧ (∃ xs, SqT X.K H1 a xs) ∧ R (Itt X.K a) H1 ∧ ∃ xs, t = .tup xs) := by
        intro ρ1 H1 v x1 s1 r1
        unfold bnd at z
        rw [q] at z
        have z := tM.ex x1 z
        obtain ⟨w, e1, z⟩ := optM_some z
        have z := tM.fin s1 z
        have lst : ∀ {t : T} {v : V}, Rf X.K ρ1 H1 t v → ((lstOf h1 t).map fun xs => (⟨xs, fun h' => lstOf h' t = some xs⟩ : Wk)) = some w → ∃ a, v = .ref a ∧ (∃ xs, SqL X.K H1 a xs) ∧ R (Itl X.K a) H1 := by
          intro t v r1 e1
          obtain ⟨xs, e2, rfl⟩ := Option.map_eq_some_iff.mp e1
          obtain ⟨a, vs, ev, hs, l⟩ := lst_of s1 r1 e2
          exact ⟨a, ev, ⟨vs, hs⟩, z _ (wk_lst ev r1)⟩
        cases r1 with
        | tup hs l =>
          cases e1
          exact .inr ⟨_, rfl, ⟨_, hs⟩, z _ (wk_tup hs l), _, rfl⟩
        | rf ha =>
          obtain ⟨a, p1, p2, p3⟩ := lst (.rf ha) e1
          exact .inl ⟨a, p1, p2, p3, rfl, fun _ z => nomatch z⟩
        | frz hz =>
          obtain ⟨a, p1, p2, p3⟩ := lst (.frz hz) e1
          exact .inl ⟨a, p1, p2, p3, rfl, fun _ z => nomatch z⟩
        | _ => cases e1
      by_cases ht : ∃ xs, t = .tup xs
      · refine .inr ⟨ρ, hh, es, en, sm, ?_⟩
        rw [q]
        intro ρ1 H1 x1 s1 v r1
        rcases key ρ1 H1 v x1 s1 r1 with ⟨a, p1, p2, p3, p4, p5⟩ | ⟨a, p1, p2, p3, p4⟩
        · obtain ⟨xs, e⟩ := ht
          exact absurd e (p5 xs)
        · exact ⟨a, p1, p2, p3⟩
      · refine .inl ⟨ρ, hh, es, en, sm, ?_⟩
        rw [q]
        intro ρ1 H1 x1 s1 v r1
        rcases key ρ1 H1 v x1 s1 r1 with ⟨a, p1, p2, p3, p4, p5⟩ | ⟨a, p1, p2, p3, p4⟩
        · exact ⟨a, p1, p2, p3⟩
        · exact absurd p4 ht
    | exc y h1 =>
      refine .inl ⟨ρ, hh, es, en, sm, ?_⟩
      unfold bnd at z
      rw [q] at z ⊢
      exact z
    | bad =>
      unfold bnd at z
      rw [q] at z
      exact z.elim
  have pa1 : ∀ {a : Expr} {ir : E}, cE nm N n c a = some ir → PA X [a] (tA X.K ca W (evEs cl (.cons ir .nil))) := fun {a ir} h1 =>
    se_pa (f := cE nm N n c) (fun h r env => notStar h r env) he (by unfold cL; rw [h1]; rfl)
  have pa2 : ∀ {a b : Expr} {ia ib : E}, cE nm N n c a = some ia → cE nm N n c b = some ib → PA X [a, b] (tA X.K ca W (evEs cl (.cons ia (.cons ib .nil)))) := fun {a b ia ib} h1 h2 =>
    se_pa (f := cE nm N n c) (fun h r env => notStar h r env) he (by unfold cL cL; rw [h1, h2]; rfl)
  have one : ∀ {ir : E} {f : T → M Wk} {σ : L2.St} {H : Hp} {R : It → Hp → Prop} {ρ : List Addr} {hh : Hs} {es : Env}, EnvR X.K ρ H es σ → Sm X.K ca ρ hh H → tM X.K ca (fun ρ' H' w => ∀ J, WkOk X.K ca ρ' H' w J → R J H') (fun cls d H' => W cls d σ H') (bnd (evE cl ir es) f hh) ρ H →
      ∀ {P : List V → Hp → Prop}, (∀ ρ1 h1 H1 t v, Sm X.K ca ρ1 h1 H1 → Rf X.K ρ1 H1 t v → tM X.K ca (fun ρ' H' w => ∀ J, WkOk X.K ca ρ' H' w J → R J H') (fun cls d H' => W cls d σ H') (f t h1) ρ1 H1 → P [v] H1) → tA X.K ca W (evEs cl (.cons ir .nil)) σ H P := by
    intro ir f σ H R ρ hh es en sm z P hk
    refine ⟨ρ, hh, es, en, sm, ?_⟩
    show tM X.K ca _ _ (bnd (evE cl ir es) (fun x => bnd (ret []) fun xs => ret (x :: xs)) hh) ρ H
    unfold bnd at z ⊢
    cases q : evE cl ir es hh with
    | ok t h1 =>
      rw [q] at z
      intro ρ1 H1 x1 s1 vs l
      obtain ⟨v, rfl, r⟩ := l.one
      exact hk ρ1 h1 H1 t v s1 r (tM.ex x1 z)
    | exc y h1 => rw [q] at z; exact z
    | bad => rw [q] at z; exact z
  have two : ∀ {ia ib : E} {f : T → T → M Wk} {σ : L2.St} {H : Hp} {R : It → Hp → Prop} {ρ : List Addr} {hh : Hs} {es : Env}, EnvR X.K ρ H es σ → Sm X.K ca ρ hh H → tM X.K ca (fun ρ' H' w => ∀ J, WkOk X.K ca ρ' H' w J → R J H') (fun cls d H' => W cls d σ H') (bnd (evE cl ia es) (fun x => bnd (evE cl ib es) fun y => f x y) hh) ρ H →
      ∀ {P : List V → Hp → Prop}, (∀ ρ1 h1 H1 t v u w, Sm X.K ca ρ1 h1 H1 → Rf X.K ρ1 H1 t v → Rf X.K ρ1 H1 u w → tM X.K ca (fun ρ' H' w => ∀ J, WkOk X.K ca ρ' H' w J → R J H') (fun cls d H' => W cls d σ H') (f t u h1) ρ1 H1 → P [v, w] H1) → tA X.K ca W (evEs cl (.cons ia (.cons ib .nil))) σ H P := by
    intro ia ib f σ H R ρ hh es en sm z P hk
    refine ⟨ρ, hh, es, en, sm, ?_⟩
    show tM X.K ca _ _ (bnd (evE cl ia es) (fun x => bnd (bnd (evE cl ib es) (fun x => bnd (ret []) fun xs => ret (x :: xs))) fun xs => ret (x :: xs)) hh) ρ H
    unfold bnd at z ⊢
    cases q : evE cl ia es hh with
    | ok t h1 =>
      rw [q] at z
      dsimp only at z ⊢
      cases q2 : evE cl ib es h1 with
      | ok u h2 =>
        rw [q2] at z
        intro ρ1 H1 x1 s1 vs l
        obtain ⟨v, w, rfl, r, r'⟩ := l.two
        exact hk ρ1 h2 H1 t v u w s1 r r' (tM.ex x1 z)
      | exc y h1 => rw [q2] at z; exact z
      | bad => rw [q2] at z; exact z
    | exc y h1 => rw [q] at z; exact z
    | bad => rw [q] at z; exact z
  unfold cSrc at h
  split at h
  · rename_i x p a q
    split at h
    · rename_i hx
      subst hx
      obtain ⟨h1, h2⟩ := when_some h
      obtain ⟨g1, g2, g3⟩ := free_of g h1
      obtain ⟨ir, h3, rfl⟩ := Option.map_eq_some_iff.mp h2
      refine ⟨(pi_range1 g1 g2 (pa1 h3) (by rw [notStar h3]; rfl)).imp fun σ H R ⟨ρ, hh, es, en, sm, z⟩ => ?_, fun _ => rfl⟩
      refine one en sm z fun ρ1 h1 H1 t v s1 r1 z1 => ?_
      split at z1
      · cases r1
        obtain ⟨hc, z1⟩ := ite_bad z1
        exact ⟨_, rfl, hc.1, hc.2, tM.fin s1 z1 _ wk_rng⟩
      · exact z1.elim
    · split at h
      · rename_i _ hx
        subst hx
        obtain ⟨h1, h2⟩ := when_some h
        rw [Bool.and_eq_true] at h1
        obtain ⟨g1, g2, g3⟩ := free_of g h1.1
        obtain ⟨ir, h3, rfl⟩ := Option.map_eq_some_iff.mp h2
        have ht : ∃ es kk tp, tg = .Tuple es kk tp := by
          have := h1.2
          unfold isTup at this
          split at this
          · exact ⟨_, _, _, rfl⟩
          · cases this
        obtain ⟨tes, kk, tp, rfl⟩ := ht
        refine ⟨(pi_enumA g1 g2 (pa1 h3) (by rw [notStar h3]; rfl)).imp fun σ H R ⟨ρ, hh, es, en, sm, z⟩ => ?_, fun _ => rfl⟩
        refine one en sm z fun ρ1 h1 H1 t v s1 r1 z1 => ?_
        have lst : tM X.K ca (fun ρ' H' w => ∀ J, WkOk X.K ca ρ' H' w J → R J H') (fun cls d H' => W cls d σ H') (optM (fun h => (lstOf h t).map fun xs => (⟨enumT xs, fun h' => lstOf h' t = some xs⟩ : Wk)) h1) ρ1 H1 → ∃ a xs, [v] = [V.ref a] ∧ ((SqL X.K H1 a xs ∧ R (Ite X.K a) H1) ∨ (SqT X.K H1 a xs ∧ R (IteT X.K a) H1)) := by
          intro z1
          obtain ⟨w, e1, z1⟩ := optM_some z1
          obtain ⟨xs, e2, rfl⟩ := Option.map_eq_some_iff.mp e1
          obtain ⟨a, vs, ev, hs, l⟩ := lst_of s1 r1 e2
          exact ⟨a, vs, by rw [ev], .inl ⟨hs, tM.fin s1 z1 _ (wk_enum ev r1)⟩⟩
        cases r1 with
        | tup hs l => exact ⟨_, _, rfl, .inr ⟨hs, tM.fin s1 z1 _ (wk_enumT hs l)⟩⟩
        | _ => exact lst z1
      · exact over h
  · rename_i x p a b q
    split at h
    · rename_i hx
      subst hx
      obtain ⟨h1, h2⟩ := when_some h
      obtain ⟨g1, g2, g3⟩ := free_of g h1
      split at h2
      · rename_i ia ib h3 h4
        cases h2
        refine ⟨(pi_range2 g1 g2 (pa2 h3 h4) (by rw [notStar h3, notStar h4]; rfl) (by rw [notStar h4]; rfl)).imp fun σ H R ⟨ρ, hh, es, en, sm, z⟩ => ?_, fun _ => rfl⟩
        refine two en sm z fun ρ1 h1 H1 t v u w s1 r1 r2 z1 => ?_
        split at z1
        · cases r1; cases r2
          obtain ⟨hc, z1⟩ := ite_bad z1
          exact ⟨_, _, rfl, ⟨hc.1.1, hc.1.2, hc.2.1, hc.2.2⟩, tM.fin s1 z1 _ wk_rng⟩
        · exact z1.elim
      · cases h2
    · split at h
      · rename_i _ hx
        subst hx
        obtain ⟨h1, h2⟩ := when_some h
        rw [Bool.and_eq_true] at h1
        obtain ⟨g1, g2, g3⟩ := free_of g h1.1
        have ht : ∃ es kk tp, tg = .Tuple es kk tp := by
          have := h1.2
          unfold isTup at this
          split at this
          · exact ⟨_, _, _, rfl⟩
          · cases this
        obtain ⟨tes, kk, tp, rfl⟩ := ht
        split at h2
        · rename_i ia ib h3 h4
          cases h2
          refine ⟨(RZ.pi_zipA g1 g2 (pa2 h3 h4) (by rw [notStar h3]) (by rw [notStar h4]; rfl)).imp fun σ H R ⟨ρ, hh, es, en, sm, z⟩ => ?_, fun _ => rfl⟩
          refine two en sm z fun ρ1 h1 H1 t v u w s1 r1 r2 z1 => ?_
          have lst : tM X.K ca (fun ρ' H' w => ∀ J, WkOk X.K ca ρ' H' w J → R J H') (fun cls d H' => W cls d σ H') (optM (fun h => (match lstOf h t, lstOf h u with
              | some xs, some ys => some (⟨zipT xs ys, fun h' => lstOf h' t = some xs ∧ lstOf h' u = some ys⟩ : Wk)
              | _, _ => none)) h1) ρ1 H1 → ∃ a b xs ys, [v, w] = [V.ref a, V.ref b] ∧ ((SqL X.K H1 a xs ∧ SqL X.K H1 b ys ∧ R (Itz X.K a b) H1) ∨ (SqT X.K H1 a xs ∧ SqT X.K H1 b ys ∧ R (RZ.ItzT X.K a b) H1)) := by
            intro z1
            obtain ⟨w', e1, z1⟩ := optM_some z1
            split at e1
            · rename_i xs ys e2 e3
              cases e1
              obtain ⟨a, vs, ev, hs, l⟩ := lst_of s1 r1 e2
              obtain ⟨b, ws, ew, hs', l'⟩ := lst_of s1 r2 e3
              subst ev; subst ew
              exact ⟨a, b, vs, ws, rfl, .inl ⟨hs, hs', tM.fin s1 z1 _ (wk_zipL r1 r2)⟩⟩
            · cases e1
          cases r1 with
          | tup hs l =>
            cases r2 with
            | tup hs' l' => exact ⟨_, _, _, _, rfl, .inr ⟨hs, hs', tM.fin s1 z1 _ (wk_zipT hs l hs' l')⟩⟩
            | _ => exact lst z1
          | _ => exact lst z1
        · cases h2
      · exact over h
  · exact over h
end
end CB

/-! Soundness, part six: list comprehensions; the induction over expressions. -/
namespace CB
open PySem PySem.Spec PyProof.Rows L2
section
variable {X : Cx} {N : List Str} {c : Sc} {nm : Nm} {ca : Nat → Addr} {cl : Nat → List T → M T} {k : Nat} {W : WX}
abbrev W0 : WX := fun _ _ _ _ => False
/-- one turn of a comprehension -/
noncomputable def lcF (cl : Nat → List T → M T) (elt : E) (tg : Tg) (cond : Eo) (own : List Nat) (es : Env) : T → M (Option T) := fun t => match tak tg t (wipeE es own) with
  | some σ2 => bnd (evCond cl cond σ2) fun k => if k = true then bnd (evE cl elt σ2) fun y => ret (some y) else ret none
  | none => badM
theorem wipe_wipe {σ : L2.St} {own : List Nat} : wipe (wipe σ own) own = wipe σ own := by
  have : ∀ vs : List Nat, (∀ v ∈ vs, own.contains v = true) → wipe (wipe σ vs) own = wipe σ own := by
    intro vs
    induction vs with
    | nil => intro _; rfl
    | cons v vs ih =>
      intro h
      show wipe ((wipe σ vs).set v none) own = _
      rw [wipe_set (h v List.mem_cons_self)]
      exact ih fun u hu => h u (List.mem_cons_of_mem _ hu)
  exact this own fun v hv => by simpa using hv
theorem noX_ok {α : Type} {m : M α} {h : Hs} {a : α} {h1 : Hs} (e : noX m h = .ok a h1) : m h = .ok a h1 := by
  unfold noX at e
  split at e
  · rename_i e1; cases e; exact e1
  · cases e
theorem sound_lc {wi : TI} {g : TG} {tt : TT} {te : TE} {elt : E} {tg : Tg} {src : Src} {cond : Eo} {own : List Nat} (hs : slotsIn own tg = true)
    (hw : ∀ σ H R, tSr X.K ca W (evSrc cl src) σ H R → wi σ H R) (hg : ∀ v σ H Q, gI X.K ca tg v σ H Q → g v σ H Q)
    (ht : ∀ σ H Q, tT X.K ca W0 (evCond cl cond) σ H Q → tt σ H Q) (he : ∀ σ H Q, tE X.K ca W0 (evE cl elt) σ H Q → te σ H Q) {σ : L2.St} {H : Hp} {Q : VK}
    (z : tE X.K ca W (evE cl (.lc elt tg src cond own)) σ H Q) : tLc wi g tt te own σ H Q := by
  obtain ⟨ρ, hh, es, en, sm, z⟩ := z
  have z : tM X.K ca (RV X.K Q) (fun cls d H' => W cls d σ H') (bnd (evSrc cl src es) (fun w => bnd (lcRun w.std (lcF cl elt tg cond own es) w.its []) fun ys => alloc (.lst ys)) hh) ρ H := z
  refine hw σ H _ ⟨ρ, hh, es, en, sm, ?_⟩
  have en0 := en
  have z0 := tM.bnd z
  refine z0.mono fun ρ1 H1 w h1 ea x1 s1 zk J wk => ?_
  have zk := zk h1 ea
  clear z z0
  intro D hD
  refine ⟨fun i m H => m = w.its.length - i ∧ i ≤ w.its.length ∧ ∃ ρ2 h2 acc vs, Ex ρ1 H1 ρ2 H ∧ Sm X.K ca ρ2 h2 H ∧ H D = some (.lst vs) ∧ D ∉ ρ2 ∧ RfL X.K ρ2 H acc vs ∧
      tM X.K ca (RV X.K Q) (fun cls d H' => W cls d σ H') (bnd (lcRun w.std (lcF cl elt tg cond own es) (w.its.drop i) acc) (fun ys => alloc (.lst ys)) h2) ρ1 H1, ⟨_, rfl, Nat.zero_le _, ?_⟩, ?_⟩
  · -- the start
    have k : ∀ b o, H1 b = some o → upd H1 D (.lst []) b = some o := fun b o e => by rw [upd_ne (ne_of_none e hD)]; exact e
    have nD : D ∉ ρ1 := s1.fresh hD
    have x2 : Ex ρ1 H1 ρ1 (upd H1 D (.lst [])) := ⟨⟨[], by simp, fun _ h => nomatch h⟩, fun b o e _ => k b o e, fun a ha z => by
      cases q : H1 a with
      | none => exact s1.trk a ha q
      | some o => rw [k a o q] at z; cases z⟩
    refine ⟨ρ1, h1, [], [], x2, (s1.other nD fun o e => by rw [hD] at e; cases e).1, upd_same, nD, .nil, ?_⟩
    rw [List.drop_zero]
    exact zk
  · rintro i m H ⟨rfl, hi, ρ2, h2, acc, vs, x2, s2, eD, nD, la, q⟩
    by_cases hlt : i < w.its.length
    · have ed : w.its.drop i = w.its[i] :: w.its.drop (i + 1) := List.drop_eq_getElem_cons hlt
      rw [ed] at q
      unfold bnd lcRun at q
      by_cases st : w.std h2
      · rw [if_pos st] at q
        obtain ⟨jg, jy⟩ := wk.go ρ2 h2 H i w.its[i] x2 s2 st (by simp [hlt])
        refine .inr ⟨jg, fun H' => ∃ ρ3 h3 acc3 vs3, Ex ρ1 H1 ρ3 H' ∧ Sm X.K ca ρ3 h3 H' ∧ H' D = some (.lst vs3) ∧ D ∉ ρ3 ∧ RfL X.K ρ3 H' acc3 vs3 ∧
            tM X.K ca (RV X.K Q) (fun cls d H' => W cls d σ H') (bnd (lcRun w.std (lcF cl elt tg cond own es) (w.its.drop (i + 1)) acc3) (fun ys => alloc (.lst ys)) h3) ρ1 H1,
          fun H' hN => ⟨_, by omega, rfl, hlt, hN⟩, fun x H' y => ?_⟩
        obtain ⟨xy, sy, ry⟩ := jy x H' y
        obtain ⟨nD', eD'⟩ := xy.out eD nD
        -- the turn's run
        unfold bnd at q
        cases qt : noX (lcF cl elt tg cond own es w.its[i]) h2 with
        | bad => rw [qt] at q; exact q.elim
        | exc e h3 =>
          exfalso
          unfold noX at qt
          split at qt <;> cases qt
        | ok o h3 =>
          rw [qt] at q
          have qt := noX_ok qt
          unfold lcF at qt
          cases tk : tak tg w.its[i] (wipeE es own) with
          | none => rw [tk] at qt; cases qt
          | some es2 =>
            rw [tk] at qt
            have enw : EnvR X.K ρ2 H' (wipeE es own) (wipe σ own) := ((en.ex (x1.trans (x2.trans xy))).wipe own)
            refine hg _ _ _ _ ⟨ρ2, h2, wipeE es own, w.its[i], es2, enw, sy, ry, tk, fun σ2 en2 hwp => ⟨(hwp own hs).trans wipe_wipe, ?_⟩⟩
            have qt : bnd (evCond cl cond es2) (fun k => if k = true then bnd (evE cl elt es2) (fun y => ret (some y)) else ret none) h2 = .ok o h3 := qt
            unfold bnd at qt
            cases qc : evCond cl cond es2 h2 with
            | bad => rw [qc] at qt; cases qt
            | exc e h4 => rw [qc] at qt; cases qt
            | ok b h4 =>
              rw [qc] at qt
              refine ht σ2 H' _ ⟨ρ2, h2, es2, en2, sy, ?_⟩
              rw [qc]
              intro ρ4 H4 x4 s4 b' eb
              subst eb
              obtain ⟨nD4, eD4⟩ := x4.out eD' nD'
              have x14 : Ex ρ1 H1 ρ4 H4 := x2.trans (xy.trans x4)
              cases b with
              | false =>
                rw [if_neg (by decide)]
                have qt : ret none h4 = .ok o h3 := qt
                cases qt
                exact ⟨ρ4, h3, acc, vs, x14, s4, eD4, nD4, la.ex (xy.trans x4), q⟩
              | true =>
                rw [if_pos rfl]
                have qt : bnd (evE cl elt es2) (fun y => ret (some y)) h4 = .ok o h3 := qt
                unfold bnd at qt
                cases qe : evE cl elt es2 h4 with
                | bad => rw [qe] at qt; cases qt
                | exc e h5 => rw [qe] at qt; cases qt
                | ok y2 h5 =>
                  rw [qe] at qt
                  cases qt
                  refine he σ2 H4 _ ⟨ρ4, h4, es2, en2.ex x4, s4, ?_⟩
                  rw [qe]
                  intro ρ5 H5 x5 s5 v5 r5
                  obtain ⟨nD5, eD5⟩ := x5.out eD4 nD4
                  dsimp only at q
                  by_cases hz : acc.length < SZ
                  · rw [if_pos hz] at q
                    have l5 := la.ex (xy.trans (x4.trans x5))
                    refine ⟨vs, eD5, by rw [← l5.length, ← szL]; exact hz, ?_⟩
                    obtain ⟨s6, le6⟩ := s5.other (ho := .lst (vs ++ [v5])) nD5 fun o e => by rw [eD5] at e; cases e; exact fun z => z
                    have x15 : Ex ρ1 H1 ρ5 H5 := x14.trans x5
                    have x16 : Ex ρ1 H1 ρ5 (upd H5 D (.lst (vs ++ [v5]))) := ⟨x15.pre, fun b o e hc => by
                      rw [upd_ne (ne_of_none e hD)]; exact x15.keep b o e hc, fun a ha z => by
                      by_cases e : a = D
                      · subst e; exact nD5 ha
                      · rw [upd_ne e] at z; exact x15.trk a ha z⟩
                    exact ⟨ρ5, h3, acc ++ [y2], vs ++ [v5], x16, s6, upd_same, nD5, (l5.append (.cons r5 .nil)).le le6, q⟩
                  · rw [if_neg hz] at q; exact q.elim
      · rw [if_neg st] at q; exact q.elim
    · have e : i = w.its.length := by omega
      subst e
      rw [List.drop_length] at q
      unfold bnd lcRun at q
      by_cases st : w.std h2
      · rw [if_pos st] at q
        refine .inl ⟨wk.stop ρ2 h2 H x2 s2 st, ?_⟩
        obtain ⟨x3, s3⟩ := s2.adopt nD eD (RO.lst la) x2 hD
        exact q _ _ x3 s3 _ (.rf (by simp [s2.len]))
      · rw [if_neg st] at q; exact q.elim
/-! ### tests of conditional expressions -/
theorem pt_ifE {t a b : Expr} {tC tA tB : TT} {pos : Pos} (hc : PT X t tC) (ha : PT X a tA) (hb : PT X b tB) : PT X (.IfExp t a b pos) (fun σ H Q => tC σ H fun k H1 => if k = true then tA σ H1 Q else tB σ H1 Q) := by
  refine ⟨fun pins s σ H Q I h => ?_⟩
  show wpAny _ _ (do if ← isTrue t X.env (eval t X.env) then isTrue a X.env (eval a X.env) else isTrue b X.env (eval b X.env)) _ _ _
  refine wpAny_bind (thn (hc.run pins s σ H _ I h) fun d s1 ⟨H1, I1, q1⟩ => ?_)
  cases d with
  | true => exact ha.run pins s1 σ H1 Q I1 q1
  | false => exact hb.run pins s1 σ H1 Q I1 q1
theorem cond_and (a b : E) (es : Env) : evCond cl (.som (.and a b)) es = bnd (evCond cl (.som a) es) fun k => if k = true then evCond cl (.som b) es else ret false := by
  funext h
  show bnd (bnd (evE cl a es) fun x => bnd (optM fun h => tru h x) fun k => if k = true then evE cl b es else ret x) (fun x => optM fun h => tru h x) h = bnd (bnd (evE cl a es) fun x => optM fun h => tru h x) (fun k => if k = true then bnd (evE cl b es) (fun x => optM fun h => tru h x) else ret false) h
  unfold bnd optM
  cases evE cl a es h with
  | ok x h1 =>
    dsimp only
    cases q : tru h1 x with
    | none => rfl
    | some k => cases k <;> simp [ret, q]
  | exc e h1 => rfl
  | bad => rfl
theorem cond_or (a b : E) (es : Env) : evCond cl (.som (.or a b)) es = bnd (evCond cl (.som a) es) fun k => if k = true then ret true else evCond cl (.som b) es := by
  funext h
  show bnd (bnd (evE cl a es) fun x => bnd (optM fun h => tru h x) fun k => if k = true then ret x else evE cl b es) (fun x => optM fun h => tru h x) h = bnd (bnd (evE cl a es) fun x => optM fun h => tru h x) (fun k => if k = true then ret true else bnd (evE cl b es) (fun x => optM fun h => tru h x)) h
  unfold bnd optM
  cases evE cl a es h with
  | ok x h1 =>
    dsimp only
    cases q : tru h1 x with
    | none => rfl
    | some k => cases k <;> simp [ret, q]
  | exc e h1 => rfl
  | bad => rfl
theorem cond_not (a : E) (es : Env) : evCond cl (.som (.not a)) es = bnd (evCond cl (.som a) es) fun k => ret (!k) := by
  funext h
  show bnd (bnd (evE cl a es) fun x => bnd (optM fun h => tru h x) fun k => ret (.bl (!k))) (fun x => optM fun h => tru h x) h = bnd (bnd (evE cl a es) fun x => optM fun h => tru h x) (fun k => ret (!k)) h
  unfold bnd optM
  cases evE cl a es h with
  | ok x h1 =>
    dsimp only
    cases q : tru h1 x with
    | none => rfl
    | some k => simp [ret, tru]
  | exc e h1 => rfl
  | bad => rfl
theorem cond_ife (c a b : E) (es : Env) : evCond cl (.som (.ife c a b)) es = bnd (evCond cl (.som c) es) fun k => if k = true then evCond cl (.som a) es else evCond cl (.som b) es := by
  funext h
  show bnd (bnd (evE cl c es) fun x => bnd (optM fun h => tru h x) fun k => if k = true then evE cl a es else evE cl b es) (fun x => optM fun h => tru h x) h = bnd (bnd (evE cl c es) fun x => optM fun h => tru h x) (fun k => if k = true then bnd (evE cl a es) (fun x => optM fun h => tru h x) else bnd (evE cl b es) (fun x => optM fun h => tru h x)) h
  unfold bnd optM
  cases evE cl c es h with
  | ok x h1 =>
    dsimp only
    cases q : tru h1 x with
    | none => rfl
    | some k => cases k <;> rfl
  | exc e h1 => rfl
  | bad => rfl
theorem evEs_len : ∀ {f : Expr → Option E} {args : List Expr} {irs : Es} {es : Env} {h h1 : Hs} {ts : List T}, cL f args = some irs → evEs cl irs es h = .ok ts h1 → ts.length = args.length
  | f, [], irs, es, h, h1, ts, q, e => by cases q; cases e; rfl
  | f, a :: r, irs, es, h, h1, ts, q, e => by
    unfold cL at q
    split at q
    · rename_i ia ib q1 q2
      cases q
      have e : bnd (evE cl ia es) (fun x => bnd (evEs cl ib es) fun xs => ret (x :: xs)) h = .ok ts h1 := e
      unfold bnd at e
      cases z : evE cl ia es h with
      | ok x h2 =>
        rw [z] at e
        dsimp only at e
        cases z2 : evEs cl ib es h2 with
        | ok xs h3 =>
          rw [z2] at e
          cases e
          rw [List.length_cons, List.length_cons, evEs_len q2 z2]
        | exc _ _ => rw [z2] at e; cases e
        | bad => rw [z2] at e; cases e
      | exc _ _ => rw [z] at e; cases e
      | bad => rw [z] at e; cases e
    · cases q
theorem tM.get {α : Type} {K : PySem.W.Frag} {R : List Addr → Hp → α → Prop} {W' : WX'} {m : M α} {h : Hs} {ρ : List Addr} {H : Hp} (z : tM K ca R W' (m h) ρ H) : True := trivial
end
end CB

/-! Soundness, part seven: the induction over expressions. -/
namespace CB
open PySem PySem.Spec PyProof.Rows L2
section
variable {N : List Str} {nm : Nm} {ca : Nat → Addr} {cl : Nat → List T → M T} {k : Nat}
theorem pa_of {X : Cx} {c : Sc} {W : WX} {n : Nat} (he : ∀ e ir, cE nm N n c e = some ir → PE X e (tE X.K ca W (evE cl ir))) {es : List Expr} {irs : Es} (h : cL (cE nm N n c) es = some irs) : PA X es (tA X.K ca W (evEs cl irs)) :=
  se_pa (f := cE nm N n c) (fun h r env => notStar h r env) he h
/-- and, or -/
theorem sound_bool {X : Cx} {c : Sc} {W : WX} {n : Nat} (o : BoolOp) (ih : ∀ e ir, cE nm N n c e = some ir → Se X ca cl W e ir) : ∀ {es : List Expr} {ir : E}, cBool o (cE nm N n c) es = some ir → ∀ p, PE X (.BoolOp o es p) (tE X.K ca W (evE cl ir)) ∧ PW X (.BoolOp o es p) (tT X.K ca W (evCond cl (.som ir)))
  | [], _, h, _ => by cases h
  | [e], ir, h, p => by
    have s := ih e ir h
    refine ⟨pe_one s.pe, ?_⟩
    cases o with
    | And => exact pw_and1 s.pt
    | Or => exact pw_or1 s.pt
  | e :: b :: r, ir, h, p => by
    unfold cBool at h
    split at h
    · rename_i ia ib h1 h2
      have s := ih e ia h1
      obtain ⟨q1, q2⟩ := sound_bool o ih h2 p
      cases o with
      | And =>
        cases h
        refine ⟨(pe_andT s.pe q1).imp fun σ H Q ⟨ρ, hh, es, en, sm, z⟩ => ?_, (pw_and s.pt q2).imp fun σ H Q ⟨ρ, hh, es, en, sm, z⟩ => ?_⟩
        · refine go en sm (show tM X.K ca _ _ (bnd (evE cl ia es) (fun x => bnd (optM fun h => tru h x) fun k => if k = true then evE cl ib es else ret x) hh) ρ H from z) fun ρ1 h1 H1 t v en1 s1 x1 r1 _ z1 => ?_
          obtain ⟨b, e1, z2⟩ := bnd_opt z1
          refine ⟨b, tru_sound s1 r1 e1, ?_⟩
          cases b with
          | true => exact last en1 s1 z2
          | false => exact tM.val s1 z2 r1
        · rw [cond_and] at z
          refine go en sm z fun ρ1 h1 H1 t v en1 s1 x1 r1 _ z1 => ?_
          subst r1
          cases t with
          | true => exact last en1 s1 z1
          | false => exact tM.fin s1 z1 _ rfl
      | Or =>
        cases h
        refine ⟨(pe_orT s.pe q1).imp fun σ H Q ⟨ρ, hh, es, en, sm, z⟩ => ?_, (pw_or s.pt q2).imp fun σ H Q ⟨ρ, hh, es, en, sm, z⟩ => ?_⟩
        · refine go en sm (show tM X.K ca _ _ (bnd (evE cl ia es) (fun x => bnd (optM fun h => tru h x) fun k => if k = true then ret x else evE cl ib es) hh) ρ H from z) fun ρ1 h1 H1 t v en1 s1 x1 r1 _ z1 => ?_
          obtain ⟨b, e1, z2⟩ := bnd_opt z1
          refine ⟨b, tru_sound s1 r1 e1, ?_⟩
          cases b with
          | true => exact tM.val s1 z2 r1
          | false => exact last en1 s1 z2
        · rw [cond_or] at z
          refine go en sm z fun ρ1 h1 H1 t v en1 s1 x1 r1 _ z1 => ?_
          subst r1
          cases t with
          | true => exact tM.fin s1 z1 _ rfl
          | false => exact last en1 s1 z1
    · cases h
theorem gd_blk {X : Cx} {c : Sc} (g : Gd X N c nm ca cl k) {scope : Scope} (s : Shared) (H : Hp) (C : Addr) (c' : List (Str × Addr)) (fp : List Addr) :
    Gd (X.blk s H scope (compEnvC scope c' C X.env) fp) N ⟨relS scope c.sc, some scope⟩ nm ca cl k :=
  ⟨g.hN, g.nd, by show relS scope X.env.scope = _; rw [g.sc], fun x h => h, g.calm, g.room, g.fx⟩
theorem un_neg_sound {X : Cx} : UnR X (unaryOp .USub) (fun x H Q => ∃ ρ h t W, Sm X.K ca ρ h H ∧ Rf X.K ρ H t x ∧ tM X.K ca (RV X.K Q) W ((match t with
    | .int i => ret (T.int (-i))
    | _ => badM : M T) h) ρ H) := by
  intro pins s σ H x v Q I rx hq
  obtain ⟨ρ, h, t, W, m, r, q⟩ := hq
  split at q
  · cases r
    exact un_neg pins s σ H _ v Q I rx ⟨_, rfl, tM.val m q (.int _)⟩
  · exact q.elim
theorem sound_po {X : Cx} {c : Sc} {W : WX} {n : Nat} (he : ∀ e ir, cE nm N n c e = some ir → PE X e (tE X.K ca W (evE cl ir))) {e : Option Expr} {ir : Eo} (h : cO (cE nm N n c) e = some ir) : PO X e (tOI X.K ca W (evEo cl ir)) := by
  cases e with
  | none =>
    cases h
    exact po_none.imp fun σ H Q ⟨ρ, hh, es, en, sm, z⟩ => tM.fin sm (show tM X.K ca _ _ (.ok none hh) ρ H from z) _ rfl
  | some e =>
    obtain ⟨ie, h1, rfl⟩ := Option.map_eq_some_iff.mp h
    refine (po_some (he e ie h1)).imp fun σ H Q ⟨ρ, hh, es, en, sm, z⟩ => ?_
    refine go en sm (show tM X.K ca _ _ (bnd (evE cl ie es) (fun x => match x with
      | .int i => ret (some i)
      | _ => badM) hh) ρ H from z) fun ρ1 h1 H1 t v en1 s1 x1 r1 _ z1 => ?_
    split at z1
    · cases r1
      exact ⟨_, rfl, tM.fin s1 z1 _ rfl⟩
    · exact z1.elim
theorem att_of {f : Str} {i : Nat} (h : attOf f = some i) : f = attrN i ∧ i < 2 := by
  unfold attOf at h
  split at h
  · rename_i e; cases h; exact ⟨e, by decide⟩
  · split at h
    · rename_i e; cases h; exact ⟨e, by decide⟩
    · cases h
/-- a call's end: the new instance -/
theorem make_end {K : PySem.W.Frag} {ρ : List Addr} {H : Hp} {h : Hs} {W' : WX'} {Q : VK} {n : Nat} {p : Addr} {r : T} {v : V} (hr : ρ[n]? = some p) (s : Sm K ca ρ h H)
    (z : tM K ca (RV K Q) W' ((match r with
      | .non => ret (T.rf n)
      | _ => badM : M T) h) ρ H) (rv : Rf K ρ H r v) : v = .non ∧ Q (.ref p) H := by
  split at z
  · cases rv
    exact ⟨rfl, tM.val s z (.rf hr)⟩
  · exact z.elim
theorem sound_e : ∀ (n : Nat) (X : Cx) (c : Sc) (g : Gd X N c nm ca cl k) (W : WX) (tk : Takes X W) (e : Expr) (ir : E), cE nm N n c e = some ir → Se X ca cl W e ir
  | 0, _, _, _, _, _, _, _, h => by cases h
  | n + 1, X, c, g, W, tk, e, ir, h => by
    have ih : ∀ e ir, cE nm N n c e = some ir → Se X ca cl W e ir := fun e ir h => sound_e n X c g W tk e ir h
    have he : ∀ e ir, cE nm N n c e = some ir → PE X e (tE X.K ca W (evE cl ir)) := fun e ir h => (ih e ir h).pe
    have hu : X.A.units + 65 < cLine := by
      have q := (g.room.in1).units
      have : X.A.in1.units = X.A.units + 1 := rfl
      omega
    have h0 := h
    unfold cE at h
    split at h
    · -- a constant
      rename_i v j pos
      have fin : ∀ {t : T} {v : V} {e : Expr}, PE X e (tC v) → (∀ ρ H, Rf X.K ρ H t v) → PE X e (tE X.K ca W (evE cl (.cst t))) := fun p r => p.imp fun σ H Q ⟨ρ, hh, es, en, sm, z⟩ => tM.val sm z (r ρ H)
      split at h
      · cases h; exact se_val (fin pe_non fun _ _ => .non) (fun _ _ => rfl) (fun _ _ _ => by simp)
      · cases h; exact se_val (fin pe_bl fun _ _ => .bl _) (fun _ _ => rfl) (fun _ _ _ => by simp)
      · cases h; exact se_val (fin pe_int fun _ _ => .int _) (fun _ _ => rfl) (fun _ _ _ => by simp)
      · cases h; exact se_val (fin pe_str fun _ _ => .str _) (fun _ _ => rfl) (fun _ _ _ => by simp)
      · cases h
    · -- a name
      rename_i x pos
      obtain ⟨hd, h⟩ := when_some h
      split at h
      · rename_i hv
        obtain ⟨i, h1, rfl⟩ := Option.map_eq_some_iff.mp h
        refine se_val ((pe_var (i := i) (by rw [g.hN]; exact slot_ok h1) (vis_of g hv) (dbg1 hd) (dbg2 hd)).imp fun σ H Q ⟨ρ, hh, es, en, sm, z⟩ => ?_) (fun _ _ => rfl) (fun _ _ _ => by simp)
        have z : tM X.K ca (RV X.K Q) _ (ofO (es[i]?.join) hh) ρ H := z
        cases q : es[i]? with
        | none => rw [q] at z; exact z.elim
        | some o =>
          cases o with
          | none => rw [q] at z; exact z.elim
          | some t =>
            rw [q] at z
            obtain ⟨v, e1, r⟩ := en.get i t q
            exact ⟨v, e1, tM.val sm z r⟩
      · obtain ⟨hg, h⟩ := when_some h
        obtain ⟨t, h1, rfl⟩ := Option.map_eq_some_iff.mp h
        obtain ⟨u, v, e1, r1, r2⟩ := g.fx.cons x t h1
        exact se_val ((pe_glob (gl_of g hg) e1 r1 (dbg1 hd)).imp fun σ H Q ⟨ρ, hh, es, en, sm, z⟩ => tM.val sm z (r2 ρ H)) (fun _ _ => rfl) (fun _ _ _ => by simp)
    · -- a tuple
      rename_i es kk pos
      obtain ⟨irs, h1, rfl⟩ := Option.map_eq_some_iff.mp h
      refine se_val ((pe_tup (pa_of he h1)).imp fun σ H Q ⟨ρ, hh, es, en, sm, z⟩ => ?_) (fun _ _ => rfl) (fun _ _ _ => by simp)
      refine go en sm (show tM X.K ca _ _ (bnd (evEs cl irs es) (fun ts => if ts.length ≤ SZ then ret (T.tup ts) else badM) hh) ρ H from z) fun ρ1 h1 H1 ts vs en1 s1 x1 r1 _ z1 => ?_
      obtain ⟨hc, z2⟩ := ite_bad z1
      exact ⟨by rw [← r1.length, ← szL]; exact hc, tM.tup s1 z2 r1⟩
    · -- a list
      rename_i es pos
      obtain ⟨irs, h1, rfl⟩ := Option.map_eq_some_iff.mp h
      refine se_val ((pe_lst (pa_of he h1)).imp fun σ H Q ⟨ρ, hh, es, en, sm, z⟩ => ?_) (fun _ _ => rfl) (fun _ _ _ => by simp)
      refine go en sm (show tM X.K ca _ _ (bnd (evEs cl irs es) (fun ts => if ts.length ≤ SZ then alloc (.lst ts) else badM) hh) ρ H from z) fun ρ1 h1 H1 ts vs en1 s1 x1 r1 _ z1 => ?_
      obtain ⟨hc, z2⟩ := ite_bad z1
      exact ⟨by rw [← r1.length, ← szL]; exact hc, tM.obj s1 z2 (.lst r1)⟩
    · -- a binary operation
      rename_i a op b pos
      split at h
      · rename_i o ia ib h1 h2 h3
        cases h
        have := bop_of h1
        subst this
        refine se_val ((pe_op (sound_bin (ca := ca) o) (he a ia h2) (he b ib h3)).imp fun σ H Q ⟨ρ, hh, es, en, sm, z⟩ => ?_) (fun _ _ => rfl) (fun _ _ _ => by simp)
        refine go en sm (show tM X.K ca _ _ (bnd (evE cl ia es) (fun x => bnd (evE cl ib es) fun y => binI o x y) hh) ρ H from z) fun ρ1 h1 H1 t v en1 s1 x1 r1 _ z1 => ?_
        refine go en1 s1 z1 fun ρ2 h2 H2 u w en2 s2 x2 r2 _ z2 => ?_
        exact ⟨ρ2, h2, t, u, _, s2, r1.ex x2, r2, z2⟩
      · cases h
    · -- minus
      rename_i a pos
      obtain ⟨ia, h1, rfl⟩ := Option.map_eq_some_iff.mp h
      refine se_val ((pe_un (un_neg_sound (ca := ca)) (he a ia h1)).imp fun σ H Q ⟨ρ, hh, es, en, sm, z⟩ => ?_) (fun _ _ => rfl) (fun _ _ _ => by simp)
      refine go en sm (show tM X.K ca _ _ (bnd (evE cl ia es) (fun x => match x with
        | .int i => ret (T.int (-i))
        | _ => badM) hh) ρ H from z) fun ρ1 h1 H1 t v en1 s1 x1 r1 _ z1 => ?_
      exact ⟨ρ1, h1, t, _, s1, r1, z1⟩
    · -- not
      rename_i a pos
      obtain ⟨ia, h1, rfl⟩ := Option.map_eq_some_iff.mp h
      refine ⟨(pe_notT (he a ia h1)).imp fun σ H Q ⟨ρ, hh, es, en, sm, z⟩ => ?_, (pt_not (ih a ia h1).pt).imp fun σ H Q ⟨ρ, hh, es, en, sm, z⟩ => ?_, fun _ _ _ z => by cases z⟩
      · refine go en sm (show tM X.K ca _ _ (bnd (evE cl ia es) (fun x => bnd (optM fun h => tru h x) fun k => ret (T.bl (!k))) hh) ρ H from z) fun ρ1 h1 H1 t v en1 s1 x1 r1 _ z1 => ?_
        obtain ⟨b, e1, z2⟩ := bnd_opt z1
        exact ⟨b, tru_sound s1 r1 e1, tM.val s1 z2 (.bl _)⟩
      · rw [cond_not] at z
        refine go en sm z fun ρ1 h1 H1 t v en1 s1 x1 r1 _ z1 => ?_
        subst r1
        exact tM.fin s1 z1 _ rfl
    · -- and, or
      rename_i o es pos
      obtain ⟨q1, q2⟩ := sound_bool o ih h pos
      exact ⟨q1, q2.pt, fun _ _ _ z => by cases z; exact q2⟩
    · -- a if t else b
      rename_i t a b pos
      split at h
      · rename_i it ia ib h1 h2 h3
        cases h
        refine ⟨(pe_ifExp (ih t it h1).pt (he a ia h2) (he b ib h3)).imp fun σ H Q ⟨ρ, hh, es, en, sm, z⟩ => ?_, (pt_ifE (ih t it h1).pt (ih a ia h2).pt (ih b ib h3).pt).imp fun σ H Q ⟨ρ, hh, es, en, sm, z⟩ => ?_, fun _ _ _ z => by cases z⟩
        · have z : tM X.K ca (RV X.K Q) (fun cls d H' => W cls d σ H') (bnd (evCond cl (.som it) es) (fun k => if k = true then evE cl ia es else evE cl ib es) hh) ρ H := by
            have e : bnd (evCond cl (.som it) es) (fun k => if k = true then evE cl ia es else evE cl ib es) hh = evE cl (.ife it ia ib) es hh := by
              show bnd (bnd (evE cl it es) fun x => optM fun h => tru h x) (fun k => if k = true then evE cl ia es else evE cl ib es) hh = bnd (evE cl it es) (fun x => bnd (optM fun h => tru h x) fun k => if k = true then evE cl ia es else evE cl ib es) hh
              unfold bnd optM
              cases evE cl it es hh with
              | ok x h1 => first | rfl | (dsimp only; cases tru h1 x <;> rfl)
              | exc _ _ => rfl
              | bad => rfl
            rw [e]; exact z
          refine go en sm z fun ρ1 h1 H1 t v en1 s1 x1 r1 _ z1 => ?_
          subst r1
          cases t with
          | true => exact last en1 s1 z1
          | false => exact last en1 s1 z1
        · rw [cond_ife] at z
          refine go en sm z fun ρ1 h1 H1 t v en1 s1 x1 r1 _ z1 => ?_
          subst r1
          cases t with
          | true => exact last en1 s1 z1
          | false => exact last en1 s1 z1
      · cases h
    · -- a comparison
      rename_i a op b pos
      split at h
      · rename_i o ia ib h1 h2 h3
        cases h
        have := cop_of h1
        subst this
        have rd : ∀ σ H Q, tE X.K ca W (evE cl (.cmp o ia ib)) σ H Q → tOp (rC X.K ca o) (tE X.K ca W (evE cl ia)) (tE X.K ca W (evE cl ib)) σ H Q := fun σ H Q ⟨ρ, hh, es, en, sm, z⟩ => by
          refine go en sm (show tM X.K ca _ _ (bnd (evE cl ia es) (fun x => bnd (evE cl ib es) fun y => bnd (optM (cmpI o x y)) fun k => ret (T.bl k)) hh) ρ H from z) fun ρ1 h1 H1 t v en1 s1 x1 r1 _ z1 => ?_
          refine go en1 s1 z1 fun ρ2 h2 H2 u w en2 s2 x2 r2 _ z2 => ?_
          obtain ⟨b, e1, z3⟩ := bnd_opt z2
          exact ⟨ρ2, h2, t, u, b, s2, r1.ex x2, r2, e1, tM.val s2 z3 (.bl _)⟩
        refine ⟨(pe_cmpR (sound_cmp (ca := ca) o hu) (he a ia h2) (he b ib h3) (notMark h3 _)).imp rd, (pt_cmpR (sound_cmp (ca := ca) o hu) (he a ia h2) (he b ib h3) (notMark h3 _)).imp fun σ H Q z => ?_, fun _ _ _ z => by cases z⟩
        exact se_tb (m := fun es => bnd (evE cl ia es) fun x => bnd (evE cl ib es) fun y => optM (cmpI o x y)) (fun es => by
          funext hh
          show bnd (evE cl ia es) (fun x => bnd (evE cl ib es) fun y => bnd (optM (cmpI o x y)) fun k => ret (T.bl k)) hh = _
          unfold bnd
          cases evE cl ia es hh with
          | ok x h1 => dsimp only; cases evE cl ib es h1 <;> rfl
          | exc _ _ => rfl
          | bad => rfl) rd z
      · cases h
    · -- two comparisons
      rename_i a op1 op2 b d pos
      split at h
      · rename_i o p ia ib id h1 h2 h3 h4 h5
        cases h
        have := cop_of h1
        subst this
        have := cop_of h2
        subst this
        have rd : ∀ σ H Q, tE X.K ca W (evE cl (.chn o p ia ib id)) σ H Q → tChain (rC X.K ca o) (rC X.K ca p) (tE X.K ca W (evE cl ia)) (tE X.K ca W (evE cl ib)) (tE X.K ca W (evE cl id)) σ H Q := fun σ H Q ⟨ρ, hh, es, en, sm, z⟩ => by
          refine go en sm (show tM X.K ca _ _ (bnd (evE cl ia es) (fun x => bnd (evE cl ib es) fun y => bnd (optM (cmpI o x y)) fun k => if k = true then bnd (evE cl id es) fun z => bnd (optM (cmpI p y z)) fun k => ret (T.bl k) else ret (T.bl false)) hh) ρ H from z) fun ρ1 h1 H1 t v en1 s1 x1 r1 _ z1 => ?_
          refine go en1 s1 z1 fun ρ2 h2 H2 u w en2 s2 x2 r2 _ z2 => ?_
          obtain ⟨b, e1, z3⟩ := bnd_opt z2
          refine ⟨ρ2, h2, t, u, b, s2, r1.ex x2, r2, e1, b, rfl, ?_⟩
          cases b with
          | false => exact tM.val s2 z3 (.bl _)
          | true =>
            refine go en2 s2 z3 fun ρ3 h3 H3 u3 w3 en3 s3 x3 r3 _ z4 => ?_
            obtain ⟨b', e2, z5⟩ := bnd_opt z4
            exact ⟨ρ3, h3, u, u3, b', s3, r2.ex x3, r3, e2, tM.val s3 z5 (.bl _)⟩
        refine ⟨(pe_chain (sound_cmp (ca := ca) o hu) (sound_cmp (ca := ca) p hu) (he a ia h3) (he b ib h4) (he d id h5) (by show behindInMarks _ _ = false; exact notMark h5 _)).imp rd,
          (pt_chain (sound_cmp (ca := ca) o hu) (sound_cmp (ca := ca) p hu) (he a ia h3) (he b ib h4) (he d id h5) (by show behindInMarks _ _ = false; exact notMark h5 _)).imp fun σ H Q z => ?_, fun _ _ _ z => by cases z⟩
        exact se_tb (m := fun es => bnd (evE cl ia es) fun x => bnd (evE cl ib es) fun y => bnd (optM (cmpI o x y)) fun k => if k = true then bnd (evE cl id es) fun z => optM (cmpI p y z) else ret false) (fun es => by
          funext hh
          show bnd (evE cl ia es) (fun x => bnd (evE cl ib es) fun y => bnd (optM (cmpI o x y)) fun k => if k = true then bnd (evE cl id es) fun z => bnd (optM (cmpI p y z)) fun k => ret (T.bl k) else ret (T.bl false)) hh = _
          unfold bnd
          cases evE cl ia es hh with
          | ok x h1 =>
            dsimp only
            cases evE cl ib es h1 with
            | ok y h2 =>
              dsimp only [optM]
              cases cmpI o x y h2 with
              | none => rfl
              | some k =>
                cases k with
                | false => rfl
                | true =>
                  simp only [if_true]
                  cases evE cl id es h2 <;> rfl
            | exc _ _ => rfl
            | bad => rfl
          | exc _ _ => rfl
          | bad => rfl) rd z
      · cases h
    · -- a slice
      rename_i a lo hi p2 pos
      split at h
      · rename_i ia il ih' h1 h2 h3
        cases h
        refine se_val ((pe_slice (sound_slc (ca := ca)) (he a ia h1) (sound_po he h2) (sound_po he h3)).imp fun σ H Q ⟨ρ, hh, es, en, sm, z⟩ => ?_) (fun _ _ => rfl) (fun _ _ _ => by simp)
        refine go en sm (show tM X.K ca _ _ (bnd (evE cl ia es) (fun x => bnd (evEo cl il es) fun l => bnd (evEo cl ih' es) fun u => slcI x l u) hh) ρ H from z) fun ρ1 h1 H1 t v en1 s1 x1 r1 _ z1 => ?_
        refine go en1 s1 z1 fun ρ2 h2 H2 l l' en2 s2 x2 r2 _ z2 => ?_
        subst r2
        refine go en2 s2 z2 fun ρ3 h3 H3 u u' en3 s3 x3 r3 _ z3 => ?_
        subst r3
        exact ⟨ρ3, h3, t, _, s3, (r1.ex x2).ex x3, z3⟩
      · cases h
    · -- a subscript
      rename_i a b pos _
      split at h
      · rename_i ia ib h1 h2
        cases h
        refine se_val ((pe_ix (sound_idx (ca := ca)) (he a ia h1) (he b ib h2) (plainIx h2)).imp fun σ H Q ⟨ρ, hh, es, en, sm, z⟩ => ?_) (fun _ _ => rfl) (fun _ _ _ => by simp)
        refine go en sm (show tM X.K ca _ _ (bnd (evE cl ia es) (fun x => bnd (evE cl ib es) fun y => idxI x y) hh) ρ H from z) fun ρ1 h1 H1 t v en1 s1 x1 r1 _ z1 => ?_
        refine go en1 s1 z1 fun ρ2 h2 H2 u w en2 s2 x2 r2 _ z2 => ?_
        exact ⟨ρ2, h2, t, u, _, s2, r1.ex x2, r2, z2⟩
      · cases h
    · -- an attribute
      rename_i o f pos
      obtain ⟨hb, h⟩ := when_some h
      split at h
      · rename_i io i h1 h2
        cases h
        obtain ⟨rfl, hi⟩ := att_of h2
        refine se_val ((pe_fld (he o io h1) (base_ok hb _ _ _)).imp fun σ H Q ⟨ρ, hh, es, en, sm, z⟩ => ?_) (fun _ _ => rfl) (fun _ _ _ => by simp)
        refine go en sm (show tM X.K ca _ _ (bnd (evE cl io es) (fun x => optM (attI x i)) hh) ρ H from z) fun ρ1 h1 H1 t v en1 s1 x1 r1 _ z1 => ?_
        obtain ⟨u, e1, z2⟩ := optM_some z1
        unfold attI at e1
        split at e1
        · split at e1
          · rename_i e2
            cases r1 with
            | rf ha =>
              obtain ⟨ho, e3, ro⟩ := s1.obj e2 ha
              cases ro with
              | ins co rf =>
                obtain ⟨w, e4, rw4⟩ := rf.look e1
                exact ⟨_, _, _, _, w, rfl, e3, co.cls, co.noat i hi, e4, tM.fin s1 z2 _ rw4⟩
          · cases e1
        · cases e1
      · cases h
    · -- a call by name
      rename_i x px args pos
      obtain ⟨hgd, h⟩ := when_some h
      rw [Bool.and_eq_true] at hgd
      have hg := gl_of g hgd.1
      have hd := dbg1 hgd.2
      split at h
      · rename_i f np hf
        obtain ⟨hl, h⟩ := when_some h
        obtain ⟨irs, h1, rfl⟩ := Option.map_eq_some_iff.mp h
        obtain ⟨a, e1, e2, ⟨fd, ps, hb, F⟩⟩ := g.fx.fns x f np hf
        have rd : ∀ {E : Es}, cL (cE nm N n c) args = some E → ∀ σ H Q, tE X.K ca W (evE cl (.call f E)) σ H Q → tA X.K ca W (evEs cl E) σ H fun vs H1 => spC X.K ca np (cl f) vs H1 Q (WE W σ) := fun {E} hE σ H Q ⟨ρ, hh, es, en, sm, z⟩ => by
          refine go en sm (show tM X.K ca _ _ (bnd (evEs cl E es) (fun ts => cl f ts) hh) ρ H from z) fun ρ1 h1 H1 ts vs en1 s1 x1 r1 eq z1 => ?_
          exact ⟨ρ1, h1, ts, s1, r1, by rw [evEs_len hE eq]; exact beq_iff_eq.mp hl, z1⟩
        have hr := g.room.mono (Nat.le_succ k)
        cases args with
        | nil =>
          cases h1
          refine se_val ((pe_callS0 (E := WE W) F hr hg e1 e2 hb (fun σ => passAt tk σ) hd).imp fun σ H Q z => ?_) (fun _ _ => rfl) (fun _ _ _ => by simp)
          obtain ⟨ρ, hh, es, en, sm, z⟩ := rd rfl σ H Q z
          exact tM.fin sm (show tM X.K ca _ _ (.ok [] hh) ρ H from z) _ .nil
        | cons e0 er =>
          have st : starEach (e0 :: er) X.env = (false, eval e0 X.env) :: starEach er X.env := by
            unfold cL at h1
            split at h1
            · rename_i q1 q2; exact notStar q1 _ _
            · cases h1
          have pl : (backTo pos (starEach er X.env)).any (·.1) = false := by
            unfold cL at h1
            split at h1
            · rename_i q1 q2; exact plainArgs _ _ q2
            · cases h1
          exact se_val ((pe_callS (E := WE W) F hr hg e1 e2 hb (fun σ => passAt tk σ) (pa_of he h1) hd st pl).imp (rd h1)) (fun _ _ => rfl) (fun _ _ _ => by simp)
      · split at h
        · rename_i m i np e0 er hf _
          obtain ⟨hl, h⟩ := when_some h
          obtain ⟨irs, h1, rfl⟩ := Option.map_eq_some_iff.mp h
          obtain ⟨e1, co, a, mk, ⟨fd, ps, hb, F⟩⟩ := g.fx.cls x m i np hf
          have st : starEach (e0 :: er) X.env = (false, eval e0 X.env) :: starEach er X.env := by
            have h1 := h1
            unfold cL at h1
            split at h1
            · rename_i q1 q2; exact notStar q1 _ _
            · cases h1
          have pl : (backTo pos (starEach er X.env)).any (·.1) = false := by
            have h1 := h1
            unfold cL at h1
            split at h1
            · rename_i q1 q2; exact plainArgs _ _ q2
            · cases h1
          refine se_val ((pe_makeS (E := WE W) mk F g.room hg e1 hb (fun σ => passAt tk σ) (pa_of he h1) hd st pl).imp fun σ H Q ⟨ρ, hh, es, en, sm, z⟩ => ?_) (fun _ _ => rfl) (fun _ _ _ => by simp)
          refine go en sm (show tM X.K ca _ _ (bnd (evEs cl irs es) (fun ts => bnd (alloc (.ins m [])) fun x => bnd (cl i (x :: ts)) fun r => match r with
            | .non => ret x
            | _ => badM) hh) ρ H from z) fun ρ1 h1' H1 ts vs en1 s1 x1 r1 eq z1 => ?_
          intro p dx hp hdx hne
          have kx : ∀ b o, H1 b = some o → upd H1 dx (.own p) b = some o := fun b o e => by rw [upd_ne (ne_of_none e hdx)]; exact e
          have y1 : Ex ρ1 H1 ρ1 (upd H1 dx (.own p)) := ⟨⟨[], by simp, fun _ h => nomatch h⟩, fun b o e _ => kx b o e, fun a ha z => by
            cases q : H1 a with
            | none => exact s1.trk a ha q
            | some o => rw [kx a o q] at z; cases z⟩
          have s1' : Sm X.K ca ρ1 h1' (upd H1 dx (.own p)) := (s1.other (s1.fresh hdx) fun o e => by rw [hdx] at e; cases e).1
          obtain ⟨y2, s2⟩ := s1'.new (p := p) (by rw [upd_ne (Ne.symm hne)]; exact hp) (RO.ins (c := m) (dx := dx) co .nil)
          have z2 := tM.ex (y1.trans y2) z1
          have hat : (ρ1 ++ [p])[h1'.length]? = some p := by simp [s1.len]
          refine ⟨ρ1 ++ [p], h1' ++ [.ins m []], .rf h1'.length :: ts, s2, .cons (.rf hat) (r1.ex (y1.trans y2)), ?_, ?_⟩
          · rw [List.length_cons, evEs_len h1 eq]; exact beq_iff_eq.mp hl
          · refine (tM.bnd (show tM X.K ca (RV X.K Q) _ (bnd (cl i (.rf h1'.length :: ts)) (fun r => match r with
              | .non => ret (T.rf h1'.length)
              | _ => badM) (h1' ++ [.ins m []])) (ρ1 ++ [p]) _ from z2)).mono fun ρ3 H3 r h3 er x3 s3 q v rv => ?_
            exact make_end (x3.get hat) s3 (q h3 er) rv
        · obtain ⟨hfr, h⟩ := when_some h
          have hm := g.fx.free x hfr
          have bl : ∀ {args : List Expr} {b : Blt} {irs : Es}, args.length = 1 ∨ args.length = 2 → bltOf x args.length = some b → cL (cE nm N n c) args = some irs → PE X (.Call (.Name x px) args [] pos) (tE X.K ca W (evE cl (.blt b irs))) := by
            intro args b irs hlen hb h1
            have rd : ∀ σ H Q, tE X.K ca W (evE cl (.blt b irs)) σ H Q → tCB (rBl X.K ca b) (tA X.K ca W (evEs cl irs)) σ H Q := fun σ H Q ⟨ρ, hh, es, en, sm, z⟩ => by
              refine go en sm (show tM X.K ca _ _ (bnd (evEs cl irs es) (fun ts => bltI b ts) hh) ρ H from z) fun ρ1 h1 H1 ts vs en1 s1 x1 r1 eq z1 => ?_
              exact ⟨ρ1, h1, ts, _, s1, r1, z1⟩
            have hv := blt_boot hb
            have snd := sound_blt (X := X) (ca := ca) b hu g.calm
            cases args with
            | nil => rcases hlen with z | z <;> cases z
            | cons e0 er =>
              have st : starEach (e0 :: er) X.env = (false, eval e0 X.env) :: starEach er X.env := by
                unfold cL at h1
                split at h1
                · rename_i q1 q2; exact notStar q1 _ _
                · cases h1
              have pl : (backTo pos (starEach er X.env)).any (·.1) = false := by
                unfold cL at h1
                split at h1
                · rename_i q1 q2; exact plainArgs _ _ q2
                · cases h1
              cases b with
              | tuple => exact (pe_callTy snd hg hm hv (pa_of he h1) (dbg3 hgd.2) hd st pl).imp rd
              | list => exact (pe_callTy snd hg hm hv (pa_of he h1) (dbg3 hgd.2) hd st pl).imp rd
              | int => exact (pe_callTy snd hg hm hv (pa_of he h1) (dbg3 hgd.2) hd st pl).imp rd
              | _ => exact (pe_callB snd hg hm hv (pa_of he h1) (dbg3 hgd.2) hd st pl).imp rd
          split at h
          · rename_i b a hrg
            obtain ⟨ia, h1, rfl⟩ := Option.map_eq_some_iff.mp h
            obtain ⟨py, p, rfl, hfr2, hb⟩ := rgB_some hrg
            obtain ⟨g1, g2, g3⟩ := free_of g hfr2
            have na : starEach [a] X.env = (false, eval a X.env) :: starEach [] X.env := notStar h1 _ _
            rcases hb with ⟨rfl, rfl⟩ | ⟨rfl, rfl⟩
            · refine se_val ((pe_listRg g.calm hg hm (prg_1 g1 g2 (he a ia h1) na) (by rfl)).imp fun σ H Q ⟨ρ, hh, es, en, sm, z⟩ => ?_) (fun _ _ => rfl) (fun _ _ _ => by simp)
              refine go en sm (show tM X.K ca _ _ (bnd (evE cl ia es) (fun x => match x with
                | .int j => if 0 ≤ j ∧ j ≤ 16777216 then (if false = true then ret (.tup (iota 0 j.toNat)) else alloc (.lst (iota 0 j.toNat))) else badM
                | _ => badM) hh) ρ H from z) fun ρ1 h1 H1 t v en1 s1 x1 r1 _ z1 => ?_
              cases r1 with
              | int j =>
                obtain ⟨hc, z1⟩ := ite_bad z1
                exact ⟨j, rfl, RgOk.of_le (Int.le_refl _) hc.2 (by decide) hc.1, tM.obj s1 (show tM X.K ca _ _ (alloc (.lst (iota 0 j.toNat)) h1) ρ1 H1 from z1) (.lst (rfl_rg j))⟩
              | _ => exact z1.elim
            · refine se_val ((pe_tupRg g.calm hg hm (prg_1 g1 g2 (he a ia h1) na) (by rfl)).imp fun σ H Q ⟨ρ, hh, es, en, sm, z⟩ => ?_) (fun _ _ => rfl) (fun _ _ _ => by simp)
              refine go en sm (show tM X.K ca _ _ (bnd (evE cl ia es) (fun x => match x with
                | .int j => if 0 ≤ j ∧ j ≤ 16777216 then (if true = true then ret (.tup (iota 0 j.toNat)) else alloc (.lst (iota 0 j.toNat))) else badM
                | _ => badM) hh) ρ H from z) fun ρ1 h1 H1 t v en1 s1 x1 r1 _ z1 => ?_
              cases r1 with
              | int j =>
                obtain ⟨hc, z1⟩ := ite_bad z1
                exact ⟨j, rfl, RgOk.of_le (Int.le_refl _) hc.2 (by decide) hc.1, tM.tup s1 (show tM X.K ca _ _ (ret (T.tup (iota 0 j.toNat)) h1) ρ1 H1 from z1) (rfl_rg j)⟩
              | _ => exact z1.elim
          split at h
          · rename_i a y py _h1 _h2 _h3 _h4
            split at h
            · rename_i hx
              obtain ⟨hfy, h⟩ := when_some h
              obtain ⟨g1, g2, g3⟩ := free_of g hfy
              split at h
              · rename_i ia ty h1 h2
                cases h
                have pay : PE X (.Name y py) (tC (.ty ty)) := pe_bltn g1 g2 (ty_boot h2) rfl (dbg3 g3) (dbg1 g3)
                refine se_val ((pe_callB (sound_isi (ca := ca)) hg hm (by rw [hx]; exact boot_isinstance) (pa_cons (he a ia h1) (pa_cons pay pa_nil (by rfl)) (notStar h1 _ _)) (dbg3 hgd.2) hd (notStar h1 _ _) (by rfl)).imp fun σ H Q ⟨ρ, hh, es, en, sm, z⟩ => ?_) (fun _ _ => rfl) (fun _ _ _ => by simp)
                refine go en sm (show tM X.K ca _ _ (bnd (evE cl ia es) (fun x => bnd (optM (isiI (.ty ty) x)) fun b => ret (T.bl b)) hh) ρ H from z) fun ρ1 h1 H1 t v en1 s1 x1 r1 _ z1 => ?_
                obtain ⟨b, e1, z2⟩ := bnd_opt z1
                exact ⟨v, ty, ρ1, h1, t, b, rfl, s1, r1, e1, tM.val s1 z2 (.bl _)⟩
              · cases h
            · split at h
              · rename_i b irs h1 h2
                cases h
                exact se_val (bl (.inr rfl) h1 h2) (fun _ _ => rfl) (fun _ _ _ => by simp)
              · cases h
          · split at h
            · rename_i b irs h1 h2
              cases h
              exact se_val (bl (blt_n h1) h1 h2) (fun _ _ => rfl) (fun _ _ _ => by simp)
            · cases h
          · cases h
    · -- a method of a list
      rename_i o mn apos args cpos
      obtain ⟨hb, h⟩ := when_some h
      rw [Bool.and_eq_true] at hb
      have hbase := base_ok hb.1 mn X.env (eval o X.env)
      split at h
      · rename_i mt io irs h1 h2 h3
        cases h
        have rd : ∀ σ H Q, tE X.K ca W (evE cl (.met mt io irs)) σ H Q → tBM X.K "list" (rMe X.K ca mt) (tE X.K ca W (evE cl io)) (tA X.K ca W (evEs cl irs)) σ H Q := fun σ H Q ⟨ρ, hh, es, en, sm, z⟩ => by
          refine go en sm (show tM X.K ca _ _ (bnd (evE cl io es) (fun x => bnd (optM fun h => lstOf h x) fun _ => bnd (evEs cl irs es) fun ts => metI mt x ts) hh) ρ H from z) fun ρ1 h1 H1 t v en1 s1 x1 r1 _ z1 => ?_
          obtain ⟨xs, e1, z2⟩ := bnd_opt z1
          obtain ⟨a, vs, rfl, hs, l⟩ := lst_of s1 r1 e1
          refine ⟨.inl ⟨rfl, vs, hs⟩, ?_⟩
          refine go en1 s1 z2 fun ρ2 h2 H2 ts ws en2 s2 x2 r2 _ z3 => ?_
          exact ⟨ρ2, h2, t, ts, _, s2, r1.ex x2, r2, z3⟩
        have one : ∀ {a : Expr} {ia : Es}, cL (cE nm N n c) [a] = some ia → starEach [a] X.env = (false, eval a X.env) :: starEach [] X.env := fun {a ia} q => by
          unfold cL at q
          split at q
          · rename_i q1 q2; exact notStar q1 _ _
          · cases q
        have two : ∀ {a b : Expr} {ia : Es}, cL (cE nm N n c) [a, b] = some ia → starEach [a, b] X.env = (false, eval a X.env) :: (false, eval b X.env) :: [] := fun {a b ia} q => by
          unfold cL at q
          split at q
          · rename_i q1 q2
            rw [notStar q1]
            unfold cL at q2
            split at q2
            · rename_i q3 q4; rw [notStar q3]; rfl
            · cases q2
          · cases q
        unfold mthOf at h1
        split at h1
        · rename_i hx
          cases h1
          obtain ⟨rfl, hl⟩ := hx
          obtain ⟨a, rfl⟩ := List.length_eq_one_iff.mp hl
          exact se_val ((pe_bm PySem.F.plainAttrs_list PySem.F.slot_list_append PySem.F.type_list_append (sound_met (ca := ca) .append) (he o io h2) (pa_of he h3) hbase (by rw [one h3]; rfl) hb.2 (one h3) (by rfl)).imp rd) (fun _ _ => rfl) (fun _ _ _ => by simp)
        · split at h1
          · rename_i hx
            cases h1
            obtain ⟨rfl, hl⟩ := hx
            obtain ⟨a, rfl⟩ := List.length_eq_one_iff.mp hl
            exact se_val ((pe_bm PySem.F.plainAttrs_list PySem.F.slot_list_extend PySem.F.type_list_extend (sound_met (ca := ca) .extend) (he o io h2) (pa_of he h3) hbase (by rw [one h3]; rfl) hb.2 (one h3) (by rfl)).imp rd) (fun _ _ => rfl) (fun _ _ _ => by simp)
          · split at h1
            · rename_i hx
              cases h1
              obtain ⟨rfl, hl⟩ := hx
              have hl' : args = [] := List.length_eq_zero_iff.mp hl
              subst hl'
              cases h3
              refine se_val ((pe_bm0 PySem.F.plainAttrs_list PySem.F.slot_list_pop PySem.F.type_list_pop (sound_met (ca := ca) .pop) (he o io h2) hbase hb.2).imp fun σ H Q z => ?_) (fun _ _ => rfl) (fun _ _ _ => by simp)
              obtain ⟨ρ, hh, es, en, sm, z⟩ := rd σ H Q z
              refine ⟨ρ, hh, es, en, sm, z.mono fun ρ' H' t h' _ _ _ q v rv => ?_⟩
              obtain ⟨q1, ρ2, h2, es2, en2, sm2, q2⟩ := q v rv
              exact ⟨q1, tM.fin sm2 (show tM X.K ca _ _ (.ok [] h2) ρ2 H' from q2) _ .nil⟩
            · split at h1
              · rename_i hx
                cases h1
                obtain ⟨rfl, hl⟩ := hx
                obtain ⟨a, b, rfl⟩ : ∃ a b, args = [a, b] := by
                  match args, hl with
                  | [a, b], _ => exact ⟨a, b, rfl⟩
                exact se_val ((pe_bm PySem.F.plainAttrs_list PySem.F.slot_list_insert PySem.F.type_list_insert (sound_met (ca := ca) .insert) (he o io h2) (pa_of he h3) hbase (by rw [two h3]; rfl) hb.2 (by
                  rw [two h3]
                  unfold cL at h3
                  split at h3
                  · rename_i q1 q2
                    unfold cL at q2
                    split at q2
                    · rename_i q3 q4; rw [notStar q3]; rfl
                    · cases q2
                  · cases h3) (by
                  unfold cL at h3
                  split at h3
                  · rename_i q1 q2; exact plainArgs _ _ q2
                  · cases h3)).imp rd) (fun _ _ => rfl) (fun _ _ _ => by simp)
              · split at h1
                · rename_i hx
                  cases h1
                  obtain ⟨rfl, hl⟩ := hx
                  obtain ⟨a, rfl⟩ := List.length_eq_one_iff.mp hl
                  exact se_val ((pe_bm PySem.F.plainAttrs_list PySem.F.slot_list_pop PySem.F.type_list_pop (sound_met (ca := ca) .popAt) (he o io h2) (pa_of he h3) hbase (by rw [one h3]; rfl) hb.2 (one h3) (by rfl)).imp rd) (fun _ _ => rfl) (fun _ _ _ => by simp)
                · cases h1
      · cases h
    · -- a list comprehension
      rename_i elt tg iter ifs scope pos
      obtain ⟨hbk, h⟩ := when_some h
      split at h
      · rename_i t s ie h1 h2 h3
        obtain ⟨hsl, h⟩ := when_some h
        obtain ⟨q1, q2⟩ := sound_src (W := W) g he h2
        have ok := blkOk_by (by rw [← g.sc, ← g.hN] at hbk; exact hbk)
        have hN : X.N.Nodup := by rw [g.hN]; exact g.nd
        have pgs : ∀ (s : Shared) (H : Hp) (C : Addr) (cl' : List (Str × Addr)) (fp : List Addr), PG (X.blk s H scope (compEnvC scope cl' C X.env) fp) tg (gI X.K ca t) := fun s H C c' fp => sound_t (gd_blk g s H C c' fp) 9 tg t h1
        have pes : ∀ {e : Expr} {ir : E}, cE nm N n ⟨relS scope c.sc, some scope⟩ e = some ir → ∀ (s : Shared) (H : Hp) (C : Addr) (cl' : List (Str × Addr)) (fp : List Addr), Se (X.blk s H scope (compEnvC scope cl' C X.env) fp) ca cl W0 e ir :=
          fun {e ir} q s H C c' fp => sound_e n _ _ (gd_blk g s H C c' fp) W0 takes0 e ir q
        split at h
        · cases h
          refine se_val ((pe_lc (te := tE X.K ca W0 (evE cl ie)) g.calm hN q1 ok pgs (fun _ _ _ _ _ => pts_nil) (fun s H C c' fp => (pes h3 s H C c' fp).pe) q2).imp fun σ H Q z => ?_) (fun _ _ => rfl) (fun _ _ _ => by simp)
          rw [g.hN]
          exact sound_lc hsl (fun _ _ _ z => z) (fun _ _ _ _ z => z) (fun σ H Q ⟨ρ, hh, es, en, sm, z⟩ => tM.fin sm (show tM X.K ca _ _ (.ok true hh) ρ H from z) _ rfl) (fun _ _ _ z => z) z
        · rename_i q
          obtain ⟨iq, h4, rfl⟩ := Option.map_eq_some_iff.mp h
          refine se_val ((pe_lc (te := tE X.K ca W0 (evE cl ie)) (tt := tT X.K ca W0 (evCond cl (.som iq))) g.calm hN q1 ok pgs (fun s H C c' fp => pts_one (pes h4 s H C c' fp).pt) (fun s H C c' fp => (pes h3 s H C c' fp).pe) q2).imp fun σ H Q z => ?_) (fun _ _ => rfl) (fun _ _ _ => by simp)
          rw [g.hN]
          exact sound_lc hsl (fun _ _ _ z => z) (fun _ _ _ _ z => z) (fun _ _ _ z => z) (fun _ _ _ z => z) z
        · cases h
      · cases h
    · cases h
end
end CB

/-! Soundness, part eight: statements. -/
namespace CB
open PySem PySem.Spec PyProof.Rows L2
/-- how it ends, as the layer has it -/
def tO (K : PySem.W.Frag) (ca : Nat → Addr) (W : WX) (D : Ends) (o : Out) (ρ : List Addr) (H : Hp) : Prop := match o with
  | .nx es h => ∀ ρ' H' σ', Ex ρ H ρ' H' → Sm K ca ρ' h H' → EnvR K ρ' H' es σ' → D.nx σ' H'
  | .ret t h => ∀ ρ' H' v, Ex ρ H ρ' H' → Sm K ca ρ' h H' → Rf K ρ' H' t v → D.rt v H'
  | .brk es h => ∀ ρ' H' σ', Ex ρ H ρ' H' → Sm K ca ρ' h H' → EnvR K ρ' H' es σ' → D.bk σ' H'
  | .cnt es h => ∀ ρ' H' σ', Ex ρ H ρ' H' → Sm K ca ρ' h H' → EnvR K ρ' H' es σ' → D.ct σ' H'
  | .exc x es h => ∀ ρ' H' σ' cls d, Ex ρ H ρ' H' → Sm K ca ρ' h H' → EnvR K ρ' H' es σ' → RX ca ρ' H' x cls d → W cls d σ' H'
  | .bad => False
def tS (K : PySem.W.Frag) (ca : Nat → Addr) (W : WX) (m : Env → Hs → Out) : TS := fun D σ H => ∃ ρ h es, EnvR K ρ H es σ ∧ Sm K ca ρ h H ∧ tO K ca W D (m es h) ρ H
section
variable {K : PySem.W.Frag} {ca : Nat → Addr} {W : WX} {D D' : Ends} {ρ ρ1 : List Addr} {H H1 : Hp} {h : Hs} {es : Env} {σ : L2.St} {o : Out}
theorem tO.ex (x : Ex ρ H ρ1 H1) (q : tO K ca W D o ρ H) : tO K ca W D o ρ1 H1 := by
  cases o with
  | nx es h => exact fun ρ' H' σ' y => q ρ' H' σ' (x.trans y)
  | ret t h => exact fun ρ' H' v y => q ρ' H' v (x.trans y)
  | brk es h => exact fun ρ' H' σ' y => q ρ' H' σ' (x.trans y)
  | cnt es h => exact fun ρ' H' σ' y => q ρ' H' σ' (x.trans y)
  | exc e es h => exact fun ρ' H' σ' cls d y => q ρ' H' σ' cls d (x.trans y)
  | bad => exact q
theorem goO {α β : Type} {J : List Addr → Hp → α → β → Prop} {m : Env → M α} {f : α → Hs → Out} (e : EnvR K ρ H es σ) (s : Sm K ca ρ h H) (q : tO K ca W D (thenO (m es) es h f) ρ H) {P : β → Hp → Prop}
    (k : ∀ ρ1 h1 H1 a b, EnvR K ρ1 H1 es σ → Sm K ca ρ1 h1 H1 → Ex ρ H ρ1 H1 → J ρ1 H1 a b → m es h = .ok a h1 → tO K ca W D (f a h1) ρ1 H1 → P b H1) : tG K ca W J m σ H P := by
  refine ⟨ρ, h, es, e, s, ?_⟩
  unfold thenO at q
  cases z : m es h with
  | ok a h1 =>
    rw [z] at q
    intro ρ' H' x s' b jb
    exact k ρ' h1 H' a b (e.ex x) s' x jb z (tO.ex x q)
  | exc y h1 =>
    rw [z] at q
    intro ρ' H' cls d x s' r
    exact q ρ' H' σ cls d x s' (e.ex x) r
  | bad => rw [z] at q; exact q
end
section
variable {X : Cx}
theorem _root_.L2.PS.imp {s : Stmt} {t t' : TS} (p : PS X s t) (h : ∀ D σ H, t' D σ H → t D σ H) : PS X s t' := ⟨fun pins s σ H D I q => p.run pins s σ H D I (h D σ H q)⟩
theorem _root_.L2.PSs.imp {s : List Stmt} {t t' : TS} (p : PSs X s t) (h : ∀ D σ H, t' D σ H → t D σ H) : PSs X s t' := ⟨fun pins s σ H D I q => p.run pins s σ H D I (h D σ H q)⟩
end
section
variable {N : List Str} {nm : Nm} {ca : Nat → Addr} {cl : Nat → List T → M T} {k : Nat}
/-- the parts of a comprehension -/
theorem lc_parts {X : Cx} {c : Sc} (g : Gd X N c nm ca cl k) {W : WX} (tk : Takes X W) {n : Nat} {elt tg iter : Expr} {ifs : List Expr} {scope : Scope} {pos : Pos} {ir : E} (h : cE nm N (n + 1) c (.ListComp elt [⟨tg, iter, ifs, 0⟩] scope pos) = some ir) :
    ∃ (own : List (Str × Nat)) (wi : TI) (gg : TG) (tt : TT) (te : TE), PI X tg iter wi ∧ BlkOk X.N X.env.scope scope own ∧
      (∀ (s : Shared) (H : Hp) (C : Addr) (cl : List (Str × Addr)) (fp : List Addr), PG (X.blk s H scope (compEnvC scope cl C X.env) fp) tg gg) ∧
      (∀ (s : Shared) (H : Hp) (C : Addr) (cl : List (Str × Addr)) (fp : List Addr), PTs (X.blk s H scope (compEnvC scope cl C X.env) fp) ifs tt) ∧
      (∀ (s : Shared) (H : Hp) (C : Addr) (cl : List (Str × Addr)) (fp : List Addr), PE (X.blk s H scope (compEnvC scope cl C X.env) fp) elt te) ∧
      (∀ x, foldedSetIterable iter X.env x = pure x) ∧ ∀ σ H Q, tE X.K ca W (evE cl ir) σ H Q → tLc wi gg tt te (own.map (·.2)) σ H Q := by
  have he : ∀ e ir, cE nm N n c e = some ir → PE X e (tE X.K ca W (evE cl ir)) := fun e ir h => (sound_e n X c g W tk e ir h).pe
  have h : when (blkC N c.sc scope (ownOf N scope)) (match cT N ⟨relS scope c.sc, some scope⟩ 9 tg, cSrc nm c (cE nm N n c) tg iter, cE nm N n ⟨relS scope c.sc, some scope⟩ elt with
        | some t, some s, some e => when (slotsIn ((ownOf N scope).map (·.2)) t) (match ifs with
          | [] => some (E.lc e t s .non ((ownOf N scope).map (·.2)))
          | [q] => (cE nm N n ⟨relS scope c.sc, some scope⟩ q).map fun q => E.lc e t s (.som q) ((ownOf N scope).map (·.2))
          | _ => none)
        | _, _, _ => none) = some ir := h
  obtain ⟨hbk, h⟩ := when_some h
  split at h
  · rename_i t s ie h1 h2 h3
    obtain ⟨hsl, h⟩ := when_some h
    obtain ⟨q1, q2⟩ := sound_src (W := W) g he h2
    have ok : BlkOk X.N X.env.scope scope (ownOf N scope) := blkOk_by (by rw [g.sc, g.hN]; exact hbk)
    have pgs : ∀ (s : Shared) (H : Hp) (C : Addr) (cl' : List (Str × Addr)) (fp : List Addr), PG (X.blk s H scope (compEnvC scope cl' C X.env) fp) tg (gI X.K ca t) := fun s H C c' fp => sound_t (gd_blk g s H C c' fp) 9 tg t h1
    have pes : ∀ {e : Expr} {ir : E}, cE nm N n ⟨relS scope c.sc, some scope⟩ e = some ir → ∀ (s : Shared) (H : Hp) (C : Addr) (cl' : List (Str × Addr)) (fp : List Addr), Se (X.blk s H scope (compEnvC scope cl' C X.env) fp) ca cl W0 e ir :=
      fun {e ir} q s H C c' fp => sound_e n _ _ (gd_blk g s H C c' fp) W0 takes0 e ir q
    split at h
    · cases h
      exact ⟨_, _, _, tYes, tE X.K ca W0 (evE cl ie), q1, ok, pgs, fun _ _ _ _ _ => pts_nil, fun s H C c' fp => (pes h3 s H C c' fp).pe, q2, fun σ H Q z =>
        sound_lc hsl (fun _ _ _ z => z) (fun _ _ _ _ z => z) (fun σ H Q ⟨ρ, hh, es, en, sm, z⟩ => tM.fin sm (show tM X.K ca _ _ (.ok true hh) ρ H from z) _ rfl) (fun _ _ _ z => z) z⟩
    · rename_i q
      obtain ⟨iq, h4, rfl⟩ := Option.map_eq_some_iff.mp h
      exact ⟨_, _, _, tT X.K ca W0 (evCond cl (.som iq)), tE X.K ca W0 (evE cl ie), q1, ok, pgs, fun s H C c' fp => pts_one (pes h4 s H C c' fp).pt, fun s H C c' fp => (pes h3 s H C c' fp).pe, q2, fun σ H Q z =>
        sound_lc hsl (fun _ _ _ z => z) (fun _ _ _ _ z => z) (fun _ _ _ z => z) (fun _ _ _ z => z) z⟩
    · cases h
  · cases h
theorem notLc {e : Expr} (h : (!isLc e) = true) {n : Nat} {c : Sc} {ir : E} (h' : cE nm N n c e = some ir) (t : Option Expr) (line : Nat) (env : PySem.Env) : swapsWith e t line env = pure false := by
  cases n with
  | zero => cases h'
  | succ n => cases e <;> first | rfl | cases h' | (cases h; done)
theorem sw_false {elt : Expr} {gs : List Comprehension} {scope : Scope} {pos py : Pos} {y : Str} {l : Nat} {env : PySem.Env} {c : Sc} (hk : env.scope.kind = .function) (hs : env.scope = c.sc) (hb : swB c y py.line (.ListComp elt gs scope pos) = false) :
    swapsWith (.ListComp elt gs scope pos) (some (.Name y py)) l env = pure false := by
  have e1 : env.blockKind = .function := by unfold Env.blockKind; rw [hk]; rfl
  have e2 : env.kindOf y = kd c y := by show env.scope.names.lookup y = _; rw [hs]; rfl
  unfold swapsWith
  simp only [e1, e2, PySem.Expr.pos]
  have hb' : (kd c y == some .local && py.line == pos.line && !scope.names.any fun x => x.1 == y && (x.2 == .local || x.2 == .cell)) = false := hb
  simp only [beq_self_eq_true, Bool.true_and]
  rw [hb']
def isStar : Expr → Bool
  | .Starred .. => true
  | _ => false
theorem noStar {a : Expr} {env : PySem.Env} (sa : ∀ r, starEach (a :: r) env = (false, eval a env) :: starEach r env) : isStar a = false := by
  cases a <;> first | rfl | (have := sa []; simp [starEach] at this)
theorem par_stores {c : Sc} {env : PySem.Env} (hs : env.scope = c.sc) {x y : Str} {px py pt : Pos} {kt k2 : Nat} {pt2 : Pos} {a b : Expr} (h : parB c x y px.line py.line a b = true) (sa : ∀ r, starEach (a :: r) env = (false, eval a env) :: starEach r env) (sb : ∀ r, starEach (b :: r) env = (false, eval b env) :: starEach r env) :
    swappedStores [.Tuple [.Name x px, .Name y py] kt pt] (.Tuple [a, b] k2 pt2) env = pure (some [x, y]) := by
  unfold parB at h
  simp only [Bool.and_eq_true, Bool.not_eq_true', beq_iff_eq] at h
  obtain ⟨⟨⟨⟨⟨⟨hk, hx⟩, hy⟩, hne⟩, hl⟩, hf⟩, hc⟩ := h
  have e1 : env.blockKind = .function := by unfold Env.blockKind; rw [hs, hk]; rfl
  have ex : env.kindOf x = some .local := by show env.scope.names.lookup x = _; rw [hs]; exact hx
  have ey : env.kindOf y = some .local := by show env.scope.names.lookup y = _; rw [hs]; exact hy
  have na := noStar sa
  have nb := noStar sb
  have hf' : ¬ (foldedForSure 8 a = true ∧ foldedForSure 8 b = true) := fun z => by simp [z.1, z.2] at hf
  have hc' : ¬ (constantsAlone 8 a = true ∧ constantsAlone 8 b = true) := fun z => by simp [z.1, z.2] at hc
  have hne' : (y == x) = false := by
    rw [beq_eq_false_iff_ne] at hne ⊢; exact Ne.symm hne
  unfold swappedStores
  simp [e1, ex, ey, hl, PySem.Expr.pos, hne, hne', List.eraseDups_cons] 
  rw [if_neg (fun q => by
    rcases q with q | q
    · exact absurd (show isStar a = true from q) (by rw [na]; decide)
    · exact absurd (show isStar b = true from q) (by rw [nb]; decide)), if_neg hf', if_neg hc']
theorem whRun_some {f : Env → Hs → Tn} {es : Env} {h : Hs} (q : whRun f es h ≠ .bad) : ∃ n, whN f n es h = some (whRun f es h) := by
  unfold whRun at q ⊢
  split
  · rename_i z
    exact ⟨_, (Classical.choose_spec z).choose_spec⟩
  · rename_i z
    rw [dif_neg z] at q
    exact absurd rfl q
theorem tO_bad {K : PySem.W.Frag} {W : WX} {D : Ends} {o : Out} {ρ : List Addr} {H : Hp} (q : tO K ca W D o ρ H) : o ≠ .bad := fun z => by subst z; exact q
end
end CB

/-! Soundness, part nine: the induction over statements; defs. -/
namespace CB
open PySem PySem.Spec PyProof.Rows L2
section
variable {N : List Str} {nm : Nm} {ca : Nat → Addr} {cl : Nat → List T → M T} {k : Nat}
theorem while_sound {X : Cx} {W : WX} {tc : TT} {tb : TS} {c : E} {b : Ss} (hc : ∀ σ H Q, tT X.K ca W (evCond cl (.som c)) σ H Q → tc σ H Q) (hb : ∀ D σ H, tS X.K ca W (exSs cl b) D σ H → tb D σ H) {D : Ends} {σ : L2.St} {H : Hp}
    (z : tS X.K ca W (exS cl (.whl c b)) D σ H) : tWhile tc tb D σ H := by
  obtain ⟨ρ, hh, es, en, sm, z⟩ := z
  let f : Env → Hs → Tn := fun σ h => match evCond cl (.som c) σ h with
      | .ok true h1 => (match exSs cl b σ h1 with
        | .nx σ2 h2 => .again σ2 h2
        | .cnt σ2 h2 => .again σ2 h2
        | .brk σ2 h2 => .done (.nx σ2 h2)
        | o => .done o)
      | .ok false h1 => .done (.nx σ h1)
      | .exc x h1 => .done (.exc x σ h1)
      | .bad => .done .bad
  have z : tO X.K ca W D (whRun f es hh) ρ H := z
  obtain ⟨n, hn⟩ := whRun_some (tO_bad z)
  refine ⟨fun m σ H => ∃ ρ h es o, EnvR X.K ρ H es σ ∧ Sm X.K ca ρ h H ∧ whN f m es h = some o ∧ tO X.K ca W D o ρ H, ⟨n, ρ, hh, es, _, en, sm, hn, z⟩, ?_⟩
  rintro m σ H ⟨ρ, h, es, o, en, sm, hw, q⟩
  cases m with
  | zero => cases hw
  | succ m =>
    have hw : (match f es h with
      | .again σ2 h2 => whN f m σ2 h2
      | .done o => some o) = some o := hw
    refine hc σ H _ ⟨ρ, h, es, en, sm, ?_⟩
    cases qc : evCond cl (.som c) es h with
    | bad =>
      have e : f es h = .done .bad := by show (match evCond cl (.som c) es h with | .ok true h1 => _ | .ok false h1 => _ | .exc x h1 => _ | .bad => _) = _; rw [qc]
      rw [e] at hw
      cases hw
      exact q
    | exc y h1 =>
      have e : f es h = .done (.exc y es h1) := by show (match evCond cl (.som c) es h with | .ok true h1 => _ | .ok false h1 => _ | .exc x h1 => _ | .bad => _) = _; rw [qc]
      rw [e] at hw
      cases hw
      intro ρ' H' cls d x s' r
      exact q ρ' H' σ cls d x s' (en.ex x) r
    | ok b1 h1 =>
      intro ρ1 H1 x1 s1 b2 eb
      subst eb
      cases b1 with
      | false =>
        rw [if_neg (by decide)]
        have e : f es h = .done (.nx es h1) := by show (match evCond cl (.som c) es h with | .ok true h1 => _ | .ok false h1 => _ | .exc x h1 => _ | .bad => _) = _; rw [qc]
        rw [e] at hw
        cases hw
        exact q ρ1 H1 σ x1 s1 (en.ex x1)
      | true =>
        rw [if_pos rfl]
        have e : f es h = (match exSs cl b es h1 with
          | .nx σ2 h2 => .again σ2 h2
          | .cnt σ2 h2 => .again σ2 h2
          | .brk σ2 h2 => .done (.nx σ2 h2)
          | o => .done o) := by show (match evCond cl (.som c) es h with | .ok true h1 => _ | .ok false h1 => _ | .exc x h1 => _ | .bad => _) = _; rw [qc]
        rw [e] at hw
        have q1 := tO.ex x1 q
        refine ⟨fun σ' H' => ∃ ρ' h' es', EnvR X.K ρ' H' es' σ' ∧ Sm X.K ca ρ' h' H' ∧ whN f m es' h' = some o ∧ tO X.K ca W D o ρ' H', fun σ' H' ⟨ρ', h', es', a1, a2, a3, a4⟩ => ⟨m, Nat.lt_succ_self m, ρ', h', es', o, a1, a2, a3, a4⟩, ?_⟩
        refine hb _ σ H1 ⟨ρ1, h1, es, en.ex x1, s1, ?_⟩
        cases qb : exSs cl b es h1 with
        | nx es2 h2 =>
          rw [qb] at hw
          intro ρ' H' σ' x' s' en'
          exact ⟨ρ', h2, es2, en', s', hw, tO.ex x' q1⟩
        | cnt es2 h2 =>
          rw [qb] at hw
          intro ρ' H' σ' x' s' en'
          exact ⟨ρ', h2, es2, en', s', hw, tO.ex x' q1⟩
        | brk es2 h2 =>
          rw [qb] at hw
          cases hw
          exact q1
        | ret t h2 =>
          rw [qb] at hw
          cases hw
          exact q1
        | exc y es2 h2 =>
          rw [qb] at hw
          cases hw
          exact q1
        | bad =>
          rw [qb] at hw
          cases hw
          exact q1
theorem for_sound {X : Cx} {W : WX} {wi : TI} {g : TG} {tb : TS} {tg : Tg} {src : Src} {b : Ss} (hw : ∀ σ H R, tSr X.K ca W (evSrc cl src) σ H R → wi σ H R) (hg : ∀ v σ H Q, gI X.K ca tg v σ H Q → g v σ H Q)
    (hb : ∀ D σ H, tS X.K ca W (exSs cl b) D σ H → tb D σ H) {D : Ends} {σ : L2.St} {H : Hp} (z : tS X.K ca W (exS cl (.for tg src b)) D σ H) : tFor wi g tb D σ H := by
  obtain ⟨ρ, hh, es, en, sm, z⟩ := z
  have z : tO X.K ca W D (thenO (evSrc cl src es) es hh fun w h1 => forRun w.std tg (exSs cl b) w.its es h1) ρ H := z
  refine hw σ H _ ⟨ρ, hh, es, en, sm, ?_⟩
  unfold thenO at z
  cases qs : evSrc cl src es hh with
  | bad => rw [qs] at z; exact z
  | exc y h1 =>
    rw [qs] at z
    intro ρ' H' cls d x s' r
    exact z ρ' H' σ cls d x s' (en.ex x) r
  | ok w h1 =>
    rw [qs] at z
    intro ρ1 H1 x1 s1 J wk
    have z := tO.ex x1 z
    refine ⟨fun i m σ H => m = w.its.length - i ∧ i ≤ w.its.length ∧ ∃ ρ2 h2 es2, Ex ρ1 H1 ρ2 H ∧ EnvR X.K ρ2 H es2 σ ∧ Sm X.K ca ρ2 h2 H ∧ tO X.K ca W D (forRun w.std tg (exSs cl b) (w.its.drop i) es2 h2) ρ2 H,
      ⟨_, rfl, Nat.zero_le _, ρ1, h1, es, s1.refl, en.ex x1, s1, by rw [List.drop_zero]; exact z⟩, ?_⟩
    rintro i m σ H ⟨rfl, hi, ρ2, h2, es2, x2, en2, s2, q⟩
    by_cases hlt : i < w.its.length
    · have ed : w.its.drop i = w.its[i] :: w.its.drop (i + 1) := List.drop_eq_getElem_cons hlt
      rw [ed] at q
      unfold forRun at q
      by_cases st : w.std h2
      · rw [if_pos st] at q
        obtain ⟨jg, jy⟩ := wk.go ρ2 h2 H i w.its[i] x2 s2 st (by simp [hlt])
        refine .inr ⟨jg, fun σ' H' => ∃ ρ3 h3 es3, Ex ρ1 H1 ρ3 H' ∧ EnvR X.K ρ3 H' es3 σ' ∧ Sm X.K ca ρ3 h3 H' ∧ tO X.K ca W D (forRun w.std tg (exSs cl b) (w.its.drop (i + 1)) es3 h3) ρ3 H',
          fun σ' H' hN => ⟨_, by omega, rfl, hlt, hN⟩, fun x H' y => ?_⟩
        obtain ⟨xy, sy, ry⟩ := jy x H' y
        cases tk : tak tg w.its[i] es2 with
        | none => rw [tk] at q; exact q.elim
        | some es3 =>
          rw [tk] at q
          have q := tO.ex xy q
          refine hg _ _ _ _ ⟨ρ2, h2, es2, w.its[i], es3, en2.ex xy, sy, ry, tk, fun σ3 en3 _ => ?_⟩
          refine hb _ σ3 H' ⟨ρ2, h2, es3, en3, sy, ?_⟩
          dsimp only at q
          cases qb : exSs cl b es3 h2 with
          | nx es4 h4 =>
            rw [qb] at q
            intro ρ4 H4 σ4 x4 s4 en4
            exact ⟨ρ4, h4, es4, x2.trans (xy.trans x4), en4, s4, tO.ex x4 q⟩
          | cnt es4 h4 =>
            rw [qb] at q
            intro ρ4 H4 σ4 x4 s4 en4
            exact ⟨ρ4, h4, es4, x2.trans (xy.trans x4), en4, s4, tO.ex x4 q⟩
          | brk es4 h4 => rw [qb] at q; exact q
          | ret t h4 => rw [qb] at q; exact q
          | exc y es4 h4 => rw [qb] at q; exact q
          | bad => rw [qb] at q; exact q
      · rw [if_neg st] at q; exact q.elim
    · have e : i = w.its.length := by omega
      subst e
      rw [List.drop_length] at q
      unfold forRun at q
      by_cases st : w.std h2
      · rw [if_pos st] at q
        exact .inl ⟨wk.stop ρ2 h2 H x2 s2 st, q ρ2 H σ s2.refl s2 en2⟩
      · rw [if_neg st] at q; exact q.elim
theorem sound_ss {X : Cx} {W : WX} {f : Stmt → Option S} (ih : ∀ s ir, f s = some ir → PS X s (tS X.K ca W (exS cl ir))) : ∀ {ss : List Stmt} {ir : Ss}, cSs f ss = some ir → PSs X ss (tS X.K ca W (exSs cl ir))
  | [], ir, h => by
    cases h
    exact pss_nil.imp fun D σ H ⟨ρ, hh, es, en, sm, z⟩ => z ρ H σ sm.refl sm en
  | s :: r, ir, h => by
    unfold cSs at h
    split at h
    · rename_i a b h1 h2
      cases h
      refine (pss_cons (ih s a h1) (sound_ss ih h2)).imp fun D σ H ⟨ρ, hh, es, en, sm, z⟩ => ⟨ρ, hh, es, en, sm, ?_⟩
      have z : tO X.K ca W D (match exS cl a es hh with
        | .nx σ1 h1 => exSs cl b σ1 h1
        | o => o) ρ H := z
      cases q : exS cl a es hh with
      | nx es1 h1 =>
        rw [q] at z
        intro ρ' H' σ' x s' en'
        exact ⟨ρ', h1, es1, en', s', tO.ex x z⟩
      | ret t h1 => rw [q] at z; exact z
      | brk es1 h1 => rw [q] at z; exact z
      | cnt es1 h1 => rw [q] at z; exact z
      | exc y es1 h1 => rw [q] at z; exact z
      | bad => rw [q] at z; exact z
    · cases h
theorem assign_sub {n : Nat} {c : Sc} {i : Expr} {ii : E} (h : cE nm N n c i = some ii) {o : Expr} {p : Pos} {env : PySem.Env} : ∀ v, assign (.Subscript o i p) env v = (do
      let ov ← holding [v] (eval o env)
      let iv ← holding [v, ov] (eval i env)
      standAt p
      holding [v, ov, iv] (setItem ov iv v)
      release [v, ov, iv] []) := by
  intro v
  cases n with
  | zero => cases h
  | succ n => cases i <;> first | rfl | (cases h; done)
theorem lc_shape {n : Nat} {c : Sc} {elt : Expr} {gs : List Comprehension} {scope : Scope} {cp : Pos} {ir : E} (h : cE nm N (n + 1) c (.ListComp elt gs scope cp) = some ir) : ∃ tg iter ifs, gs = [⟨tg, iter, ifs, 0⟩] := by
  unfold cE at h
  split at h
  all_goals first
    | (rename_i z; cases z; done)
    | (rename_i z; cases z; exact ⟨_, _, _, rfl⟩)
    | (rename_i z _; cases z; exact ⟨_, _, _, rfl⟩)
    | exact ⟨_, _, _, rfl⟩
    | (cases h; done)
theorem sound_s {X : Cx} {c : Sc} (g : Gd X N c nm ca cl k) {W : WX} (tk : Takes X W) (hp : PassesOwn (model X.prog X.w) X.A X.env X.xe) (hk : c.sc.kind = .function) : ∀ (n : Nat) (s : Stmt) (ir : S), cS nm N n c s = some ir → PS X s (tS X.K ca W (exS cl ir))
  | 0, _, _, h => by cases h
  | n + 1, s, ir, h => by
    have he : ∀ {e : Expr} {ir : E}, cE nm N n c e = some ir → PE X e (tE X.K ca W (evE cl ir)) := fun {e ir} h => (sound_e n X c g W tk e ir h).pe
    have ht : ∀ {e : Expr} {ir : E}, cE nm N n c e = some ir → PT X e (tT X.K ca W (evCond cl (.som ir))) := fun {e ir} h => (sound_e n X c g W tk e ir h).pt
    have ih : ∀ {ss : List Stmt} {ir : Ss}, cSs (cS nm N n c) ss = some ir → PSs X ss (tS X.K ca W (exSs cl ir)) := fun {ss ir} h => sound_ss (fun s ir h => sound_s g tk hp hk n s ir h) h
    have hN : X.N.Nodup := by rw [g.hN]; exact g.nd
    have ekind : X.env.scope.kind = .function := by rw [g.sc]; exact hk
    unfold cS at h
    split at h
    · cases h
      exact ps_doc.imp fun D σ H ⟨ρ, hh, es, en, sm, z⟩ => z ρ H σ sm.refl sm en
    · -- an expression
      rename_i e pos _
      obtain ⟨hl, h⟩ := when_some h
      obtain ⟨ie, h1, rfl⟩ := Option.map_eq_some_iff.mp h
      refine (ps_expr (he h1) (notLc hl h1 _ _ _)).imp fun D σ H ⟨ρ, hh, es, en, sm, z⟩ => ?_
      exact goO en sm z fun ρ1 h1 H1 t v en1 s1 x1 r1 _ z1 => z1 ρ1 H1 σ s1.refl s1 en1
    · -- name = e
      rename_i x p e pos
      obtain ⟨hst, h⟩ := when_some h
      split at h
      · rename_i i ie h1 h2
        cases h
        obtain ⟨hl, hf⟩ := loc_of g hst
        have hi : X.N[i]? = some x := by rw [g.hN]; exact slot_ok h1
        have rd : ∀ D σ H, tS X.K ca W (exS cl (.asg (.name i) ie)) D σ H → tE X.K ca W (evE cl ie) σ H fun v H1 => D.nx (σ.set i (some v)) H1 := fun D σ H ⟨ρ, hh, es, en, sm, z⟩ =>
          goO en sm z fun ρ1 h1 H1 t v en1 s1 x1 r1 _ z1 => z1 ρ1 H1 _ s1.refl s1 (en1.set r1)
        by_cases hlc : isLc e = true
        · have hcase : ∃ elt gs scope cp, e = .ListComp elt gs scope cp := by
            unfold isLc at hlc
            split at hlc
            · exact ⟨_, _, _, _, rfl⟩
            · cases hlc
          obtain ⟨elt, gs, scope, cp, rfl⟩ := hcase
          cases hsw : swB c x p.line (.ListComp elt gs scope cp) with
          | false => exact (ps_set (i := i) hN hi hl (he h2) (sw_false ekind g.sc hsw) hf).imp rd
          | true =>
            have hsw' : (kd c x == some .local && p.line == cp.line && !scope.names.any fun x_1 => x_1.1 == x && (x_1.2 == .local || x_1.2 == .cell)) = true := hsw
            simp only [Bool.and_eq_true, Bool.not_eq_true', beq_iff_eq] at hsw'
            have hyl : X.env.scope.names.lookup x = some .local := by rw [kd_eq g x]; exact hsw'.1.1
            cases n with
            | zero => cases h2
            | succ n =>
              have hgs : ∃ tg iter ifs, gs = [⟨tg, iter, ifs, 0⟩] := by
                exact lc_shape h2
              obtain ⟨tg, iter, ifs, rfl⟩ := hgs
              obtain ⟨own, wi, gg, tt, te, p1, p2, p3, p4, p5, p6, p7⟩ := lc_parts g tk h2
              refine (ps_setLc (i := i) g.calm hN hi hyl (sw_true ekind hyl (by rw [hsw'.1.2]; exact beq_self_eq_true _) hsw'.2) p1 p2 p3 p4 p5 p6).imp fun D σ H z => ?_
              exact p7 σ H _ (rd D σ H z)
        · have hlc' : (!isLc e) = true := by simp [hlc]
          exact (ps_set (i := i) hN hi hl (he h2) (notLc hlc' h2 _ _ _) hf).imp rd
      · cases h
    · -- a, b = x, y
      rename_i x px y py kt pt a b k2 pt2 pos
      obtain ⟨hpar, h⟩ := when_some h
      split at h
      · rename_i i j ia ib h1 h2 h3 h4
        cases h
        have hpar' := hpar
        unfold parB at hpar'
        simp only [Bool.and_eq_true, Bool.not_eq_true', beq_iff_eq] at hpar'
        obtain ⟨⟨⟨⟨⟨⟨_, hx⟩, hy⟩, hne⟩, _⟩, _⟩, _⟩ := hpar'
        have hi : X.N[i]? = some x := by rw [g.hN]; exact slot_ok h1
        have hj : X.N[j]? = some y := by rw [g.hN]; exact slot_ok h2
        have hij : i ≠ j := fun z => by
          subst z
          rw [hi] at hj
          exact (beq_eq_false_iff_ne.mp hne) (Option.some.inj hj)
        have pa := pa_of (X := X) (W := W) (n := n) (fun e ir q => he q) (es := [a, b]) (irs := .cons ia (.cons ib .nil)) (by unfold cL cL; rw [h3, h4]; rfl)
        refine (ps_par g.calm hN hi hj hij (by rw [kd_eq g x]; exact hx) (by rw [kd_eq g y]; exact hy) pa (par_stores g.sc hpar (fun r => notStar h3 r _) (fun r => notStar h4 r _))).imp fun D σ H ⟨ρ, hh, es, en, sm, z⟩ => ?_
        refine ⟨ρ, hh, es, en, sm, ?_⟩
        have z : tO X.K ca W D (thenO (evE cl ia es) es hh fun x h1 => thenO (evE cl ib es) es h1 fun y h2 => .nx ((es.set i (some x)).set j (some y)) h2) ρ H := z
        show tM X.K ca _ _ (bnd (evE cl ia es) (fun x => bnd (bnd (evE cl ib es) (fun x => bnd (ret []) fun xs => ret (x :: xs))) fun xs => ret (x :: xs)) hh) ρ H
        unfold bnd thenO at *
        cases q1 : evE cl ia es hh with
        | ok t h1 =>
          rw [q1] at z
          dsimp only at z ⊢
          cases q2 : evE cl ib es h1 with
          | ok u h2 =>
            rw [q2] at z
            intro ρ1 H1 x1 s1 vs l
            obtain ⟨v, w, rfl, r1, r2⟩ := l.two
            exact ⟨v, w, rfl, z ρ1 H1 _ x1 s1 (((en.ex x1).set r1).set r2)⟩
          | exc y h2 =>
            rw [q2] at z
            intro ρ' H' cls d x s' r
            exact z ρ' H' σ cls d x s' (en.ex x) r
          | bad => rw [q2] at z; exact z
        | exc y h1 =>
          rw [q1] at z
          intro ρ' H' cls d x s' r
          exact z ρ' H' σ cls d x s' (en.ex x) r
        | bad => rw [q1] at z; exact z
      · cases h
    · -- a tuple of targets
      rename_i es kk p e pos _
      obtain ⟨hl, h⟩ := when_some h
      rw [Bool.and_eq_true] at hl
      split at h
      · rename_i t ie h1 h2
        cases h
        have nt : swappedStores [.Tuple es kk p] e X.env = pure none := by
          have := hl.2
          cases e <;> first | rfl | (cases this; done)
        refine (ps_asg (he h2) (sound_t g 9 _ t h1) (by show swapsWith e (some (.Tuple es kk p)) pos.line X.env = pure false; exact notLc hl.1 h2 _ _ _) nt (by rfl)).imp fun D σ H ⟨ρ, hh, es, en, sm, z⟩ => ?_
        refine goO en sm z fun ρ1 h1 H1 u v en1 s1 x1 r1 _ z1 => ?_
        cases q : tak t u es with
        | none => rw [q] at z1; exact z1.elim
        | some es2 =>
          rw [q] at z1
          exact ⟨ρ1, h1, es, u, es2, en1, s1, r1, q, fun σ' en' _ => z1 ρ1 H1 σ' s1.refl s1 en'⟩
      · cases h
    · -- o[i] = e
      rename_i o i p e pos
      obtain ⟨hl, h⟩ := when_some h
      rw [Bool.and_eq_true] at hl
      split at h
      · rename_i io ii ie h1 h2 h3
        cases h
        have nt : swappedStores [.Subscript o i p] e X.env = pure none := by
          have := hl.2
          cases e <;> first | rfl | (cases this; done)
        refine (ps_asg (he h3) (pg_sub (he h1) (he h2) set_list (assign_sub h2)) (by show swapsWith e (some (.Subscript o i p)) pos.line X.env = pure false; exact notLc hl.1 h3 _ _ _) nt (by rfl)).imp fun D σ H ⟨ρ, hh, es, en, sm, z⟩ => ?_
        refine goO en sm z fun ρ1 h1 H1 t v en1 s1 x1 r1 _ z1 => ?_
        refine goO en1 s1 z1 fun ρ2 h2 H2 u w en2 s2 x2 r2 q2 z2 => ?_
        clear q2
        refine goO en2 s2 z2 fun ρ3 h3 H3 u3 w3 en3 s3 x3 r3 q3 z3 => ?_
        clear q3
        split at z3
        · rename_i a kk
          split at z3
          · rename_i xs e1
            split at z3
            · rename_i j e2
              cases r3
              have r2' := r2.ex x3
              cases r2' with
              | rf ha =>
                obtain ⟨vs, e3, l⟩ := lst_at s3 ha e1
                obtain ⟨x4, s4⟩ := s3.write e1 ha (RO.lst (l.set ((r1.ex x2).ex x3) j))
                exact ⟨_, vs, kk, j, rfl, rfl, e3, by rw [← l.length]; exact e2, z3 _ _ _ x4 s4 (en3.ex x4)⟩
            · exact z3.elim
          · exact z3.elim
        · exact z3.elim
      · cases h
    · -- o.f = e
      rename_i o f p e pos
      obtain ⟨hl, h⟩ := when_some h
      split at h
      · rename_i io i ie h1 h2 h3
        cases h
        obtain ⟨rfl, hi⟩ := att_of h2
        refine (ps_fld (he h1) (he h3) (notLc hl h3 _ _ _)).imp fun D σ H ⟨ρ, hh, es, en, sm, z⟩ => ?_
        refine goO en sm z fun ρ1 h1 H1 t v en1 s1 x1 r1 _ z1 => ?_
        refine goO en1 s1 z1 fun ρ2 h2 H2 u w en2 s2 x2 r2 _ z2 => ?_
        split at z2
        · split at z2
          · rename_i cc fs e1
            split at z2
            · rename_i hlen
              cases r2 with
              | rf ha =>
                obtain ⟨ho, e3, ro⟩ := s2.obj e1 ha
                cases ro with
                | ins co rf =>
                  rename_i dx gs
                  obtain ⟨x4, s4⟩ := s2.write e1 ha (RO.ins (c := cc) (dx := dx) co (rf.put hi (r1.ex x2)))
                  exact ⟨_, _, dx, gs, rfl, e3, co.cls, co.noat i hi, by rw [← rf.length]; omega, z2 _ _ _ x4 s4 (en2.ex x4)⟩
            · exact z2.elim
          · exact z2.elim
        · exact z2.elim
      · cases h
    · -- x op= e
      rename_i x p op e pos
      obtain ⟨hst, h⟩ := when_some h
      obtain ⟨hl, hf⟩ := loc_of g hst
      have aug : ∀ {i : Nat} {ie : E} {o : Bop} {opr : Operator} {fi : Int → Int → Int}, slot N x = some i → cE nm N n c e = some ie → PIp X opr (ipI fi) → (∀ t u, augI o t u = match t, u with
          | .int a, .int b => ret (.int (fi a b))
          | _, _ => badM) → PS X (.AugAssign (.Name x p) opr e pos) (tS X.K ca W (exS cl (.aug i o ie))) := by
        intro i ie o opr fi h1 h2 hip hai
        refine (ps_aug (i := i) hN (by rw [g.hN]; exact slot_ok h1) hl (he h2) hip hf).imp fun D σ H ⟨ρ, hh, es, en, sm, z⟩ => ?_
        have z : tO X.K ca W D (match es[i]?.join with
          | some x => thenO (evE cl ie es) es hh fun y h1 => thenO (augI o x y) es h1 fun z h2 => .nx (es.set i (some z)) h2
          | none => .bad) ρ H := z
        cases q : es[i]? with
        | none => rw [q] at z; exact z.elim
        | some oo =>
          cases oo with
          | none => rw [q] at z; exact z.elim
          | some t =>
            rw [q] at z
            obtain ⟨v, e1, r⟩ := en.get i t q
            refine ⟨v, e1, ?_⟩
            refine goO en sm z fun ρ1 h1 H1 u w en1 s1 x1 r1 _ z1 => ?_
            have z1 : tO X.K ca W D (thenO (augI o t u) es h1 fun z h2 => .nx (es.set i (some z)) h2) ρ1 H1 := z1
            rw [hai] at z1
            have r' := r.ex x1
            split at z1
            · cases r'; cases r1
              exact ⟨_, _, rfl, rfl, z1 ρ1 H1 _ s1.refl s1 (en1.set (.int _))⟩
            · exact z1.elim
      split at h
      · rename_i i ie h1 h2 hq
        clear hq
        cases h
        exact aug h1 h2 ip_add fun t u => by unfold augI; cases t <;> cases u <;> rfl
      · rename_i i ie h1 h2 hq
        clear hq
        cases h
        exact aug h1 h2 ip_sub fun t u => by unfold augI; cases t <;> cases u <;> rfl
      · cases h
    · -- return
      cases h
      exact ps_retN.imp fun D σ H ⟨ρ, hh, es, en, sm, z⟩ => z ρ H _ sm.refl sm .non
    · rename_i e pos
      obtain ⟨ie, h1, rfl⟩ := Option.map_eq_some_iff.mp h
      refine (ps_ret (he h1)).imp fun D σ H ⟨ρ, hh, es, en, sm, z⟩ => ?_
      exact goO en sm z fun ρ1 h1 H1 t v en1 s1 x1 r1 _ z1 => z1 ρ1 H1 v s1.refl s1 r1
    · -- if
      rename_i t a b pos
      split at h
      · rename_i it ia ib h1 h2 h3
        cases h
        refine (ps_if (ht h1) (ih h2) (ih h3)).imp fun D σ H ⟨ρ, hh, es, en, sm, z⟩ => ?_
        refine goO en sm z fun ρ1 h1 H1 b1 v en1 s1 x1 r1 _ z1 => ?_
        subst r1
        cases b1 with
        | true => exact ⟨ρ1, h1, es, en1, s1, z1⟩
        | false => exact ⟨ρ1, h1, es, en1, s1, z1⟩
      · cases h
    · -- while
      rename_i t a pos
      split at h
      · rename_i it ia h1 h2
        cases h
        exact (ps_while hp (ht h1) (ih h2)).imp fun D σ H z => while_sound (fun _ _ _ z => z) (fun _ _ _ z => z) z
      · cases h
    · -- for
      rename_i tg it a pos
      split at h
      · rename_i t s ia h1 h2 h3
        cases h
        obtain ⟨q1, q2⟩ := sound_src (W := W) g (n := n) (fun e ir q => he q) h2
        exact (ps_for hp g.calm q1 (sound_t g 9 tg t h1) (ih h3) q2).imp fun D σ H z => for_sound (fun _ _ _ z => z) (fun _ _ _ _ z => z) (fun _ _ _ z => z) z
      · cases h
    · cases h; exact ps_break.imp fun D σ H ⟨ρ, hh, es, en, sm, z⟩ => z ρ H σ sm.refl sm en
    · cases h; exact ps_continue.imp fun D σ H ⟨ρ, hh, es, en, sm, z⟩ => z ρ H σ sm.refl sm en
    · cases h; exact ps_pass.imp fun D σ H ⟨ρ, hh, es, en, sm, z⟩ => z ρ H σ sm.refl sm en
    · cases h; exact ps_never.imp fun D σ H ⟨ρ, hh, es, en, sm, z⟩ => z.elim
    · cases h
end
end CB

/-! Soundness, the end: defs, calls of any depth, the law. -/
namespace CB
open PySem PySem.Spec PyProof.Rows L2
section
variable {P : Program} {w : World} {K : PySem.W.Frag} {mg : Str → Option Value} {base : Heap} {nm : Nm} {ca : Nat → Addr} {cl : Nat → List T → M T} {k : Nat}
theorem start_env {ρ : List Addr} {H : Hp} {ts : List T} {vs : List V} {n : Nat} {N : List Str} (l : RfL K ρ H ts vs) (hn : ts.length ≤ N.length) : EnvR K ρ H (ts.map some ++ List.replicate (N.length - ts.length) none) (L2.start N vs) := by
  have e := l.length
  unfold L2.start
  refine ⟨by simp [e], fun i t h => ?_⟩
  by_cases hi : i < ts.length
  · rw [List.getElem?_append_left (by simpa using hi), List.getElem?_map] at h
    obtain ⟨u, hu, e2⟩ := Option.map_eq_some_iff.mp h
    cases e2
    obtain ⟨v, h1, h2⟩ := l.get hu
    exact ⟨v, by rw [List.getElem?_append_left (by simp; omega), List.getElem?_map, h1]; rfl, h2⟩
  · rw [List.getElem?_append_right (by simp; omega)] at h
    have := List.mem_of_getElem? h
    have := List.eq_of_mem_replicate this
    cases this
/-- a def of the text keeps the promise that its run is -/
theorem sound_fn {x qual : Str} {params : Arguments} {body : List Stmt} {scope : Scope} {f : Addr} {fd : FuncData} {N ps : List Str} {fn : Fn} (F : FunD K x qual params body scope [] [] f fd) (S : FnScope N ps scope) (hf : cF nm N ps.length scope body = some fn) (hle : ps.length ≤ N.length)
    (fx : Fx P w K mg base nm ca cl k) : FnOk P w K mg base (CX P w) (k + 2) f fd ps (spC K ca ps.length fun ts => runF cl fn ts) := by
  obtain ⟨b, hb, rfl⟩ := Option.map_eq_some_iff.mp hf
  refine F.ok S (fun vs H Q E ⟨ρ, h, ts, sm, l, e, _⟩ => by rw [← l.length, e]) (fun cdv A outer s H vs Q E hr ⟨ρ, h, ts, sm, l, e, z⟩ => ?_)
  have g : Gd (cxOf (CX P w) P w K mg base N qual scope f cdv A outer s H E) N ⟨scope, none⟩ nm ca cl k := ⟨rfl, S.nd, rfl, fun _ _ => rfl, rfl, hr, fx⟩
  have tk : Takes (cxOf (CX P w) P w K mg base N qual scope f cdv A outer s H E) (fun cls d _ H => E cls d H) := takes_of rfl rfl rfl rfl
  have hp : PassesOwn (model (cxOf (CX P w) P w K mg base N qual scope f cdv A outer s H E).prog (cxOf (CX P w) P w K mg base N qual scope f cdv A outer s H E).w) (cxOf (CX P w) P w K mg base N qual scope f cdv A outer s H E).A (cxOf (CX P w) P w K mg base N qual scope f cdv A outer s H E).env (cxOf (CX P w) P w K mg base N qual scope f cdv A outer s H E).xe := passes_of rfl
  refine ⟨_, sound_ss (fun s ir h => sound_s g tk hp S.kind 60 s ir h) hb, ρ, h, ts.map some ++ List.replicate (N.length - ts.length) none, start_env (n := 0) l (by omega), sm, ?_⟩
  have hc : ts.length = ps.length ∧ ps.length ≤ N.length := ⟨e, hle⟩
  have z : tM K ca (RV K Q) (fun cls d H' => E cls d H') (if ts.length = ps.length ∧ ps.length ≤ N.length then match exSs cl b (ts.map some ++ List.replicate (N.length - ps.length) none) h with
    | .nx _ h1 => .ok .non h1
    | .ret t h1 => .ok t h1
    | .exc x _ h1 => .exc x h1
    | _ => .bad
  else .bad) ρ H := z
  rw [if_pos hc] at z
  rw [e]
  cases q : exSs cl b (ts.map some ++ List.replicate (N.length - ps.length) none) h with
  | nx es h1 =>
    rw [q] at z
    exact fun ρ' H' σ' x s' en' => z ρ' H' x s' _ .non
  | ret t h1 =>
    rw [q] at z
    exact fun ρ' H' v x s' r => z ρ' H' x s' v r
  | exc y es h1 =>
    rw [q] at z
    exact fun ρ' H' σ' cls d x s' en' r => z ρ' H' cls d x s' r
  | brk es h1 => rw [q] at z; exact z.elim
  | cnt es h1 => rw [q] at z; exact z.elim
  | bad => rw [q] at z; exact z.elim
end
/-- a def of the text, by its number -/
structure DefF (K : PySem.W.Frag) (nm : Nm) (tb : Nat → Option Fn) (f : Nat) (ps : List Str) (a : Addr) : Prop where
  ex : ∃ (x qual : Str) (params : Arguments) (body : List Stmt) (scope : Scope) (fd : FuncData) (N : List Str) (fn : Fn), FunD K x qual params body scope [] [] a fd ∧ FnScope N ps scope ∧ ps.length ≤ N.length ∧
    (∀ (s : Shared) (us : List Value), us.length = ps.length → BindsTo s fd ⟨us, []⟩ (ps.zip us)) ∧ tb f = some fn ∧ cF nm N ps.length scope body = some fn
/-- what stands behind the top -/
structure Txt (K : PySem.W.Frag) (mg : Str → Option Value) (nm : Nm) (tb : Nat → Option Fn) (ca : Nat → Addr) : Prop where
  fns : ∀ x f n, nm.fns.lookup x = some (f, n) → ∃ a ps, mg x = some (.ref a) ∧ PySem.W.keepIn K (.ref a) = true ∧ ps.length = n ∧ DefF K nm tb f ps a
  cls : ∀ x c i n, nm.cls.lookup x = some (c, i, n) → mg x = some (.ref (ca c)) ∧ CO K (ca c) ∧ ∃ a ps, Mk K (ca c) a ∧ ps.length = n ∧ DefF K nm tb i ps a
  cons : ∀ x t, nm.cons.lookup x = some t → ∃ u v, mg x = some u ∧ RelV v u ∧ ∀ ρ H, Rf K ρ H t v
  free : ∀ x, nm.free.contains x = true → mg x = none
section
variable {P : Program} {w : World} {K : PySem.W.Frag} {mg : Str → Option Value} {base : Heap} {nm : Nm} {tb : Nat → Option Fn} {ca : Nat → Addr}
theorem binds_of {fd : FuncData} {ps : List Str} (h : ∀ (s : Shared) (us : List Value), us.length = ps.length → BindsTo s fd ⟨us, []⟩ (ps.zip us)) : Binds K fd ps [] := fun s us _ hl => by
  rw [List.append_nil] at hl ⊢
  exact h s us hl
theorem fnF_zero {f : Nat} {ps : List Str} {a : Addr} (D : DefF K nm tb f ps a) : FnF P w K mg base ca 0 a ps.length (callN tb 0 f) := by
  obtain ⟨x, qual, params, body, scope, fd, N, fn, F, S, hle, hb, ht, hc⟩ := D.ex
  exact ⟨fd, ps, binds_of hb, ⟨fun vs H Q E ⟨ρ, h, ts, sm, l, e, z⟩ => z.elim, fun A outer s H args us vs Q E hr he hb hv ⟨ρ, h, ts, sm, l, e, z⟩ => z.elim⟩⟩
theorem fn_succ {d f : Nat} {ps : List Str} {a : Addr} (D : DefF K nm tb f ps a) (fx : Fx P w K mg base nm ca (callN tb d) (2 * d)) :
    ∃ fd, (∀ (s : Shared) (us : List Value), us.length = ps.length → BindsTo s fd ⟨us, []⟩ (ps.zip us)) ∧ FnOk P w K mg base (CX P w) (2 * (d + 1)) a fd ps (spC K ca ps.length (callN tb (d + 1) f)) := by
  obtain ⟨x, qual, params, body, scope, fd, N, fn, F, S, hle, hb, ht, hc⟩ := D.ex
  refine ⟨fd, hb, ?_⟩
  have q := sound_fn F S hc hle fx
  have e : (fun ts => runF (callN tb d) fn ts) = callN tb (d + 1) f := by
    funext ts
    show _ = (match tb f with
      | some fn => runF (callN tb d) fn ts
      | none => badM)
    rw [ht]
  rw [e] at q
  exact q
theorem fx_all (tx : Txt K mg nm tb ca) : ∀ d, Fx P w K mg base nm ca (callN tb d) (2 * d)
  | 0 => ⟨fun x f n h => by
      obtain ⟨a, ps, h1, h2, rfl, D⟩ := tx.fns x f n h
      exact ⟨a, h1, h2, fnF_zero D⟩, fun x c i n h => by
      obtain ⟨h1, h2, a, ps, h3, rfl, D⟩ := tx.cls x c i n h
      exact ⟨h1, h2, a, h3, fnF_zero D⟩, tx.cons, tx.free⟩
  | d + 1 => ⟨fun x f n h => by
      obtain ⟨a, ps, h1, h2, rfl, D⟩ := tx.fns x f n h
      obtain ⟨fd, hb, F⟩ := fn_succ D (fx_all tx d)
      exact ⟨a, h1, h2, fd, ps, binds_of hb, F⟩, fun x c i n h => by
      obtain ⟨h1, h2, a, ps, h3, rfl, D⟩ := tx.cls x c i n h
      obtain ⟨fd, hb, F⟩ := fn_succ D (fx_all tx d)
      exact ⟨h1, h2, a, h3, fd, ps, binds_of hb, F⟩, tx.cons, tx.free⟩
/-- the law: its run gives True whatever the script is -/
theorem law_at {l : PySem.W.OpenLaw} {x : Str} {fa : Addr} {f d : Nat} {h : Heap} (tx : Txt K mg nm tb ca) (D : DefF K nm tb f [x] fa)
    (run : ∀ ns : List Int, ns.length ≤ 63 → (∀ z ∈ ns, Builtin.Int.intBits z ≤ 1048576) → ∀ (t : T) (hs : Hs), lstOf hs t = some (ns.map .int) → ∃ hs', callN tb (d + 1) f [t] hs = .ok (.bl true) hs') :
    LamX.LawAtS l w K (CX l.prog w) (2 * (d + 1)) 63 x mg fa h := by
  have one : ∃ fd, (∀ (s : Shared) (us : List Value), us.length = [x].length → BindsTo s fd ⟨us, []⟩ ([x].zip us)) ∧ ∀ base, FnOk l.prog w K mg base (CX l.prog w) (2 * (d + 1)) fa fd [x] (spC K ca [x].length (callN tb (d + 1) f)) := by
    obtain ⟨x', qual, params, body, scope, fd, N, fn, F, S, hle, hb, ht, hc⟩ := D.ex
    refine ⟨fd, hb, fun base => ?_⟩
    have q := sound_fn (P := l.prog) (w := w) (base := base) F S hc hle (fx_all tx d)
    have e : (fun ts => runF (callN tb d) fn ts) = callN tb (d + 1) f := by
      funext ts
      show _ = (match tb f with
        | some fn => runF (callN tb d) fn ts
        | none => badM)
      rw [ht]
    rw [e] at q
    exact q
  obtain ⟨fd, hb, F⟩ := one
  refine ⟨fd, [], spC K ca 1 (callN tb (d + 1) f), (fun p hp => by cases hp), (fun p hp => by cases hp), (fun p hp => by cases hp), fun s u => hb s [u] rfl, fun H a ns hl hbits _ hS => ?_, fun base _ _ _ => F base⟩
  have fin : ∀ (t : T) (ρ : List Addr) (hs : Hs), Sm K ca ρ hs H → Rf K ρ H t (.ref a) → lstOf hs t = some (ns.map .int) → spC K ca 1 (callN tb (d + 1) f) [.ref a] H (fun v _ => v = .bl true) fun _ _ _ => False := by
    intro t ρ hs sm r e
    obtain ⟨hs', q⟩ := run ns hl hbits t hs e
    refine ⟨ρ, hs, [t], sm, .cons r .nil, rfl, ?_⟩
    rw [q]
    intro ρ' H' _ _ v rv
    cases rv
    rfl
  have nil : Sm K ca [] [] H := ⟨rfl, List.nodup_nil, fun i o a h => by simp at h⟩
  rcases hS with (h1 | ⟨o, h1⟩) | h1
  · refine fin (.rf 0) [a] [.lst (ns.map .int)] ⟨rfl, by simp, fun i o b e1 e2 => ?_⟩ (.rf rfl) rfl
    cases i with
    | zero =>
      simp at e1 e2
      subst e1 e2
      exact ⟨_, h1, .lst RfL.ints⟩
    | succ i => simp at e1
  · exact fin (.frz ns) [] [] nil (.frz (.inl ⟨o, h1⟩)) rfl
  · exact fin (.frz ns) [] [] nil (.frz (.inr h1)) rfl
end
/-! ### bindings by count -/
section
variable {x qual : Str} {params : Arguments} {body : List Stmt} {scope : Scope} {K : PySem.W.Frag} {f : Addr} {fd : FuncData}
def plainP : List Arg → Arguments := fun l => ⟨[], l, none, [], [], none, []⟩
theorem bindsL (F : FunD K x qual params body scope [] [] f fd) {ps : List Str} (h : ∀ (kV doc pm : Value) (an : Option Addr) (cdv ct : Value) (us : List Value), us.length = ps.length → bindArgs (PySem.W.fnOf x qual params body scope .none kV doc pm an cdv ct) ⟨us, []⟩ = pure (ps.zip us)) :
    ∀ (s : Shared) (us : List Value), us.length = ps.length → BindsTo s fd ⟨us, []⟩ (ps.zip us) := fun s us hl => F.bindsA h s us hl
end
end CB

/-! The head's facts, read by a hook; the text's data as lists. -/
namespace CB
open PySem PySem.Spec PyProof.Rows L2
abbrev Tps := List (Str × List He.Dv)
def obsE (fa : List He.Fa) (fn : List He.DefD) (tp : Tps) (K : PySem.W.Frag) : He.AlD := ((fa.all fun f => f.ok K) && ((fn.all fun d => d.ok K) && tp.all fun p => eqB (PySem.W.nsIn K mainGlobals p.1) (He.ga K p.1) && He.tupB K p.1 p.2), fn.map fun d => He.fnW K d.at_)
where eqB (o : Option (Option Value)) (a : Addr) : Bool := He.eqO o (some (some (.ref a)))
def obsEG (n : Nat) (fa : List He.Fa) (fn : List He.DefD) (tp : Tps) (g : Addr → Option Obj) : He.AlD := obsE fa fn tp (He.frG g (He.asD g n))
def hookE (n : Nat) (fa : List He.Fa) (fn : List He.DefD) (tp : Tps) : PySem.W.Hook where
  α := He.AlD
  obs := fun s => obsEG n fa fn tp s.heap.get?
  val := fun _ => He.valD fn
  says := fun _ h => ∃ K : PySem.W.Frag, K.In h ∧ obsE fa fn tp K = He.valD fn
  of := fun _ _ e => ⟨_, He.frG_in, e⟩
  keeps := fun _ _ _ ⟨K, hK, c⟩ k => ⟨K, PySem.W.Frag.In.keeps hK k, c⟩
theorem obsEG_eq {n : Nat} {fa : List He.Fa} {fn : List He.DefD} {tp : Tps} {g : Addr → Option Obj} {s : Shared} (h : ∀ a, g a = s.heap.get? a) : obsEG n fa fn tp g = (hookE n fa fn tp).obs s := by
  have e : g = s.heap.get? := funext h
  rw [e] <;> rfl
section
variable {fa : List He.Fa} {fn : List He.DefD} {tp : Tps} {K : PySem.W.Frag}
theorem saysD (c : obsE fa fn tp K = He.valD fn) : He.SaysD fa fn K := by
  have c1 : ((fa.all fun f => f.ok K) && ((fn.all fun d => d.ok K) && tp.all fun p => obsE.eqB (PySem.W.nsIn K mainGlobals p.1) (He.ga K p.1) && He.tupB K p.1 p.2)) = true := congrArg (fun z : He.AlD => z.1) c
  have c2 : (fn.map fun d => He.fnW K d.at_) = fn.map He.DefD.val := congrArg (fun z : He.AlD => z.2) c
  rw [Bool.and_eq_true, Bool.and_eq_true] at c1
  show ((fa.all fun f => f.ok K) && fn.all fun d => d.ok K, fn.map fun d => He.fnW K d.at_) = (true, fn.map He.DefD.val)
  rw [c1.1, c1.2.1, c2] <;> rfl
theorem saysT (c : obsE fa fn tp K = He.valD fn) {p : Str × List He.Dv} (hp : p ∈ tp) {h : Heap} {mg : Str → Option Value} (X : K.In h) (G : h.Ns mainGlobals mg) : mg p.1 = some (.ref (He.ga K p.1)) ∧ ∀ H, SqT K H (He.ga K p.1) (p.2.map (He.Dv.v K)) := by
  have c1 : ((fa.all fun f => f.ok K) && ((fn.all fun d => d.ok K) && tp.all fun p => obsE.eqB (PySem.W.nsIn K mainGlobals p.1) (He.ga K p.1) && He.tupB K p.1 p.2)) = true := congrArg (fun z : He.AlD => z.1) c
  rw [Bool.and_eq_true, Bool.and_eq_true] at c1
  have z := List.all_eq_true.mp c1.2.2 p hp
  rw [Bool.and_eq_true] at z
  exact ⟨PySem.W.mg_of X G (He.eqO_ok z.1), He.tupB_ok z.2⟩
end
/-! ### lists of data -/
theorem lookup_mem {α : Type} : ∀ {l : List (Str × α)} {x : Str} {v : α}, l.lookup x = some v → (x, v) ∈ l
  | [], _, _, h => by cases h
  | (y, w) :: r, x, v, h => by
    rw [List.lookup_cons] at h
    split at h
    · rename_i hb
      cases h
      rw [beq_iff_eq.mp hb]
      exact List.mem_cons_self
    · exact List.mem_cons_of_mem _ (lookup_mem h)
theorem allC {α : Type} {p : α → Prop} {a : α} {l : List α} (h : p a) (r : ∀ x ∈ l, p x) : ∀ x ∈ a :: l, p x := fun x hx => (List.mem_cons.mp hx).elim (fun e => e ▸ h) (r x)
theorem allN {α : Type} {p : α → Prop} : ∀ x ∈ ([] : List α), p x := fun _ h => nomatch h
theorem allA {α : Type} {p : α → Prop} {l l' : List α} (h : ∀ x ∈ l, p x) (r : ∀ x ∈ l', p x) : ∀ x ∈ l ++ l', p x := fun x hx => (List.mem_append.mp hx).elim (h x) (r x)
section
variable {K : PySem.W.Frag} {mg : Str → Option Value} {nm : Nm} {tb : Nat → Option Fn}
/-- a def's datum -/
theorem def_ok {fa : List He.Fa} {fn : List He.DefD} (c : He.SaysD fa fn K) (i : Nat) {d : He.DefD} (hi : fn[i]? = some d) (hd : d.dfl = []) (hk : d.kwd = []) {f : Nat} {N ps : List Str} {F : Fn} (S : FnScope N ps d.scope) (hle : ps.length ≤ N.length)
    (hb : ∀ (kV doc pm : Value) (an : Option Addr) (cdv ct : Value) (us : List Value), us.length = ps.length → bindArgs (PySem.W.fnOf d.name d.qual d.params d.body d.scope .none kV doc pm an cdv ct) ⟨us, []⟩ = pure (ps.zip us))
    (ht : tb f = some F) (hc : cF nm N ps.length d.scope d.body = some F) : PySem.W.keepIn K (.ref (He.fAd K d.at_)) = true ∧ DefF K nm tb f ps (He.fAd K d.at_) := by
  obtain ⟨fd, F'⟩ := c.def_ i hi
  have e1 : d.dvs K = [] := by unfold He.DefD.dvs; rw [hd]; rfl
  have e2 : d.kws K = [] := by unfold He.DefD.kws; rw [hk]; rfl
  rw [e1, e2] at F'
  exact ⟨F'.kp, ⟨_, _, _, _, _, fd, N, F, F', S, hle, bindsL F' hb, ht, hc⟩⟩
theorem fun_ok {fa : List He.Fa} {fn : List He.DefD} {h : Heap} (X : K.In h) (G : h.Ns mainGlobals mg) (c : He.SaysD fa fn K) (i j : Nat) {d : He.DefD} (hi : fn[i]? = some d) {x : Str} (hj : fa[j]? = some (.glo x)) (ha : d.at_ = (x, none)) (hd : d.dfl = []) (hk : d.kwd = []) {f : Nat} {N ps : List Str} {F : Fn} (S : FnScope N ps d.scope) (hle : ps.length ≤ N.length)
    (hb : ∀ (kV doc pm : Value) (an : Option Addr) (cdv ct : Value) (us : List Value), us.length = ps.length → bindArgs (PySem.W.fnOf d.name d.qual d.params d.body d.scope .none kV doc pm an cdv ct) ⟨us, []⟩ = pure (ps.zip us))
    (ht : tb f = some F) (hc : cF nm N ps.length d.scope d.body = some F) : ∃ a qs, mg x = some (.ref a) ∧ PySem.W.keepIn K (.ref a) = true ∧ qs.length = ps.length ∧ DefF K nm tb f qs a := by
  obtain ⟨kp, D⟩ := def_ok c i hi hd hk S hle hb ht hc
  have e : He.fAd K d.at_ = He.ga K x := by rw [ha]; rfl
  rw [e] at kp D
  exact ⟨_, ps, He.glo_ok X G (c.fact j hj), kp, rfl, D⟩
theorem make_ok {fa : List He.Fa} {fn : List He.DefD} {h : Heap} (X : K.In h) (G : h.Ns mainGlobals mg) (c : He.SaysD fa fn K) (i j : Nat) {d : He.DefD} (hi : fn[i]? = some d) {x : Str} (hj : fa[j]? = some (.glo x)) (hj1 : fa[j + 1]? = some (.cls x)) (hj2 : fa[j + 2]? = some (.mkr x))
    (hj3 : fa[j + 3]? = some (.noat x (attrN 0))) (hj4 : fa[j + 4]? = some (.noat x (attrN 1))) (ha : d.at_ = (x, some ("__init__" : Str))) (hd : d.dfl = []) (hk : d.kwd = []) {m f : Nat} {ca : Nat → Addr} (hca : ca m = He.ga K x) {N ps : List Str} {F : Fn} (S : FnScope N ps d.scope) (hle : ps.length ≤ N.length)
    (hb : ∀ (kV doc pm : Value) (an : Option Addr) (cdv ct : Value) (us : List Value), us.length = ps.length → bindArgs (PySem.W.fnOf d.name d.qual d.params d.body d.scope .none kV doc pm an cdv ct) ⟨us, []⟩ = pure (ps.zip us))
    (ht : tb f = some F) (hc : cF nm N ps.length d.scope d.body = some F) : mg x = some (.ref (ca m)) ∧ CO K (ca m) ∧ ∃ a qs, Mk K (ca m) a ∧ qs.length = ps.length ∧ DefF K nm tb f qs a := by
  obtain ⟨kp, D⟩ := def_ok c i hi hd hk S hle hb ht hc
  have e : He.fAd K d.at_ = He.ma K (He.ga K x) "__init__" := by rw [ha]; rfl
  rw [e] at D
  rw [hca]
  refine ⟨He.glo_ok X G (c.fact j hj), ⟨He.cls_ok (c.fact (j + 1) hj1), fun g hg => ?_⟩, _, ps, He.mkr_ok (c.fact (j + 2) hj2), rfl, D⟩
  have : g = 0 ∨ g = 1 := by omega
  rcases this with rfl | rfl
  · exact He.noat_ok (c.fact (j + 3) hj3)
  · exact He.noat_ok (c.fact (j + 4) hj4)
theorem int_con {fa : List He.Fa} {fn : List He.DefD} {h : Heap} (X : K.In h) (G : h.Ns mainGlobals mg) (c : He.SaysD fa fn K) (j : Nat) {x : Str} {i : Int} (hj : fa[j]? = some (.int x i)) : ∃ u v, mg x = some u ∧ RelV v u ∧ ∀ ρ H, Rf K ρ H (.int i) v := by
  obtain ⟨t, e⟩ := He.int_ok X G (c.fact j hj)
  exact ⟨_, .int i, e, ⟨t, rfl⟩, fun _ _ => .int i⟩
theorem RfL.intsV {ρ : List Addr} {H : Hp} : ∀ {ns : List Int}, RfL K ρ H (ns.map T.int) ((ns.map He.Dv.int).map (He.Dv.v K))
  | [] => .nil
  | n :: r => .cons (.int n) RfL.intsV
theorem tup_con {fa : List He.Fa} {fn : List He.DefD} {tp : Tps} {h : Heap} (X : K.In h) (G : h.Ns mainGlobals mg) (c : obsE fa fn tp K = He.valD fn) {x : Str} {ns : List Int} (hp : (x, ns.map He.Dv.int) ∈ tp) : ∃ u v, mg x = some u ∧ RelV v u ∧ ∀ ρ H, Rf K ρ H (.tup (ns.map .int)) v := by
  obtain ⟨e, hs⟩ := saysT c hp X G
  exact ⟨_, .ref (He.ga K x), e, rfl, fun ρ H => .tup (hs H) RfL.intsV⟩
end
end CB

namespace CB
open PySem
def fn_is_integer_0 : Fn := ⟨1, 1, (.cons (.ret (.and (.isi (.var 0) (.ty "int")) (.not (.isi (.var 0) (.ty "bool"))))) .nil)⟩
def fn_divisor_1 : Fn := ⟨2, 2, (.cons (.par 0 1 (.blt .abs (.cons (.var 0) .nil)) (.blt .abs (.cons (.var 1) .nil))) (.cons (.whl (.cmp .gt (.var 1) (.cst (.int 0))) (.cons (.par 0 1 (.var 1) (.bin .mod (.var 0) (.var 1))) .nil)) (.cons (.ret (.var 0)) .nil)))⟩
def fn_made_2 : Fn := ⟨2, 3, (.cons (.asg (.name 2) (.call 1 (.cons (.var 0) (.cons (.var 1) .nil)))) (.cons (.ifs (.cmp .lt (.var 1) (.cst (.int 0))) (.cons (.asg (.name 2) (.neg (.var 2))) .nil) .nil) (.cons (.ret (.tup (.cons (.bin .fdiv (.var 0) (.var 2)) (.cons (.bin .fdiv (.var 1) (.var 2)) .nil)))) .nil)))⟩
def fn_plus_3 : Fn := ⟨2, 2, (.cons (.ret (.call 2 (.cons (.bin .add (.bin .mul (.idx (.var 0) (.cst (.int 0))) (.idx (.var 1) (.cst (.int 1)))) (.bin .mul (.idx (.var 1) (.cst (.int 0))) (.idx (.var 0) (.cst (.int 1))))) (.cons (.bin .mul (.idx (.var 0) (.cst (.int 1))) (.idx (.var 1) (.cst (.int 1)))) .nil)))) .nil)⟩
def fn_times_4 : Fn := ⟨2, 2, (.cons (.ret (.call 2 (.cons (.bin .mul (.idx (.var 0) (.cst (.int 0))) (.idx (.var 1) (.cst (.int 0)))) (.cons (.bin .mul (.idx (.var 0) (.cst (.int 1))) (.idx (.var 1) (.cst (.int 1)))) .nil)))) .nil)⟩
def fn_is_less_5 : Fn := ⟨2, 2, (.cons (.ret (.cmp .lt (.bin .mul (.idx (.var 0) (.cst (.int 0))) (.idx (.var 1) (.cst (.int 1)))) (.bin .mul (.idx (.var 1) (.cst (.int 0))) (.idx (.var 0) (.cst (.int 1)))))) .nil)⟩
def fn_least_of_6 : Fn := ⟨1, 3, (.cons (.asg (.name 1) (.idx (.var 0) (.cst (.int 0)))) (.cons (.for (.name 2) (.over (.slc (.var 0) (.som (.cst (.int 1))) .non)) (.cons (.ifs (.call 5 (.cons (.var 2) (.cons (.var 1) .nil))) (.cons (.asg (.name 1) (.var 2)) .nil) .nil) .nil)) (.cons (.ret (.var 1)) .nil)))⟩
def fn_greatest_of_7 : Fn := ⟨1, 3, (.cons (.asg (.name 1) (.idx (.var 0) (.cst (.int 0)))) (.cons (.for (.name 2) (.over (.slc (.var 0) (.som (.cst (.int 1))) .non)) (.cons (.ifs (.call 5 (.cons (.var 1) (.cons (.var 2) .nil))) (.cons (.asg (.name 1) (.var 2)) .nil) .nil) .nil)) (.cons (.ret (.var 1)) .nil)))⟩
def fn_ascending_8 : Fn := ⟨1, 4, (.cons (.asg (.name 1) (.lst .nil)) (.cons (.for (.name 2) (.over (.var 0)) (.cons (.asg (.name 3) (.blt .len (.cons (.var 1) .nil))) (.cons (.whl (.and (.cmp .gt (.var 3) (.cst (.int 0))) (.call 5 (.cons (.var 2) (.cons (.idx (.var 1) (.bin .sub (.var 3) (.cst (.int 1)))) .nil)))) (.cons (.aug 3 .sub (.cst (.int 1))) .nil)) (.cons (.exp (.met .insert (.var 1) (.cons (.var 3) (.cons (.var 2) .nil)))) .nil)))) (.cons (.ret (.var 1)) .nil)))⟩
def fn_middle_9 : Fn := ⟨3, 3, (.cons (.ret (.idx (.call 8 (.cons (.lst (.cons (.var 0) (.cons (.var 1) (.cons (.var 2) .nil)))) .nil)) (.cst (.int 1)))) .nil)⟩
def fn_is_fraction_10 : Fn := ⟨1, 2, (.cons (.ifs (.or (.not (.isi (.var 0) (.ty "tuple"))) (.or (.cmp .ne (.blt .len (.cons (.var 0) .nil)) (.cst (.int 2))) (.not (.blt .all (.cons (.lc (.call 0 (.cons (.var 1) .nil)) (.name 1) (.over (.var 0)) .non [1]) .nil))))) (.cons (.ret (.cst (.bl false))) .nil) .nil) (.cons (.ret (.and (.cmp .ge (.idx (.var 0) (.cst (.int 1))) (.cst (.int 1))) (.cmp .eq (.call 1 (.cons (.idx (.var 0) (.cst (.int 0))) (.cons (.idx (.var 0) (.cst (.int 1))) .nil))) (.cst (.int 1))))) .nil))⟩
def fn_is_within_11 : Fn := ⟨3, 3, (.cons (.ret (.and (.call 0 (.cons (.var 0) .nil)) (.chn .le .le (.var 1) (.var 0) (.var 2)))) .nil)⟩
def fn_is_number_12 : Fn := ⟨1, 1, (.cons (.ret (.and (.call 10 (.cons (.var 0) .nil)) (.chn .le .le (.cst (.int 0)) (.idx (.var 0) (.cst (.int 0))) (.idx (.var 0) (.cst (.int 1)))))) .nil)⟩
def fn_are_numbers_13 : Fn := ⟨2, 3, (.cons (.ret (.and (.isi (.var 0) (.ty "tuple")) (.and (.cmp .eq (.blt .len (.cons (.var 0) .nil)) (.var 1)) (.blt .all (.cons (.lc (.call 12 (.cons (.var 2) .nil)) (.name 2) (.over (.var 0)) .non [2]) .nil))))) .nil)⟩
def fn_mean_of_15 : Fn := ⟨2, 5, (.cons (.asg (.name 2) (.cst (.tup [(.int 0), (.int 1)]))) (.cons (.for (.cons (.name 3) (.cons (.name 4) .nil)) (.zip (.var 0) (.var 1)) (.cons (.asg (.name 2) (.call 3 (.cons (.var 2) (.cons (.call 4 (.cons (.tup (.cons (.var 3) (.cons (.cst (.int 1)) .nil))) (.cons (.var 4) .nil))) .nil)))) .nil)) (.cons (.ret (.call 4 (.cons (.var 2) (.cons (.call 2 (.cons (.cst (.int 1)) (.cons (.blt .sum (.cons (.var 0) .nil)) .nil))) .nil)))) .nil)))⟩
def fn_ranked_of_16 : Fn := ⟨2, 2, (.cons (.ret (.idx (.call 8 (.cons (.var 1) .nil)) (.bin .sub (.blt .len (.cons (.var 1) .nil)) (.var 0)))) .nil)⟩
def fn_value_of_17 : Fn := ⟨2, 6, (.cons (.asg (.name 2) (.idx (.var 0) (.cst (.int 0)))) (.cons (.ifs (.cmp .eq (.var 2) (.cst (.str "bid"))) (.cons (.ret (.idx (.var 1) (.idx (.var 0) (.cst (.int 1))))) .nil) .nil) (.cons (.ifs (.cmp .eq (.var 2) (.cst (.str "fixed"))) (.cons (.ret (.idx (.var 0) (.cst (.int 1)))) .nil) .nil) (.cons (.ifs (.cmp .eq (.var 2) (.cst (.str "mean"))) (.cons (.ret (.call 15 (.cons (.lc (.var 5) (.cons (.name 5) (.cons (.name 4) .nil)) (.over (.idx (.var 0) (.cst (.int 1)))) .non [5, 4]) (.cons (.lc (.call 17 (.cons (.var 4) (.cons (.var 1) .nil))) (.cons (.name 5) (.cons (.name 4) .nil)) (.over (.idx (.var 0) (.cst (.int 1)))) .non [5, 4]) .nil)))) .nil) .nil) (.cons (.ifs (.cmp .eq (.var 2) (.cst (.str "between"))) (.cons (.ret (.call 9 (.cons (.idx (.var 0) (.cst (.int 1))) (.cons (.idx (.var 0) (.cst (.int 2))) (.cons (.call 17 (.cons (.idx (.var 0) (.cst (.int 3))) (.cons (.var 1) .nil))) .nil))))) .nil) .nil) (.cons (.asg (.name 3) (.lc (.call 17 (.cons (.var 4) (.cons (.var 1) .nil))) (.name 4) (.over (.idx (.var 0) (.neg (.cst (.int 1))))) .non [4])) (.cons (.ifs (.cmp .eq (.var 2) (.cst (.str "ranked"))) (.cons (.ret (.call 16 (.cons (.idx (.var 0) (.cst (.int 1))) (.cons (.var 3) .nil)))) .nil) .nil) (.cons (.ret (.ife (.cmp .eq (.var 2) (.cst (.str "least"))) (.call 6 (.cons (.var 3) .nil)) (.call 7 (.cons (.var 3) .nil)))) .nil))))))))⟩
def fn_are_parts_18 : Fn := ⟨1, 1, (.cons (.ret (.and (.isi (.var 0) (.ty "tuple")) (.chn .le .le (.cst (.int 1)) (.blt .len (.cons (.var 0) .nil)) (.cst (.int 8))))) .nil)⟩
def fn_is_weighted_19 : Fn := ⟨1, 1, (.cons (.ret (.and (.isi (.var 0) (.ty "tuple")) (.and (.cmp .eq (.blt .len (.cons (.var 0) .nil)) (.cst (.int 2))) (.call 11 (.cons (.idx (.var 0) (.cst (.int 0))) (.cons (.cst (.int 1)) (.cons (.cst (.int 99)) .nil))))))) .nil)⟩
def fn_is_bound_20 : Fn := ⟨1, 1, (.cons (.ifs (.or (.cmp .ne (.blt .len (.cons (.var 0) .nil)) (.cst (.int 4))) (.or (.not (.call 12 (.cons (.idx (.var 0) (.cst (.int 1))) .nil))) (.not (.call 12 (.cons (.idx (.var 0) (.cst (.int 2))) .nil))))) (.cons (.ret (.cst (.bl false))) .nil) .nil) (.cons (.ret (.not (.call 5 (.cons (.idx (.var 0) (.cst (.int 2))) (.cons (.idx (.var 0) (.cst (.int 1))) .nil))))) .nil))⟩
def fn_parts_told_21 : Fn := ⟨1, 3, (.cons (.asg (.name 1) (.idx (.var 0) (.cst (.int 0)))) (.cons (.ifs (.and (.cmp .eq (.var 1) (.cst (.str "mean"))) (.and (.cmp .eq (.blt .len (.cons (.var 0) .nil)) (.cst (.int 2))) (.call 18 (.cons (.idx (.var 0) (.cst (.int 1))) .nil)))) (.cons (.ret (.ife (.blt .all (.cons (.lc (.call 19 (.cons (.var 2) .nil)) (.name 2) (.over (.idx (.var 0) (.cst (.int 1)))) .non [2]) .nil)) (.lc (.idx (.var 2) (.cst (.int 1))) (.name 2) (.over (.idx (.var 0) (.cst (.int 1)))) .non [2]) (.cst .non))) .nil) .nil) (.cons (.ifs (.and (.cmp .isIn (.var 1) (.tup (.cons (.cst (.str "least")) (.cons (.cst (.str "greatest")) .nil)))) (.and (.cmp .eq (.blt .len (.cons (.var 0) .nil)) (.cst (.int 2))) (.call 18 (.cons (.idx (.var 0) (.cst (.int 1))) .nil)))) (.cons (.ret (.blt .list (.cons (.idx (.var 0) (.cst (.int 1))) .nil))) .nil) .nil) (.cons (.ifs (.and (.cmp .eq (.var 1) (.cst (.str "ranked"))) (.and (.cmp .eq (.blt .len (.cons (.var 0) .nil)) (.cst (.int 3))) (.call 18 (.cons (.idx (.var 0) (.cst (.int 2))) .nil)))) (.cons (.ret (.ife (.call 11 (.cons (.idx (.var 0) (.cst (.int 1))) (.cons (.cst (.int 1)) (.cons (.blt .len (.cons (.idx (.var 0) (.cst (.int 2))) .nil)) .nil)))) (.blt .list (.cons (.idx (.var 0) (.cst (.int 2))) .nil)) (.cst .non))) .nil) .nil) (.cons (.ifs (.and (.cmp .eq (.var 1) (.cst (.str "between"))) (.call 20 (.cons (.var 0) .nil))) (.cons (.ret (.lst (.cons (.idx (.var 0) (.cst (.int 3))) .nil))) .nil) .nil) (.cons (.ret (.cst .non)) .nil))))))⟩
def fn_is_leaf_22 : Fn := ⟨2, 2, (.cons (.ifs (.cmp .ne (.blt .len (.cons (.var 1) .nil)) (.cst (.int 2))) (.cons (.ret (.cst (.bl false))) .nil) .nil) (.cons (.ret (.or (.and (.cmp .eq (.idx (.var 1) (.cst (.int 0))) (.cst (.str "bid"))) (.call 11 (.cons (.idx (.var 1) (.cst (.int 1))) (.cons (.cst (.int 0)) (.cons (.bin .sub (.var 0) (.cst (.int 1))) .nil))))) (.and (.cmp .eq (.idx (.var 1) (.cst (.int 0))) (.cst (.str "fixed"))) (.call 12 (.cons (.idx (.var 1) (.cst (.int 1))) .nil))))) .nil))⟩
def fn_terms_told_23 : Fn := ⟨3, 7, (.cons (.ifs (.or (.cmp .eq (.var 2) (.cst (.int 0))) (.or (.not (.isi (.var 1) (.ty "tuple"))) (.or (.cmp .eq (.blt .len (.cons (.var 1) .nil)) (.cst (.int 0))) (.not (.isi (.idx (.var 1) (.cst (.int 0))) (.ty "str")))))) (.cons (.ret (.cst .non)) .nil) .nil) (.cons (.ifs (.call 22 (.cons (.var 0) (.cons (.var 1) .nil))) (.cons (.ret (.cst (.int 1))) .nil) .nil) (.cons (.asg (.name 3) (.call 21 (.cons (.var 1) .nil))) (.cons (.ifs (.cmp .is (.var 3) (.cst .non)) (.cons (.ret (.cst .non)) .nil) .nil) (.cons (.asg (.name 4) (.cst (.int 1))) (.cons (.for (.name 5) (.over (.var 3)) (.cons (.asg (.name 6) (.call 23 (.cons (.var 0) (.cons (.var 5) (.cons (.bin .sub (.var 2) (.cst (.int 1))) .nil))))) (.cons (.ifs (.cmp .is (.var 6) (.cst .non)) (.cons (.ret (.cst .non)) .nil) .nil) (.cons (.aug 4 .add (.var 6)) .nil)))) (.cons (.ret (.var 4)) .nil)))))))⟩
def fn_Rule___init_24 : Fn := ⟨3, 4, (.cons (.ifs (.not (.call 11 (.cons (.var 1) (.cons (.cst (.int 1)) (.cons (.cst (.int 6)) .nil))))) (.cons .nev .nil) .nil) (.cons (.asg (.name 3) (.call 23 (.cons (.var 1) (.cons (.var 2) (.cons (.cst (.int 8)) .nil))))) (.cons (.ifs (.or (.cmp .is (.var 3) (.cst .non)) (.cmp .gt (.var 3) (.cst (.int 60)))) (.cons .nev .nil) .nil) (.cons (.sta (.var 0) 0 (.var 1)) (.cons (.sta (.var 0) 1 (.var 2)) .nil)))))⟩
def fn_check_wishes_26 : Fn := ⟨2, 2, (.cons (.ifs (.not (.call 13 (.cons (.var 1) (.cons (.att (.var 0) 0) .nil)))) (.cons .nev .nil) .nil) .nil)⟩
def fn_ends_for_27 : Fn := ⟨3, 5, (.cons (.ret (.blt .tuple (.cons (.lc (.ife (.cmp .isIn (.var 3) (.var 2)) (.idx (.var 1) (.var 3)) (.var 4)) (.cons (.name 3) (.cons (.name 4) .nil)) (.enum (.var 0)) .non [3, 4]) .nil))) .nil)⟩
def fn_wishing_28 : Fn := ⟨2, 4, (.cons (.ret (.blt .tuple (.cons (.lc (.var 2) (.cons (.name 2) (.cons (.name 3) .nil)) (.enum (.var 0)) (.som (.not (.call 5 (.cons (.var 3) (.cons (.var 1) .nil))))) [2, 3]) .nil))) .nil)⟩
def fn_outcome_among_29 : Fn := ⟨4, 7, (.cons (.asg (.name 4) (.lst (.cons (.call 17 (.cons (.att (.var 0) 1) (.cons (.var 2) .nil))) .nil))) (.cons (.for (.name 5) (.over (.var 1)) (.cons (.asg (.name 6) (.call 17 (.cons (.att (.var 0) 1) (.cons (.call 27 (.cons (.var 2) (.cons (.var 3) (.cons (.call 28 (.cons (.var 1) (.cons (.var 5) .nil))) .nil)))) .nil)))) (.cons (.exp (.met .append (.var 4) (.cons (.call 6 (.cons (.lst (.cons (.var 6) (.cons (.var 5) .nil))) .nil)) .nil))) .nil))) (.cons (.ret (.call 7 (.cons (.var 4) .nil))) .nil)))⟩
def fn_outcome_of_30 : Fn := ⟨2, 2, (.cons (.ret (.call 29 (.cons (.var 0) (.cons (.var 1) (.cons (.bin .mul (.tup (.cons (.cst (.tup [(.int 0), (.int 1)])) .nil)) (.att (.var 0) 0)) (.cons (.bin .mul (.tup (.cons (.cst (.tup [(.int 1), (.int 1)])) .nil)) (.att (.var 0) 0)) .nil)))))) .nil)⟩
def fn_outcome_31 : Fn := ⟨2, 2, (.cons (.exp (.call 26 (.cons (.var 0) (.cons (.var 1) .nil)))) (.cons (.ret (.call 30 (.cons (.var 0) (.cons (.var 1) .nil)))) .nil))⟩
def fn_all_lots_51 : Fn := ⟨1, 7, (.cons (.asg (.name 1) (.lst (.cons (.tup .nil) .nil))) (.cons (.asg (.name 2) (.lst (.cons (.tup .nil) .nil))) (.cons (.for (.name 3) (.rng1 (.var 0)) (.cons (.asg (.name 4) (.lst .nil)) (.cons (.for (.name 5) (.over (.var 2)) (.cons (.exp (.met .extend (.var 4) (.cons (.lc (.bin .add (.var 5) (.tup (.cons (.var 6) .nil))) (.name 6) (.rng1 (.var 0)) (.som (.or (.cmp .eq (.blt .len (.cons (.var 5) .nil)) (.cst (.int 0))) (.cmp .gt (.var 6) (.idx (.var 5) (.neg (.cst (.int 1))))))) [6]) .nil))) .nil)) (.cons (.asg (.name 2) (.blt .sorted (.cons (.var 4) .nil))) (.cons (.exp (.met .extend (.var 1) (.cons (.var 2) .nil))) .nil))))) (.cons (.ret (.var 1)) .nil))))⟩
def fn_corner_of_52 : Fn := ⟨2, 2, (.cons (.ret (.call 17 (.cons (.att (.var 0) 1) (.cons (.call 27 (.cons (.bin .mul (.tup (.cons (.cst (.tup [(.int 0), (.int 1)])) .nil)) (.att (.var 0) 0)) (.cons (.bin .mul (.tup (.cons (.cst (.tup [(.int 1), (.int 1)])) .nil)) (.att (.var 0) 0)) (.cons (.var 1) .nil)))) .nil)))) .nil)⟩
def fn_check_people_alike_55 : Fn := ⟨2, 2, (.cons (.ifs (.cmp .ne (.att (.var 0) 0) (.att (.var 1) 0)) (.cons .nev .nil) .nil) .nil)⟩
def fn_parted_at_56 : Fn := ⟨2, 3, (.cons (.for (.name 2) (.over (.call 51 (.cons (.att (.var 0) 0) .nil))) (.cons (.ifs (.cmp .ne (.call 52 (.cons (.var 0) (.cons (.var 2) .nil))) (.call 52 (.cons (.var 1) (.cons (.var 2) .nil)))) (.cons (.ret (.var 2)) .nil) .nil) .nil)) (.cons (.ret (.cst .non)) .nil))⟩
def fn_parting_57 : Fn := ⟨2, 2, (.cons (.exp (.call 55 (.cons (.var 0) (.cons (.var 1) .nil)))) (.cons (.ret (.call 56 (.cons (.var 0) (.cons (.var 1) .nil)))) .nil))⟩
def fn_law_dice_1000 : Fn := ⟨1, 2, (.cons (.ret (.lst (.cons (.lc (.blt .abs (.cons (.blt .int (.cons (.var 1) .nil)) .nil)) (.name 1) (.over (.slc (.var 0) .non (.som (.cst (.int 63))))) .non [1]) (.cons (.cst (.int 0)) (.cons (.cst (.int 0)) (.cons (.cst (.int 1)) (.cons (.cst (.int 0)) .nil))))))) .nil)⟩
def fn_law_draw_1001 : Fn := ⟨2, 5, (.cons (.ifs (.and (.cmp .eq (.idx (.var 0) (.cst (.int 2))) (.cst (.int 0))) (.cmp .lt (.idx (.var 0) (.cst (.int 1))) (.blt .len (.cons (.idx (.var 0) (.cst (.int 0))) .nil)))) (.cons (.asg (.name 3) (.idx (.idx (.var 0) (.cst (.int 0))) (.idx (.var 0) (.cst (.int 1))))) (.cons (.sti (.var 0) (.cst (.int 1)) (.bin .add (.idx (.var 0) (.cst (.int 1))) (.cst (.int 1)))) (.cons (.ifs (.cmp .ge (.var 3) (.bin .pow (.cst (.int 10)) (.cst (.int 18)))) (.cons (.sti (.var 0) (.cst (.int 2)) (.var 3)) .nil) (.cons (.sti (.var 0) (.cst (.int 3)) (.bin .mod (.blt .int (.cons (.bin .add (.bin .add (.bin .mul (.idx (.var 0) (.cst (.int 3))) (.cst (.int 69621))) (.bin .mul (.var 3) (.cst (.int 40692)))) (.idx (.var 0) (.cst (.int 1)))) .nil)) (.cst (.int 2147483647)))) .nil)) .nil))) .nil) (.cons (.ifs (.cmp .gt (.idx (.var 0) (.cst (.int 2))) (.cst (.int 0))) (.cons (.asg (.name 4) (.bin .mod (.blt .int (.cons (.idx (.var 0) (.cst (.int 2))) .nil)) (.var 1))) (.cons (.sti (.var 0) (.cst (.int 2)) (.bin .fdiv (.blt .int (.cons (.idx (.var 0) (.cst (.int 2))) .nil)) (.var 1))) (.cons (.ret (.var 4)) .nil))) .nil) (.cons (.sti (.var 0) (.cst (.int 4)) (.bin .add (.idx (.var 0) (.cst (.int 4))) (.cst (.int 1)))) (.cons (.sti (.var 0) (.cst (.int 3)) (.bin .mod (.blt .int (.cons (.bin .add (.bin .add (.bin .mul (.idx (.var 0) (.cst (.int 3))) (.cst (.int 48271))) (.bin .mul (.idx (.var 0) (.cst (.int 4))) (.cst (.int 7919)))) (.cst (.int 1))) .nil)) (.cst (.int 2147483647)))) (.cons (.asg (.name 2) (.bin .mod (.blt .int (.cons (.bin .mul (.idx (.var 0) (.cst (.int 3))) (.bin .add (.bin .fdiv (.idx (.var 0) (.cst (.int 3))) (.cst (.int 1009))) (.cst (.int 69623)))) .nil)) (.cst (.int 2147483399)))) (.cons (.asg (.name 2) (.bin .mod (.blt .int (.cons (.bin .mul (.var 2) (.bin .add (.bin .fdiv (.var 2) (.cst (.int 2003))) (.cst (.int 40693)))) .nil)) (.cst (.int 2147483563)))) (.cons (.ret (.bin .mod (.blt .int (.cons (.bin .fdiv (.var 2) (.cst (.int 16))) .nil)) (.var 1))) .nil)))))))⟩
def fn_law_lowest_1002 : Fn := ⟨2, 4, (.cons (.par 2 3 (.blt .abs (.cons (.var 0) .nil)) (.var 1)) (.cons (.whl (.cmp .gt (.var 3) (.cst (.int 0))) (.cons (.par 2 3 (.var 3) (.bin .mod (.blt .int (.cons (.var 2) .nil)) (.var 3))) .nil)) (.cons (.ret (.tup (.cons (.bin .fdiv (.var 0) (.var 2)) (.cons (.bin .fdiv (.var 1) (.var 2)) .nil)))) .nil)))⟩
def fn_law_sum_1003 : Fn := ⟨3, 3, (.cons (.ret (.call 1002 (.cons (.bin .add (.bin .mul (.idx (.var 0) (.cst (.int 0))) (.idx (.var 1) (.cst (.int 1)))) (.bin .mul (.bin .mul (.var 2) (.idx (.var 1) (.cst (.int 0)))) (.idx (.var 0) (.cst (.int 1))))) (.cons (.bin .mul (.idx (.var 0) (.cst (.int 1))) (.idx (.var 1) (.cst (.int 1)))) .nil)))) .nil)⟩
def fn_law_product_1004 : Fn := ⟨2, 2, (.cons (.ret (.call 1002 (.cons (.bin .mul (.idx (.var 0) (.cst (.int 0))) (.idx (.var 1) (.cst (.int 0)))) (.cons (.bin .mul (.idx (.var 0) (.cst (.int 1))) (.idx (.var 1) (.cst (.int 1)))) .nil)))) .nil)⟩
def fn_law_less_1005 : Fn := ⟨2, 2, (.cons (.ret (.cmp .lt (.bin .mul (.idx (.var 0) (.cst (.int 0))) (.idx (.var 1) (.cst (.int 1)))) (.bin .mul (.idx (.var 1) (.cst (.int 0))) (.idx (.var 0) (.cst (.int 1)))))) .nil)⟩
def fn_law_sorted_1006 : Fn := ⟨1, 5, (.cons (.asg (.name 1) (.lst .nil)) (.cons (.for (.name 2) (.over (.var 0)) (.cons (.asg (.name 3) (.blt .len (.cons (.lc (.var 4) (.name 4) (.over (.var 1)) (.som (.not (.call 1005 (.cons (.var 2) (.cons (.var 4) .nil))))) [4]) .nil))) (.cons (.exp (.met .insert (.var 1) (.cons (.var 3) (.cons (.var 2) .nil)))) .nil))) (.cons (.ret (.var 1)) .nil)))⟩
def fn_law_number_1007 : Fn := ⟨1, 2, (.cons (.asg (.name 1) (.idx (.lst (.cons (.cst (.int 1)) (.cons (.cst (.int 2)) (.cons (.cst (.int 3)) (.cons (.cst (.int 4)) (.cons (.cst (.int 5)) (.cons (.cst (.int 6)) (.cons (.cst (.int 8)) (.cons (.cst (.int 10)) (.cons (.cst (.int 12)) (.cons (.cst (.int 60)) (.cons (.cst (.int 999983)) .nil)))))))))))) (.call 1001 (.cons (.var 0) (.cons (.cst (.int 11)) .nil))))) (.cons (.ret (.call 1002 (.cons (.call 1001 (.cons (.var 0) (.cons (.bin .add (.var 1) (.cst (.int 1))) .nil))) (.cons (.var 1) .nil)))) .nil))⟩
def fn_law_term_1009 : Fn := ⟨4, 9, (.cons (.asg (.name 4) (.call 1001 (.cons (.var 0) (.cons (.cst (.int 8)) .nil)))) (.cons (.ifs (.or (.cmp .eq (.var 2) (.cst (.int 1))) (.cmp .eq (.var 4) (.cst (.int 0)))) (.cons (.ifs (.cmp .eq (.call 1001 (.cons (.var 0) (.cons (.cst (.int 5)) .nil))) (.cst (.int 0))) (.cons (.ret (.tup (.cons (.cst (.str "fixed")) (.cons (.call 1007 (.cons (.var 0) .nil)) .nil)))) .nil) .nil) (.cons (.ret (.tup (.cons (.cst (.str "bid")) (.cons (.call 1001 (.cons (.var 0) (.cons (.var 1) .nil))) .nil)))) .nil)) .nil) (.cons (.asg (.name 5) (.lc (.call 1009 (.cons (.var 0) (.cons (.var 1) (.cons (.bin .sub (.var 2) (.cst (.int 1))) (.cons (.var 3) .nil))))) (.name 7) (.rng1 (.bin .add (.cst (.int 1)) (.call 1001 (.cons (.var 0) (.cons (.cst (.int 3)) .nil))))) .non [7])) (.cons (.ifs (.cmp .eq (.var 4) (.cst (.int 1))) (.cons (.asg (.name 6) (.call 1006 (.cons (.lst (.cons (.call 1007 (.cons (.var 0) .nil)) (.cons (.call 1007 (.cons (.var 0) .nil)) .nil))) .nil))) (.cons (.ret (.tup (.cons (.cst (.str "between")) (.cons (.idx (.var 6) (.cst (.int 0))) (.cons (.idx (.var 6) (.cst (.int 1))) (.cons (.idx (.var 5) (.cst (.int 0))) .nil)))))) .nil)) .nil) (.cons (.ifs (.cmp .eq (.var 4) (.cst (.int 2))) (.cons (.ret (.tup (.cons (.cst (.str "least")) (.cons (.blt .tuple (.cons (.var 5) .nil)) .nil)))) .nil) .nil) (.cons (.ifs (.cmp .eq (.var 4) (.cst (.int 3))) (.cons (.ret (.tup (.cons (.cst (.str "greatest")) (.cons (.blt .tuple (.cons (.var 5) .nil)) .nil)))) .nil) .nil) (.cons (.ifs (.or (.cmp .eq (.var 4) (.cst (.int 4))) (.not (.var 3))) (.cons (.ret (.tup (.cons (.cst (.str "ranked")) (.cons (.bin .add (.cst (.int 1)) (.call 1001 (.cons (.var 0) (.cons (.blt .len (.cons (.var 5) .nil)) .nil)))) (.cons (.blt .tuple (.cons (.var 5) .nil)) .nil))))) .nil) .nil) (.cons (.ret (.tup (.cons (.cst (.str "mean")) (.cons (.blt .tuple (.cons (.lc (.tup (.cons (.bin .add (.cst (.int 1)) (.call 1001 (.cons (.var 0) (.cons (.cst (.int 5)) .nil)))) (.cons (.var 8) .nil))) (.name 8) (.over (.var 5)) .non [8]) .nil)) .nil)))) .nil))))))))⟩
def fn_law_value_1011 : Fn := ⟨2, 7, (.cons (.asg (.name 2) (.idx (.var 0) (.cst (.int 0)))) (.cons (.ifs (.cmp .eq (.var 2) (.cst (.str "bid"))) (.cons (.ret (.idx (.var 1) (.idx (.var 0) (.cst (.int 1))))) .nil) .nil) (.cons (.ifs (.cmp .eq (.var 2) (.cst (.str "fixed"))) (.cons (.ret (.idx (.var 0) (.cst (.int 1)))) .nil) .nil) (.cons (.ifs (.cmp .eq (.var 2) (.cst (.str "mean"))) (.cons (.asg (.name 4) (.tup (.cons (.cst (.int 0)) (.cons (.cst (.int 1)) .nil)))) (.cons (.for (.cons (.name 5) (.cons (.name 6) .nil)) (.over (.idx (.var 0) (.cst (.int 1)))) (.cons (.asg (.name 4) (.call 1003 (.cons (.var 4) (.cons (.call 1004 (.cons (.tup (.cons (.var 5) (.cons (.cst (.int 1)) .nil))) (.cons (.call 1011 (.cons (.var 6) (.cons (.var 1) .nil))) .nil))) (.cons (.cst (.int 1)) .nil))))) .nil)) (.cons (.ret (.call 1004 (.cons (.var 4) (.cons (.tup (.cons (.cst (.int 1)) (.cons (.blt .sum (.cons (.lc (.var 5) (.cons (.name 5) (.cons (.name 6) .nil)) (.over (.idx (.var 0) (.cst (.int 1)))) .non [5, 6]) .nil)) .nil))) .nil)))) .nil))) .nil) (.cons (.ifs (.cmp .eq (.var 2) (.cst (.str "between"))) (.cons (.ret (.idx (.call 1006 (.cons (.lst (.cons (.idx (.var 0) (.cst (.int 1))) (.cons (.idx (.var 0) (.cst (.int 2))) (.cons (.call 1011 (.cons (.idx (.var 0) (.cst (.int 3))) (.cons (.var 1) .nil))) .nil)))) .nil)) (.cst (.int 1)))) .nil) .nil) (.cons (.asg (.name 3) (.call 1006 (.cons (.lc (.call 1011 (.cons (.var 6) (.cons (.var 1) .nil))) (.name 6) (.over (.idx (.var 0) (.neg (.cst (.int 1))))) .non [6]) .nil))) (.cons (.ifs (.cmp .eq (.var 2) (.cst (.str "least"))) (.cons (.ret (.idx (.var 3) (.cst (.int 0)))) .nil) .nil) (.cons (.ifs (.cmp .eq (.var 2) (.cst (.str "greatest"))) (.cons (.ret (.idx (.var 3) (.neg (.cst (.int 1))))) .nil) .nil) (.cons (.ret (.idx (.var 3) (.bin .sub (.blt .len (.cons (.var 3) .nil)) (.idx (.var 0) (.cst (.int 1)))))) .nil)))))))))⟩
def fn_law_at_ends_1034 : Fn := ⟨2, 3, (.cons (.ret (.blt .tuple (.cons (.lc (.ife (.cmp .isIn (.var 2) (.var 1)) (.tup (.cons (.cst (.int 1)) (.cons (.cst (.int 1)) .nil))) (.tup (.cons (.cst (.int 0)) (.cons (.cst (.int 1)) .nil)))) (.name 2) (.rng1 (.var 0)) .non [2]) .nil))) .nil)⟩
def fn_law_corner_1035 : Fn := ⟨3, 3, (.cons (.ret (.call 1011 (.cons (.var 1) (.cons (.call 1034 (.cons (.var 0) (.cons (.var 2) .nil))) .nil)))) .nil)⟩
def fn_law_by_size_1038 : Fn := ⟨1, 4, (.cons (.asg (.name 1) (.lst .nil)) (.cons (.for (.name 2) (.rng1 (.blt .len (.cons (.var 0) .nil))) (.cons (.asg (.name 1) (.bin .add (.var 1) (.blt .sorted (.cons (.lc (.var 3) (.name 3) (.over (.var 0)) (.som (.cmp .eq (.blt .len (.cons (.var 3) .nil)) (.var 2))) [3]) .nil)))) .nil)) (.cons (.ret (.var 1)) .nil)))⟩
def fn_law_lots_1039 : Fn := ⟨1, 4, (.cons (.asg (.name 1) (.lst (.cons (.tup .nil) .nil))) (.cons (.for (.name 2) (.rng1 (.var 0)) (.cons (.asg (.name 1) (.bin .add (.var 1) (.lc (.bin .add (.var 3) (.tup (.cons (.var 2) .nil))) (.name 3) (.over (.var 1)) .non [3]))) .nil)) (.cons (.ret (.call 1038 (.cons (.var 1) .nil))) .nil)))⟩
def fn_law_beside_1047 : Fn := ⟨3, 8, (.cons (.asg (.name 3) (.call 1001 (.cons (.var 0) (.cons (.cst (.int 5)) .nil)))) (.cons (.asg (.name 4) (.call 1007 (.cons (.var 0) .nil))) (.cons (.asg (.name 5) (.blt .tuple (.cons (.lc (.tup (.cons (.cst (.str "bid")) (.cons (.var 7) .nil))) (.name 7) (.rng1 (.var 1)) (.som (.cmp .eq (.call 1001 (.cons (.var 0) (.cons (.cst (.int 2)) .nil))) (.cst (.int 0)))) [7]) .nil))) (.cons (.ifs (.cmp .eq (.var 3) (.cst (.int 0))) (.cons (.ret (.tup (.cons (.cst (.str "greatest")) (.cons (.tup (.cons (.var 2) (.cons (.tup (.cons (.cst (.str "least")) (.cons (.bin .add (.var 5) (.tup (.cons (.tup (.cons (.cst (.str "fixed")) (.cons (.var 4) .nil))) .nil))) .nil))) .nil))) .nil)))) .nil) .nil) (.cons (.ifs (.cmp .eq (.var 3) (.cst (.int 1))) (.cons (.ret (.tup (.cons (.cst (.str "least")) (.cons (.tup (.cons (.var 2) (.cons (.tup (.cons (.cst (.str "greatest")) (.cons (.bin .add (.var 5) (.tup (.cons (.tup (.cons (.cst (.str "fixed")) (.cons (.var 4) .nil))) .nil))) .nil))) .nil))) .nil)))) .nil) .nil) (.cons (.ifs (.cmp .eq (.var 3) (.cst (.int 2))) (.cons (.asg (.name 6) (.call 1006 (.cons (.lst (.cons (.var 4) (.cons (.call 1007 (.cons (.var 0) .nil)) .nil))) .nil))) (.cons (.ret (.tup (.cons (.cst (.str "between")) (.cons (.idx (.var 6) (.cst (.int 0))) (.cons (.idx (.var 6) (.cst (.int 1))) (.cons (.var 2) .nil)))))) .nil)) .nil) (.cons (.ifs (.cmp .eq (.var 3) (.cst (.int 3))) (.cons (.ret (.tup (.cons (.cst (.str "greatest")) (.cons (.tup (.cons (.var 2) (.cons (.var 2) .nil))) .nil)))) .nil) .nil) (.cons (.ret (.call 1009 (.cons (.var 0) (.cons (.var 1) (.cons (.cst (.int 3)) (.cons (.cst (.bl true)) .nil)))))) .nil))))))))⟩
def fn_law_due_1048 : Fn := ⟨3, 4, (.cons (.for (.name 3) (.over (.call 1039 (.cons (.var 0) .nil))) (.cons (.ifs (.cmp .ne (.call 1035 (.cons (.var 0) (.cons (.var 1) (.cons (.var 3) .nil)))) (.call 1035 (.cons (.var 0) (.cons (.var 2) (.cons (.var 3) .nil))))) (.cons (.ret (.var 3)) .nil) .nil) .nil)) (.cons (.ret (.cst .non)) .nil))⟩
def fn_law_is_lot_1049 : Fn := ⟨2, 3, (.cons (.ifs (.cmp .is (.var 1) (.cst .non)) (.cons (.ret (.cmp .is (.var 0) (.cst .non))) .nil) .nil) (.cons (.ifs (.or (.not (.isi (.var 0) (.ty "tuple"))) (.not (.blt .all (.cons (.lc (.and (.isi (.var 2) (.ty "int")) (.not (.isi (.var 2) (.ty "bool")))) (.name 2) (.over (.var 0)) .non [2]) .nil)))) (.cons (.ret (.cst (.bl false))) .nil) .nil) (.cons (.ret (.cmp .eq (.var 0) (.var 1))) .nil)))⟩
def fn_law_1050 : Fn := ⟨1, 13, (.cons (.asg (.name 1) (.call 1000 (.cons (.var 0) .nil))) (.cons (.for (.name 2) (.rng1 (.cst (.int 3))) (.cons (.asg (.name 3) (.idx (.lst (.cons (.cst (.int 1)) (.cons (.cst (.int 2)) (.cons (.cst (.int 3)) (.cons (.cst (.int 4)) (.cons (.cst (.int 5)) (.cons (.cst (.int 2)) (.cons (.cst (.int 3)) (.cons (.cst (.int 4)) (.cons (.cst (.int 3)) (.cons (.cst (.int 6)) .nil))))))))))) (.call 1001 (.cons (.var 1) (.cons (.cst (.int 10)) .nil))))) (.cons (.asg (.name 4) (.call 1009 (.cons (.var 1) (.cons (.var 3) (.cons (.bin .add (.cst (.int 1)) (.call 1001 (.cons (.var 1) (.cons (.cst (.int 3)) .nil)))) (.cons (.cst (.bl true)) .nil)))))) (.cons (.asg (.name 5) (.call 1047 (.cons (.var 1) (.cons (.var 3) (.cons (.var 4) .nil))))) (.cons (.par 8 9 (.make 0 24 (.cons (.var 3) (.cons (.var 4) .nil))) (.make 0 24 (.cons (.var 3) (.cons (.var 5) .nil)))) (.cons (.asg (.name 6) (.call 1048 (.cons (.var 3) (.cons (.var 4) (.cons (.var 5) .nil))))) (.cons (.ifs (.or (.not (.call 1049 (.cons (.call 57 (.cons (.var 8) (.cons (.var 9) .nil))) (.cons (.var 6) .nil)))) (.not (.call 1049 (.cons (.call 57 (.cons (.var 9) (.cons (.var 8) .nil))) (.cons (.var 6) .nil))))) (.cons (.ret (.cst (.bl false))) .nil) .nil) (.cons (.ifs (.cmp .isNot (.call 57 (.cons (.var 8) (.cons (.make 0 24 (.cons (.var 3) (.cons (.var 4) .nil))) .nil))) (.cst .non)) (.cons (.ret (.cst (.bl false))) .nil) .nil) (.cons (.for (.name 7) (.over (.call 1039 (.cons (.var 3) .nil))) (.cons (.asg (.name 10) (.call 1034 (.cons (.var 3) (.cons (.var 7) .nil)))) (.cons (.par 11 12 (.call 31 (.cons (.var 8) (.cons (.var 10) .nil))) (.call 31 (.cons (.var 9) (.cons (.var 10) .nil)))) (.cons (.ifs (.or (.cmp .ne (.var 11) (.call 1035 (.cons (.var 3) (.cons (.var 4) (.cons (.var 7) .nil))))) (.cmp .ne (.cmp .eq (.var 11) (.var 12)) (.cmp .ne (.var 7) (.var 6)))) (.cons (.ret (.cst (.bl false))) .nil) .nil) (.cons (.ifs (.cmp .eq (.var 7) (.var 6)) (.cons .brk .nil) .nil) .nil))))) .nil))))))))) (.cons (.ret (.cst (.bl true))) .nil)))⟩
end CB
namespace Lw
open PySem CB
def tb : Nat → Option Fn
  | 0 => some fn_is_integer_0
  | 1 => some fn_divisor_1
  | 2 => some fn_made_2
  | 3 => some fn_plus_3
  | 4 => some fn_times_4
  | 5 => some fn_is_less_5
  | 6 => some fn_least_of_6
  | 7 => some fn_greatest_of_7
  | 8 => some fn_ascending_8
  | 9 => some fn_middle_9
  | 10 => some fn_is_fraction_10
  | 11 => some fn_is_within_11
  | 12 => some fn_is_number_12
  | 13 => some fn_are_numbers_13
  | 15 => some fn_mean_of_15
  | 16 => some fn_ranked_of_16
  | 17 => some fn_value_of_17
  | 18 => some fn_are_parts_18
  | 19 => some fn_is_weighted_19
  | 20 => some fn_is_bound_20
  | 21 => some fn_parts_told_21
  | 22 => some fn_is_leaf_22
  | 23 => some fn_terms_told_23
  | 24 => some fn_Rule___init_24
  | 26 => some fn_check_wishes_26
  | 27 => some fn_ends_for_27
  | 28 => some fn_wishing_28
  | 29 => some fn_outcome_among_29
  | 30 => some fn_outcome_of_30
  | 31 => some fn_outcome_31
  | 51 => some fn_all_lots_51
  | 52 => some fn_corner_of_52
  | 55 => some fn_check_people_alike_55
  | 56 => some fn_parted_at_56
  | 57 => some fn_parting_57
  | 1000 => some fn_law_dice_1000
  | 1001 => some fn_law_draw_1001
  | 1002 => some fn_law_lowest_1002
  | 1003 => some fn_law_sum_1003
  | 1004 => some fn_law_product_1004
  | 1005 => some fn_law_less_1005
  | 1006 => some fn_law_sorted_1006
  | 1007 => some fn_law_number_1007
  | 1009 => some fn_law_term_1009
  | 1011 => some fn_law_value_1011
  | 1034 => some fn_law_at_ends_1034
  | 1035 => some fn_law_corner_1035
  | 1038 => some fn_law_by_size_1038
  | 1039 => some fn_law_lots_1039
  | 1047 => some fn_law_beside_1047
  | 1048 => some fn_law_due_1048
  | 1049 => some fn_law_is_lot_1049
  | 1050 => some fn_law_1050
  | _ => none
theorem tb_0 : tb 0 = some fn_is_integer_0 := rfl
theorem tb_1 : tb 1 = some fn_divisor_1 := rfl
theorem tb_2 : tb 2 = some fn_made_2 := rfl
theorem tb_3 : tb 3 = some fn_plus_3 := rfl
theorem tb_4 : tb 4 = some fn_times_4 := rfl
theorem tb_5 : tb 5 = some fn_is_less_5 := rfl
theorem tb_6 : tb 6 = some fn_least_of_6 := rfl
theorem tb_7 : tb 7 = some fn_greatest_of_7 := rfl
theorem tb_8 : tb 8 = some fn_ascending_8 := rfl
theorem tb_9 : tb 9 = some fn_middle_9 := rfl
theorem tb_10 : tb 10 = some fn_is_fraction_10 := rfl
theorem tb_11 : tb 11 = some fn_is_within_11 := rfl
theorem tb_12 : tb 12 = some fn_is_number_12 := rfl
theorem tb_13 : tb 13 = some fn_are_numbers_13 := rfl
theorem tb_15 : tb 15 = some fn_mean_of_15 := rfl
theorem tb_16 : tb 16 = some fn_ranked_of_16 := rfl
theorem tb_17 : tb 17 = some fn_value_of_17 := rfl
theorem tb_18 : tb 18 = some fn_are_parts_18 := rfl
theorem tb_19 : tb 19 = some fn_is_weighted_19 := rfl
theorem tb_20 : tb 20 = some fn_is_bound_20 := rfl
theorem tb_21 : tb 21 = some fn_parts_told_21 := rfl
theorem tb_22 : tb 22 = some fn_is_leaf_22 := rfl
theorem tb_23 : tb 23 = some fn_terms_told_23 := rfl
theorem tb_24 : tb 24 = some fn_Rule___init_24 := rfl
theorem tb_26 : tb 26 = some fn_check_wishes_26 := rfl
theorem tb_27 : tb 27 = some fn_ends_for_27 := rfl
theorem tb_28 : tb 28 = some fn_wishing_28 := rfl
theorem tb_29 : tb 29 = some fn_outcome_among_29 := rfl
theorem tb_30 : tb 30 = some fn_outcome_of_30 := rfl
theorem tb_31 : tb 31 = some fn_outcome_31 := rfl
theorem tb_51 : tb 51 = some fn_all_lots_51 := rfl
theorem tb_52 : tb 52 = some fn_corner_of_52 := rfl
theorem tb_55 : tb 55 = some fn_check_people_alike_55 := rfl
theorem tb_56 : tb 56 = some fn_parted_at_56 := rfl
theorem tb_57 : tb 57 = some fn_parting_57 := rfl
theorem tb_1000 : tb 1000 = some fn_law_dice_1000 := rfl
theorem tb_1001 : tb 1001 = some fn_law_draw_1001 := rfl
theorem tb_1002 : tb 1002 = some fn_law_lowest_1002 := rfl
theorem tb_1003 : tb 1003 = some fn_law_sum_1003 := rfl
theorem tb_1004 : tb 1004 = some fn_law_product_1004 := rfl
theorem tb_1005 : tb 1005 = some fn_law_less_1005 := rfl
theorem tb_1006 : tb 1006 = some fn_law_sorted_1006 := rfl
theorem tb_1007 : tb 1007 = some fn_law_number_1007 := rfl
theorem tb_1009 : tb 1009 = some fn_law_term_1009 := rfl
theorem tb_1011 : tb 1011 = some fn_law_value_1011 := rfl
theorem tb_1034 : tb 1034 = some fn_law_at_ends_1034 := rfl
theorem tb_1035 : tb 1035 = some fn_law_corner_1035 := rfl
theorem tb_1038 : tb 1038 = some fn_law_by_size_1038 := rfl
theorem tb_1039 : tb 1039 = some fn_law_lots_1039 := rfl
theorem tb_1047 : tb 1047 = some fn_law_beside_1047 := rfl
theorem tb_1048 : tb 1048 = some fn_law_due_1048 := rfl
theorem tb_1049 : tb 1049 = some fn_law_is_lot_1049 := rfl
theorem tb_1050 : tb 1050 = some fn_law_1050 := rfl
end Lw
/-! Running the small language by simp; loops. -/
namespace CB
open PySem
section
variable (cl : Nat → List T → M T) (σ : Env) (h : Hs)
@[simp] theorem bnd_ret {α β} (a : α) (f : α → M β) : bnd (ret a) f = f a := rfl
theorem bnd_ok_ {α β} (m : M α) (f : α → M β) {a : α} {h1 : Hs} (e : m h = .ok a h1) : bnd m f h = f a h1 := by unfold bnd; rw [e]
@[simp] theorem bnd_ap {α β} (m : M α) (f : α → M β) : bnd m f h = match m h with
  | .ok a h1 => f a h1
  | .exc x h1 => .exc x h1
  | .bad => .bad := rfl
@[simp] theorem ret_ap {α} (a : α) : ret a h = .ok a h := rfl
@[simp] theorem badM_ap {α} : (badM : M α) h = .bad := rfl
@[simp] theorem ofO_some {α} (a : α) : ofO (some a) = ret a := rfl
@[simp] theorem optM_ap {α} (f : Hs → Option α) : optM f h = match f h with
  | some a => .ok a h
  | none => .bad := rfl
@[simp] theorem alloc_ap (o : O) : alloc o h = .ok (.rf h.length) (h ++ [o]) := rfl
@[simp] theorem evE_cst (t : T) : evE cl (.cst t) σ = ret t := rfl
@[simp] theorem evE_var (i : Nat) : evE cl (.var i) σ = ofO (σ[i]?.join) := rfl
@[simp] theorem evE_tup (es : Es) : evE cl (.tup es) σ = bnd (evEs cl es σ) fun ts => if ts.length ≤ SZ then ret (.tup ts) else badM := rfl
@[simp] theorem evE_lst (es : Es) : evE cl (.lst es) σ = bnd (evEs cl es σ) fun ts => if ts.length ≤ SZ then alloc (.lst ts) else badM := rfl
@[simp] theorem evE_bin (o : Bop) (a b : E) : evE cl (.bin o a b) σ = bnd (evE cl a σ) fun x => bnd (evE cl b σ) fun y => binI o x y := rfl
@[simp] theorem evE_neg (a : E) : evE cl (.neg a) σ = bnd (evE cl a σ) fun x => match x with
    | .int i => ret (.int (-i))
    | _ => badM := rfl
@[simp] theorem evE_cmp (o : Cop) (a b : E) : evE cl (.cmp o a b) σ = bnd (evE cl a σ) fun x => bnd (evE cl b σ) fun y => bnd (optM (cmpI o x y)) fun k => ret (.bl k) := rfl
@[simp] theorem evE_chn (o p : Cop) (a b c : E) : evE cl (.chn o p a b c) σ = bnd (evE cl a σ) fun x => bnd (evE cl b σ) fun y => bnd (optM (cmpI o x y)) fun k => if k = true then
      bnd (evE cl c σ) fun z => bnd (optM (cmpI p y z)) fun k => ret (.bl k) else ret (.bl false) := rfl
@[simp] theorem evE_and (a b : E) : evE cl (.and a b) σ = bnd (evE cl a σ) fun x => bnd (optM fun h => tru h x) fun k => if k = true then evE cl b σ else ret x := rfl
@[simp] theorem evE_or (a b : E) : evE cl (.or a b) σ = bnd (evE cl a σ) fun x => bnd (optM fun h => tru h x) fun k => if k = true then ret x else evE cl b σ := rfl
@[simp] theorem evE_not (a : E) : evE cl (.not a) σ = bnd (evE cl a σ) fun x => bnd (optM fun h => tru h x) fun k => ret (.bl (!k)) := rfl
@[simp] theorem evE_ife (c a b : E) : evE cl (.ife c a b) σ = bnd (evE cl c σ) fun x => bnd (optM fun h => tru h x) fun k => if k = true then evE cl a σ else evE cl b σ := rfl
@[simp] theorem evE_idx (a b : E) : evE cl (.idx a b) σ = bnd (evE cl a σ) fun x => bnd (evE cl b σ) fun y => idxI x y := rfl
@[simp] theorem evE_slc (a : E) (lo hi : Eo) : evE cl (.slc a lo hi) σ = bnd (evE cl a σ) fun x => bnd (evEo cl lo σ) fun l => bnd (evEo cl hi σ) fun u => slcI x l u := rfl
@[simp] theorem evE_att (a : E) (f : Nat) : evE cl (.att a f) σ = bnd (evE cl a σ) fun x => optM (attI x f) := rfl
@[simp] theorem evE_call (f : Nat) (es : Es) : evE cl (.call f es) σ = bnd (evEs cl es σ) fun ts => cl f ts := rfl
@[simp] theorem evE_make (c i : Nat) (es : Es) : evE cl (.make c i es) σ = bnd (evEs cl es σ) fun ts => bnd (alloc (.ins c [])) fun x => bnd (cl i (x :: ts)) fun r => match r with
    | .non => ret x
    | _ => badM := rfl
@[simp] theorem evE_blt (b : Blt) (es : Es) : evE cl (.blt b es) σ = bnd (evEs cl es σ) fun ts => bltI b ts := rfl
@[simp] theorem evE_isi (a : E) (k : Kd) : evE cl (.isi a k) σ = bnd (evE cl a σ) fun x => bnd (optM (isiI k x)) fun b => ret (.bl b) := rfl
@[simp] theorem evE_met (m : Mth) (o : E) (es : Es) : evE cl (.met m o es) σ = bnd (evE cl o σ) fun x => bnd (optM fun h => lstOf h x) fun _ => bnd (evEs cl es σ) fun ts => metI m x ts := rfl
/-- one turn of a comprehension -/
noncomputable def lcG (elt : E) (tg : Tg) (cond : Eo) (own : List Nat) : T → M (Option T) := fun t => match tak tg t (wipeE σ own) with
  | some σ2 => bnd (evCond cl cond σ2) fun k => if k = true then bnd (evE cl elt σ2) fun y => ret (some y) else ret none
  | none => badM
theorem evE_rgv (b : Bool) (a : E) : evE cl (.rgv b a) σ = bnd (evE cl a σ) fun x => match x with
    | .int j => if 0 ≤ j ∧ j ≤ 16777216 then (if b = true then ret (.tup (iota 0 j.toNat)) else alloc (.lst (iota 0 j.toNat))) else badM
    | _ => badM := rfl
theorem evE_lc (elt : E) (tg : Tg) (src : Src) (cond : Eo) (own : List Nat) : evE cl (.lc elt tg src cond own) σ = bnd (evSrc cl src σ) fun w => bnd (lcRun w.std (lcG cl σ elt tg cond own) w.its []) fun ys => alloc (.lst ys) := rfl
theorem lc_ok {cl : Nat → List T → M T} {σ : Env} {h h1 h2 : Hs} {elt : E} {tg : Tg} {src : Src} {cond : Eo} {own : List Nat} {w : Wk} {ys : List T} (es : evSrc cl src σ h = .ok w h1) (el : lcRun w.std (lcG cl σ elt tg cond own) w.its [] h1 = .ok ys h2) : evE cl (.lc elt tg src cond own) σ h = .ok (.rf h2.length) (h2 ++ [.lst ys]) := by
  rw [evE_lc]
  unfold bnd
  rw [es]
  dsimp only
  rw [el]
  rfl
@[simp] theorem evEs_nil : evEs cl .nil σ = ret [] := rfl
@[simp] theorem evEs_cons (e : E) (es : Es) : evEs cl (.cons e es) σ = bnd (evE cl e σ) fun x => bnd (evEs cl es σ) fun xs => ret (x :: xs) := rfl
@[simp] theorem evEo_non : evEo cl .non σ = ret none := rfl
@[simp] theorem evEo_som (e : E) : evEo cl (.som e) σ = bnd (evE cl e σ) fun x => match x with
    | .int i => ret (some i)
    | _ => badM := rfl
@[simp] theorem evCond_non : evCond cl .non σ = ret true := rfl
@[simp] theorem evCond_som (e : E) : evCond cl (.som e) σ = bnd (evE cl e σ) fun x => optM fun h => tru h x := rfl
@[simp] theorem evSrc_over (e : E) : evSrc cl (.over e) σ = bnd (evE cl e σ) fun x => optM fun h => walkL h x := rfl
theorem evSrc_rng1 (a : E) : evSrc cl (.rng1 a) σ = bnd (evE cl a σ) fun x => match x with
    | .int j => if rngOk j then ret ⟨iota 0 j.toNat, fun _ => True⟩ else badM
    | _ => badM := rfl
theorem evSrc_rng2 (a b : E) : evSrc cl (.rng2 a b) σ = bnd (evE cl a σ) fun x => bnd (evE cl b σ) fun y => match x, y with
    | .int i, .int j => if rngOk i ∧ rngOk j then ret ⟨iota i (j - i).toNat, fun _ => True⟩ else badM
    | _, _ => badM := rfl
theorem evSrc_rng1_ok {cl : Nat → List T → M T} {σ : Env} {h h1 : Hs} {a : E} {j : Int} (e : evE cl a σ h = .ok (.int j) h1) (r : rngOk j) : evSrc cl (.rng1 a) σ h = .ok ⟨iota 0 j.toNat, fun _ => True⟩ h1 := by
  rw [evSrc_rng1]
  unfold bnd
  rw [e]
  exact congrFun (if_pos r) h1
theorem evSrc_rng2_ok {cl : Nat → List T → M T} {σ : Env} {h h1 h2 : Hs} {a b : E} {i j : Int} (e : evE cl a σ h = .ok (.int i) h1) (e2 : evE cl b σ h1 = .ok (.int j) h2) (r : rngOk i ∧ rngOk j) : evSrc cl (.rng2 a b) σ h = .ok ⟨iota i (j - i).toNat, fun _ => True⟩ h2 := by
  rw [evSrc_rng2]
  unfold bnd
  rw [e]
  dsimp only
  rw [e2]
  exact congrFun (if_pos r) h2
@[simp] theorem evSrc_enum (e : E) : evSrc cl (.enum e) σ = bnd (evE cl e σ) fun x => match x with
    | .tup xs => ret ⟨enumT xs, fun _ => True⟩
    | x => optM fun h => (lstOf h x).map fun xs => ⟨enumT xs, fun h' => lstOf h' x = some xs⟩ := rfl
theorem evSrc_zip (a b : E) : evSrc cl (.zip a b) σ = bnd (evE cl a σ) fun x => bnd (evE cl b σ) fun y => match x, y with
    | .tup xs, .tup ys => ret ⟨zipT xs ys, fun _ => True⟩
    | x, y => optM fun h => (match lstOf h x, lstOf h y with
      | some xs, some ys => some ⟨zipT xs ys, fun h' => lstOf h' x = some xs ∧ lstOf h' y = some ys⟩
      | _, _ => none) := rfl
@[simp] theorem thenO_ap {α} (m : M α) (f : α → Hs → Out) : thenO m σ h f = match m h with
  | .ok a h1 => f a h1
  | .exc x h1 => .exc x σ h1
  | .bad => .bad := rfl
theorem thenO_ok {α} (m : M α) (f : α → Hs → Out) {a : α} {h1 : Hs} (e : m h = .ok a h1) : thenO m σ h f = f a h1 := by unfold thenO; rw [e]
@[simp] theorem exS_exp (e : E) : exS cl (.exp e) σ h = thenO (evE cl e σ) σ h fun _ h1 => .nx σ h1 := rfl
@[simp] theorem exS_asg (tg : Tg) (e : E) : exS cl (.asg tg e) σ h = thenO (evE cl e σ) σ h fun x h1 => match tak tg x σ with
    | some σ1 => .nx σ1 h1
    | none => .bad := rfl
@[simp] theorem exS_par (i j : Nat) (a b : E) : exS cl (.par i j a b) σ h = thenO (evE cl a σ) σ h fun x h1 => thenO (evE cl b σ) σ h1 fun y h2 => .nx ((σ.set i (some x)).set j (some y)) h2 := rfl
@[simp] theorem exS_aug (i : Nat) (o : Bop) (e : E) : exS cl (.aug i o e) σ h = match σ[i]?.join with
    | some x => thenO (evE cl e σ) σ h fun y h1 => thenO (augI o x y) σ h1 fun z h2 => .nx (σ.set i (some z)) h2
    | none => .bad := rfl
@[simp] theorem exS_sti (o i e : E) : exS cl (.sti o i e) σ h = thenO (evE cl e σ) σ h fun v h1 => thenO (evE cl o σ) σ h1 fun x h2 => thenO (evE cl i σ) σ h2 fun y h3 => match x, y with
    | .rf a, .int k => (match h3[a]? with
      | some (.lst xs) => (match L2.ixN xs.length k with
        | some j => .nx σ (h3.set a (.lst (xs.set j v)))
        | none => .bad)
      | _ => .bad)
    | _, _ => .bad := rfl
@[simp] theorem exS_sta (o : E) (f : Nat) (e : E) : exS cl (.sta o f e) σ h = thenO (evE cl e σ) σ h fun v h1 => thenO (evE cl o σ) σ h1 fun x h2 => match x with
    | .rf a => (match h2[a]? with
      | some (.ins c fs) => if fs.length < 900 then .nx σ (h2.set a (.ins c (putN f v fs))) else .bad
      | _ => .bad)
    | _ => .bad := rfl
@[simp] theorem exS_ret (e : E) : exS cl (.ret e) σ h = thenO (evE cl e σ) σ h fun x h1 => .ret x h1 := rfl
@[simp] theorem exS_retN : exS cl .retN σ h = .ret .non h := rfl
@[simp] theorem exS_ifs (c : E) (a b : Ss) : exS cl (.ifs c a b) σ h = thenO (evCond cl (.som c) σ) σ h fun k h1 => if k = true then exSs cl a σ h1 else exSs cl b σ h1 := rfl
noncomputable def whF (c : E) (b : Ss) : Env → Hs → Tn := fun σ h => match evCond cl (.som c) σ h with
      | .ok true h1 => (match exSs cl b σ h1 with
        | .nx σ2 h2 => .again σ2 h2
        | .cnt σ2 h2 => .again σ2 h2
        | .brk σ2 h2 => .done (.nx σ2 h2)
        | o => .done o)
      | .ok false h1 => .done (.nx σ h1)
      | .exc x h1 => .done (.exc x σ h1)
      | .bad => .done .bad
theorem exS_whl (c : E) (b : Ss) : exS cl (.whl c b) σ h = whRun (whF cl c b) σ h := rfl
theorem exS_for (tg : Tg) (src : Src) (b : Ss) : exS cl (.for tg src b) σ h = thenO (evSrc cl src σ) σ h fun w h1 => forRun w.std tg (exSs cl b) w.its σ h1 := rfl
@[simp] theorem exS_brk : exS cl .brk σ h = .brk σ h := rfl
@[simp] theorem exS_cnt : exS cl .cnt σ h = .cnt σ h := rfl
@[simp] theorem exS_pas : exS cl .pas σ h = .nx σ h := rfl
@[simp] theorem exSs_nil : exSs cl .nil σ h = .nx σ h := rfl
@[simp] theorem exSs_cons (s : S) (r : Ss) : exSs cl (.cons s r) σ h = match exS cl s σ h with
    | .nx σ1 h1 => exSs cl r σ1 h1
    | o => o := rfl
end
@[simp] theorem tak_name (i : Nat) (t : T) (σ : Env) : tak (.name i) t σ = some (σ.set i (some t)) := by cases t <;> rfl
@[simp] theorem tak_nil (σ : Env) : tak .nil (.tup []) σ = some σ := rfl
@[simp] theorem tak_cons (a r : Tg) (x : T) (xs : List T) (σ : Env) : tak (.cons a r) (.tup (x :: xs)) σ = (tak a x σ).bind (tak r (.tup xs)) := rfl
@[simp] theorem wipeE_nil (σ : Env) : wipeE σ [] = σ := rfl
@[simp] theorem wipeE_cons (σ : Env) (v : Nat) (vs : List Nat) : wipeE σ (v :: vs) = (wipeE σ vs).set v none := rfl
/-! ### calls -/
theorem callN_eq {tb : Nat → Option Fn} {d f : Nat} {fn : Fn} {ts : List T} (h : tb f = some fn) (hd : 0 < d) : callN tb d f ts = runF (callN tb (d - 1)) fn ts := by
  cases d with
  | zero => cases hd
  | succ d =>
    show (match tb f with
      | some fn => runF (callN tb d) fn ts
      | none => badM) = _
    rw [h]; rfl
theorem runF_eq {cl : Nat → List T → M T} {np ns : Nat} {b : Ss} {ts : List T} {h : Hs} (e : ts.length = np) (hle : np ≤ ns) : runF cl ⟨np, ns, b⟩ ts h = match exSs cl b (ts.map some ++ List.replicate (ns - np) none) h with
    | .nx _ h1 => .ok .non h1
    | .ret t h1 => .ok t h1
    | .exc x _ h1 => .exc x h1
    | _ => .bad := by
  unfold runF
  exact if_pos ⟨e, hle⟩
/-! ### while -/
theorem whN_mono {f : Env → Hs → Tn} : ∀ {n k : Nat} {σ : Env} {h : Hs} {o : Out}, whN f n σ h = some o → whN f (n + k) σ h = some o
  | 0, k, σ, h, o, e => by cases e
  | n + 1, k, σ, h, o, e => by
    rw [Nat.add_right_comm]
    unfold whN at e ⊢
    cases q : f σ h with
    | again σ2 h2 => rw [q] at e; exact whN_mono e
    | done o2 => rw [q] at e; exact e
theorem whN_det {f : Env → Hs → Tn} {n m : Nat} {σ : Env} {h : Hs} {o o' : Out} (a : whN f n σ h = some o) (b : whN f m σ h = some o') : o = o' := by
  have h1 := whN_mono (k := m) a
  have h2 := whN_mono (k := n) b
  rw [Nat.add_comm m n, h1] at h2
  exact Option.some.inj h2
theorem whRun_of {f : Env → Hs → Tn} {n : Nat} {σ : Env} {h : Hs} {o : Out} (a : whN f n σ h = some o) : whRun f σ h = o := by
  unfold whRun
  have q : ∃ n o, whN f n σ h = some o := ⟨n, o, a⟩
  rw [dif_pos q]
  exact whN_det (Classical.choose_spec q).choose_spec a
theorem whRun_done {f : Env → Hs → Tn} {σ : Env} {h : Hs} {o : Out} (a : f σ h = .done o) : whRun f σ h = o := whRun_of (n := 1) (by unfold whN; rw [a])
theorem whRun_again {f : Env → Hs → Tn} {σ σ2 : Env} {h h2 : Hs} (a : f σ h = .again σ2 h2) (hne : ∃ n o, whN f n σ2 h2 = some o) : whRun f σ h = whRun f σ2 h2 := by
  obtain ⟨n, o, e⟩ := hne
  rw [whRun_of e]
  exact whRun_of (n := n + 1) (by show (match f σ h with | .again σ2 h2 => whN f n σ2 h2 | .done o => some o) = some o; rw [a]; exact e)
/-- a while that comes to an end: by a measure -/
theorem while_ends {f : Env → Hs → Tn} (P : Env → Hs → Prop) (μ : Env → Hs → Nat) (Q : Out → Prop)
    (hs : ∀ σ h, P σ h → (∃ o, f σ h = .done o ∧ Q o) ∨ ∃ σ2 h2, f σ h = .again σ2 h2 ∧ P σ2 h2 ∧ μ σ2 h2 < μ σ h) {σ : Env} {h : Hs} (p : P σ h) : Q (whRun f σ h) := by
  have key : ∀ n σ h, μ σ h < n → P σ h → ∃ m o, whN f m σ h = some o ∧ Q o := by
    intro n
    induction n with
    | zero => intro σ h hn; exact absurd hn (Nat.not_lt_zero _)
    | succ n ih =>
      intro σ h hn p
      rcases hs σ h p with ⟨o, e, q⟩ | ⟨σ2, h2, e, p2, hlt⟩
      · exact ⟨1, o, by unfold whN; rw [e], q⟩
      · obtain ⟨m, o, e2, q⟩ := ih σ2 h2 (by omega) p2
        exact ⟨m + 1, o, by show (match f σ h with | .again σ2 h2 => whN f m σ2 h2 | .done o => some o) = some o; rw [e]; exact e2, q⟩
  obtain ⟨m, o, e, q⟩ := key _ σ h (Nat.lt_succ_self _) p
  rw [whRun_of e]; exact q
/-! ### for, comprehensions over what stands -/
theorem forRun_nil {std : Hs → Prop} {tg : Tg} {body : Env → Hs → Out} {σ : Env} {h : Hs} (s : std h) : forRun std tg body [] σ h = .nx σ h := by
  unfold forRun; exact if_pos s
open Classical in
theorem forRun_cons {std : Hs → Prop} {tg : Tg} {body : Env → Hs → Out} {t : T} {ts : List T} {σ σ1 : Env} {h : Hs} (s : std h) (e : tak tg t σ = some σ1) : forRun std tg body (t :: ts) σ h = match body σ1 h with
        | .nx σ2 h2 => forRun std tg body ts σ2 h2
        | .cnt σ2 h2 => forRun std tg body ts σ2 h2
        | .brk σ2 h2 => .nx σ2 h2
        | o => o := by
  show (if std h then (match tak tg t σ with
      | some σ1 => (match body σ1 h with
        | .nx σ2 h2 => forRun std tg body ts σ2 h2
        | .cnt σ2 h2 => forRun std tg body ts σ2 h2
        | .brk σ2 h2 => .nx σ2 h2
        | o => o)
      | none => .bad) else .bad) = _
  rw [if_pos s, e]
theorem lcRun_nil {std : Hs → Prop} {f : T → M (Option T)} {acc : List T} {h : Hs} (s : std h) : lcRun std f [] acc h = .ok acc h := by
  unfold lcRun; exact if_pos s
theorem lcRun_open {std : Hs → Prop} {f : T → M (Option T)} {t : T} {ts acc : List T} {h : Hs} (s : std h) : lcRun std f (t :: ts) acc h = bnd (noX (f t)) (fun o => match o with
      | some y => if acc.length < SZ then lcRun std f ts (acc ++ [y]) else badM
      | none => lcRun std f ts acc) h := by
  conv => lhs; unfold lcRun
  exact if_pos s
theorem lcRun_some {std : Hs → Prop} {f : T → M (Option T)} {t y : T} {ts acc : List T} {h h1 : Hs} (s : std h) (e : f t h = .ok (some y) h1) (ha : acc.length < SZ) : lcRun std f (t :: ts) acc h = lcRun std f ts (acc ++ [y]) h1 := by
  have e' : noX (f t) h = .ok (some y) h1 := by unfold noX; rw [e]
  rw [lcRun_open s, bnd_ok_ h _ _ e']
  exact congrFun (if_pos ha) h1
theorem lcRun_none {std : Hs → Prop} {f : T → M (Option T)} {t : T} {ts acc : List T} {h h1 : Hs} (s : std h) (e : f t h = .ok none h1) : lcRun std f (t :: ts) acc h = lcRun std f ts acc h1 := by
  have e' : noX (f t) h = .ok none h1 := by unfold noX; rw [e]
  rw [lcRun_open s, bnd_ok_ h _ _ e']
/-- each element without a change of the heap -/
theorem lcRun_pure {std : Hs → Prop} {f : T → M (Option T)} {h : Hs} (s : std h) : ∀ {ts acc : List T} {g : T → Option T}, (∀ t ∈ ts, f t h = .ok (g t) h) → acc.length + ts.length ≤ SZ → lcRun std f ts acc h = .ok (acc ++ ts.filterMap g) h
  | [], acc, g, _, _ => by rw [lcRun_nil s]; simp
  | t :: ts, acc, g, hf, hl => by
    have e := hf t List.mem_cons_self
    simp only [List.length_cons] at hl
    rw [List.filterMap_cons]
    cases q : g t with
    | none =>
      rw [q] at e
      rw [lcRun_none s e]
      exact lcRun_pure s (fun u hu => hf u (List.mem_cons_of_mem _ hu)) (by omega)
    | some y =>
      rw [q] at e
      rw [lcRun_some s e (by omega), lcRun_pure s (fun u hu => hf u (List.mem_cons_of_mem _ hu)) (by simp; omega), List.append_assoc]
      rfl
theorem lcRun_map {std : Hs → Prop} {f : T → M (Option T)} {h : Hs} (s : std h) {ts : List T} {g : T → T} (hf : ∀ t ∈ ts, f t h = .ok (some (g t)) h) (hl : ts.length ≤ SZ) : lcRun std f ts [] h = .ok (ts.map g) h := by
  rw [lcRun_pure (g := fun t => some (g t)) s hf (by simpa using hl)]
  simp
end CB

/-! Fractions as trees; sizes. -/
namespace CB
open PySem
def fr (q : Rat) : T := .tup [.int q.num, .int (q.den : Int)]
/-- below 2 ^ n, above and below the line -/
def Sz (n : Nat) (q : Rat) : Prop := q.num.natAbs < 2 ^ n ∧ q.den < 2 ^ n
theorem Sz.mono {n m : Nat} {q : Rat} (h : Sz n q) (l : n ≤ m) : Sz m q := ⟨Nat.lt_of_lt_of_le h.1 (Nat.pow_le_pow_right (by decide) l), Nat.lt_of_lt_of_le h.2 (Nat.pow_le_pow_right (by decide) l)⟩
theorem mulOk_of {i j : Int} {a b : Nat} (ha : i.natAbs < 2 ^ a) (hb : j.natAbs < 2 ^ b) (h : a + b ≤ 900000) : mulOk i j = true := by
  have x := PySem.Flt.log2_lt_of (Nat.succ_pos a) (Nat.lt_of_lt_of_le ha (Nat.pow_le_pow_right (by decide) (Nat.le_succ a)))
  have y := PySem.Flt.log2_lt_of (Nat.succ_pos b) (Nat.lt_of_lt_of_le hb (Nat.pow_le_pow_right (by decide) (Nat.le_succ b)))
  unfold mulOk
  exact decide_eq_true (by omega)
theorem divOk_of {j : Int} {b : Nat} (h : 0 < j) (hb : j.natAbs < 2 ^ b) (hl : b < 9000) : divOk j = true := by
  have y := PySem.Flt.log2_lt_of (Nat.succ_pos b) (Nat.lt_of_lt_of_le hb (Nat.pow_le_pow_right (by decide) (Nat.le_succ b)))
  unfold divOk
  rw [Bool.and_eq_true]
  exact ⟨decide_eq_true h, decide_eq_true (by omega)⟩
theorem mul_sz {i j : Int} {a b : Nat} (ha : i.natAbs < 2 ^ a) (hb : j.natAbs < 2 ^ b) : (i * j).natAbs < 2 ^ (a + b) := by
  rw [Int.natAbs_mul, Nat.pow_add]
  exact Nat.mul_lt_mul'' ha hb
theorem add_sz {i j : Int} {a : Nat} (ha : i.natAbs < 2 ^ a) (hb : j.natAbs < 2 ^ a) : (i + j).natAbs < 2 ^ (a + 1) := by
  have : (i + j).natAbs ≤ i.natAbs + j.natAbs := Int.natAbs_add_le i j
  rw [Nat.pow_succ]
  omega
theorem den_cast {q : Rat} {n : Nat} (h : q.den < 2 ^ n) : ((q.den : Int)).natAbs < 2 ^ n := by simpa using h
theorem den_pos' (q : Rat) : 0 < (q.den : Int) := by have := q.den_pos; omega
/-- the fraction that made tells -/
theorem divInt_fr {a b : Int} (hb : 0 < b) : fr (Rat.divInt a b) = .tup [.int (a / (Int.gcd a b : Int)), .int (b / (Int.gcd a b : Int))] := by
  unfold fr
  have hg : (Int.gcd b a : Int) = (Int.gcd a b : Int) := by rw [Int.gcd_comm]
  rw [Rat.num_divInt, Rat.den_divInt, if_neg (by omega), Int.sign_eq_one_of_pos hb, Int.one_mul]
  congr 3
  · rw [hg]
  · congr 2
    rw [Int.natCast_ediv, Int.natAbs_of_nonneg (by omega), hg]
theorem divInt_sz {a b : Int} {n : Nat} (hb : 0 < b) (ha : a.natAbs < 2 ^ n) (hb2 : b.natAbs < 2 ^ n) : Sz n (Rat.divInt a b) := by
  refine ⟨?_, ?_⟩
  · rw [Rat.num_divInt, Int.sign_eq_one_of_pos hb, Int.one_mul]
    exact Nat.lt_of_le_of_lt (Int.natAbs_ediv_le_natAbs a _) ha
  · rw [Rat.den_divInt, if_neg (by omega)]
    exact Nat.lt_of_le_of_lt (Nat.div_le_self _ _) hb2
theorem add_divInt (p q : Rat) : p + q = Rat.divInt (p.num * q.den + q.num * p.den) (p.den * q.den) := by
  rw [Rat.add_def']
  rw [← Rat.divInt_ofNat]; simp
theorem mul_divInt (p q : Rat) : p * q = Rat.divInt (p.num * q.num) (p.den * q.den) := by
  rw [Rat.mul_def']
  rw [← Rat.divInt_ofNat]; simp
theorem fr_inj {p q : Rat} (h : fr p = fr q) : p = q := by
  unfold fr at h
  injection h with h
  simp at h
  exact Rat.ext h.1 (by have := h.2; omega)
theorem gcd_sz {a b : Int} {n : Nat} (hb : 0 < b) (h : b.natAbs < 2 ^ n) : ((Int.gcd a b : Int)).natAbs < 2 ^ n := by
  have : Int.gcd a b ≤ b.natAbs := Nat.le_of_dvd (by omega) (Nat.gcd_dvd_right _ _)
  simp
  omega
theorem gcd_pos' {a b : Int} (hb : 0 < b) : (0 : Int) < (Int.gcd a b : Int) := by
  have := Int.gcd_pos_of_ne_zero_right a (b := b) (by omega)
  omega
end CB

/-! Frames; walks with an invariant. -/
namespace CB
open PySem
/-- the heap grew, and but for some addresses it stands -/
def Gs (A : List Nat) (h h' : Hs) : Prop := h.length ≤ h'.length ∧ ∀ i, i < h.length → i ∉ A → h'[i]? = h[i]?
theorem Gs.refl (A : List Nat) (h : Hs) : Gs A h h := ⟨Nat.le_refl _, fun _ _ _ => rfl⟩
theorem Gs.trans {A : List Nat} {h h1 h2 : Hs} (a : Gs A h h1) (b : Gs A h1 h2) : Gs A h h2 :=
  ⟨Nat.le_trans a.1 b.1, fun i hi hA => (b.2 i (Nat.lt_of_lt_of_le hi a.1) hA).trans (a.2 i hi hA)⟩
theorem Gs.sub {A B : List Nat} {h h' : Hs} (a : Gs A h h') (s : ∀ i ∈ A, i ∈ B) : Gs B h h' := ⟨a.1, fun i hi hB => a.2 i hi fun q => hB (s i q)⟩
theorem Gs.nil {B : List Nat} {h h' : Hs} (a : Gs [] h h') : Gs B h h' := a.sub fun _ q => by cases q
theorem Gs.app (A : List Nat) (h e : Hs) : Gs A h (h ++ e) := ⟨by simp, fun i hi _ => List.getElem?_append_left hi⟩
theorem Gs.set {a : Nat} (A : List Nat) (h : Hs) (o : O) (m : a ∈ A) : Gs A h (h.set a o) := ⟨by simp, fun i hi hA => List.getElem?_set_ne (fun (e : a = i) => hA (e ▸ m))⟩
/-- what was made behind a heap may change -/
theorem Gs.new {A B : List Nat} {h h1 h2 : Hs} (a : Gs A h h1) (b : Gs B h1 h2) (f : ∀ i ∈ B, i ∈ A ∨ h.length ≤ i) : Gs A h h2 :=
  ⟨Nat.le_trans a.1 b.1, fun i hi hA => (b.2 i (Nat.lt_of_lt_of_le hi a.1) fun q => by rcases f i q with r | r; exact hA r; omega).trans (a.2 i hi hA)⟩
theorem Gs.at {A : List Nat} {h h' : Hs} (g : Gs A h h') {i : Nat} {o : O} (e : h[i]? = some o) (n : i ∉ A) : h'[i]? = some o := by
  rw [g.2 i (by rw [List.getElem?_eq_some_iff] at e; exact e.1) n]; exact e
theorem lstOf_gs {A : List Nat} {h h' : Hs} (g : Gs A h h') {t : T} {xs : List T} (e : lstOf h t = some xs) (n : ∀ a, t = .rf a → a ∉ A) : lstOf h' t = some xs := by
  cases t with
  | rf a =>
    unfold lstOf at e ⊢
    dsimp only at e ⊢
    cases q : h[a]? with
    | none => rw [q] at e; cases e
    | some o => rw [g.at q (n a rfl)]; rw [q] at e; exact e
  | frz ns => exact e
  | _ => cases e
/-- a run that ends well -/
def Ok {α : Type} (A : List Nat) (m : M α) (h : Hs) (P : α → Hs → Prop) : Prop := ∃ a h', m h = .ok a h' ∧ Gs A h h' ∧ P a h'
theorem Ok.mono {α : Type} {A B : List Nat} {m : M α} {h : Hs} {P Q : α → Hs → Prop} (o : Ok A m h P) (s : ∀ i ∈ A, i ∈ B) (f : ∀ a h', Gs A h h' → P a h' → Q a h') : Ok B m h Q := by
  obtain ⟨a, h', e, g, p⟩ := o
  exact ⟨a, h', e, g.sub s, f a h' g p⟩
/-! ### lists -/
inductive All2 {α β : Type} (Q : α → β → Prop) : List α → List β → Prop
  | nil : All2 Q [] []
  | cons {a b as bs} : Q a b → All2 Q as bs → All2 Q (a :: as) (b :: bs)
theorem All2.len {α β : Type} {Q : α → β → Prop} {as : List α} {bs : List β} (a : All2 Q as bs) : as.length = bs.length := by
  induction a with
  | nil => rfl
  | cons _ _ ih => simp [ih]
/-- a comprehension with an invariant -/
theorem lcRun_go {std : Hs → Prop} {f : T → M (Option T)} (I : Nat → Hs → Prop) (Q : Nat → T → T → Prop) (hs : ∀ k h, I k h → std h) :
    ∀ {ts acc : List T} {k : Nat} {h : Hs}, I k h → (∀ i t, ts[i]? = some t → ∀ h, I (k + i) h → ∃ y h', f t h = .ok (some y) h' ∧ Q (k + i) t y ∧ I (k + i + 1) h') → acc.length + ts.length ≤ SZ →
    ∃ ys h', lcRun std f ts acc h = .ok (acc ++ ys) h' ∧ ys.length = ts.length ∧ (∀ i t y, ts[i]? = some t → ys[i]? = some y → Q (k + i) t y) ∧ I (k + ts.length) h'
  | [], acc, k, h, i0, _, _ => ⟨[], h, by rw [lcRun_nil (hs _ _ i0)]; simp, rfl, fun i t y e _ => by simp at e, i0⟩
  | t :: ts, acc, k, h, i0, hf, hl => by
    obtain ⟨y, h1, e, q, i1⟩ := hf 0 t rfl h i0
    simp only [List.length_cons] at hl
    obtain ⟨ys, h2, e2, l2, q2, i2⟩ := lcRun_go I Q hs (ts := ts) (acc := acc ++ [y]) (k := k + 1) i1 (fun i t e h ih => by
      have z := hf (i + 1) t (by simpa using e) h (by rw [← Nat.add_assoc, Nat.add_right_comm]; exact ih)
      rw [show k + (i + 1) = k + 1 + i by omega] at z
      exact z) (by simp; omega)
    refine ⟨y :: ys, h2, ?_, by simp [l2], ?_, by rw [show k + (t :: ts).length = k + 1 + ts.length by simp; omega]; exact i2⟩
    · rw [lcRun_some (hs _ _ i0) e (by omega), e2]; simp
    · intro i t' y' ea eb
      cases i with
      | zero => simp at ea eb; subst ea; subst eb; exact q
      | succ i =>
        have z := q2 i t' y' (by simpa using ea) (by simpa using eb)
        rw [show k + (i + 1) = k + 1 + i by omega]
        exact z
/-- a for with an invariant, whose body ends its turns -/
theorem forRun_go {std : Hs → Prop} {tg : Tg} {body : Env → Hs → Out} (I : Nat → Env → Hs → Prop) (hs : ∀ k σ h, I k σ h → std h) :
    ∀ {ts : List T} {k : Nat} {σ : Env} {h : Hs}, I k σ h → (∀ i t, ts[i]? = some t → ∀ σ h, I (k + i) σ h → ∃ σ1, tak tg t σ = some σ1 ∧ ∃ σ2 h2, (body σ1 h = .nx σ2 h2 ∨ body σ1 h = .cnt σ2 h2) ∧ I (k + i + 1) σ2 h2) →
    ∃ σ' h', forRun std tg body ts σ h = .nx σ' h' ∧ I (k + ts.length) σ' h'
  | [], k, σ, h, i0, _ => ⟨σ, h, forRun_nil (hs _ _ _ i0), i0⟩
  | t :: ts, k, σ, h, i0, hf => by
    obtain ⟨σ1, e1, σ2, h2, e2, i2⟩ := hf 0 t rfl σ h i0
    obtain ⟨σ3, h3, e3, i3⟩ := forRun_go I hs (ts := ts) (k := k + 1) i2 (fun i t e σ h ih => by
      have z := hf (i + 1) t (by simpa using e) σ h (by rw [← Nat.add_assoc, Nat.add_right_comm]; exact ih)
      rw [show k + (i + 1) = k + 1 + i by omega] at z
      exact z)
    refine ⟨σ3, h3, ?_, by rw [show k + (t :: ts).length = k + 1 + ts.length by simp; omega]; exact i3⟩
    rw [forRun_cons (hs _ _ _ i0) e1]
    rcases e2 with e2 | e2 <;> rw [e2] <;> exact e3
theorem iota_get {lo : Int} {n i : Nat} {t : T} (e : (iota lo n)[i]? = some t) : t = .int (lo + i) ∧ i < n := by
  unfold iota at e
  rw [List.getElem?_map] at e
  rcases Nat.lt_or_ge i n with q | q
  · rw [List.getElem?_range q] at e; simp at e; exact ⟨e.symm, q⟩
  · rw [List.getElem?_eq_none (by simpa using q)] at e; cases e
theorem iota_len (lo : Int) (n : Nat) : (iota lo n).length = n := by simp [iota]
/-- a call of a def -/
theorem call_of {tb : Nat → Option Fn} {d f np ns : Nat} {b : Ss} {ts : List T} {h h' : Hs} {r : T} (e : tb f = some ⟨np, ns, b⟩) (hd : 0 < d) (hl : ts.length = np ∧ np ≤ ns)
    (q : (exSs (callN tb (d - 1)) b (ts.map some ++ List.replicate (ns - np) none) h = .ret r h') ∨ (r = .non ∧ ∃ σ, exSs (callN tb (d - 1)) b (ts.map some ++ List.replicate (ns - np) none) h = .nx σ h')) : callN tb d f ts h = .ok r h' := by
  rw [callN_eq e hd, runF_eq hl.1 hl.2]
  rcases q with q | ⟨rfl, σ, q⟩ <;> rw [q]
end CB

/-! The package's fractions. -/
namespace CB
open PySem
/-! ### plain facts -/
theorem datS_int (h : Hs) (i : Int) : datS h (.int i) = some (.int i) := by simp [datS, dat, SeqAt.shaped, PyData.canLay0, PyData.depth]
@[simp] theorem eqI_int (h : Hs) (i j : Int) : eqI h (.int i) (.int j) = some (decide (i = j)) := by
  simp [eqI, datS_int, PyData.eqv]
  exact Bool.beq_eq_decide_eq i j
theorem datS_str (h : Hs) (s : Str) (e : PyData.strOk s = true) : datS h (.str s) = some (.str s) := by simp [datS, dat, SeqAt.shaped, PyData.canLay0, PyData.depth, e]
theorem eqI_str (h : Hs) (s u : Str) (e : PyData.strOk s = true) (e2 : PyData.strOk u = true) : eqI h (.str s) (.str u) = some (s == u) := by
  simp [eqI, datS_str, e, e2, PyData.eqv]
@[simp] theorem seqOf_tup (h : Hs) (xs : List T) : seqOf h (.tup xs) = some xs := rfl
theorem atI_nat {α} (xs : List α) (i : Nat) : L2.atI xs (i : Int) = xs[i]? := by
  unfold L2.atI L2.ixN
  rw [if_pos (by omega)]
  split
  · simp
  · rw [List.getElem?_eq_none (by omega)]; rfl
@[simp] theorem atI_zero {α} (xs : List α) : L2.atI xs 0 = xs[0]? := atI_nat xs 0
@[simp] theorem atI_one {α} (xs : List α) : L2.atI xs 1 = xs[1]? := atI_nat xs 1
@[simp] theorem atI_two {α} (xs : List α) : L2.atI xs 2 = xs[2]? := atI_nat xs 2
@[simp] theorem atI_three {α} (xs : List α) : L2.atI xs 3 = xs[3]? := atI_nat xs 3
@[simp] theorem atI_four {α} (xs : List α) : L2.atI xs 4 = xs[4]? := atI_nat xs 4
@[simp] theorem idxI_ap (h : Hs) (x : T) (i : Int) : idxI x (.int i) h = match (seqOf h x).bind fun xs => L2.atI xs i with | some a => .ok a h | none => .bad := by
  show (optM fun h => (seqOf h x).bind fun xs => L2.atI xs i) h = _
  rw [optM_ap]
  generalize (seqOf h x).bind (fun xs => L2.atI xs i) = o
  cases o <;> rfl
@[simp] theorem SZ_eq : SZ = 16777216 := rfl
@[simp] theorem bltI_abs (i : Int) : bltI .abs [.int i] = ret (.int i.natAbs) := by
  show ret (T.int (if i < 0 then -i else i)) = _
  congr 2
  split <;> omega
theorem binI_mul {i j : Int} {a b : Nat} (ha : i.natAbs < 2 ^ a) (hb : j.natAbs < 2 ^ b) (h : a + b ≤ 900000) : binI .mul (.int i) (.int j) = ret (.int (i * j)) := by
  show (if mulOk i j then _ else _) = _
  rw [mulOk_of ha hb h]; rfl
theorem binI_fdiv {i j : Int} {b : Nat} (h : 0 < j) (hb : j.natAbs < 2 ^ b) (hl : b < 9000) : binI .fdiv (.int i) (.int j) = ret (.int (i / j)) := by
  show (if divOk j then _ else _) = _
  rw [divOk_of h hb hl]; rfl
theorem binI_mod {i j : Int} (h : 0 < j) : binI .mod (.int i) (.int j) = ret (.int (i % j)) := if_pos h
@[simp] theorem binI_add (i j : Int) : binI .add (.int i) (.int j) = ret (.int (i + j)) := rfl
@[simp] theorem binI_sub (i j : Int) : binI .sub (.int i) (.int j) = ret (.int (i - j)) := rfl
@[simp] theorem ite_M {α} (c : Prop) [Decidable c] (f g : M α) (h : Hs) : (if c then f else g) h = if c then f h else g h := by split <;> rfl
@[simp] theorem cmp_lt (h : Hs) (i j : Int) : cmpI .lt (.int i) (.int j) h = some (decide (i < j)) := rfl
@[simp] theorem cmp_le (h : Hs) (i j : Int) : cmpI .le (.int i) (.int j) h = some (decide (i ≤ j)) := rfl
@[simp] theorem cmp_gt (h : Hs) (i j : Int) : cmpI .gt (.int i) (.int j) h = some (decide (j < i)) := rfl
@[simp] theorem cmp_ge (h : Hs) (i j : Int) : cmpI .ge (.int i) (.int j) h = some (decide (j ≤ i)) := rfl
@[simp] theorem cmp_eq (h : Hs) (x y : T) : cmpI .eq x y h = eqI h x y := rfl
@[simp] theorem cmp_ne (h : Hs) (x y : T) : cmpI .ne x y h = (eqI h x y).map (!·) := rfl
@[simp] theorem tru_bl (h : Hs) (b : Bool) : tru h (.bl b) = some b := rfl
/-! ### divisor, made -/
theorem divisor_ok {d : Nat} (hd : 1 ≤ d) (a b : Int) (h : Hs) : callN Lw.tb d 1 [.int a, .int b] h = .ok (.int (Int.gcd a b)) h := by
  refine call_of Lw.tb_1 hd ⟨rfl, by decide⟩ (.inl ?_)
  have key := while_ends (f := whF (callN Lw.tb (d - 1)) (.cmp .gt (.var 1) (.cst (.int 0))) (.cons (.par 0 1 (.var 1) (.bin .mod (.var 0) (.var 1))) .nil))
    (fun σ h' => h' = h ∧ ∃ x y : Nat, σ = [some (.int x), some (.int y)] ∧ Nat.gcd x y = Int.gcd a b)
    (fun σ h' => match σ with | [_, some (.int y)] => y.toNat | _ => 0)
    (fun o => o = .nx [some (.int (Int.gcd a b)), some (.int 0)] h)
    (by
      rintro σ h' ⟨rfl, x, y, rfl, hg⟩
      rcases Nat.eq_zero_or_pos y with rfl | hy
      · refine .inl ⟨_, ?_, rfl⟩
        simp at hg
        subst hg
        simp [whF]
      · refine .inr ⟨[some (.int y), some (.int (x % y : Nat))], h', ?_, ⟨rfl, y, x % y, rfl, ?_⟩, ?_⟩
        · simp [whF, hy, binI_mod]
        · rw [← hg, Nat.gcd_comm, ← Nat.gcd_rec]; exact Nat.gcd_comm y x
        · simp; exact Nat.mod_lt _ hy)
    (σ := [some (.int a.natAbs), some (.int b.natAbs)]) (h := h) ⟨rfl, _, _, rfl, rfl⟩
  simp [exS_whl, key]
theorem made_ok {d n : Nat} (hd : 2 ≤ d) {a b : Int} (hb : 0 < b) (hs : b.natAbs < 2 ^ n) (hn : n < 9000) (h : Hs) : callN Lw.tb d 2 [.int a, .int b] h = .ok (fr (Rat.divInt a b)) h := by
  refine call_of Lw.tb_2 (by omega) ⟨rfl, by decide⟩ (.inl ?_)
  rw [divInt_fr hb]
  have g1 := gcd_pos' (a := a) hb
  have g2 := gcd_sz (a := a) hb hs
  have n1 : ¬ b < 0 := by omega
  simp [divisor_ok (show 1 ≤ d - 1 by omega), n1, binI_fdiv g1 g2 hn]

theorem mul_l {i j : Int} {a b : Nat} (ha : i.natAbs < 2 ^ a) (hb : j.natAbs < 2 ^ b) (h : a + b ≤ 900000) : mulOk i j = true := mulOk_of ha hb h
theorem times_ok {d m n : Nat} (hd : 3 ≤ d) {p q : Rat} (hp : Sz m p) (hq : Sz n q) (hn : m + n < 9000) (h : Hs) : callN Lw.tb d 4 [fr p, fr q] h = .ok (fr (p * q)) h := by
  refine call_of Lw.tb_4 (by omega) ⟨rfl, by decide⟩ (.inl ?_)
  rw [mul_divInt]
  simp [fr, binI_mul hp.1 hq.1 (show m + n ≤ 900000 by omega), binI_mul (den_cast hp.2) (den_cast hq.2) (show m + n ≤ 900000 by omega), made_ok (show 2 ≤ d - 1 by omega) (Int.mul_pos (den_pos' p) (den_pos' q)) (mul_sz (den_cast hp.2) (den_cast hq.2)) hn]
theorem plus_ok {d m n : Nat} (hd : 3 ≤ d) {p q : Rat} (hp : Sz m p) (hq : Sz n q) (hn : m + n < 9000) (h : Hs) : callN Lw.tb d 3 [fr p, fr q] h = .ok (fr (p + q)) h := by
  refine call_of Lw.tb_3 (by omega) ⟨rfl, by decide⟩ (.inl ?_)
  rw [add_divInt]
  simp [fr, binI_mul hp.1 (den_cast hq.2) (show m + n ≤ 900000 by omega), binI_mul hq.1 (den_cast hp.2) (show n + m ≤ 900000 by omega), binI_mul (den_cast hp.2) (den_cast hq.2) (show m + n ≤ 900000 by omega), made_ok (show 2 ≤ d - 1 by omega) (Int.mul_pos (den_pos' p) (den_pos' q)) (mul_sz (den_cast hp.2) (den_cast hq.2)) hn]
theorem less_ok {d m n : Nat} (hd : 1 ≤ d) {p q : Rat} (hp : Sz m p) (hq : Sz n q) (hn : m + n ≤ 900000) (h : Hs) : callN Lw.tb d 5 [fr p, fr q] h = .ok (.bl (decide (p < q))) h := by
  refine call_of Lw.tb_5 (by omega) ⟨rfl, by decide⟩ (.inl ?_)
  have e : p < q ↔ p.num * q.den < q.num * p.den := Rat.lt_iff p q
  simp [fr, binI_mul hp.1 (den_cast hq.2) hn, binI_mul hq.1 (den_cast hp.2) (show n + m ≤ 900000 by omega), e]
theorem mul_size {m n : Nat} {p q : Rat} (hp : Sz m p) (hq : Sz n q) : Sz (m + n) (p * q) := by
  rw [mul_divInt]
  exact divInt_sz (Int.mul_pos (den_pos' p) (den_pos' q)) (mul_sz hp.1 hq.1) (mul_sz (den_cast hp.2) (den_cast hq.2))
theorem add_size {m n : Nat} {p q : Rat} (hp : Sz m p) (hq : Sz n q) : Sz (m + n + 1) (p + q) := by
  rw [add_divInt]
  refine divInt_sz (Int.mul_pos (den_pos' p) (den_pos' q)) ?_ (Nat.lt_of_lt_of_le (mul_sz (den_cast hp.2) (den_cast hq.2)) (Nat.pow_le_pow_right (by decide) (Nat.le_succ _)))
  exact add_sz (mul_sz hp.1 (den_cast hq.2)) (by rw [Nat.add_comm]; exact mul_sz hq.1 (den_cast hp.2))
end CB

/-! Rows of fractions, sorted; plain. -/
namespace CB
open PySem
def frs (qs : List Rat) : List T := qs.map fr
theorem frs_len (qs : List Rat) : (frs qs).length = qs.length := by simp [frs]
def Asc (xs : List Rat) : Prop := xs.Pairwise (fun a b => a ≤ b)
def lo (q : Rat) (xs : List Rat) : List Rat := xs.filter (fun x => decide (x ≤ q))
def hi (q : Rat) (xs : List Rat) : List Rat := xs.filter (fun x => decide (q < x))
def ins (q : Rat) (xs : List Rat) : List Rat := lo q xs ++ q :: hi q xs
def srt (qs : List Rat) : List Rat := qs.foldl (fun acc q => ins q acc) []
theorem asc_split {q : Rat} : ∀ {xs : List Rat}, Asc xs → xs = lo q xs ++ hi q xs
  | [], _ => rfl
  | x :: xs, a => by
    have a' := List.pairwise_cons.1 a
    by_cases c : x ≤ q
    · have c2 : ¬ q < x := by grind
      simp only [lo, hi, List.filter_cons, c, c2, decide_true, decide_false, if_true, List.cons_append]
      exact congrArg (x :: ·) (asc_split a'.2)
    · have c2 : q < x := by grind
      have e1 : lo q xs = [] := by
        unfold lo
        rw [List.filter_eq_nil_iff]
        intro y hy
        have := a'.1 y hy
        simp; grind
      have e2 : hi q xs = xs := by
        unfold hi
        rw [List.filter_eq_self]
        intro y hy
        have := a'.1 y hy
        simp; grind
      have e3 : lo q (x :: xs) = [] := by
        unfold lo at e1 ⊢
        simp only [List.filter_cons, c, decide_false, e1]
        rfl
      have e4 : hi q (x :: xs) = x :: xs := by
        unfold hi at e2 ⊢
        simp only [List.filter_cons, c2, decide_true, e2]
        rfl
      rw [e3, e4]; rfl
theorem lo_le {q x : Rat} {xs : List Rat} (m : x ∈ lo q xs) : x ≤ q := by
  unfold lo at m; rw [List.mem_filter] at m; exact of_decide_eq_true m.2
theorem hi_gt {q x : Rat} {xs : List Rat} (m : x ∈ hi q xs) : q < x := by
  unfold hi at m; rw [List.mem_filter] at m; exact of_decide_eq_true m.2
theorem ins_asc {q : Rat} {xs : List Rat} (a : Asc xs) : Asc (ins q xs) := by
  unfold ins Asc
  have a1 : Asc (lo q xs) := List.Pairwise.filter _ a
  have a2 : Asc (hi q xs) := List.Pairwise.filter _ a
  rw [List.pairwise_append]
  refine ⟨a1, List.pairwise_cons.2 ⟨fun y hy => ?_, a2⟩, fun x hx y hy => ?_⟩
  · have := hi_gt hy; grind
  · have := lo_le hx
    rcases List.mem_cons.1 hy with rfl | hy
    · exact this
    · have := hi_gt hy; grind
theorem ins_perm {q : Rat} {xs : List Rat} (a : Asc xs) : (ins q xs).Perm (q :: xs) := by
  conv => rhs; rw [asc_split (q := q) a]
  exact List.perm_middle
theorem srt_go : ∀ (qs acc : List Rat), Asc acc → Asc (qs.foldl (fun acc q => ins q acc) acc) ∧ (qs.foldl (fun acc q => ins q acc) acc).Perm (qs ++ acc)
  | [], acc, a => ⟨a, List.Perm.refl _⟩
  | q :: qs, acc, a => by
    obtain ⟨h1, h2⟩ := srt_go qs (ins q acc) (ins_asc a)
    refine ⟨h1, h2.trans ?_⟩
    exact ((ins_perm a).append_left qs).trans List.perm_middle
theorem srt_asc (qs : List Rat) : Asc (srt qs) := (srt_go qs [] List.Pairwise.nil).1
theorem srt_perm (qs : List Rat) : (srt qs).Perm qs := by
  have z := (srt_go qs [] List.Pairwise.nil).2
  rw [List.append_nil] at z
  exact z
theorem srt_len (qs : List Rat) : (srt qs).length = qs.length := (srt_perm qs).length_eq
theorem srt_mem {qs : List Rat} {x : Rat} : x ∈ srt qs ↔ x ∈ qs := (srt_perm qs).mem_iff
theorem ins_len {q : Rat} {xs : List Rat} (a : Asc xs) : (ins q xs).length = xs.length + 1 := by rw [(ins_perm a).length_eq]; rfl
def mn (a b : Rat) : Rat := if b < a then b else a
def mx (a b : Rat) : Rat := if a < b then b else a
/-- the least, the greatest of a row -/
def mnl : List Rat → Rat
  | [] => 0
  | q :: qs => qs.foldl mn q
def mxl : List Rat → Rat
  | [] => 0
  | q :: qs => qs.foldl mx q
theorem mn_go : ∀ (qs : List Rat) (q : Rat), (qs.foldl mn q ∈ q :: qs) ∧ ∀ x ∈ q :: qs, qs.foldl mn q ≤ x
  | [], q => ⟨by simp, fun x m => by simp at m; subst m; exact Rat.le_refl⟩
  | p :: qs, q => by
    obtain ⟨h1, h2⟩ := mn_go qs (mn q p)
    simp only [List.foldl_cons]
    refine ⟨?_, fun x m => ?_⟩
    · rcases List.mem_cons.1 h1 with e | e
      · rw [e]; unfold mn; split <;> simp
      · exact List.mem_cons_of_mem _ (List.mem_cons_of_mem _ e)
    · have h3 := h2 (mn q p) List.mem_cons_self
      have h4 : mn q p ≤ q ∧ mn q p ≤ p := by unfold mn; split <;> grind
      rcases List.mem_cons.1 m with rfl | m
      · exact Rat.le_trans h3 h4.1
      rcases List.mem_cons.1 m with rfl | m
      · exact Rat.le_trans h3 h4.2
      · exact h2 x (List.mem_cons_of_mem _ m)
theorem mx_go : ∀ (qs : List Rat) (q : Rat), (qs.foldl mx q ∈ q :: qs) ∧ ∀ x ∈ q :: qs, x ≤ qs.foldl mx q
  | [], q => ⟨by simp, fun x m => by simp at m; subst m; exact Rat.le_refl⟩
  | p :: qs, q => by
    obtain ⟨h1, h2⟩ := mx_go qs (mx q p)
    simp only [List.foldl_cons]
    refine ⟨?_, fun x m => ?_⟩
    · rcases List.mem_cons.1 h1 with e | e
      · rw [e]; unfold mx; split <;> simp
      · exact List.mem_cons_of_mem _ (List.mem_cons_of_mem _ e)
    · have h3 := h2 (mx q p) List.mem_cons_self
      have h4 : q ≤ mx q p ∧ p ≤ mx q p := by unfold mx; split <;> grind
      rcases List.mem_cons.1 m with rfl | m
      · exact Rat.le_trans h4.1 h3
      rcases List.mem_cons.1 m with rfl | m
      · exact Rat.le_trans h4.2 h3
      · exact h2 x (List.mem_cons_of_mem _ m)
theorem mnl_mem {qs : List Rat} (h : qs ≠ []) : mnl qs ∈ qs := by
  cases qs with
  | nil => exact absurd rfl h
  | cons q qs => exact (mn_go qs q).1
theorem mnl_le {qs : List Rat} {x : Rat} (h : x ∈ qs) : mnl qs ≤ x := by
  cases qs with
  | nil => cases h
  | cons q qs => exact (mn_go qs q).2 x h
theorem mxl_mem {qs : List Rat} (h : qs ≠ []) : mxl qs ∈ qs := by
  cases qs with
  | nil => exact absurd rfl h
  | cons q qs => exact (mx_go qs q).1
theorem mxl_ge {qs : List Rat} {x : Rat} (h : x ∈ qs) : x ≤ mxl qs := by
  cases qs with
  | nil => cases h
  | cons q qs => exact (mx_go qs q).2 x h
theorem srt_first {qs : List Rat} (h : qs ≠ []) : (srt qs)[0]? = some (mnl qs) := by
  have l := srt_len qs
  cases e : srt qs with
  | nil => rw [e] at l; exact absurd (List.eq_nil_of_length_eq_zero l.symm) h
  | cons x xs =>
    show some x = _
    have a := srt_asc qs
    rw [e] at a
    have h1 : x ∈ qs := srt_mem.1 (by rw [e]; exact List.mem_cons_self)
    have h2 : mnl qs ∈ x :: xs := by rw [← e]; exact srt_mem.2 (mnl_mem h)
    have h3 := mnl_le h1
    rcases List.mem_cons.1 h2 with q | q
    · rw [q]
    · have := (List.pairwise_cons.1 a).1 _ q
      exact congrArg some (Rat.le_antisymm this h3)
theorem srt_last {qs : List Rat} (h : qs ≠ []) : (srt qs)[qs.length - 1]? = some (mxl qs) := by
  have l := srt_len qs
  have hp : 0 < qs.length := List.length_pos_iff.2 h
  have hl : qs.length - 1 < (srt qs).length := by omega
  rw [List.getElem?_eq_getElem hl]
  have h1 : (srt qs)[qs.length - 1] ∈ qs := srt_mem.1 (List.getElem_mem hl)
  have h2 : mxl qs ∈ srt qs := srt_mem.2 (mxl_mem h)
  have h3 := mxl_ge h1
  obtain ⟨i, hi, e⟩ := List.getElem_of_mem h2
  have a := srt_asc qs
  rcases Nat.lt_or_ge i (qs.length - 1) with c | c
  · have := List.pairwise_iff_getElem.1 a i (qs.length - 1) hi hl c
    rw [e] at this
    exact congrArg some (Rat.le_antisymm h3 this)
  · have : i = qs.length - 1 := by omega
    subst this
    rw [e]
end CB

/-! The package's rows of fractions. -/
namespace CB
open PySem
theorem slcI_lst {h : Hs} {x : T} {xs : List T} (e : lstOf h x = some xs) (lo hi : Option Int) : slcI x lo hi h = .ok (.rf h.length) (h ++ [.lst (cutT xs lo hi)]) := by
  cases x with
  | tup ys => cases e
  | rf a => unfold slcI; dsimp only; rw [e]; rfl
  | frz ns => unfold slcI; dsimp only; rw [e]; rfl
  | _ => cases e
theorem cutT_one (xs : List T) : cutT xs (some 1) none = xs.drop 1 := by
  have e : HT.sIx xs.length 0 (some 1) = min 1 xs.length := HT.sIx_nat xs.length 0 1
  unfold cutT
  rw [e]
  show List.take (xs.length - min 1 xs.length) (List.drop (min 1 xs.length) xs) = _
  cases xs with
  | nil => rfl
  | cons x xs => simp
theorem seqOf_lst {h : Hs} {x : T} {xs : List T} (e : lstOf h x = some xs) : seqOf h x = some xs := by
  cases x with
  | tup ys => cases e
  | rf a => exact e
  | frz ns => exact e
  | _ => cases e
@[simp] theorem lst_new (h : Hs) (xs : List T) : lstOf (h ++ [.lst xs]) (.rf h.length) = some xs := by simp [lstOf]
theorem walkL_lst {h : Hs} {x : T} {xs : List T} (e : lstOf h x = some xs) : walkL h x = some ⟨xs, fun h' => lstOf h' x = some xs⟩ := by
  cases x with
  | tup ys => cases e
  | rf a => unfold walkL; dsimp only; rw [e]; rfl
  | frz ns => unfold walkL; dsimp only; rw [e]; rfl
  | _ => cases e
@[simp] theorem walkL_tup (h : Hs) (xs : List T) : walkL h (.tup xs) = some ⟨xs, fun _ => True⟩ := rfl
theorem frs_get {qs : List Rat} {i : Nat} {t : T} (e : (frs qs)[i]? = some t) : ∃ q, qs[i]? = some q ∧ t = fr q := by
  unfold frs at e
  rw [List.getElem?_map] at e
  cases w : qs[i]? with
  | none => rw [w] at e; cases e
  | some q => rw [w] at e; exact ⟨q, rfl, (Option.some.inj e).symm⟩
theorem frs_at {qs : List Rat} {i : Nat} {q : Rat} (e : qs[i]? = some q) : (frs qs)[i]? = some (fr q) := by
  unfold frs; rw [List.getElem?_map, e]; rfl
theorem take_succ' {α} {xs : List α} {i : Nat} {x : α} (e : xs[i]? = some x) : xs.take (i + 1) = xs.take i ++ [x] := by rw [List.take_succ, e]; rfl
theorem foldl_mem {f : Rat → Rat → Rat} (hf : ∀ a b, f a b = a ∨ f a b = b) : ∀ (qs : List Rat) (q : Rat), qs.foldl f q ∈ q :: qs
  | [], q => by simp
  | p :: qs, q => by
    have := foldl_mem hf qs (f q p)
    simp only [List.foldl_cons]
    rcases List.mem_cons.1 this with e | e
    · rw [e]; rcases hf q p with e | e <;> rw [e] <;> simp
    · exact List.mem_cons_of_mem _ (List.mem_cons_of_mem _ e)
theorem mn_or (a b : Rat) : mn a b = a ∨ mn a b = b := by unfold mn; split <;> simp
theorem mx_or (a b : Rat) : mx a b = a ∨ mx a b = b := by unfold mx; split <;> simp
theorem least_ok {d n : Nat} (hd : 2 ≤ d) {t : T} {qs : List Rat} {h : Hs} (e : lstOf h t = some (frs qs)) (hne : qs ≠ []) (hs : ∀ x ∈ qs, Sz n x) (hn : 2 * n ≤ 900000) :
    ∃ h', callN Lw.tb d 6 [t] h = .ok (fr (mnl qs)) h' ∧ Gs [] h h' := by
  obtain ⟨q, qs, rfl⟩ : ∃ q r, qs = q :: r := by cases qs with | nil => exact absurd rfl hne | cons q r => exact ⟨q, r, rfl⟩
  have sq := seqOf_lst e
  have hg : Gs [] h (h ++ [.lst (frs qs)]) := Gs.app _ _ _
  obtain ⟨σ', h', er, i1, v, i2⟩ := forRun_go (std := fun h' => lstOf h' (.rf h.length) = some (frs qs)) (tg := .name 2) (body := exSs (callN Lw.tb (d - 1)) (.cons (.ifs (.call 5 (.cons (.var 2) (.cons (.var 1) .nil))) (.cons (.asg (.name 1) (.var 2)) .nil) .nil) .nil))
    (fun k σ h' => h' = h ++ [.lst (frs qs)] ∧ ∃ v, σ = [some t, some (fr ((qs.take k).foldl mn q)), v]) (fun k σ h' i => by rw [i.1]; simp) (ts := frs qs) (k := 0) (σ := [some t, some (fr q), none]) (h := h ++ [.lst (frs qs)]) ⟨rfl, none, rfl⟩
    (by
      rintro i x ex σ h2 ⟨rfl, v, rfl⟩
      obtain ⟨p, ep, rfl⟩ := frs_get ex
      rw [Nat.zero_add] at *
      refine ⟨_, tak_name _ _ _, _, _, .inl ?_, rfl, some (fr p), rfl⟩
      have m : (qs.take i).foldl mn q ∈ q :: qs := by
        rcases List.mem_cons.1 (foldl_mem mn_or (qs.take i) q) with e | e
        · rw [e]; exact List.mem_cons_self
        · exact List.mem_cons_of_mem _ (List.mem_of_mem_take e)
      have l := less_ok (d := d - 1) (by omega) (hs p (List.mem_cons_of_mem _ (List.mem_of_getElem? ep))) (hs _ m) (by omega) (h ++ [.lst (frs qs)])
      rw [take_succ' ep, List.foldl_append]
      by_cases c : p < List.foldl mn q (List.take i qs)
      · simp [l, c, mn]
      · simp [l, c, mn])
  rw [Nat.zero_add, frs_len, List.take_length] at i2
  refine ⟨h', call_of Lw.tb_6 (by omega) ⟨rfl, by decide⟩ (.inl ?_), by rw [i1]; exact hg⟩
  subst i1 i2
  simp [sq, frs, slcI_lst e, cutT_one, exS_for, walkL_lst]
  simp [frs] at er
  rw [er]; simp [mnl]
theorem greatest_ok {d n : Nat} (hd : 2 ≤ d) {t : T} {qs : List Rat} {h : Hs} (e : lstOf h t = some (frs qs)) (hne : qs ≠ []) (hs : ∀ x ∈ qs, Sz n x) (hn : 2 * n ≤ 900000) :
    ∃ h', callN Lw.tb d 7 [t] h = .ok (fr (mxl qs)) h' ∧ Gs [] h h' := by
  obtain ⟨q, qs, rfl⟩ : ∃ q r, qs = q :: r := by cases qs with | nil => exact absurd rfl hne | cons q r => exact ⟨q, r, rfl⟩
  have sq := seqOf_lst e
  have hg : Gs [] h (h ++ [.lst (frs qs)]) := Gs.app _ _ _
  obtain ⟨σ', h', er, i1, v, i2⟩ := forRun_go (std := fun h' => lstOf h' (.rf h.length) = some (frs qs)) (tg := .name 2) (body := exSs (callN Lw.tb (d - 1)) (.cons (.ifs (.call 5 (.cons (.var 1) (.cons (.var 2) .nil))) (.cons (.asg (.name 1) (.var 2)) .nil) .nil) .nil))
    (fun k σ h' => h' = h ++ [.lst (frs qs)] ∧ ∃ v, σ = [some t, some (fr ((qs.take k).foldl mx q)), v]) (fun k σ h' i => by rw [i.1]; simp) (ts := frs qs) (k := 0) (σ := [some t, some (fr q), none]) (h := h ++ [.lst (frs qs)]) ⟨rfl, none, rfl⟩
    (by
      rintro i x ex σ h2 ⟨rfl, v, rfl⟩
      obtain ⟨p, ep, rfl⟩ := frs_get ex
      rw [Nat.zero_add] at *
      refine ⟨_, tak_name _ _ _, _, _, .inl ?_, rfl, some (fr p), rfl⟩
      have m : (qs.take i).foldl mx q ∈ q :: qs := by
        rcases List.mem_cons.1 (foldl_mem mx_or (qs.take i) q) with e | e
        · rw [e]; exact List.mem_cons_self
        · exact List.mem_cons_of_mem _ (List.mem_of_mem_take e)
      have l := less_ok (d := d - 1) (by omega) (hs _ m) (hs p (List.mem_cons_of_mem _ (List.mem_of_getElem? ep))) (by omega) (h ++ [.lst (frs qs)])
      rw [take_succ' ep, List.foldl_append]
      by_cases c : List.foldl mx q (List.take i qs) < p
      · simp [l, c, mx]
      · simp [l, c, mx])
  rw [Nat.zero_add, frs_len, List.take_length] at i2
  refine ⟨h', call_of Lw.tb_7 (by omega) ⟨rfl, by decide⟩ (.inl ?_), by rw [i1]; exact hg⟩
  subst i1 i2
  simp [sq, frs, slcI_lst e, cutT_one, exS_for, walkL_lst]
  simp [frs] at er
  rw [er]; simp [mxl]
/-! ### ascending -/
theorem lo_get {q x : Rat} {xs : List Rat} (a : Asc xs) {i : Nat} (e : xs[i]? = some x) (c : i < (lo q xs).length) : x ≤ q := by
  rw [asc_split (q := q) a, List.getElem?_append_left c] at e
  exact lo_le (List.mem_of_getElem? e)
theorem hi_get {q x : Rat} {xs : List Rat} (a : Asc xs) {i : Nat} (e : xs[i]? = some x) (c : (lo q xs).length ≤ i) : q < x := by
  rw [asc_split (q := q) a, List.getElem?_append_right c] at e
  exact hi_gt (List.mem_of_getElem? e)
theorem lo_len (q : Rat) (xs : List Rat) : (lo q xs).length ≤ xs.length := List.length_filter_le _ _
theorem ins_cut {q : Rat} {xs : List Rat} (a : Asc xs) : (frs xs).take (lo q xs).length ++ fr q :: (frs xs).drop (lo q xs).length = frs (ins q xs) := by
  have e1 : xs.take (lo q xs).length = lo q xs := by
    conv => lhs; arg 2; rw [asc_split (q := q) a]
    simp
  have e2 : xs.drop (lo q xs).length = hi q xs := by
    conv => lhs; arg 2; rw [asc_split (q := q) a]
    simp
  unfold frs
  rw [← List.map_take, ← List.map_drop, e1, e2]
  simp [ins]
theorem set_last (h : Hs) (o p : O) : (h ++ [o]).set h.length p = h ++ [p] := by simp
theorem metI_insert {h : Hs} {a : Nat} {xs : List T} (e : h[a]? = some (.lst xs)) {i : Nat} (t : T) (hi : i < 2 ^ 63) (hl : xs.length < SZ) : metI .insert (.rf a) [.int i, t] h = .ok .non (h.set a (.lst (xs.take i ++ t :: xs.drop i))) := by
  unfold metI
  dsimp only
  rw [e]
  dsimp only
  rw [if_pos ⟨by omega, by omega, hl⟩]
  simp [setO]
theorem ascending_ok {d n : Nat} (hd : 2 ≤ d) {t : T} {qs : List Rat} {h : Hs} (e : lstOf h t = some (frs qs)) (hs : ∀ x ∈ qs, Sz n x) (hn : 2 * n ≤ 900000) (hl : qs.length < 1000000) :
    ∃ h', callN Lw.tb d 8 [t] h = .ok (.rf h.length) h' ∧ Gs [] h h' ∧ h'[h.length]? = some (.lst (frs (srt qs))) := by
  obtain ⟨σ', h', er, v, w, i2, i1⟩ := forRun_go (std := fun h' => lstOf h' t = some (frs qs)) (tg := .name 2) (body := exSs (callN Lw.tb (d - 1)) (.cons (.asg (.name 3) (.blt .len (.cons (.var 1) .nil))) (.cons (.whl (.and (.cmp .gt (.var 3) (.cst (.int 0))) (.call 5 (.cons (.var 2) (.cons (.idx (.var 1) (.bin .sub (.var 3) (.cst (.int 1)))) .nil)))) (.cons (.aug 3 .sub (.cst (.int 1))) .nil)) (.cons (.exp (.met .insert (.var 1) (.cons (.var 3) (.cons (.var 2) .nil)))) .nil))))
    (fun k σ h' => ∃ v w, σ = [some t, some (.rf h.length), v, w] ∧ h' = h ++ [.lst (frs (srt (qs.take k)))])
    (fun k σ h' i => by
      obtain ⟨v, w, _, rfl⟩ := i
      exact lstOf_gs (Gs.app [] _ _) e (fun _ _ q => by cases q))
    (ts := frs qs) (k := 0) (σ := [some t, some (.rf h.length), none, none]) (h := h ++ [.lst []]) ⟨none, none, rfl, rfl⟩
    (by
      rintro i x ex σ h2 ⟨v, w, rfl, rfl⟩
      obtain ⟨p, ep, rfl⟩ := frs_get ex
      rw [Nat.zero_add] at *
      have sp : Sz n p := hs p (List.mem_of_getElem? ep)
      have a := srt_asc (qs.take i)
      have sl : (srt (qs.take i)).length ≤ qs.length := by rw [srt_len, List.length_take]; omega
      have ss : ∀ x ∈ srt (qs.take i), Sz n x := fun x m => hs x (List.mem_of_mem_take (srt_mem.1 m))
      rw [take_succ' ep, show srt (qs.take i ++ [p]) = ins p (srt (qs.take i)) by simp [srt, List.foldl_append]]
      generalize srt (qs.take i) = xs at *
      refine ⟨_, tak_name _ _ _, [some t, some (.rf h.length), some (fr p), some (.int (lo p xs).length)], h ++ [.lst (frs (ins p xs))], .inl ?_, _, _, rfl, rfl⟩
      have key := while_ends (f := whF (callN Lw.tb (d - 1)) (.and (.cmp .gt (.var 3) (.cst (.int 0))) (.call 5 (.cons (.var 2) (.cons (.idx (.var 1) (.bin .sub (.var 3) (.cst (.int 1)))) .nil)))) (.cons (.aug 3 .sub (.cst (.int 1))) .nil))
        (fun σ h' => h' = h ++ [.lst (frs xs)] ∧ ∃ at' : Nat, σ = [some t, some (.rf h.length), some (fr p), some (.int at')] ∧ (lo p xs).length ≤ at' ∧ at' ≤ xs.length)
        (fun σ h' => match σ with | [_, _, _, some (.int y)] => y.toNat | _ => 0)
        (fun o => o = .nx [some t, some (.rf h.length), some (fr p), some (.int (lo p xs).length)] (h ++ [.lst (frs xs)]))
        (by
          rintro σ h' ⟨rfl, k, rfl, k1, k2⟩
          rcases Nat.eq_zero_or_pos k with rfl | kp
          · refine .inl ⟨_, ?_, rfl⟩
            have : (lo p xs).length = 0 := by omega
            simp [whF, this]
          · obtain ⟨x, ex⟩ : ∃ x, xs[k - 1]? = some x := ⟨xs[k - 1]'(by omega), List.getElem?_eq_getElem _⟩
            have l := less_ok (d := d - 1) (by omega) sp (ss x (List.mem_of_getElem? ex)) (by omega) (h ++ [.lst (frs xs)])
            have ix : L2.atI (frs xs) ((k : Int) - 1) = some (fr x) := by
              rw [show (k : Int) - 1 = ((k - 1 : Nat) : Int) by omega, atI_nat, frs_at ex]
            by_cases c : k = (lo p xs).length
            · refine .inl ⟨_, ?_, rfl⟩
              have nl : ¬ p < x := by
                have := lo_get (q := p) a ex (by omega)
                grind
              simp [whF, kp, seqOf_lst (lst_new h (frs xs)), ix, l, nl]
              omega
            · refine .inr ⟨[some t, some (.rf h.length), some (fr p), some (.int (k - 1 : Nat))], _, ?_, ⟨rfl, k - 1, rfl, by omega, by omega⟩, by simp; omega⟩
              have nl : p < x := hi_get a ex (by omega)
              have : (k : Int) - 1 = ((k - 1 : Nat) : Int) := by omega
              simp [whF, kp, seqOf_lst (lst_new h (frs xs)), ix, l, nl, augI]
              exact this)
        (σ := [some t, some (.rf h.length), some (fr p), some (.int xs.length)]) (h := h ++ [.lst (frs xs)]) ⟨rfl, _, rfl, lo_len _ _, Nat.le_refl _⟩
      have ll := lo_len p xs
      have mi := metI_insert (h := h ++ [.lst (frs xs)]) (a := h.length) (xs := frs xs) (by simp) (i := (lo p xs).length) (fr p) (by omega) (by rw [frs_len]; show _ < 16777216; omega)
      rw [ins_cut a, set_last] at mi
      simp [bltI, seqOf_lst (lst_new h (frs xs)), frs_len, exS_whl, key, mi])
  rw [Nat.zero_add, frs_len, List.take_length] at i1
  refine ⟨h', call_of Lw.tb_8 (by omega) ⟨rfl, by decide⟩ (.inl ?_), by rw [i1]; exact Gs.app _ _ _, by rw [i1]; simp⟩
  subst i1 i2
  have e' := lstOf_gs (Gs.app [] h [.lst []]) e (fun _ _ q => by cases q)
  simp [exS_for, walkL_lst e', er]
end CB

/-! Terms of rules; plain. -/
namespace CB
open PySem
def wsum (p : List (Nat × Rat)) : Rat := p.foldl (fun a x => a + ((x.1 : Int) : Rat) * x.2) 0
def meanR (ws : List Nat) (vs : List Rat) : Rat := wsum (ws.zip vs) * Rat.divInt 1 (ws.sum : Int)
def wts (ws : List Nat) : List T := ws.map fun w : Nat => T.int (w : Int)
inductive Tm where
  | bid (p : Nat) | fix (q : Rat) | mean (ws : List Nat) (ps : List Tm) | least (ps : List Tm) | greatest (ps : List Tm) | ranked (k : Nat) (ps : List Tm) | between (a b : Rat) (t : Tm)
mutual
def enc : Tm → T
  | .bid p => .tup [.str "bid", .int p]
  | .fix q => .tup [.str "fixed", fr q]
  | .mean ws ps => .tup [.str "mean", .tup (zipT (wts ws) (encs ps))]
  | .least ps => .tup [.str "least", .tup (encs ps)]
  | .greatest ps => .tup [.str "greatest", .tup (encs ps)]
  | .ranked k ps => .tup [.str "ranked", .int k, .tup (encs ps)]
  | .between a b t => .tup [.str "between", fr a, fr b, enc t]
def encs : List Tm → List T
  | [] => []
  | t :: ts => enc t :: encs ts
end
section
variable (bs : List Rat)
mutual
/-- the number of a term at bids -/
def val : Tm → Rat
  | .bid p => bs[p]?.getD 0
  | .fix q => q
  | .mean ws ps => meanR ws (vals ps)
  | .least ps => mnl (vals ps)
  | .greatest ps => mxl (vals ps)
  | .ranked k ps => (srt (vals ps))[ps.length - k]?.getD 0
  | .between a b t => (srt [a, b, val t])[1]?.getD 0
def vals : List Tm → List Rat
  | [] => []
  | t :: ts => val t :: vals ts
end
end
mutual
/-- how many terms -/
def cnt : Tm → Nat
  | .bid _ => 1
  | .fix _ => 1
  | .mean _ ps => 1 + cnts ps
  | .least ps => 1 + cnts ps
  | .greatest ps => 1 + cnts ps
  | .ranked _ ps => 1 + cnts ps
  | .between _ _ t => 1 + cnt t
def cnts : List Tm → Nat
  | [] => 0
  | t :: ts => cnt t + cnts ts
end
mutual
/-- how deep -/
def dep : Tm → Nat
  | .bid _ => 1
  | .fix _ => 1
  | .mean _ ps => 1 + deps ps
  | .least ps => 1 + deps ps
  | .greatest ps => 1 + deps ps
  | .ranked _ ps => 1 + deps ps
  | .between _ _ t => 1 + dep t
def deps : List Tm → Nat
  | [] => 0
  | t :: ts => max (dep t) (deps ts)
end
section
variable (B : Nat)
mutual
/-- a bound of the size of the number -/
def szb : Tm → Nat
  | .bid _ => B
  | .fix _ => B
  | .mean _ ps => szbs ps + 13
  | .least ps => szbs ps
  | .greatest ps => szbs ps
  | .ranked _ ps => szbs ps
  | .between _ _ t => B + szb t
def szbs : List Tm → Nat
  | [] => 0
  | t :: ts => szb t + 8 + szbs ts
end
end
/-- a number from 0 to 1 of a size -/
def Num (n : Nat) (q : Rat) : Prop := 0 ≤ q ∧ q ≤ 1 ∧ Sz n q
section
variable (n B : Nat)
mutual
/-- what a term of a rule for so many people is; its fixed numbers of a size -/
def wf : Tm → Prop
  | .bid p => p < n
  | .fix q => Num B q
  | .mean ws ps => wfs ps ∧ 1 ≤ ps.length ∧ ps.length ≤ 8 ∧ ws.length = ps.length ∧ ∀ w ∈ ws, 1 ≤ w ∧ w ≤ 99
  | .least ps => wfs ps ∧ 1 ≤ ps.length ∧ ps.length ≤ 8
  | .greatest ps => wfs ps ∧ 1 ≤ ps.length ∧ ps.length ≤ 8
  | .ranked k ps => wfs ps ∧ 1 ≤ ps.length ∧ ps.length ≤ 8 ∧ 1 ≤ k ∧ k ≤ ps.length
  | .between a b t => wf t ∧ Num B a ∧ Num B b ∧ a ≤ b
def wfs : List Tm → Prop
  | [] => True
  | t :: ts => wf t ∧ wfs ts
end
end
theorem encs_eq (ps : List Tm) : encs ps = ps.map enc := by
  induction ps with
  | nil => rfl
  | cons t ts ih => simp [encs, ih]
theorem vals_eq (bs : List Rat) (ps : List Tm) : vals bs ps = ps.map (val bs) := by
  induction ps with
  | nil => rfl
  | cons t ts ih => simp [vals, ih]
theorem vals_len (bs : List Rat) (ps : List Tm) : (vals bs ps).length = ps.length := by simp [vals_eq]
theorem encs_len (ps : List Tm) : (encs ps).length = ps.length := by simp [encs_eq]
theorem deps_mem {t : Tm} : ∀ {ps : List Tm}, t ∈ ps → dep t ≤ deps ps
  | p :: ps, m => by
    rcases List.mem_cons.1 m with rfl | m
    · exact Nat.le_max_left _ _
    · exact Nat.le_trans (deps_mem m) (Nat.le_max_right _ _)
theorem cnts_mem {t : Tm} : ∀ {ps : List Tm}, t ∈ ps → cnt t ≤ cnts ps
  | p :: ps, m => by
    rcases List.mem_cons.1 m with rfl | m
    · exact Nat.le_add_right _ _
    · exact Nat.le_trans (cnts_mem m) (Nat.le_add_left _ _)
theorem szbs_mem {B : Nat} {t : Tm} : ∀ {ps : List Tm}, t ∈ ps → szb B t + 8 ≤ szbs B ps
  | p :: ps, m => by
    rcases List.mem_cons.1 m with rfl | m
    · exact Nat.le_add_right _ _
    · exact Nat.le_trans (szbs_mem m) (Nat.le_add_left _ _)
theorem szbs_eq (B : Nat) (ps : List Tm) : szbs B ps = ((ps.map (szb B)).map (· + 8)).sum := by
  induction ps with
  | nil => rfl
  | cons t ts ih => simp [szbs, ih]
theorem wfs_mem {n B : Nat} {t : Tm} : ∀ {ps : List Tm}, wfs n B ps → t ∈ ps → wf n B t
  | p :: ps, w, m => by
    rcases List.mem_cons.1 m with rfl | m
    · exact w.1
    · exact wfs_mem w.2 m
theorem dep_pos (t : Tm) : 1 ≤ dep t := by cases t <;> simp [dep] <;> omega
theorem cnt_pos (t : Tm) : 1 ≤ cnt t := by cases t <;> simp [cnt] <;> omega
/-- by the depth -/
theorem tm_ind {P : Tm → Prop} (h : ∀ t, (∀ u, dep u < dep t → P u) → P t) (t : Tm) : P t := by
  have key : ∀ n t, dep t < n → P t := by
    intro n
    induction n with
    | zero => intro t ht; omega
    | succ n ih => intro t ht; exact h t fun u hu => ih u (by omega)
  exact key _ t (Nat.lt_succ_self _)
end CB

/-! middle, ranked_of, mean_of. -/
namespace CB
open PySem
theorem middle_ok {d n : Nat} (hd : 3 ≤ d) {a b c : Rat} (h : Hs) (ha : Sz n a) (hb : Sz n b) (hc : Sz n c) (hn : 2 * n ≤ 900000) :
    ∃ h', callN Lw.tb d 9 [fr a, fr b, fr c] h = .ok (fr ((srt [a, b, c])[1]?.getD 0)) h' ∧ Gs [] h h' := by
  obtain ⟨h', e, g, r⟩ := ascending_ok (d := d - 1) (n := n) (by omega) (h := h ++ [.lst (frs [a, b, c])]) (lst_new h _) (by simp [ha, hb, hc]) hn (by simp)
  have g' : Gs [] h h' := (Gs.app [] _ _).trans g
  have sl : (srt [a, b, c]).length = 3 := srt_len _
  refine ⟨h', call_of Lw.tb_9 (by omega) ⟨rfl, by decide⟩ (.inl ?_), g'⟩
  have l1 : (srt [a, b, c])[1]? = some ((srt [a, b, c])[1]?.getD 0) := by
    rw [List.getElem?_eq_getElem (by omega)]; rfl
  have ix := frs_at l1
  generalize (srt [a, b, c])[1]?.getD 0 = m at *
  have sq : seqOf h' (.rf (h.length + 1)) = some (frs (srt [a, b, c])) := by
    refine seqOf_lst ?_
    simp at r
    simp [lstOf, r]
  simp [frs] at e
  simp [e, sq, ix]
theorem ranked_ok {d n : Nat} (hd : 3 ≤ d) {t : T} {qs : List Rat} {h : Hs} (k : Nat) (e : lstOf h t = some (frs qs)) (hs : ∀ x ∈ qs, Sz n x) (hn : 2 * n ≤ 900000) (hl : qs.length < 1000000) (hk : 1 ≤ k ∧ k ≤ qs.length) :
    ∃ h', callN Lw.tb d 16 [.int k, t] h = .ok (fr ((srt qs)[qs.length - k]?.getD 0)) h' ∧ Gs [] h h' := by
  obtain ⟨h', e1, g, r⟩ := ascending_ok (d := d - 1) (n := n) (by omega) e hs hn hl
  have sl := srt_len qs
  refine ⟨h', call_of Lw.tb_16 (by omega) ⟨rfl, by decide⟩ (.inl ?_), g⟩
  have l1 : (srt qs)[qs.length - k]? = some ((srt qs)[qs.length - k]?.getD 0) := by
    rw [List.getElem?_eq_getElem (by omega)]; rfl
  have ix := frs_at l1
  generalize (srt qs)[qs.length - k]?.getD 0 = m at *
  have sq : seqOf h' (.rf h.length) = some (frs (srt qs)) := seqOf_lst (by simp [lstOf, r])
  have sq2 := seqOf_lst (lstOf_gs g e (fun _ _ q => by cases q))
  have ia : L2.atI (frs (srt qs)) ((qs.length : Int) - k) = some (fr m) := by
    rw [show (qs.length : Int) - k = ((qs.length - k : Nat) : Int) by omega, atI_nat, ix]
  have bl : bltI .len [t] h' = .ok (.int qs.length) h' := by
    cases t with
    | rf a => simp [bltI, sq2, frs_len]
    | frz ns => simp [bltI, sq2, frs_len]
    | _ => cases e
  simp [e1, bl, sq, ia]
/-! ### mean_of -/
def ratI (i : Int) : Rat := (i : Rat)
theorem fr_int (i : Int) : fr (i : Rat) = .tup [.int i, .int 1] := by simp [fr]
theorem sz_int {n : Nat} {i : Int} (h : i.natAbs < 2 ^ n) (h1 : 1 ≤ n) : Sz n (i : Rat) := by
  refine ⟨by simpa using h, ?_⟩
  have : (2 : Nat) ^ 1 ≤ 2 ^ n := Nat.pow_le_pow_right (by decide) h1
  simp; omega
theorem intsOf_wts (ws : List Nat) : intsOf (wts ws) = some (ws.map fun w : Nat => (w : Int)) := by
  induction ws with
  | nil => rfl
  | cons w ws ih =>
    show (intsOf (wts ws)).map (_ :: ·) = _
    rw [ih]; rfl
theorem sum_cast (ws : List Nat) : (ws.map fun w : Nat => (w : Int)).sum = ((ws.sum : Nat) : Int) := by
  induction ws with
  | nil => rfl
  | cons w ws ih => simp [ih]
theorem zip_get {ws : List Nat} {vs : List Rat} {i : Nat} {t : T} (e : (zipT (wts ws) (frs vs))[i]? = some t) : ∃ w v, (ws.zip vs)[i]? = some (w, v) ∧ t = .tup [.int (w : Int), fr v] := by
  unfold zipT wts frs at e
  rw [List.getElem?_map] at e
  cases q : (List.zip (ws.map fun w : Nat => T.int (w : Int)) (vs.map fr))[i]? with
  | none => rw [q] at e; cases e
  | some p =>
    rw [q] at e
    rw [List.getElem?_zip_eq_some] at q
    obtain ⟨q1, q2⟩ := q
    rw [List.getElem?_map] at q1 q2
    cases r1 : ws[i]? with
    | none => rw [r1] at q1; cases q1
    | some w =>
      cases r2 : vs[i]? with
      | none => rw [r2] at q2; cases q2
      | some v =>
        rw [r1] at q1; rw [r2] at q2
        refine ⟨w, v, List.getElem?_zip_eq_some.2 ⟨r1, r2⟩, ?_⟩
        have a := Option.some.inj e
        have b := Option.some.inj q1
        have c := Option.some.inj q2
        rw [← a]
        show T.tup [p.1, p.2] = _
        rw [← b, ← c]
theorem evSrc_zipL {cl : Nat → List T → M T} {a b : E} {σ : Env} {h : Hs} {x y : T} {xs ys : List T} (ea : evE cl a σ h = .ok x h) (eb : evE cl b σ h = .ok y h) (ex : lstOf h x = some xs) (ey : lstOf h y = some ys) : evSrc cl (.zip a b) σ h = .ok ⟨zipT xs ys, fun h' => lstOf h' x = some xs ∧ lstOf h' y = some ys⟩ h := by
  rw [evSrc_zip]
  simp only [bnd_ap, ea, eb]
  cases x with
  | tup zs => cases ex
  | _ => simp only [optM_ap, ex, ey]
theorem mean_ok {d : Nat} (hd : 4 ≤ d) {t u : T} {ws : List Nat} {vs : List Rat} {h : Hs} {sz : List Nat} (et : lstOf h t = some (wts ws)) (eu : lstOf h u = some (frs vs)) (hw : ∀ w ∈ ws, w < 2 ^ 7)
    (hz : ∀ (i : Nat) (w : Nat) (v : Rat), (ws.zip vs)[i]? = some (w, v) → Sz (sz[i]?.getD 0) v) (hlen : ws.length ≤ sz.length) (hn : ((sz.take ws.length).map (· + 8)).sum + 14 < 9000) (hW : 1 ≤ ws.sum ∧ ws.sum < 2 ^ 12) :
    callN Lw.tb d 15 [t, u] h = .ok (fr (meanR ws vs)) h ∧ Sz (((sz.take ws.length).map (· + 8)).sum + 13) (meanR ws vs) := by
  have nt : ∀ xs, t ≠ .tup xs := fun xs q => by subst q; cases et
  have nu : ∀ xs, u ≠ .tup xs := fun xs q => by subst q; cases eu
  obtain ⟨σ', h', er, i1, i3, a, b, i2⟩ := forRun_go (std := fun h' => lstOf h' t = some (wts ws) ∧ lstOf h' u = some (frs vs)) (tg := .cons (.name 3) (.cons (.name 4) .nil)) (body := exSs (callN Lw.tb (d - 1)) (.cons (.asg (.name 2) (.call 3 (.cons (.var 2) (.cons (.call 4 (.cons (.tup (.cons (.var 3) (.cons (.cst (.int 1)) .nil))) (.cons (.var 4) .nil))) .nil)))) .nil))
    (fun k σ h' => h' = h ∧ Sz (((sz.take k).map (· + 8)).sum + 1) (wsum ((ws.zip vs).take k)) ∧ ∃ a b, σ = [some t, some u, some (fr (wsum ((ws.zip vs).take k))), a, b]) (fun k σ h' i => by rw [i.1]; exact ⟨et, eu⟩) (ts := zipT (wts ws) (frs vs)) (k := 0) (σ := [some t, some u, some (fr 0), none, none]) (h := h) ⟨rfl, (by show Sz 1 0; exact ⟨by decide, by decide⟩), none, none, rfl⟩
    (by
      rintro i x ex σ h2 ⟨rfl, iz, a, b, rfl⟩
      obtain ⟨w, v, ep, rfl⟩ := zip_get ex
      rw [Nat.zero_add] at *
      have m := (List.getElem?_zip_eq_some.1 ep)
      have sw : Sz 7 ((w : Int) : Rat) := sz_int (by simpa using hw w (List.mem_of_getElem? m.1)) (by decide)
      have hi : i < ws.length := by
        have := m.1; rw [List.getElem?_eq_some_iff] at this; exact this.1
      have sv := hz i w v ep
      have es : sz[i]? = some (sz[i]?.getD 0) := by rw [List.getElem?_eq_getElem (by omega)]; rfl
      generalize sz[i]?.getD 0 = s at *
      have tk : ((sz.take (i + 1)).map (· + 8)).sum = ((sz.take i).map (· + 8)).sum + (s + 8) := by
        rw [take_succ' es]; simp
      have tl : ((sz.take (i + 1)).map (· + 8)).sum ≤ ((sz.take ws.length).map (· + 8)).sum := by
        have e : sz.take ws.length = sz.take (i + 1) ++ (sz.take ws.length).drop (i + 1) := by
          conv => lhs; rw [← List.take_append_drop (i + 1) (sz.take ws.length)]
          rw [List.take_take, Nat.min_eq_left (by omega)]
        rw [e]; simp
      have p1 := times_ok (d := d - 1) (by omega) sw sv (by omega) h2
      have p2 := plus_ok (d := d - 1) (by omega) iz (mul_size sw sv) (by omega) h2
      rw [fr_int] at p1
      refine ⟨_, rfl, _, _, .inl ?_, rfl, ?_, some (.int (w : Int)), some (fr v), rfl⟩
      · rw [take_succ' ep]
        simp [wsum, List.foldl_append] at p2 ⊢
        simp [p1, p2]
      · rw [take_succ' ep, tk]
        have q := add_size iz (mul_size sw sv)
        simp only [wsum, List.foldl_append, List.foldl_cons, List.foldl_nil] at q ⊢
        exact q.mono (by omega))
  have zl : (zipT (wts ws) (frs vs)).length = (ws.zip vs).length := by simp [zipT, wts, frs]
  have sW : Sz 12 (Rat.divInt 1 (ws.sum : Int)) := divInt_sz (by omega) (by decide) (by simpa using hW.2)
  have tkk : ∀ k, ((sz.take k).map (· + 8)).sum ≤ ((sz.take k).map (· + 8)).sum := fun _ => Nat.le_refl _
  rw [Nat.zero_add, zl, List.take_length] at i2 i3
  have hle : (ws.zip vs).length ≤ ws.length := by rw [List.length_zip]; omega
  have tl : ((sz.take (ws.zip vs).length).map (· + 8)).sum ≤ ((sz.take ws.length).map (· + 8)).sum := by
    have e : sz.take ws.length = sz.take (ws.zip vs).length ++ (sz.take ws.length).drop (ws.zip vs).length := by
      conv => lhs; rw [← List.take_append_drop (ws.zip vs).length (sz.take ws.length)]
      rw [List.take_take, Nat.min_eq_left hle]
    rw [e]; simp
  refine ⟨call_of Lw.tb_15 (by omega) ⟨rfl, by decide⟩ (.inl ?_), ?_⟩
  · have m1 := made_ok (d := d - 1) (a := 1) (b := (ws.sum : Int)) (by omega) (by omega) (n := 12) (by simpa using hW.2) (by decide) h
    have m2 := times_ok (d := d - 1) (by omega) i3 sW (by omega) h
    have zz : (bnd (evE (callN Lw.tb (d - 1)) (.var 0) [some t, some u, some (fr 0), none, none]) fun x => ret x) h = .ok t h := rfl
    subst i1 i2
    have z0 : fr 0 = .tup [.int 0, .int 1] := rfl
    have zs : evSrc (callN Lw.tb (d - 1)) (.zip (.var 0) (.var 1)) [some t, some u, some (fr 0), none, none] h' = .ok ⟨zipT (wts ws) (frs vs), fun h' => lstOf h' t = some (wts ws) ∧ lstOf h' u = some (frs vs)⟩ h' := by
      exact evSrc_zipL rfl rfl et eu
    have bs : bltI .sum [t] h' = .ok (.int (ws.sum : Nat)) h' := by
      simp [bltI, et, intsOf_wts, sum_cast]
    simp [exS_for]
    rw [← z0, zs]
    simp [er, bs, m1, m2, meanR, -Rat.divInt_ofNat]
  · exact (mul_size i3 sW).mono (by omega)
end CB

namespace CB
open PySem
@[simp] theorem sk_bid : PyData.strOk "bid" = true := by decide +kernel
@[simp] theorem sn_bid_fixed : (("bid" : Str) == "fixed") = false := by decide +kernel
@[simp] theorem sn_bid_mean : (("bid" : Str) == "mean") = false := by decide +kernel
@[simp] theorem sn_bid_least : (("bid" : Str) == "least") = false := by decide +kernel
@[simp] theorem sn_bid_greatest : (("bid" : Str) == "greatest") = false := by decide +kernel
@[simp] theorem sn_bid_ranked : (("bid" : Str) == "ranked") = false := by decide +kernel
@[simp] theorem sn_bid_between : (("bid" : Str) == "between") = false := by decide +kernel
@[simp] theorem sk_fixed : PyData.strOk "fixed" = true := by decide +kernel
@[simp] theorem sn_fixed_bid : (("fixed" : Str) == "bid") = false := by decide +kernel
@[simp] theorem sn_fixed_mean : (("fixed" : Str) == "mean") = false := by decide +kernel
@[simp] theorem sn_fixed_least : (("fixed" : Str) == "least") = false := by decide +kernel
@[simp] theorem sn_fixed_greatest : (("fixed" : Str) == "greatest") = false := by decide +kernel
@[simp] theorem sn_fixed_ranked : (("fixed" : Str) == "ranked") = false := by decide +kernel
@[simp] theorem sn_fixed_between : (("fixed" : Str) == "between") = false := by decide +kernel
@[simp] theorem sk_mean : PyData.strOk "mean" = true := by decide +kernel
@[simp] theorem sn_mean_bid : (("mean" : Str) == "bid") = false := by decide +kernel
@[simp] theorem sn_mean_fixed : (("mean" : Str) == "fixed") = false := by decide +kernel
@[simp] theorem sn_mean_least : (("mean" : Str) == "least") = false := by decide +kernel
@[simp] theorem sn_mean_greatest : (("mean" : Str) == "greatest") = false := by decide +kernel
@[simp] theorem sn_mean_ranked : (("mean" : Str) == "ranked") = false := by decide +kernel
@[simp] theorem sn_mean_between : (("mean" : Str) == "between") = false := by decide +kernel
@[simp] theorem sk_least : PyData.strOk "least" = true := by decide +kernel
@[simp] theorem sn_least_bid : (("least" : Str) == "bid") = false := by decide +kernel
@[simp] theorem sn_least_fixed : (("least" : Str) == "fixed") = false := by decide +kernel
@[simp] theorem sn_least_mean : (("least" : Str) == "mean") = false := by decide +kernel
@[simp] theorem sn_least_greatest : (("least" : Str) == "greatest") = false := by decide +kernel
@[simp] theorem sn_least_ranked : (("least" : Str) == "ranked") = false := by decide +kernel
@[simp] theorem sn_least_between : (("least" : Str) == "between") = false := by decide +kernel
@[simp] theorem sk_greatest : PyData.strOk "greatest" = true := by decide +kernel
@[simp] theorem sn_greatest_bid : (("greatest" : Str) == "bid") = false := by decide +kernel
@[simp] theorem sn_greatest_fixed : (("greatest" : Str) == "fixed") = false := by decide +kernel
@[simp] theorem sn_greatest_mean : (("greatest" : Str) == "mean") = false := by decide +kernel
@[simp] theorem sn_greatest_least : (("greatest" : Str) == "least") = false := by decide +kernel
@[simp] theorem sn_greatest_ranked : (("greatest" : Str) == "ranked") = false := by decide +kernel
@[simp] theorem sn_greatest_between : (("greatest" : Str) == "between") = false := by decide +kernel
@[simp] theorem sk_ranked : PyData.strOk "ranked" = true := by decide +kernel
@[simp] theorem sn_ranked_bid : (("ranked" : Str) == "bid") = false := by decide +kernel
@[simp] theorem sn_ranked_fixed : (("ranked" : Str) == "fixed") = false := by decide +kernel
@[simp] theorem sn_ranked_mean : (("ranked" : Str) == "mean") = false := by decide +kernel
@[simp] theorem sn_ranked_least : (("ranked" : Str) == "least") = false := by decide +kernel
@[simp] theorem sn_ranked_greatest : (("ranked" : Str) == "greatest") = false := by decide +kernel
@[simp] theorem sn_ranked_between : (("ranked" : Str) == "between") = false := by decide +kernel
@[simp] theorem sk_between : PyData.strOk "between" = true := by decide +kernel
@[simp] theorem sn_between_bid : (("between" : Str) == "bid") = false := by decide +kernel
@[simp] theorem sn_between_fixed : (("between" : Str) == "fixed") = false := by decide +kernel
@[simp] theorem sn_between_mean : (("between" : Str) == "mean") = false := by decide +kernel
@[simp] theorem sn_between_least : (("between" : Str) == "least") = false := by decide +kernel
@[simp] theorem sn_between_greatest : (("between" : Str) == "greatest") = false := by decide +kernel
@[simp] theorem sn_between_ranked : (("between" : Str) == "ranked") = false := by decide +kernel
end CB

/-! value_of. -/
namespace CB
open PySem
/-- a comprehension over what stands, element by element -/
theorem lcRun_list {α : Type} {std : Hs → Prop} {f : T → M (Option T)} (g k : α → T) : ∀ {xs : List α} {acc : List T} {h : Hs}, (∀ h', Gs [] h h' → std h') → (∀ x ∈ xs, ∀ h', Gs [] h h' → ∃ h'', f (g x) h' = .ok (some (k x)) h'' ∧ Gs [] h' h'') → acc.length + xs.length ≤ SZ →
    ∃ h', lcRun std f (xs.map g) acc h = .ok (acc ++ xs.map k) h' ∧ Gs [] h h'
  | [], acc, h, hs, _, _ => ⟨h, by rw [List.map_nil, lcRun_nil (hs h (Gs.refl _ _))]; simp, Gs.refl _ _⟩
  | x :: xs, acc, h, hs, hf, hl => by
    obtain ⟨h1, e1, g1⟩ := hf x List.mem_cons_self h (Gs.refl _ _)
    simp only [List.length_cons] at hl
    obtain ⟨h2, e2, g2⟩ := lcRun_list g k (xs := xs) (acc := acc ++ [k x]) (h := h1) (fun h' q => hs h' (g1.trans q)) (fun y m h' q => hf y (List.mem_cons_of_mem _ m) h' (g1.trans q)) (by rw [List.length_append, List.length_singleton]; omega)
    refine ⟨h2, ?_, g1.trans g2⟩
    rw [List.map_cons, lcRun_some (hs h (Gs.refl _ _)) e1 (by omega), e2]
    simp
@[simp] theorem eqI_str' (h : Hs) (s u : Str) (e : PyData.strOk s = true) (e2 : PyData.strOk u = true) : eqI h (.str s) (.str u) = some (s == u) := eqI_str h s u e e2
theorem atI_last (x : T) (xs : List T) : L2.atI (xs ++ [x]) (-1) = some x := by
  unfold L2.atI L2.ixN
  rw [if_neg (by omega), if_pos (by simp; omega)]
  show (xs ++ [x])[((-1 : Int) + ((xs ++ [x]).length : Nat)).toNat]? = some x
  rw [show ((-1 : Int) + ((xs ++ [x]).length : Nat)).toNat = xs.length by simp; omega]
  simp
@[simp] theorem atI_m1_2 (x y : T) : L2.atI [x, y] (-1) = some y := atI_last y [x]
@[simp] theorem atI_m1_3 (x y z : T) : L2.atI [x, y, z] (-1) = some z := atI_last z [x, y]
theorem zip_enc (ws : List Nat) (ps : List Tm) : zipT (wts ws) (encs ps) = (ws.zip ps).map fun p : Nat × Tm => T.tup [.int (p.1 : Int), enc p.2] := by
  rw [encs_eq]
  unfold zipT wts
  induction ws generalizing ps with
  | nil => rfl
  | cons w ws ih =>
    cases ps with
    | nil => rfl
    | cons p ps =>
      simp only [List.map_cons, List.zip_cons_cons]
      rw [ih ps]
theorem sum_lim : ∀ {ws : List Nat}, (∀ w ∈ ws, 1 ≤ w ∧ w ≤ 99) → 1 ≤ ws.length → ws.length ≤ 8 → 1 ≤ ws.sum ∧ ws.sum < 2 ^ 12 := by
  have key : ∀ ws : List Nat, (∀ w ∈ ws, 1 ≤ w ∧ w ≤ 99) → ws.length ≤ ws.sum ∧ ws.sum ≤ 99 * ws.length := by
    intro ws
    induction ws with
    | nil => intro _; simp
    | cons w ws ih =>
      intro h
      have a := ih fun x m => h x (List.mem_cons_of_mem _ m)
      have b := h w List.mem_cons_self
      simp only [List.sum_cons, List.length_cons]
      omega
  intro ws h a b
  have := key ws h
  omega
def VOk (B d : Nat) (bs : List Rat) (t : Tm) : Prop := ∀ h, ∃ h', callN Lw.tb d 17 [enc t, .tup (frs bs)] h = .ok (fr (val bs t)) h' ∧ Gs [] h h'
theorem value_ok {n B : Nat} {bs : List Rat} (hn : bs.length = n) (hb : ∀ q ∈ bs, Sz B q) (hB : 1 ≤ B) : ∀ (t : Tm), wf n B t → szb B t + 14 < 9000 → (∀ d, dep t + 4 ≤ d → VOk B d bs t) ∧ Sz (szb B t) (val bs t) := by
  intro t
  induction t using tm_ind with
  | h t ih =>
  intro w hs
  have parts : ∀ ps : List Tm, wfs n B ps → szbs B ps + 14 < 9000 → (∀ u ∈ ps, dep u < dep t) → (∀ u ∈ ps, Sz (szb B u) (val bs u)) ∧ (∀ u ∈ ps, ∀ d, dep t + 3 ≤ d → VOk B d bs u) := fun ps w hs hd =>
    ⟨fun u m => (ih u (hd u m) (wfs_mem w m) (by have := szbs_mem (B := B) m; omega)).2, fun u m d hdd => (ih u (hd u m) (wfs_mem w m) (by have := szbs_mem (B := B) m; omega)).1 d (by have := hd u m; omega)⟩
  have run : ∀ ps : List Tm, (∀ u ∈ ps, ∀ d, dep t + 3 ≤ d → VOk B d bs u) → ps.length ≤ 8 → ∀ d, dep t + 4 ≤ d → ∀ std : Hs → Prop, (∀ h, std h) → ∀ v wd h, ∃ h1, lcRun std (lcG (callN Lw.tb (d - 1)) [some v, some (.tup (frs bs)), wd, none, none, none] (.call 17 (.cons (.var 4) (.cons (.var 1) .nil))) (.name 4) .non [4]) (encs ps) [] h = .ok (frs (vals bs ps)) h1 ∧ Gs [] h h1 := by
    intro ps hv hl d hd std hs v wd h
    obtain ⟨h', e, g⟩ := lcRun_list (std := std) (f := lcG (callN Lw.tb (d - 1)) [some v, some (.tup (frs bs)), wd, none, none, none] (.call 17 (.cons (.var 4) (.cons (.var 1) .nil))) (.name 4) .non [4]) enc (fun u => fr (val bs u)) (xs := ps) (acc := []) (h := h) (fun _ _ => hs _)
      (fun u m h' g => by
        obtain ⟨h'', e, g⟩ := hv u m (d - 1) (by omega) h'
        exact ⟨h'', by simp [lcG, e], g⟩) (by simp; omega)
    refine ⟨h', ?_, g⟩
    rw [encs_eq, vals_eq, e]
    simp [frs]
  cases t with
  | bid p =>
    refine ⟨fun d hd h => ⟨h, call_of Lw.tb_17 (by omega) ⟨rfl, by decide⟩ (.inl ?_), Gs.refl _ _⟩, ?_⟩
    · have hp : p < bs.length := by have := w; unfold wf at this; omega
      have e : (frs bs)[p]? = some (fr (bs[p]?.getD 0)) := frs_at (by rw [List.getElem?_eq_getElem hp]; rfl)
      simp [enc, val, atI_nat, e]
    · have hp : p < bs.length := by have := w; unfold wf at this; omega
      simp only [val, szb, List.getElem?_eq_getElem hp, Option.getD_some]
      exact hb _ (List.getElem_mem hp)
  | fix q =>
    refine ⟨fun d hd h => ⟨h, call_of Lw.tb_17 (by omega) ⟨rfl, by decide⟩ (.inl ?_), Gs.refl _ _⟩, w.2.2⟩
    simp [enc, val]
  | least ps =>
    obtain ⟨w1, w2, w3⟩ := w
    obtain ⟨p1, p2⟩ := parts ps w1 hs (fun u m => by have := deps_mem m; simp only [dep]; omega)
    have hne : vals bs ps ≠ [] := by intro e; have := vals_len bs ps; rw [e] at this; simp at this; omega
    have sz : ∀ x ∈ vals bs ps, Sz (szbs B ps) x := by
      intro x m
      rw [vals_eq, List.mem_map] at m
      obtain ⟨u, mu, rfl⟩ := m
      exact (p1 u mu).mono (by have := szbs_mem (B := B) mu; omega)
    refine ⟨fun d hd h => ?_, sz _ (mnl_mem hne)⟩
    obtain ⟨h1, e1, g1⟩ := run ps p2 w3 d hd (fun _ => True) (fun _ => trivial) (enc (.least ps)) (some (.str "least")) h
    obtain ⟨h2, e2, g2⟩ := least_ok (d := d - 1) (by omega) (lst_new h1 (frs (vals bs ps))) hne sz (by simp only [szb] at hs; omega)
    refine ⟨h2, call_of Lw.tb_17 (by omega) ⟨rfl, by decide⟩ (.inl ?_), (g1.trans (Gs.app _ _ _)).trans g2⟩
    simp [enc] at e1
    simp [enc, val, evE_lc, e1, e2]
  | greatest ps =>
    obtain ⟨w1, w2, w3⟩ := w
    obtain ⟨p1, p2⟩ := parts ps w1 hs (fun u m => by have := deps_mem m; simp only [dep]; omega)
    have hne : vals bs ps ≠ [] := by intro e; have := vals_len bs ps; rw [e] at this; simp at this; omega
    have sz : ∀ x ∈ vals bs ps, Sz (szbs B ps) x := by
      intro x m
      rw [vals_eq, List.mem_map] at m
      obtain ⟨u, mu, rfl⟩ := m
      exact (p1 u mu).mono (by have := szbs_mem (B := B) mu; omega)
    refine ⟨fun d hd h => ?_, sz _ (mxl_mem hne)⟩
    obtain ⟨h1, e1, g1⟩ := run ps p2 w3 d hd (fun _ => True) (fun _ => trivial) (enc (.greatest ps)) (some (.str "greatest")) h
    obtain ⟨h2, e2, g2⟩ := greatest_ok (d := d - 1) (by omega) (lst_new h1 (frs (vals bs ps))) hne sz (by simp only [szb] at hs; omega)
    refine ⟨h2, call_of Lw.tb_17 (by omega) ⟨rfl, by decide⟩ (.inl ?_), (g1.trans (Gs.app _ _ _)).trans g2⟩
    simp [enc] at e1
    simp [enc, val, evE_lc, e1, e2]
  | ranked k ps =>
    obtain ⟨w1, w2, w3, k1, k2⟩ := w
    obtain ⟨p1, p2⟩ := parts ps w1 hs (fun u m => by have := deps_mem m; simp only [dep]; omega)
    have vl := vals_len bs ps
    have sz : ∀ x ∈ vals bs ps, Sz (szbs B ps) x := by
      intro x m
      rw [vals_eq, List.mem_map] at m
      obtain ⟨u, mu, rfl⟩ := m
      exact (p1 u mu).mono (by have := szbs_mem (B := B) mu; omega)
    refine ⟨fun d hd h => ?_, ?_⟩
    · obtain ⟨h1, e1, g1⟩ := run ps p2 w3 d hd (fun _ => True) (fun _ => trivial) (enc (.ranked k ps)) (some (.str "ranked")) h
      have hd2 : 2 ≤ dep (.ranked k ps) := by simp only [dep]; cases ps with | nil => simp at w2 | cons u us => simp only [deps]; have := dep_pos u; omega
      obtain ⟨h2, e2, g2⟩ := ranked_ok (d := d - 1) (by omega) k (lst_new h1 (frs (vals bs ps))) sz (by simp only [szb] at hs; omega) (by omega) (by omega)
      refine ⟨h2, call_of Lw.tb_17 (by omega) ⟨rfl, by decide⟩ (.inl ?_), (g1.trans (Gs.app _ _ _)).trans g2⟩
      simp [enc] at e1
      rw [vl] at e2
      simp [enc, val, evE_lc, e1, e2]
    · have l1 : (srt (vals bs ps))[ps.length - k]? = some ((srt (vals bs ps))[ps.length - k]?.getD 0) := by
        rw [List.getElem?_eq_getElem (by rw [srt_len]; omega)]; rfl
      exact sz _ (srt_mem.1 (List.mem_of_getElem? l1))
  | between a b u =>
    obtain ⟨w1, wa, wb, wl⟩ := w
    have du : dep u < dep (.between a b u) := by simp only [dep]; omega
    simp only [szb] at hs
    obtain ⟨i1, i2⟩ := ih u du w1 (by omega)
    have sa := wa.2.2.mono (show B ≤ B + szb B u by omega)
    have sb := wb.2.2.mono (show B ≤ B + szb B u by omega)
    have su := i2.mono (show szb B u ≤ B + szb B u by omega)
    refine ⟨fun d hd h => ?_, ?_⟩
    · simp only [dep] at hd
      obtain ⟨h1, e1, g1⟩ := i1 (d - 1) (by omega) h
      obtain ⟨h2, e2, g2⟩ := middle_ok (d := d - 1) (by have := dep_pos u; omega) h1 sa sb su (by omega)
      refine ⟨h2, call_of Lw.tb_17 (by omega) ⟨rfl, by decide⟩ (.inl ?_), g1.trans g2⟩
      simp [enc, val, e1, e2]
    · have l1 : (srt [a, b, val bs u])[1]? = some ((srt [a, b, val bs u])[1]?.getD 0) := by
        rw [List.getElem?_eq_getElem (by rw [srt_len]; simp)]; rfl
      have m := srt_mem.1 (List.mem_of_getElem? l1)
      simp only [val, szb]
      generalize (srt [a, b, val bs u])[1]?.getD 0 = z at *
      simp at m
      rcases m with rfl | rfl | rfl
      · exact sa
      · exact sb
      · exact su
  | mean ws ps =>
    obtain ⟨w1, w2, w3, wl, ww⟩ := w
    obtain ⟨p1, p2⟩ := parts ps w1 (by simp only [szb] at hs; omega) (fun u m => by have := deps_mem m; simp only [dep]; omega)
    have vl := vals_len bs ps
    have hd2 : 2 ≤ dep (.mean ws ps) := by simp only [dep]; cases ps with | nil => simp at w2 | cons u us => simp only [deps]; have := dep_pos u; omega
    have hW : 1 ≤ ws.sum ∧ ws.sum < 2 ^ 12 := sum_lim ww (by omega) (by omega)
    have hz : ∀ (i : Nat) (w : Nat) (v : Rat), (ws.zip (vals bs ps))[i]? = some (w, v) → Sz ((ps.map (szb B))[i]?.getD 0) v := by
      intro i w v e
      have e2 := (List.getElem?_zip_eq_some.1 e).2
      rw [vals_eq, List.getElem?_map] at e2
      rw [List.getElem?_map]
      cases q : ps[i]? with
      | none => rw [q] at e2; cases e2
      | some u =>
        rw [q] at e2
        cases e2
        exact p1 u (List.mem_of_getElem? q)
    have tk : (ps.map (szb B)).take ws.length = ps.map (szb B) := List.take_of_length_le (by simp; omega)
    have mean : ∀ {d : Nat} {t u : T} {h : Hs}, 4 ≤ d → lstOf h t = some (wts ws) → lstOf h u = some (frs (vals bs ps)) → callN Lw.tb d 15 [t, u] h = .ok (fr (meanR ws (vals bs ps))) h ∧ Sz (szbs B ps + 13) (meanR ws (vals bs ps)) := by
      intro d t u h hd et eu
      have z := mean_ok hd et eu (fun w m => by have := ww w m; omega) hz (by simp; omega) (by rw [tk, ← szbs_eq]; simp only [szb] at hs; omega) hW
      rw [tk, ← szbs_eq] at z
      exact z
    refine ⟨fun d hd h => ?_, ?_⟩
    · have hp : ∀ p ∈ ws.zip ps, p.2 ∈ ps := fun p m => (List.of_mem_zip (a := p.1) (b := p.2) m).2
      obtain ⟨h1, e1, g1⟩ := lcRun_list (std := fun _ => True) (f := lcG (callN Lw.tb (d - 1)) [some (enc (.mean ws ps)), some (.tup (frs bs)), some (.str "mean"), none, none, none] (.var 5) (.cons (.name 5) (.cons (.name 4) .nil)) .non [5, 4]) (fun p : Nat × Tm => T.tup [.int (p.1 : Int), enc p.2]) (fun p => .int p.1) (xs := ws.zip ps) (acc := []) (h := h) (fun _ _ => trivial)
        (fun p m h' g => ⟨h', by simp [lcG], Gs.refl _ _⟩) (by simp; omega)
      obtain ⟨h2, e2, g2⟩ := lcRun_list (std := fun _ => True) (f := lcG (callN Lw.tb (d - 1)) [some (enc (.mean ws ps)), some (.tup (frs bs)), some (.str "mean"), none, none, none] (.call 17 (.cons (.var 4) (.cons (.var 1) .nil))) (.cons (.name 5) (.cons (.name 4) .nil)) .non [5, 4]) (fun p : Nat × Tm => T.tup [.int (p.1 : Int), enc p.2]) (fun p => fr (val bs p.2)) (xs := ws.zip ps) (acc := []) (h := h1 ++ [.lst (wts ws)]) (fun _ _ => trivial)
        (fun p m h' g => by
          obtain ⟨h'', e, g⟩ := p2 p.2 (hp p m) (d - 1) (by omega) h'
          exact ⟨h'', by simp [lcG, e], g⟩) (by simp; omega)
      have m1 : (ws.zip ps).map (fun p : Nat × Tm => T.int (p.1 : Int)) = wts ws := by
        have : (ws.zip ps).map (fun p : Nat × Tm => T.int (p.1 : Int)) = ((ws.zip ps).map Prod.fst).map (fun w : Nat => T.int (w : Int)) := by rw [List.map_map]; rfl
        rw [this, List.map_fst_zip (by omega)]; rfl
      have m2 : (ws.zip ps).map (fun p : Nat × Tm => fr (val bs p.2)) = frs (vals bs ps) := by
        have : (ws.zip ps).map (fun p : Nat × Tm => fr (val bs p.2)) = ((ws.zip ps).map Prod.snd).map (fun u => fr (val bs u)) := by rw [List.map_map]; rfl
        rw [this, List.map_snd_zip (by omega), vals_eq, frs, List.map_map]; rfl
      rw [m1, ← zip_enc] at e1
      rw [m2, ← zip_enc] at e2
      rw [List.nil_append] at e1 e2
      have lt : lstOf (h2 ++ [.lst (frs (vals bs ps))]) (.rf h1.length) = some (wts ws) := lstOf_gs (g2.trans (Gs.app [] _ _)) (lst_new h1 _) (fun _ _ q => by cases q)
      have me := (mean (d := d - 1) (by omega) lt (lst_new h2 _)).1
      refine ⟨h2 ++ [.lst (frs (vals bs ps))], call_of Lw.tb_17 (by omega) ⟨rfl, by decide⟩ (.inl ?_), ((g1.trans (Gs.app _ _ _)).trans g2).trans (Gs.app _ _ _)⟩
      simp [enc] at e1 e2
      simp [enc, val, evE_lc, e1, e2, me]
    · exact (mean (d := 4) (t := .rf 0) (u := .rf 1) (h := [.lst (wts ws), .lst (frs (vals bs ps))]) (by decide) rfl rfl).2
end CB

/-! The law's own fractions. -/
namespace CB
open PySem
@[simp] theorem bltI_int (i : Int) : bltI .int [.int i] = ret (.int i) := rfl
theorem lowest_ok {d n : Nat} (hd : 1 ≤ d) {a b : Int} (hb : 0 < b) (hs : b.natAbs < 2 ^ n) (hn : n < 9000) (h : Hs) : callN Lw.tb d 1002 [.int a, .int b] h = .ok (fr (Rat.divInt a b)) h := by
  refine call_of Lw.tb_1002 hd ⟨rfl, by decide⟩ (.inl ?_)
  rw [divInt_fr hb]
  have g1 := gcd_pos' (a := a) hb
  have g2 := gcd_sz (a := a) hb hs
  have key := while_ends (f := whF (callN Lw.tb (d - 1)) (.cmp .gt (.var 3) (.cst (.int 0))) (.cons (.par 2 3 (.var 3) (.bin .mod (.blt .int (.cons (.var 2) .nil)) (.var 3))) .nil))
    (fun σ h' => h' = h ∧ ∃ x y : Nat, σ = [some (.int a), some (.int b), some (.int x), some (.int y)] ∧ Nat.gcd x y = Int.gcd a b)
    (fun σ h' => match σ with | [_, _, _, some (.int y)] => y.toNat | _ => 0)
    (fun o => o = .nx [some (.int a), some (.int b), some (.int (Int.gcd a b)), some (.int 0)] h)
    (by
      rintro σ h' ⟨rfl, x, y, rfl, hg⟩
      rcases Nat.eq_zero_or_pos y with rfl | hy
      · refine .inl ⟨_, ?_, rfl⟩
        simp at hg
        subst hg
        simp [whF]
      · refine .inr ⟨[some (.int a), some (.int b), some (.int y), some (.int (x % y : Nat))], h', ?_, ⟨rfl, y, x % y, rfl, ?_⟩, ?_⟩
        · simp [whF, hy, binI_mod]
        · rw [← hg, Nat.gcd_comm, ← Nat.gcd_rec]; exact Nat.gcd_comm y x
        · simp; exact Nat.mod_lt _ hy)
    (σ := [some (.int a), some (.int b), some (.int a.natAbs), some (.int b)]) (h := h) ⟨rfl, a.natAbs, b.natAbs, by rw [Int.natAbs_of_nonneg (show 0 ≤ b by omega)], rfl⟩
  simp [exS_whl, key, binI_fdiv g1 g2 hn]
theorem lprod_ok {d m n : Nat} (hd : 2 ≤ d) {p q : Rat} (hp : Sz m p) (hq : Sz n q) (hn : m + n < 9000) (h : Hs) : callN Lw.tb d 1004 [fr p, fr q] h = .ok (fr (p * q)) h := by
  refine call_of Lw.tb_1004 (by omega) ⟨rfl, by decide⟩ (.inl ?_)
  rw [mul_divInt]
  simp [fr, binI_mul hp.1 hq.1 (show m + n ≤ 900000 by omega), binI_mul (den_cast hp.2) (den_cast hq.2) (show m + n ≤ 900000 by omega), lowest_ok (show 1 ≤ d - 1 by omega) (Int.mul_pos (den_pos' p) (den_pos' q)) (mul_sz (den_cast hp.2) (den_cast hq.2)) hn]
/-- the product with a pair that is not in lowest terms -/
theorem lprod_raw {d m n : Nat} (hd : 2 ≤ d) {p : Rat} {a b : Int} (hp : Sz m p) (ha : a.natAbs < 2 ^ n) (hb : b.natAbs < 2 ^ n) (b0 : 0 < b) (hn : m + n < 9000) (h : Hs) : callN Lw.tb d 1004 [fr p, .tup [.int a, .int b]] h = .ok (fr (p * Rat.divInt a b)) h := by
  refine call_of Lw.tb_1004 (by omega) ⟨rfl, by decide⟩ (.inl ?_)
  have e : p * Rat.divInt a b = Rat.divInt (p.num * a) (p.den * b) := by
    conv => lhs; arg 1; rw [← Rat.num_divInt_den p]
    rw [Rat.divInt_mul_divInt]
  rw [e]
  simp [fr, binI_mul hp.1 ha (show m + n ≤ 900000 by omega), binI_mul (den_cast hp.2) hb (show m + n ≤ 900000 by omega), lowest_ok (show 1 ≤ d - 1 by omega) (Int.mul_pos (den_pos' p) b0) (mul_sz (den_cast hp.2) hb) hn]
theorem lsum_ok {d m n : Nat} (hd : 2 ≤ d) {p q : Rat} (hp : Sz m p) (hq : Sz n q) (hn : m + n < 8990) (h : Hs) : callN Lw.tb d 1003 [fr p, fr q, .int 1] h = .ok (fr (p + q)) h := by
  refine call_of Lw.tb_1003 (by omega) ⟨rfl, by decide⟩ (.inl ?_)
  rw [add_divInt]
  have o1 : ((1 : Int)).natAbs < 2 ^ 1 := by decide
  simp [fr, binI_mul hp.1 (den_cast hq.2) (show m + n ≤ 900000 by omega), binI_mul o1 hq.1 (show 1 + n ≤ 900000 by omega), binI_mul hq.1 (den_cast hp.2) (show n + m ≤ 900000 by omega), binI_mul (den_cast hp.2) (den_cast hq.2) (show m + n ≤ 900000 by omega), lowest_ok (show 1 ≤ d - 1 by omega) (Int.mul_pos (den_pos' p) (den_pos' q)) (mul_sz (den_cast hp.2) (den_cast hq.2)) (show m + n < 9000 by omega)]
theorem sub_divInt (p q : Rat) : p - q = Rat.divInt (p.num * q.den + (-1) * q.num * p.den) (p.den * q.den) := by
  have := add_divInt p (-q)
  rw [Rat.neg_num, Rat.neg_den] at this
  rw [Rat.sub_eq_add_neg, this]
  congr 2; grind
theorem lsub_ok {d m n : Nat} (hd : 2 ≤ d) {p q : Rat} (hp : Sz m p) (hq : Sz n q) (hn : m + n < 8990) (h : Hs) : callN Lw.tb d 1003 [fr p, fr q, .int (-1)] h = .ok (fr (p - q)) h := by
  refine call_of Lw.tb_1003 (by omega) ⟨rfl, by decide⟩ (.inl ?_)
  rw [sub_divInt]
  have o1 : ((-1 : Int)).natAbs < 2 ^ 1 := by decide
  have o2 : (-1 * q.num).natAbs < 2 ^ n := by
    have := hq.1
    rw [Int.natAbs_mul]; simpa using this
  simp only [Int.neg_mul, Int.one_mul] at o2
  simp [fr, binI_mul hp.1 (den_cast hq.2) (show m + n ≤ 900000 by omega), binI_mul o1 hq.1 (show 1 + n ≤ 900000 by omega), binI_mul o2 (den_cast hp.2) (show n + m ≤ 900000 by omega), binI_mul (den_cast hp.2) (den_cast hq.2) (show m + n ≤ 900000 by omega), lowest_ok (show 1 ≤ d - 1 by omega) (Int.mul_pos (den_pos' p) (den_pos' q)) (mul_sz (den_cast hp.2) (den_cast hq.2)) (show m + n < 9000 by omega)]
theorem lless_ok {d m n : Nat} (hd : 1 ≤ d) {p q : Rat} (hp : Sz m p) (hq : Sz n q) (hn : m + n ≤ 900000) (h : Hs) : callN Lw.tb d 1005 [fr p, fr q] h = .ok (.bl (decide (p < q))) h := by
  refine call_of Lw.tb_1005 (by omega) ⟨rfl, by decide⟩ (.inl ?_)
  have e : p < q ↔ p.num * q.den < q.num * p.den := Rat.lt_iff p q
  simp [fr, binI_mul hp.1 (den_cast hq.2) hn, binI_mul hq.1 (den_cast hp.2) (show n + m ≤ 900000 by omega), e]
theorem frs_filter (p : Rat → Bool) (xs : List Rat) : ((frs xs).filterMap fun t => (match t with | t => some t)) = frs xs := by simp
theorem lcRun_filter {std : Hs → Prop} {f : T → M (Option T)} {h : Hs} (s : std h) (p : Rat → Bool) (xs : List Rat) (hf : ∀ x ∈ xs, f (fr x) h = .ok (if p x then some (fr x) else none) h) : ∀ acc : List T, acc.length + xs.length ≤ SZ → lcRun std f (frs xs) acc h = .ok (acc ++ frs (xs.filter p)) h := by
  induction xs with
  | nil => intro acc _; rw [show frs [] = [] from rfl, lcRun_nil s]; simp [frs]
  | cons x xs ih =>
    intro acc hl
    have e := hf x List.mem_cons_self
    simp only [List.length_cons] at hl
    show lcRun std f (fr x :: frs xs) acc h = _
    cases q : p x with
    | true =>
      rw [q, if_pos rfl] at e
      rw [lcRun_some s e (by omega), ih (fun y m => hf y (List.mem_cons_of_mem _ m)) _ (by rw [List.length_append, List.length_singleton]; omega)]
      simp [List.filter_cons, q, frs]
    | false =>
      rw [q] at e
      rw [lcRun_none s e, ih (fun y m => hf y (List.mem_cons_of_mem _ m)) _ (by omega)]
      simp [List.filter_cons, q, frs]
theorem lsortedW {d n : Nat} (hd : 2 ≤ d) {t : T} {qs : List Rat} {h : Hs} {std : Hs → Prop} (e : walkL (h ++ [.lst []]) t = some ⟨frs qs, std⟩) (hst : ∀ h', Gs [] h h' → std h') (hs : ∀ x ∈ qs, Sz n x) (hn : 2 * n ≤ 900000) (hl : qs.length < 1000000) :
    ∃ h', callN Lw.tb d 1006 [t] h = .ok (.rf h.length) h' ∧ Gs [] h h' ∧ h'[h.length]? = some (.lst (frs (srt qs))) := by
  have bnew : ∀ h' : Hs, h'.length ≥ h.length + 1 → True := fun _ _ => trivial
  obtain ⟨σ', h', er, v, w, i2, i1, i3⟩ := forRun_go (std := std) (tg := .name 2) (body := exSs (callN Lw.tb (d - 1)) (.cons (.asg (.name 3) (.blt .len (.cons (.lc (.var 4) (.name 4) (.over (.var 1)) (.som (.not (.call 1005 (.cons (.var 2) (.cons (.var 4) .nil))))) [4]) .nil))) (.cons (.exp (.met .insert (.var 1) (.cons (.var 3) (.cons (.var 2) .nil)))) .nil)))
    (fun k σ h' => ∃ v w, σ = [some t, some (.rf h.length), v, w, none] ∧ Gs [] h h' ∧ h'[h.length]? = some (.lst (frs (srt (qs.take k)))))
    (fun k σ h' i => by
      obtain ⟨v, w, _, g, _⟩ := i
      exact hst h' g)
    (ts := frs qs) (k := 0) (σ := [some t, some (.rf h.length), none, none, none]) (h := h ++ [.lst []]) ⟨none, none, rfl, Gs.app _ _ _, by simp; rfl⟩
    (by
      rintro i x ex σ h2 ⟨v, w, rfl, g, r⟩
      obtain ⟨p, ep, rfl⟩ := frs_get ex
      rw [Nat.zero_add] at *
      have sp : Sz n p := hs p (List.mem_of_getElem? ep)
      have a := srt_asc (qs.take i)
      have sl : (srt (qs.take i)).length ≤ qs.length := by rw [srt_len, List.length_take]; omega
      have ss : ∀ x ∈ srt (qs.take i), Sz n x := fun x m => hs x (List.mem_of_mem_take (srt_mem.1 m))
      rw [take_succ' ep, show srt (qs.take i ++ [p]) = ins p (srt (qs.take i)) by simp [srt, List.foldl_append]]
      generalize srt (qs.take i) = xs at *
      have r' : lstOf h2 (.rf h.length) = some (frs xs) := by simp [lstOf, r]
      have lc := lcRun_filter (std := fun h' => lstOf h' (.rf h.length) = some (frs xs)) (f := lcG (callN Lw.tb (d - 1)) [some t, some (.rf h.length), some (fr p), w, none] (.var 4) (.name 4) (.som (.not (.call 1005 (.cons (.var 2) (.cons (.var 4) .nil))))) [4]) (h := h2) r' (fun x => decide (x ≤ p)) xs (fun x m => by
        have l := lless_ok (d := d - 1) (by omega) sp (ss x m) (by omega) h2
        by_cases c : p < x
        · have c2 : ¬ x ≤ p := by grind
          simp [lcG, l, c, c2]
        · have c2 : x ≤ p := by grind
          simp [lcG, l, c, c2]) [] (by simp; omega)
      rw [List.nil_append] at lc
      have ll := lo_len p xs
      have r2 : (h2 ++ [.lst (frs (lo p xs))])[h.length]? = some (.lst (frs xs)) := (Gs.app [] h2 _).at r (fun q => by cases q)
      have mi := metI_insert r2 (i := (lo p xs).length) (fr p) (by omega) (by rw [frs_len]; show _ < 16777216; omega)
      rw [ins_cut a] at mi
      have hb : h.length < (h2 ++ [O.lst (frs (lo p xs))]).length := by rw [List.getElem?_eq_some_iff] at r2; exact r2.1
      refine ⟨_, tak_name _ _ _, [some t, some (.rf h.length), some (fr p), some (.int (lo p xs).length), none], (h2 ++ [O.lst (frs (lo p xs))]).set h.length (.lst (frs (ins p xs))), .inl ?_, _, _, rfl, ?_, ?_⟩
      · have e2 : List.filter (fun x => decide (x ≤ p)) xs = lo p xs := rfl
        have l2 := lst_new h2 (frs (lo p xs))
        have l3 : lstOf (h2 ++ [.lst (frs (lo p xs))]) (.rf h.length) = some (frs xs) := by simp [lstOf, r2]
        rw [e2] at lc
        simp [evE_lc, walkL_lst r', lc, bltI, seqOf_lst l2, frs_len, l3, mi]
      · exact Gs.new (B := [h.length]) (g.trans (Gs.app [] _ _)) (Gs.set [h.length] _ _ (by simp)) (by simp)
      · rw [List.getElem?_set_self hb])
  rw [Nat.zero_add, frs_len, List.take_length] at i3
  refine ⟨h', call_of Lw.tb_1006 (by omega) ⟨rfl, by decide⟩ (.inl ?_), i1, i3⟩
  subst i2
  simp [exS_for, e, er]
theorem lsorted_ok {d n : Nat} (hd : 2 ≤ d) {t : T} {qs : List Rat} {h : Hs} (e : lstOf h t = some (frs qs)) (hs : ∀ x ∈ qs, Sz n x) (hn : 2 * n ≤ 900000) (hl : qs.length < 1000000) :
    ∃ h', callN Lw.tb d 1006 [t] h = .ok (.rf h.length) h' ∧ Gs [] h h' ∧ h'[h.length]? = some (.lst (frs (srt qs))) :=
  lsortedW hd (walkL_lst (lstOf_gs (Gs.app [] h [.lst []]) e (fun _ _ q => by cases q))) (fun h' g => lstOf_gs g e (fun _ _ q => by cases q)) hs hn hl
theorem lsortedT_ok {d n : Nat} (hd : 2 ≤ d) {qs : List Rat} {h : Hs} (hs : ∀ x ∈ qs, Sz n x) (hn : 2 * n ≤ 900000) (hl : qs.length < 1000000) :
    ∃ h', callN Lw.tb d 1006 [.tup (frs qs)] h = .ok (.rf h.length) h' ∧ Gs [] h h' ∧ h'[h.length]? = some (.lst (frs (srt qs))) :=
  lsortedW hd (walkL_tup _ _) (fun _ _ => trivial) hs hn hl
end CB

namespace CB
open PySem
@[simp] theorem kit_NoneType_int : L2.kitB "NoneType" "int" = some false := by decide
@[simp] theorem kit_NoneType_bool : L2.kitB "NoneType" "bool" = some false := by decide
@[simp] theorem kit_NoneType_tuple : L2.kitB "NoneType" "tuple" = some false := by decide
@[simp] theorem kit_NoneType_str : L2.kitB "NoneType" "str" = some false := by decide
@[simp] theorem kit_NoneType_list : L2.kitB "NoneType" "list" = some false := by decide
@[simp] theorem kit_NoneType_dict : L2.kitB "NoneType" "dict" = some false := by decide
@[simp] theorem kit_bool_int : L2.kitB "bool" "int" = some true := by decide
@[simp] theorem kit_bool_bool : L2.kitB "bool" "bool" = some true := by decide
@[simp] theorem kit_bool_tuple : L2.kitB "bool" "tuple" = some false := by decide
@[simp] theorem kit_bool_str : L2.kitB "bool" "str" = some false := by decide
@[simp] theorem kit_bool_list : L2.kitB "bool" "list" = some false := by decide
@[simp] theorem kit_bool_dict : L2.kitB "bool" "dict" = some false := by decide
@[simp] theorem kit_int_int : L2.kitB "int" "int" = some true := by decide
@[simp] theorem kit_int_bool : L2.kitB "int" "bool" = some false := by decide
@[simp] theorem kit_int_tuple : L2.kitB "int" "tuple" = some false := by decide
@[simp] theorem kit_int_str : L2.kitB "int" "str" = some false := by decide
@[simp] theorem kit_int_list : L2.kitB "int" "list" = some false := by decide
@[simp] theorem kit_int_dict : L2.kitB "int" "dict" = some false := by decide
@[simp] theorem kit_str_int : L2.kitB "str" "int" = some false := by decide
@[simp] theorem kit_str_bool : L2.kitB "str" "bool" = some false := by decide
@[simp] theorem kit_str_tuple : L2.kitB "str" "tuple" = some false := by decide
@[simp] theorem kit_str_str : L2.kitB "str" "str" = some true := by decide
@[simp] theorem kit_str_list : L2.kitB "str" "list" = some false := by decide
@[simp] theorem kit_str_dict : L2.kitB "str" "dict" = some false := by decide
@[simp] theorem kit_tuple_int : L2.kitB "tuple" "int" = some false := by decide
@[simp] theorem kit_tuple_bool : L2.kitB "tuple" "bool" = some false := by decide
@[simp] theorem kit_tuple_tuple : L2.kitB "tuple" "tuple" = some true := by decide
@[simp] theorem kit_tuple_str : L2.kitB "tuple" "str" = some false := by decide
@[simp] theorem kit_tuple_list : L2.kitB "tuple" "list" = some false := by decide
@[simp] theorem kit_tuple_dict : L2.kitB "tuple" "dict" = some false := by decide
@[simp] theorem kit_list_int : L2.kitB "list" "int" = some false := by decide
@[simp] theorem kit_list_bool : L2.kitB "list" "bool" = some false := by decide
@[simp] theorem kit_list_tuple : L2.kitB "list" "tuple" = some false := by decide
@[simp] theorem kit_list_str : L2.kitB "list" "str" = some false := by decide
@[simp] theorem kit_list_list : L2.kitB "list" "list" = some true := by decide
@[simp] theorem kit_list_dict : L2.kitB "list" "dict" = some false := by decide
@[simp] theorem kit_dict_int : L2.kitB "dict" "int" = some false := by decide
@[simp] theorem kit_dict_bool : L2.kitB "dict" "bool" = some false := by decide
@[simp] theorem kit_dict_tuple : L2.kitB "dict" "tuple" = some false := by decide
@[simp] theorem kit_dict_str : L2.kitB "dict" "str" = some false := by decide
@[simp] theorem kit_dict_list : L2.kitB "dict" "list" = some false := by decide
@[simp] theorem kit_dict_dict : L2.kitB "dict" "dict" = some true := by decide
end CB

/-! The judges of numbers, bids and terms, at right ones. -/
namespace CB
open PySem
@[simp] theorem isi_int (h : Hs) (i : Int) (n : String) : isiI (.ty n) (.int i) h = L2.kitB "int" n := rfl
@[simp] theorem isi_bl (h : Hs) (b : Bool) (n : String) : isiI (.ty n) (.bl b) h = L2.kitB "bool" n := rfl
@[simp] theorem isi_str (h : Hs) (s : Str) (n : String) : isiI (.ty n) (.str s) h = L2.kitB "str" n := rfl
@[simp] theorem isi_tup (h : Hs) (xs : List T) (n : String) : isiI (.ty n) (.tup xs) h = L2.kitB "tuple" n := rfl
@[simp] theorem isi_non (h : Hs) (n : String) : isiI (.ty n) .non h = L2.kitB "NoneType" n := rfl
@[simp] theorem blt_len_tup (xs : List T) (h : Hs) : bltI .len [.tup xs] h = .ok (.int xs.length) h := rfl
theorem blt_len_lst {h : Hs} {t : T} {xs : List T} (e : lstOf h t = some xs) : bltI .len [t] h = .ok (.int xs.length) h := by
  cases t with
  | rf a => simp [bltI, seqOf_lst e]
  | frz ns => simp [bltI, seqOf_lst e]
  | _ => cases e
@[simp] theorem boolsOf_map {α : Type} (f : α → Bool) (xs : List α) : boolsOf (xs.map fun x => .bl (f x)) = some (xs.map f) := by
  induction xs with
  | nil => rfl
  | cons x xs ih =>
    show (boolsOf (xs.map _)).map (_ :: ·) = _
    rw [ih]; rfl
theorem blt_all {h : Hs} {α : Type} (f : α → Bool) {t : T} {xs : List α} (e : lstOf h t = some (xs.map fun x => .bl (f x))) : bltI .all [t] h = .ok (.bl (xs.all f)) h := by
  simp [bltI, e]
@[simp] theorem is_non : ∀ (x : T), cmpI .is x .non h = some (isN x) := fun _ => rfl
@[simp] theorem is_not_non : ∀ (x : T), cmpI .isNot x .non h = some (!isN x) := fun _ => rfl
theorem integer_ok {d : Nat} (hd : 1 ≤ d) (i : Int) (h : Hs) : callN Lw.tb d 0 [.int i] h = .ok (.bl true) h := by
  refine call_of Lw.tb_0 (by omega) ⟨rfl, by decide⟩ (.inl ?_)
  simp
theorem within_ok {d : Nat} (hd : 2 ≤ d) (i a b : Int) (h : Hs) : callN Lw.tb d 11 [.int i, .int a, .int b] h = .ok (.bl (decide (a ≤ i) && decide (i ≤ b))) h := by
  refine call_of Lw.tb_11 (by omega) ⟨rfl, by decide⟩ (.inl ?_)
  by_cases c : a ≤ i <;> simp [integer_ok (show 1 ≤ d - 1 by omega), c]
theorem fraction_ok {d : Nat} (hd : 2 ≤ d) (q : Rat) (h : Hs) : ∃ h', callN Lw.tb d 10 [fr q] h = .ok (.bl true) h' ∧ Gs [] h h' := by
  obtain ⟨h1, e1, g1⟩ := lcRun_list (std := fun _ => True) (f := lcG (callN Lw.tb (d - 1)) [some (fr q), none] (.call 0 (.cons (.var 1) .nil)) (.name 1) .non [1]) (fun i : Int => T.int i) (fun i => .bl true) (xs := [q.num, (q.den : Int)]) (acc := []) (h := h) (fun _ _ => trivial)
    (fun u m h' g => ⟨h', by simp [lcG, integer_ok (show 1 ≤ d - 1 by omega)], Gs.refl _ _⟩) (by simp)
  refine ⟨h1 ++ [.lst [.bl true, .bl true]], call_of Lw.tb_10 (by omega) ⟨rfl, by decide⟩ (.inl ?_), g1.trans (Gs.app _ _ _)⟩
  have ba := blt_all (h := h1 ++ [.lst [.bl true, .bl true]]) (fun _ : Nat => true) (t := .rf h1.length) (xs := [0, 0]) (lst_new _ _)
  simp [fr] at e1
  have e1' : (1 : Int) ≤ q.den := by have := q.den_pos; omega
  have e2 : Int.gcd q.num (q.den : Int) = 1 := q.reduced
  simp [fr, evE_lc, e1, ba, divisor_ok (show 1 ≤ d - 1 by omega), e1', e2]
theorem number_ok {d n : Nat} (hd : 3 ≤ d) {q : Rat} (hq : Num n q) (h : Hs) : ∃ h', callN Lw.tb d 12 [fr q] h = .ok (.bl true) h' ∧ Gs [] h h' := by
  obtain ⟨h1, e1, g1⟩ := fraction_ok (d := d - 1) (by omega) q h
  refine ⟨h1, call_of Lw.tb_12 (by omega) ⟨rfl, by decide⟩ (.inl ?_), g1⟩
  have a : 0 ≤ q.num := Rat.num_nonneg.2 hq.1
  have b : q.num ≤ q.den := by
    have := hq.2.1
    rw [Rat.le_iff] at this
    simpa using this
  simp [fr] at e1
  simp [fr, e1, a, b]
theorem numbers_ok {d n : Nat} (hd : 4 ≤ d) {qs : List Rat} (hq : ∀ q ∈ qs, Num n q) (hl : qs.length ≤ 1000) (h : Hs) : ∃ h', callN Lw.tb d 13 [.tup (frs qs), .int qs.length] h = .ok (.bl true) h' ∧ Gs [] h h' := by
  obtain ⟨h1, e1, g1⟩ := lcRun_list (std := fun _ => True) (f := lcG (callN Lw.tb (d - 1)) [some (.tup (frs qs)), some (.int qs.length), none] (.call 12 (.cons (.var 2) .nil)) (.name 2) .non [2]) fr (fun i => .bl true) (xs := qs) (acc := []) (h := h) (fun _ _ => trivial)
    (fun u m h' g => by
      obtain ⟨h'', e, g⟩ := number_ok (d := d - 1) (by omega) (hq u m) h'
      exact ⟨h'', by simp [lcG, e], g⟩) (by simp; omega)
  refine ⟨h1 ++ [.lst (qs.map fun _ => .bl true)], call_of Lw.tb_13 (by omega) ⟨rfl, by decide⟩ (.inl ?_), g1.trans (Gs.app _ _ _)⟩
  have ba := blt_all (h := h1 ++ [.lst (qs.map fun _ => .bl true)]) (fun _ : Rat => true) (t := .rf h1.length) (xs := qs) (lst_new _ _)
  rw [List.nil_append, show qs.map fr = frs qs from rfl] at e1
  simp [evE_lc, e1, frs_len, ba]
/-- a rule in the heap -/
def RuleAt (a n : Nat) (t : Tm) (h : Hs) : Prop := h[a]? = some (.ins 0 [(0, .int n), (1, enc t)])
theorem RuleAt.gs {a n : Nat} {t : Tm} {h h' : Hs} {A : List Nat} (r : RuleAt a n t h) (g : Gs A h h') (na : a ∉ A) : RuleAt a n t h' := g.at r na
theorem att_people {a n : Nat} {t : Tm} {h : Hs} (r : RuleAt a n t h) : attI (.rf a) 0 h = some (.int n) := by
  unfold attI; dsimp only; rw [r]; rfl
theorem att_term {a n : Nat} {t : Tm} {h : Hs} (r : RuleAt a n t h) : attI (.rf a) 1 h = some (enc t) := by
  unfold attI; dsimp only; rw [r]; rfl
end CB

/-! The law's own value. -/
namespace CB
open PySem
theorem atI_m1 {α} {xs : List α} (h : xs ≠ []) : L2.atI xs (-1) = xs[xs.length - 1]? := by
  have hp : 0 < xs.length := List.length_pos_iff.2 h
  unfold L2.atI L2.ixN
  rw [if_neg (by omega), if_pos (by omega)]
  show xs[((-1 : Int) + (xs.length : Nat)).toNat]? = _
  rw [show ((-1 : Int) + (xs.length : Nat)).toNat = xs.length - 1 by omega]
theorem intsOf_map {α : Type} (f : α → Nat) (xs : List α) : intsOf (xs.map fun x => .int (f x : Int)) = some (xs.map fun x => (f x : Int)) := by
  induction xs with
  | nil => rfl
  | cons x xs ih =>
    show (intsOf (xs.map _)).map (_ :: ·) = _
    rw [ih]; rfl
def LOk (B d : Nat) (bs : List Rat) (t : Tm) : Prop := ∀ h, ∃ h', callN Lw.tb d 1011 [enc t, .tup (frs bs)] h = .ok (fr (val bs t)) h' ∧ Gs [] h h'
theorem lvalue_ok {n B : Nat} {bs : List Rat} (hn : bs.length = n) (hb : ∀ q ∈ bs, Sz B q) (hB : 1 ≤ B) : ∀ (t : Tm), wf n B t → szb B t + 30 < 9000 → (∀ d, dep t + 3 ≤ d → LOk B d bs t) := by
  intro t
  induction t using tm_ind with
  | h t ih =>
  intro w hs
  have vsz : ∀ u, wf n B u → szb B u + 14 < 9000 → Sz (szb B u) (val bs u) := fun u w hs => (value_ok hn hb hB u w hs).2
  have parts : ∀ ps : List Tm, wfs n B ps → szbs B ps + 30 < 9000 → (∀ u ∈ ps, dep u < dep t) → (∀ u ∈ ps, Sz (szb B u) (val bs u)) ∧ (∀ u ∈ ps, ∀ d, dep t + 2 ≤ d → LOk B d bs u) := fun ps w hs hd =>
    ⟨fun u m => vsz u (wfs_mem w m) (by have := szbs_mem (B := B) m; omega), fun u m d hdd => ih u (hd u m) (wfs_mem w m) (by have := szbs_mem (B := B) m; omega) d (by have := hd u m; omega)⟩
  have run : ∀ ps : List Tm, wfs n B ps → szbs B ps + 30 < 9000 → (∀ u ∈ ps, dep u < dep t) → 1 ≤ ps.length → ps.length ≤ 8 → ∀ d, dep t + 3 ≤ d → ∀ v wd h, ∃ h1, lcRun (fun _ => True) (lcG (callN Lw.tb (d - 1)) [some v, some (.tup (frs bs)), wd, none, none, none, none] (.call 1011 (.cons (.var 6) (.cons (.var 1) .nil))) (.name 6) .non [6]) (encs ps) [] h = .ok (frs (vals bs ps)) h1 ∧ Gs [] h h1 ∧ ∃ h2, callN Lw.tb (d - 1) 1006 [.rf h1.length] (h1 ++ [.lst (frs (vals bs ps))]) = .ok (.rf (h1.length + 1)) h2 ∧ Gs [] h h2 ∧ lstOf h2 (.rf (h1.length + 1)) = some (frs (srt (vals bs ps))) := by
    intro ps w hs hd1 l1 hl d hd v wd h
    obtain ⟨p1, hv⟩ := parts ps w hs hd1
    obtain ⟨h', e, g⟩ := lcRun_list (std := fun _ => True) (f := lcG (callN Lw.tb (d - 1)) [some v, some (.tup (frs bs)), wd, none, none, none, none] (.call 1011 (.cons (.var 6) (.cons (.var 1) .nil))) (.name 6) .non [6]) enc (fun u => fr (val bs u)) (xs := ps) (acc := []) (h := h) (fun _ _ => trivial)
      (fun u m h' g => by
        obtain ⟨h'', e, g⟩ := hv u m (d - 1) (by omega) h'
        exact ⟨h'', by simp [lcG, e], g⟩) (by simp; omega)
    have sz : ∀ x ∈ vals bs ps, Sz (szbs B ps) x := by
      intro x m
      rw [vals_eq, List.mem_map] at m
      obtain ⟨u, mu, rfl⟩ := m
      exact (p1 u mu).mono (by have := szbs_mem (B := B) mu; omega)
    have vl := vals_len bs ps
    have dp := dep_pos t
    obtain ⟨h2, e2, g2, r2⟩ := lsorted_ok (d := d - 1) (by omega) (lst_new h' (frs (vals bs ps))) sz (by omega) (by omega)
    rw [List.length_append, List.length_singleton] at e2 r2
    refine ⟨h', ?_, g, h2, e2, (g.trans (Gs.app _ _ _)).trans g2, by simp [lstOf, r2]⟩
    rw [encs_eq, vals_eq, e]
    simp [frs]
  cases t with
  | bid p =>
    intro d hd h
    refine ⟨h, call_of Lw.tb_1011 (by omega) ⟨rfl, by decide⟩ (.inl ?_), Gs.refl _ _⟩
    have hp : p < bs.length := by have := w; unfold wf at this; omega
    have e : (frs bs)[p]? = some (fr (bs[p]?.getD 0)) := frs_at (by rw [List.getElem?_eq_getElem hp]; rfl)
    simp [enc, val, atI_nat, e]
  | fix q =>
    intro d hd h
    refine ⟨h, call_of Lw.tb_1011 (by omega) ⟨rfl, by decide⟩ (.inl ?_), Gs.refl _ _⟩
    simp [enc, val]
  | least ps =>
    obtain ⟨w1, w2, w3⟩ := w
    intro d hd h
    have hne : vals bs ps ≠ [] := by intro e; have := vals_len bs ps; rw [e] at this; simp at this; omega
    obtain ⟨h1, e1, g1, h2, e2, g2, r2⟩ := run ps w1 hs (fun u m => by have := deps_mem m; simp only [dep]; omega) w2 w3 d hd (enc (.least ps)) (some (.str "least")) h
    refine ⟨h2, call_of Lw.tb_1011 (by omega) ⟨rfl, by decide⟩ (.inl ?_), g2⟩
    have ix := frs_at (srt_first hne)
    simp [enc] at e1
    simp [enc, val, evE_lc, e1, e2, seqOf_lst r2, ix]
  | greatest ps =>
    obtain ⟨w1, w2, w3⟩ := w
    intro d hd h
    have hne : vals bs ps ≠ [] := by intro e; have := vals_len bs ps; rw [e] at this; simp at this; omega
    obtain ⟨h1, e1, g1, h2, e2, g2, r2⟩ := run ps w1 hs (fun u m => by have := deps_mem m; simp only [dep]; omega) w2 w3 d hd (enc (.greatest ps)) (some (.str "greatest")) h
    refine ⟨h2, call_of Lw.tb_1011 (by omega) ⟨rfl, by decide⟩ (.inl ?_), g2⟩
    have ix := frs_at (srt_last hne)
    have sne : frs (srt (vals bs ps)) ≠ [] := by
      intro e
      have := congrArg List.length e
      rw [frs_len, srt_len, vals_len, List.length_nil] at this
      omega
    have ia := atI_m1 sne
    rw [frs_len, srt_len, ix] at ia
    simp [enc] at e1
    simp [enc, val, evE_lc, e1, e2, seqOf_lst r2, ia]
  | ranked k ps =>
    obtain ⟨w1, w2, w3, k1, k2⟩ := w
    intro d hd h
    have vl := vals_len bs ps
    obtain ⟨h1, e1, g1, h2, e2, g2, r2⟩ := run ps w1 hs (fun u m => by have := deps_mem m; simp only [dep]; omega) w2 w3 d hd (enc (.ranked k ps)) (some (.str "ranked")) h
    refine ⟨h2, call_of Lw.tb_1011 (by omega) ⟨rfl, by decide⟩ (.inl ?_), g2⟩
    have l1 : (srt (vals bs ps))[ps.length - k]? = some ((srt (vals bs ps))[ps.length - k]?.getD 0) := by
      rw [List.getElem?_eq_getElem (by rw [srt_len]; omega)]; rfl
    have ix := frs_at l1
    generalize hm : (srt (vals bs ps))[ps.length - k]?.getD 0 = m at *
    have ia : L2.atI (frs (srt (vals bs ps))) ((ps.length : Int) - k) = some (fr m) := by
      rw [show (ps.length : Int) - k = ((ps.length - k : Nat) : Int) by omega, atI_nat, ix]
    have bl := blt_len_lst r2
    rw [frs_len, srt_len, vl] at bl
    simp [enc] at e1
    simp [enc, val, evE_lc, e1, e2, seqOf_lst r2, bl, ia, hm]
  | between a b u =>
    obtain ⟨w1, wa, wb, wl⟩ := w
    have du : dep u < dep (.between a b u) := by simp only [dep]; omega
    simp only [szb] at hs
    have sa := wa.2.2.mono (show B ≤ B + szb B u by omega)
    have sb := wb.2.2.mono (show B ≤ B + szb B u by omega)
    have su := (vsz u w1 (by omega)).mono (show szb B u ≤ B + szb B u by omega)
    intro d hd h
    simp only [dep] at hd
    obtain ⟨h1, e1, g1⟩ := ih u du w1 (by omega) (d - 1) (by omega) h
    obtain ⟨h2, e2, g2, r2⟩ := lsorted_ok (d := d - 1) (n := B + szb B u) (by omega) (h := h1 ++ [.lst (frs [a, b, val bs u])]) (lst_new h1 _) (by simp [sa, sb, su]) (by omega) (by simp)
    rw [List.length_append, List.length_singleton] at e2 r2
    have l1 : (srt [a, b, val bs u])[1]? = some ((srt [a, b, val bs u])[1]?.getD 0) := by
      rw [List.getElem?_eq_getElem (by rw [srt_len]; simp)]; rfl
    have ix := frs_at l1
    have r3 : lstOf h2 (.rf (h1.length + 1)) = some (frs (srt [a, b, val bs u])) := by simp [lstOf, r2]
    refine ⟨h2, call_of Lw.tb_1011 (by omega) ⟨rfl, by decide⟩ (.inl ?_), (g1.trans (Gs.app _ _ _)).trans g2⟩
    simp only [val]
    generalize (srt [a, b, val bs u])[1]?.getD 0 = m at *
    simp [frs] at e2
    simp [enc, e1, e2, seqOf_lst r3, ix]
  | mean ws ps =>
    obtain ⟨w1, w2, w3, wl, ww⟩ := w
    simp only [szb] at hs
    obtain ⟨p1, p2⟩ := parts ps w1 (by omega) (fun u m => by have := deps_mem m; simp only [dep]; omega)
    have vl := vals_len bs ps
    have hW : 1 ≤ ws.sum ∧ ws.sum < 2 ^ 12 := sum_lim ww (by omega) (by omega)
    have tk : (ps.map (szb B)).take ws.length = ps.map (szb B) := List.take_of_length_le (by simp; omega)
    have zv : ∀ k, wsum (((ws.zip ps).take k).map fun p => (p.1, val bs p.2)) = wsum ((ws.zip (vals bs ps)).take k) := by
      intro k
      rw [vals_eq, List.zip_map_right, List.map_take]; rfl
    intro d hd h
    have dp2 : 2 ≤ dep (.mean ws ps) := by simp only [dep]; cases ps with | nil => simp at w2 | cons u us => simp only [deps]; have := dep_pos u; omega
    obtain ⟨σ', h', er, g1, i3, a, b, i2⟩ := forRun_go (std := fun _ => True) (tg := .cons (.name 5) (.cons (.name 6) .nil)) (body := exSs (callN Lw.tb (d - 1)) (.cons (.asg (.name 4) (.call 1003 (.cons (.var 4) (.cons (.call 1004 (.cons (.tup (.cons (.var 5) (.cons (.cst (.int 1)) .nil))) (.cons (.call 1011 (.cons (.var 6) (.cons (.var 1) .nil))) .nil))) (.cons (.cst (.int 1)) .nil))))) .nil))
      (fun k σ h' => Gs [] h h' ∧ Sz ((((ps.map (szb B)).take k).map (· + 8)).sum + 1) (wsum (((ws.zip ps).take k).map fun p => (p.1, val bs p.2))) ∧ ∃ a b, σ = [some (enc (.mean ws ps)), some (.tup (frs bs)), some (.str "mean"), none, some (fr (wsum (((ws.zip ps).take k).map fun p => (p.1, val bs p.2)))), a, b]) (fun k σ h' i => trivial) (ts := zipT (wts ws) (encs ps)) (k := 0) (σ := [some (enc (.mean ws ps)), some (.tup (frs bs)), some (.str "mean"), none, some (fr 0), none, none]) (h := h) ⟨Gs.refl _ _, (by show Sz 1 0; exact ⟨by decide, by decide⟩), none, none, rfl⟩
      (by
        rintro i x ex σ h2 ⟨g, iz, a, b, rfl⟩
        rw [zip_enc, List.getElem?_map] at ex
        cases q : (ws.zip ps)[i]? with
        | none => rw [q] at ex; cases ex
        | some p =>
          rw [q] at ex
          cases ex
          rw [Nat.zero_add] at *
          have m := (List.getElem?_zip_eq_some.1 q)
          have mp := List.mem_of_getElem? m.2
          have sw : Sz 7 ((p.1 : Int) : Rat) := sz_int (by have := ww _ (List.mem_of_getElem? m.1); simp; omega) (by decide)
          have sv := p1 _ mp
          have es : (ps.map (szb B))[i]? = some (szb B p.2) := by rw [List.getElem?_map, m.2]; rfl
          have tk1 : (((ps.map (szb B)).take (i + 1)).map (· + 8)).sum = (((ps.map (szb B)).take i).map (· + 8)).sum + (szb B p.2 + 8) := by
            rw [take_succ' es]; simp
          have tl : (((ps.map (szb B)).take (i + 1)).map (· + 8)).sum ≤ szbs B ps := by
            rw [szbs_eq]
            conv => rhs; rw [← List.take_append_drop (i + 1) (ps.map (szb B))]
            rw [List.map_append, List.sum_append]
            omega
          obtain ⟨h3, e3, g3⟩ := p2 _ mp (d - 1) (by omega) h2
          have q1 := lprod_ok (d := d - 1) (by omega) sw sv (by omega) h3
          have q2 := lsum_ok (d := d - 1) (by omega) iz (mul_size sw sv) (by omega) h3
          rw [fr_int] at q1
          refine ⟨_, rfl, _, _, .inl ?_, g.trans g3, ?_, some (.int (p.1 : Int)), some (enc p.2), rfl⟩
          · rw [take_succ' q]
            simp [wsum, List.foldl_append] at q2 ⊢
            simp [e3, q1, q2]
          · rw [take_succ' q, tk1]
            have q := add_size iz (mul_size sw sv)
            simp only [wsum, List.map_append, List.map_cons, List.map_nil, List.foldl_append, List.foldl_cons, List.foldl_nil] at q ⊢
            exact q.mono (by omega))
    have zl : (zipT (wts ws) (encs ps)).length = ps.length := by simp [zipT, wts, encs_len]; omega
    rw [Nat.zero_add, zl, zv] at i2 i3
    have zl2 : (ws.zip (vals bs ps)).take ps.length = ws.zip (vals bs ps) := List.take_of_length_le (by simp; omega)
    rw [zl2] at i2 i3
    rw [show (ps.map (szb B)).take ps.length = ps.map (szb B) from List.take_of_length_le (by simp), ← szbs_eq] at i3
    obtain ⟨h1, e1, g2⟩ := lcRun_list (std := fun _ => True) (f := lcG (callN Lw.tb (d - 1)) [some (enc (.mean ws ps)), some (.tup (frs bs)), some (.str "mean"), none, some (fr (wsum (ws.zip (vals bs ps)))), a, b] (.var 5) (.cons (.name 5) (.cons (.name 6) .nil)) .non [5, 6]) (fun p : Nat × Tm => T.tup [.int (p.1 : Int), enc p.2]) (fun p => .int p.1) (xs := ws.zip ps) (acc := []) (h := h') (fun _ _ => trivial)
        (fun p m h' g => ⟨h', by simp [lcG], Gs.refl _ _⟩) (by simp; omega)
    have m1 : (ws.zip ps).map (fun p : Nat × Tm => T.int (p.1 : Int)) = wts ws := by
      have : (ws.zip ps).map (fun p : Nat × Tm => T.int (p.1 : Int)) = ((ws.zip ps).map Prod.fst).map (fun w : Nat => T.int (w : Int)) := by rw [List.map_map]; rfl
      rw [this, List.map_fst_zip (by omega)]; rfl
    rw [m1, ← zip_enc] at e1
    rw [List.nil_append] at e1
    have bs' : bltI .sum [.rf h1.length] (h1 ++ [.lst (wts ws)]) = .ok (.int (ws.sum : Nat)) (h1 ++ [.lst (wts ws)]) := by
      simp [bltI, intsOf_wts, sum_cast]
    have pr := lprod_raw (d := d - 1) (by omega) i3 (a := 1) (b := (ws.sum : Int)) (n := 12) (by decide) (by simpa using hW.2) (by omega) (by omega) (h1 ++ [.lst (wts ws)])
    have z0 : fr 0 = .tup [.int 0, .int 1] := rfl
    refine ⟨h1 ++ [.lst (wts ws)], call_of Lw.tb_1011 (by omega) ⟨rfl, by decide⟩ (.inl ?_), (g1.trans g2).trans (Gs.app _ _ _)⟩
    subst i2
    rw [z0] at er
    simp [enc] at e1 er
    simp [enc, val, exS_for, er, evE_lc, e1, bs']
    simp [pr, meanR, -Rat.divInt_ofNat]
end CB

/-! The law's dice. -/
namespace CB
open PySem
def nats (xs : List Nat) : List T := xs.map fun i : Nat => T.int (i : Int)
def diceO (b : Nat) (p w s c : Nat) : O := .lst [.rf b, .int p, .int w, .int s, .int c]
/-- dice at an address, from which so many draws may still be made -/
def Dice (a n : Nat) (h : Hs) : Prop := ∃ (b : Nat) (cells : List Nat) (p w s c : Nat), h[a]? = some (diceO b p w s c) ∧ h[b]? = some (.lst (nats cells)) ∧ s < 2 ^ 31 ∧ c + n ≤ 2 ^ 40 ∧ cells.length ≤ 63 ∧ p ≤ 64 ∧ b + 1 = a
theorem Dice.less {a n m : Nat} {h : Hs} (x : Dice a n h) (l : m ≤ n) : Dice a m h := by
  obtain ⟨b, cells, p, w, s, c, e1, e2, e3, e4, e5, e6⟩ := x
  exact ⟨b, cells, p, w, s, c, e1, e2, e3, by omega, e5, e6⟩
theorem Dice.gs {a n : Nat} {h h' : Hs} (x : Dice a n h) (g : Gs [] h h') : Dice a n h' := by
  obtain ⟨b, cells, p, w, s, c, e1, e2, e3⟩ := x
  exact ⟨b, cells, p, w, s, c, g.at e1 (fun q => by cases q), g.at e2 (fun q => by cases q), e3⟩
/-- what is new may change -/
theorem Dice.new {a n L : Nat} {h h' : Hs} (x : Dice a n h) (g : Gs [L] h h') (l : a < L) : Dice a n h' := by
  obtain ⟨b, cells, p, w, s, c, e1, e2, e3, e4, e5, e6, ba⟩ := x
  exact ⟨b, cells, p, w, s, c, g.at e1 (fun q => by simp at q; omega), g.at e2 (fun q => by simp at q; omega), e3, e4, e5, e6, ba⟩
theorem binI_pow {i j : Int} (h : powOk i j = true) : binI .pow (.int i) (.int j) = ret (.int (i ^ j.toNat)) := if_pos h
@[simp] theorem pow10_18 : binI .pow (.int 10) (.int 18) = ret (.int 1000000000000000000) := binI_pow (by decide)
@[simp] theorem ix5_1 : L2.ixN 5 1 = some 1 := by decide
@[simp] theorem ix5_2 : L2.ixN 5 2 = some 2 := by decide
@[simp] theorem ix5_3 : L2.ixN 5 3 = some 3 := by decide
@[simp] theorem ix5_4 : L2.ixN 5 4 = some 4 := by decide
theorem nats_get {xs : List Nat} {i : Nat} (h : i < xs.length) : (nats xs)[i]? = some (.int (xs[i] : Nat)) := by simp [nats, h]
theorem mulOk_nat {i j a b : Nat} (ha : i < 2 ^ a) (hb : j < 2 ^ b) (h : a + b ≤ 900000) : binI .mul (.int (i : Int)) (.int (j : Int)) = ret (.int ((i * j : Nat) : Int)) := by
  rw [binI_mul (a := a) (b := b) (by simpa using ha) (by simpa using hb) h]
  simp
theorem divOk_nat {i j b : Nat} (h : 0 < j) (hb : j < 2 ^ b) (hl : b < 9000) : binI .fdiv (.int (i : Int)) (.int (j : Int)) = ret (.int ((i / j : Nat) : Int)) := by
  rw [binI_fdiv (b := b) (by omega) (by simpa using hb) hl]; simp
theorem modOk_nat {i j : Nat} (h : 0 < j) : binI .mod (.int (i : Int)) (.int (j : Int)) = ret (.int ((i % j : Nat) : Int)) := by
  rw [binI_mod (by omega)]; simp
/-- the part of a draw behind the cell -/
def drawTail : Ss := match fn_law_draw_1001.body with
  | .cons _ r => r
  | _ => .nil
theorem mul_c {i : Int} {a : Nat} (ha : 0 ≤ i ∧ i < 2 ^ a) {j : Int} {b : Nat} (hb : 0 ≤ j ∧ j < 2 ^ b) (h : a + b ≤ 900000) : binI .mul (.int i) (.int j) = ret (.int (i * j)) := by
  refine binI_mul (a := a) (b := b) ?_ ?_ h
  · have : ((i.natAbs : Nat) : Int) < ((2 ^ a : Nat) : Int) := by rw [Int.natAbs_of_nonneg ha.1]; push_cast; exact ha.2
    omega
  · have : ((j.natAbs : Nat) : Int) < ((2 ^ b : Nat) : Int) := by rw [Int.natAbs_of_nonneg hb.1]; push_cast; exact hb.2
    omega
theorem draw_tail {d a b p w s c sides : Nat} {cells : List Nat} {h : Hs} {v : Option T} (hs : 0 < sides ∧ sides < 2 ^ 40) (e1 : h[a]? = some (diceO b p w s c)) (s1 : s < 2 ^ 31) (c1 : c < 2 ^ 40) :
    ∃ (r w' s' c' : Nat), exSs (callN Lw.tb d) drawTail [some (.rf a), some (.int sides), none, v, none] h = .ret (.int r) (h.set a (diceO b p w' s' c')) ∧ r < sides ∧ s' < 2 ^ 31 ∧ c' ≤ c + 1 := by
  obtain ⟨al, f2⟩ := List.getElem?_eq_some_iff.1 e1
  have sq : ∀ (h' : Hs) (xs : List T), h'[a]? = some (.lst xs) → seqOf h' (.rf a) = some xs := fun h' xs e => by simp [seqOf, lstOf, e]
  have q0 : seqOf h (.rf a) = some [.rf b, .int p, .int w, .int s, .int c] := sq _ _ e1
  rcases Nat.eq_zero_or_pos w with rfl | wp
  · obtain ⟨X, hX⟩ : ∃ X : Int, X = ((s : Int) * 48271 + ((c : Int) + 1) * 7919 + 1) % 2147483647 := ⟨_, rfl⟩
    have bX : 0 ≤ X ∧ X < 2 ^ 31 := by rw [hX]; exact ⟨Int.emod_nonneg _ (by decide), Int.lt_trans (Int.emod_lt_of_pos _ (by decide)) (by decide)⟩
    obtain ⟨Y, hY⟩ : ∃ Y : Int, Y = (X * (X / 1009 + 69623)) % 2147483399 := ⟨_, rfl⟩
    have bY : 0 ≤ Y ∧ Y < 2 ^ 31 := by rw [hY]; exact ⟨Int.emod_nonneg _ (by decide), Int.lt_trans (Int.emod_lt_of_pos _ (by decide)) (by decide)⟩
    obtain ⟨Z, hZ⟩ : ∃ Z : Int, Z = (Y * (Y / 2003 + 40693)) % 2147483563 := ⟨_, rfl⟩
    have f1 : binI .mul (.int s) (.int 48271) = ret (.int ((s : Int) * 48271)) := mul_c (a := 31) (b := 16) ⟨by omega, by omega⟩ ⟨by decide, by decide⟩ (by decide)
    have f2' : binI .mul (.int ((c : Int) + 1)) (.int 7919) = ret (.int (((c : Int) + 1) * 7919)) := mul_c (a := 41) (b := 13) ⟨by omega, by omega⟩ ⟨by decide, by decide⟩ (by decide)
    have f3 : binI .mod (.int ((s : Int) * 48271 + ((c : Int) + 1) * 7919 + 1)) (.int 2147483647) = ret (.int X) := by
      rw [hX]; exact binI_mod (by decide)
    have f4 : binI .fdiv (.int X) (.int 1009) = ret (.int (X / 1009)) := binI_fdiv (b := 10) (by decide) (by decide) (by decide)
    have f5 : binI .mul (.int X) (.int (X / 1009 + 69623)) = ret (.int (X * (X / 1009 + 69623))) := mul_c (a := 31) (b := 31) bX ⟨by omega, by omega⟩ (by decide)
    have f6 : binI .mod (.int (X * (X / 1009 + 69623))) (.int 2147483399) = ret (.int Y) := by
      rw [hY]; exact binI_mod (by decide)
    have f7 : binI .fdiv (.int Y) (.int 2003) = ret (.int (Y / 2003)) := binI_fdiv (b := 11) (by decide) (by decide) (by decide)
    have f8 : binI .mul (.int Y) (.int (Y / 2003 + 40693)) = ret (.int (Y * (Y / 2003 + 40693))) := mul_c (a := 31) (b := 31) bY ⟨by omega, by omega⟩ (by decide)
    have f9 : binI .mod (.int (Y * (Y / 2003 + 40693))) (.int 2147483563) = ret (.int Z) := by
      rw [hZ]; exact binI_mod (by decide)
    have f10 : binI .fdiv (.int Z) (.int 16) = ret (.int (Z / 16)) := binI_fdiv (b := 5) (by decide) (by decide) (by decide)
    have f11 : binI .mod (.int (Z / 16)) (.int sides) = ret (.int (Z / 16 % sides)) := binI_mod (by omega)
    have r1 := Int.emod_nonneg (Z / 16) (b := (sides : Int)) (by omega)
    have r2 := Int.emod_lt_of_pos (Z / 16) (b := (sides : Int)) (by omega)
    refine ⟨(Z / 16 % sides).toNat, 0, X.toNat, c + 1, ?_, by omega, by omega, by omega⟩
    have t1 : (((Z / 16 % sides).toNat : Nat) : Int) = Z / 16 % sides := by omega
    have t2 : ((X.toNat : Nat) : Int) = X := by omega
    clear hX hY hZ
    simp only [diceO, t1, t2] at *
    have q1 : seqOf (h.set a (.lst [.rf b, .int p, .int 0, .int s, .int (c + 1)])) (.rf a) = some [.rf b, .int p, .int 0, .int s, .int (c + 1)] := sq _ _ (List.getElem?_set_self al)
    have q2 : seqOf (h.set a (.lst [.rf b, .int p, .int 0, .int X, .int (c + 1)])) (.rf a) = some [.rf b, .int p, .int 0, .int X, .int (c + 1)] := sq _ _ (List.getElem?_set_self al)
    simp at q0 f2
    simp [drawTail, fn_law_draw_1001, q0, al, f2, q1, q2, f1, f2', f3, f4, f5, f6, f7, f8, f9, f10, f11]
  · refine ⟨w % sides, w / sides, s, c, ?_, Nat.mod_lt _ hs.1, s1, by omega⟩
    simp [drawTail, fn_law_draw_1001, q0, wp, modOk_nat hs.1, divOk_nat hs.1 hs.2 (show 40 < 9000 by decide), f2, al, diceO]
theorem dice_ne {a b p w s c : Nat} {cells : List Nat} {h : Hs} (e1 : h[a]? = some (diceO b p w s c)) (e2 : h[b]? = some (.lst (nats cells))) : b ≠ a := by
  intro q
  subst q
  rw [e1] at e2
  cases cells with
  | nil => simp [diceO, nats] at e2
  | cons x xs => simp [diceO, nats] at e2
theorem draw_ok {d a n sides : Nat} {h : Hs} (hd : 1 ≤ d) (hs : 0 < sides ∧ sides < 2 ^ 40) (x : Dice a n h) (hn : 1 ≤ n) :
    ∃ (r : Nat) (h' : Hs), callN Lw.tb d 1001 [.rf a, .int sides] h = .ok (.int r) h' ∧ r < sides ∧ Gs [a] h h' ∧ Dice a (n - 1) h' := by
  obtain ⟨b, cells, p, w, s, c, e1, e2, s1, c1, l1, p1, ba⟩ := x
  have nb := dice_ne e1 e2
  obtain ⟨al, f2⟩ := List.getElem?_eq_some_iff.1 e1
  obtain ⟨bl, f3⟩ := List.getElem?_eq_some_iff.1 e2
  -- the dice behind the cell
  have head : ∃ (p' w' s' : Nat) (v : Option T), exS (callN Lw.tb (d - 1)) (match fn_law_draw_1001.body with | .cons q _ => q | _ => .pas) [some (.rf a), some (.int sides), none, none, none] h = .nx [some (.rf a), some (.int sides), none, v, none] (h.set a (diceO b p' w' s' c)) ∧ s' < 2 ^ 31 ∧ p' ≤ 64 := by
    have sq : ∀ (h' : Hs) (xs : List T), h'[a]? = some (.lst xs) → seqOf h' (.rf a) = some xs := fun h' xs e => by simp [seqOf, lstOf, e]
    have q0 := sq _ _ e1
    have sb : ∀ o : O, seqOf (h.set a o) (.rf b) = some (nats cells) := fun o => by simp [seqOf, lstOf, Ne.symm nb, e2, f3]
    have sb0 : seqOf h (.rf b) = some (nats cells) := by simp [seqOf, lstOf, e2]
    have lb0 : lstOf h (.rf b) = some (nats cells) := by simp [lstOf, e2]
    have ln := blt_len_lst lb0
    have nl : (nats cells).length = cells.length := by simp [nats]
    have hset : h.set a (diceO b p w s c) = h := by
      conv => lhs; rw [← f2]
      exact List.set_getElem_self al
    by_cases c1' : w = 0 ∧ p < cells.length
    · obtain ⟨rfl, hp⟩ := c1'
      have pc : (p : Int) < cells.length := by omega
      have ix := nats_get hp
      have ai : L2.atI (nats cells) (p : Int) = some (.int (cells[p] : Nat)) := by rw [atI_nat, ix]
      generalize cells[p] = cell at *
      by_cases big : (1000000000000000000 : Int) ≤ (cell : Int)
      · refine ⟨p + 1, cell, s, some (.int cell), ?_, s1, by omega⟩
        simp only [diceO] at *
        simp at q0 f2
        simp [fn_law_draw_1001, q0, sb0, ln, nl, pc, ai, f2, al, big]
      · obtain ⟨X, hX⟩ : ∃ X : Int, X = ((s : Int) * 69621 + (cell : Int) * 40692 + ((p : Int) + 1)) % 2147483647 := ⟨_, rfl⟩
        have bX : 0 ≤ X ∧ X < 2 ^ 31 := by rw [hX]; exact ⟨Int.emod_nonneg _ (by decide), Int.lt_trans (Int.emod_lt_of_pos _ (by decide)) (by decide)⟩
        have g1 : binI .mul (.int s) (.int 69621) = ret (.int ((s : Int) * 69621)) := mul_c (a := 31) (b := 17) ⟨by omega, by omega⟩ ⟨by decide, by decide⟩ (by decide)
        have g2 : binI .mul (.int cell) (.int 40692) = ret (.int ((cell : Int) * 40692)) := mul_c (a := 60) (b := 16) ⟨by omega, by omega⟩ ⟨by decide, by decide⟩ (by decide)
        have g3 : binI .mod (.int ((s : Int) * 69621 + (cell : Int) * 40692 + ((p : Int) + 1))) (.int 2147483647) = ret (.int X) := by
          rw [hX]; exact binI_mod (by decide)
        refine ⟨p + 1, 0, X.toNat, some (.int cell), ?_, by omega, by omega⟩
        have t2 : ((X.toNat : Nat) : Int) = X := by omega
        clear hX
        simp only [diceO, t2] at *
        have q1 : seqOf (h.set a (.lst [.rf b, .int (p + 1), .int 0, .int s, .int c])) (.rf a) = some [.rf b, .int (p + 1), .int 0, .int s, .int c] := sq _ _ (List.getElem?_set_self al)
        simp at q0 f2
        simp [fn_law_draw_1001, q0, sb0, ln, nl, pc, ai, f2, al, big, q1, g1, g2, g3]
    · refine ⟨p, w, s, none, ?_, s1, p1⟩
      rw [hset]
      simp only [diceO] at *
      by_cases wz : w = 0
      · have pc : ¬ (p : Int) < cells.length := by omega
        subst wz
        simp at q0
        simp [fn_law_draw_1001, q0, sb0, ln, nl, pc]
      · have wz' : ¬ (w : Int) = 0 := by omega
        simp [fn_law_draw_1001, q0, wz]
  obtain ⟨p', w', s', v, eh, s1', p1'⟩ := head
  obtain ⟨r, w2, s2, c2, et, r1, s3, c3⟩ := draw_tail (d := d - 1) (h := h.set a (diceO b p' w' s' c)) (v := v) (cells := cells) hs (List.getElem?_set_self al) s1' (by omega)
  rw [List.set_set] at et
  refine ⟨r, h.set a (diceO b p' w2 s2 c2), call_of Lw.tb_1001 hd ⟨rfl, by decide⟩ (.inl ?_), r1, Gs.set _ _ _ (by simp), b, cells, p', w2, s2, c2, List.getElem?_set_self al, ?_, s3, by omega, l1, p1', ba⟩
  · have : fn_law_draw_1001.body = .cons (match fn_law_draw_1001.body with | .cons q _ => q | _ => .pas) drawTail := rfl
    show exSs (callN Lw.tb (d - 1)) fn_law_draw_1001.body [some (.rf a), some (.int sides), none, none, none] h = _
    rw [this, exSs_cons, eh]
    exact et
  · rw [List.getElem?_set_ne (Ne.symm nb)]; exact e2
end CB

/-! What the law draws: numbers, terms, rules. -/
namespace CB
open PySem
theorem Dice.lt {a n : Nat} {h : Hs} (x : Dice a n h) : a < h.length := by
  obtain ⟨b, cells, p, w, s, c, e1, _⟩ := x
  rw [List.getElem?_eq_some_iff] at e1; exact e1.1
theorem exists_map {α : Type} (g : α → T) (P : α → Prop) : ∀ {ys : List T}, (∀ (i : Nat) (y : T), ys[i]? = some y → ∃ q, y = g q ∧ P q) → ∃ qs : List α, ys = qs.map g ∧ ∀ q ∈ qs, P q
  | [], _ => ⟨[], rfl, fun _ m => by cases m⟩
  | y :: ys, h => by
    obtain ⟨q, e, p⟩ := h 0 y rfl
    obtain ⟨qs, e2, p2⟩ := exists_map g P (ys := ys) (fun i y e => h (i + 1) y (by simpa using e))
    exact ⟨q :: qs, by rw [e, e2]; rfl, fun x m => by rcases List.mem_cons.1 m with rfl | m; exact p; exact p2 x m⟩
theorem num_divInt {r b n : Nat} (hb : 0 < b) (hr : r ≤ b) (hn : b < 2 ^ n) : Num n (Rat.divInt (r : Int) (b : Int)) := by
  refine ⟨?_, ?_, divInt_sz (by omega) (by simp; omega) (by simpa using hn)⟩
  · rw [← Rat.num_nonneg, Rat.num_divInt, Int.sign_eq_one_of_pos (by omega), Int.one_mul]
    exact Int.ediv_nonneg (by omega) (by omega)
  · rw [Rat.le_iff, Rat.num_divInt, Rat.den_divInt, if_neg (by omega), Int.sign_eq_one_of_pos (by omega)]
    show 1 * (r : Int) / ((Int.gcd (b : Int) (r : Int) : Nat) : Int) * 1 ≤ 1 * (((b : Int).natAbs / Int.gcd (b : Int) (r : Int) : Nat) : Int)
    rw [Int.one_mul, Int.mul_one, Int.one_mul, Int.natCast_ediv, Int.natAbs_natCast]
    refine Int.ediv_le_ediv ?_ (by omega)
    have := Int.gcd_pos_of_ne_zero_left (a := (b : Int)) (r : Int) (by omega)
    omega
def bots : List Nat := [1, 2, 3, 4, 5, 6, 8, 10, 12, 60, 999983]
theorem bots_ok : ∀ b ∈ bots, 0 < b ∧ b < 2 ^ 20 := by decide
theorem lnumber_ok {d a n : Nat} {h : Hs} (hd : 2 ≤ d) (x : Dice a n h) (hn : 2 ≤ n) : ∃ (q : Rat) (h' : Hs), callN Lw.tb d 1007 [.rf a] h = .ok (fr q) h' ∧ Num 20 q ∧ Gs [a] h h' ∧ Dice a (n - 2) h' := by
  have al := x.lt
  have x1 := x.gs (Gs.app [] h [.lst (nats bots)])
  obtain ⟨r, h1, e1, r1, g1, x2⟩ := draw_ok (d := d - 1) (sides := 11) (by omega) (by decide) x1 (by omega)
  have hr : r < bots.length := r1
  have bm : bots[r] ∈ bots := List.getElem_mem hr
  obtain ⟨b0, b1⟩ := bots_ok _ bm
  have l1 : lstOf h1 (.rf h.length) = some (nats bots) := lstOf_gs g1 (lst_new h _) (fun b q => by cases q; simp; omega)
  have ix : L2.atI (nats bots) (r : Int) = some (.int (bots[r] : Nat)) := by rw [atI_nat, nats_get hr]
  generalize bots[r] = b at *
  obtain ⟨k, h2, e2, k1, g2, x3⟩ := draw_ok (d := d - 1) (sides := b + 1) (by omega) (by omega) x2 (by omega)
  have lo := lowest_ok (d := d - 1) (a := (k : Int)) (b := (b : Int)) (n := 20) (by omega) (by omega) (by simpa using b1) (by decide) h2
  refine ⟨Rat.divInt k b, h2, call_of Lw.tb_1007 (by omega) ⟨rfl, by decide⟩ (.inl ?_), num_divInt b0 (by omega) b1, (Gs.app [a] h _).trans (g1.trans g2), x3.less (by omega)⟩
  have sq := seqOf_lst l1
  have e1' : callN Lw.tb (d - 1) 1001 [.rf a, .int 11] (h ++ [.lst (nats bots)]) = .ok (.int r) h1 := e1
  have e2' : callN Lw.tb (d - 1) 1001 [.rf a, .int ((b : Int) + 1)] h1 = .ok (.int k) h2 := e2
  have nb : [T.int 1, .int 2, .int 3, .int 4, .int 5, .int 6, .int 8, .int 10, .int 12, .int 60, .int 999983] = nats bots := rfl
  have nl : (nats bots).length ≤ 16777216 := by decide
  generalize nats bots = NB at *
  simp [nb, nl, e1', sq, ix, e2', lo, -Rat.divInt_ofNat]
theorem blt_tuple_lst {h : Hs} {t : T} {xs : List T} (e : lstOf h t = some xs) : bltI .tuple [t] h = .ok (.tup xs) h := by
  simp [bltI, seqOf_lst e]
end CB

/-! What the law draws: terms. -/
namespace CB
open PySem
mutual
theorem wf_mono {n A B : Nat} (l : A ≤ B) : ∀ t : Tm, wf n A t → wf n B t
  | .bid p, w => w
  | .fix q, w => ⟨w.1, w.2.1, w.2.2.mono l⟩
  | .mean ws ps, w => ⟨wfs_mono l ps w.1, w.2⟩
  | .least ps, w => ⟨wfs_mono l ps w.1, w.2⟩
  | .greatest ps, w => ⟨wfs_mono l ps w.1, w.2⟩
  | .ranked k ps, w => ⟨wfs_mono l ps w.1, w.2⟩
  | .between a b t, w => ⟨wf_mono l t w.1, ⟨w.2.1.1, w.2.1.2.1, w.2.1.2.2.mono l⟩, ⟨w.2.2.1.1, w.2.2.1.2.1, w.2.2.1.2.2.mono l⟩, w.2.2.2⟩
theorem wfs_mono {n A B : Nat} (l : A ≤ B) : ∀ ps : List Tm, wfs n A ps → wfs n B ps
  | [], _ => trivial
  | t :: ts, w => ⟨wf_mono l t w.1, wfs_mono l ts w.2⟩
end
/-- bounds for what is drawn so deep (less 1): terms, size, draws -/
def cMax : Nat → Nat
  | 0 => 1
  | k + 1 => 1 + 3 * cMax k
def sMax (B : Nat) : Nat → Nat
  | 0 => B
  | k + 1 => 3 * (sMax B k + 8) + 13 + B
def dMax : Nat → Nat
  | 0 => 4
  | k + 1 => 7 + 3 * dMax k
/-- what holds of a drawn term -/
def Dr (n k : Nat) (t : Tm) : Prop := wf n 20 t ∧ dep t ≤ k + 1 ∧ cnt t ≤ cMax k ∧ ∀ B, 20 ≤ B → szb B t ≤ sMax B k
theorem cMax_le (k : Nat) : cMax k ≤ cMax (k + 1) := by simp only [cMax]; omega
theorem sMax_le (B k : Nat) : sMax B k ≤ sMax B (k + 1) := by simp only [sMax]; omega
theorem sMax_B (B : Nat) : ∀ k, B ≤ sMax B k
  | 0 => Nat.le_refl _
  | k + 1 => Nat.le_trans (sMax_B B k) (sMax_le B k)
theorem cMax_1 : ∀ k, 1 ≤ cMax k
  | 0 => Nat.le_refl _
  | k + 1 => Nat.le_trans (cMax_1 k) (cMax_le k)
theorem Dr.bid {n k p : Nat} (h : p < n) : Dr n k (.bid p) := ⟨h, by simp only [dep]; omega, by simp only [cnt]; exact cMax_1 k, fun B _ => sMax_B B k⟩
theorem Dr.fix {n k : Nat} {q : Rat} (h : Num 20 q) : Dr n k (.fix q) := ⟨h, by simp only [dep]; omega, by simp only [cnt]; exact cMax_1 k, fun B _ => sMax_B B k⟩
theorem parts_bound {n k : Nat} : ∀ {ps : List Tm}, (∀ t ∈ ps, Dr n k t) → wfs n 20 ps ∧ deps ps ≤ k + 1 ∧ cnts ps ≤ ps.length * cMax k ∧ ∀ B, 20 ≤ B → szbs B ps ≤ ps.length * (sMax B k + 8)
  | [], _ => ⟨trivial, by simp [deps], by simp [cnts], fun _ _ => by simp [szbs]⟩
  | t :: ts, h => by
    obtain ⟨a, b, c, d⟩ := parts_bound (ps := ts) fun u m => h u (List.mem_cons_of_mem _ m)
    obtain ⟨a1, b1, c1, d1⟩ := h t List.mem_cons_self
    refine ⟨⟨a1, a⟩, by simp only [deps]; omega, by simp only [cnts, List.length_cons, Nat.succ_mul]; omega, fun B hB => ?_⟩
    have := d B hB
    have := d1 B hB
    simp only [szbs, List.length_cons, Nat.succ_mul]
    omega
theorem mul3 {l x : Nat} (h : l ≤ 3) : l * x ≤ 3 * x := Nat.mul_le_mul_right x h
theorem Dr.parts {n k : Nat} {ps : List Tm} {t : Tm} (h : ∀ t ∈ ps, Dr n k t) (l1 : ps.length ≤ 3) (w : wfs n 20 ps → wf n 20 t) (hd : dep t = 1 + deps ps) (hc : cnt t = 1 + cnts ps) (hs : ∀ B, szb B t ≤ szbs B ps + 13) : Dr n (k + 1) t := by
  obtain ⟨a, b, c, d⟩ := parts_bound h
  refine ⟨w a, by omega, ?_, fun B hB => ?_⟩
  · have := mul3 (x := cMax k) l1
    simp only [cMax]; omega
  · have := mul3 (x := sMax B k + 8) l1
    have := d B hB
    have := hs B
    simp only [sMax]; omega
theorem Dr.between {n k : Nat} {a b : Rat} {t : Tm} (h : Dr n k t) (ha : Num 20 a) (hb : Num 20 b) (hl : a ≤ b) : Dr n (k + 1) (.between a b t) := by
  obtain ⟨w, d, c, s⟩ := h
  refine ⟨⟨w, ha, hb, hl⟩, by simp only [dep]; omega, by simp only [cnt, cMax]; omega, fun B hB => ?_⟩
  have := s B hB
  simp only [szb, sMax]; omega
theorem exists_zip (P : Nat → Prop) : ∀ {ts ys : List T}, ys.length = ts.length → (∀ (i : Nat) (t y : T), ts[i]? = some t → ys[i]? = some y → ∃ w : Nat, y = .tup [.int (w : Int), t] ∧ P w) → ∃ ws : List Nat, ws.length = ts.length ∧ ys = zipT (wts ws) ts ∧ ∀ w ∈ ws, P w
  | [], [], _, _ => ⟨[], rfl, rfl, fun _ m => by cases m⟩
  | t :: ts, y :: ys, l, h => by
    obtain ⟨w, e, p⟩ := h 0 t y rfl rfl
    obtain ⟨ws, l2, e2, p2⟩ := exists_zip P (ts := ts) (ys := ys) (by simpa using l) (fun i t y a b => h (i + 1) t y (by simpa using a) (by simpa using b))
    refine ⟨w :: ws, by simp [l2], ?_, fun x m => by rcases List.mem_cons.1 m with rfl | m; exact p; exact p2 x m⟩
    rw [e, e2]; rfl
  | [], y :: ys, l, _ => by cases l
  | t :: ts, [], l, _ => by cases l
theorem srt_two {n : Nat} {p q : Rat} (hp : Num n p) (hq : Num n q) : ∃ x y, srt [p, q] = [x, y] ∧ x ≤ y ∧ Num n x ∧ Num n y := by
  have l := srt_len [p, q]
  have a := srt_asc [p, q]
  have m : ∀ x ∈ srt [p, q], Num n x := fun x m => by
    have := srt_mem.1 m
    simp at this
    rcases this with rfl | rfl
    · exact hp
    · exact hq
  match e : srt [p, q], l with
  | [x, y], _ =>
    rw [e] at a m
    exact ⟨x, y, rfl, by have := List.pairwise_cons.1 a; exact this.1 y (by simp), m x (by simp), m y (by simp)⟩
theorem lterm_ok {people : Nat} (hp : 0 < people ∧ people < 2 ^ 40) (me : Bool) : ∀ (k d a n : Nat) (h : Hs), k + 4 ≤ d → Dice a n h → dMax k ≤ n → ∃ (t : Tm) (h' : Hs), callN Lw.tb d 1009 [.rf a, .int people, .int ((k : Int) + 1), .bl me] h = .ok (enc t) h' ∧ Dr people k t ∧ Gs [a] h h' ∧ Dice a (n - dMax k) h'
  | k, d, a, n, h, hd, x, hn => by
    have d4 : 4 ≤ dMax k := by cases k <;> simp only [dMax] <;> omega
    obtain ⟨kd, h1, e1, r1, g1, x1⟩ := draw_ok (d := d - 1) (sides := 8) (by omega) (by decide) x (by omega)
    have e1' : callN Lw.tb (d - 1) 1001 [.rf a, .int 8] h = .ok (.int kd) h1 := e1
    by_cases lf : k = 0 ∨ kd = 0
    · obtain ⟨z, h2, e2, r2, g2, x2⟩ := draw_ok (d := d - 1) (sides := 5) (by omega) (by decide) x1 (by omega)
      have e2' : callN Lw.tb (d - 1) 1001 [.rf a, .int 5] h1 = .ok (.int z) h2 := e2
      by_cases z0 : z = 0
      · obtain ⟨q, h3, e3, nq, g3, x3⟩ := lnumber_ok (d := d - 1) (by omega) x2 (by omega)
        refine ⟨.fix q, h3, call_of Lw.tb_1009 (by omega) ⟨rfl, by decide⟩ (.inl ?_), Dr.fix nq, (g1.trans g2).trans g3, x3.less (by omega)⟩
        by_cases k0 : k = 0
        · subst z0 k0; simp [e1', e2', e3, enc]
        · have kd0 : kd = 0 := by omega
          have k1 : ¬ (k : Int) + 1 = 1 := by omega
          subst z0 kd0; simp [e1', e2', e3, enc, k0, k1]
      · obtain ⟨p, h3, e3, r3, g3, x3⟩ := draw_ok (d := d - 1) (sides := people) (by omega) hp x2 (by omega)
        refine ⟨.bid p, h3, call_of Lw.tb_1009 (by omega) ⟨rfl, by decide⟩ (.inl ?_), Dr.bid r3, (g1.trans g2).trans g3, x3.less (by omega)⟩
        by_cases k0 : k = 0
        · subst k0; simp [e1', e2', e3, enc, z0]
        · have kd0 : kd = 0 := by omega
          have k1 : ¬ (k : Int) + 1 = 1 := by omega
          subst kd0; simp [e1', e2', e3, enc, k0, k1, z0]
    · obtain ⟨j, rfl⟩ : ∃ j, k = j + 1 := ⟨k - 1, by omega⟩
      have k0 : ¬ kd = 0 := by omega
      have k1 : ¬ ((j : Int) + 1 + 1 = 1) := by omega
      obtain ⟨m, h2, e2, r2, g2, x2⟩ := draw_ok (d := d - 1) (sides := 3) (by omega) (by decide) x1 (by omega)
      have e2' : callN Lw.tb (d - 1) 1001 [.rf a, .int 3] h1 = .ok (.int m) h2 := e2
      have dm : dMax (j + 1) = 7 + 3 * dMax j := rfl
      obtain ⟨ys, h3, e3, l3, q3, g3, x3⟩ := lcRun_go (std := fun _ => True) (f := lcG (callN Lw.tb (d - 1)) [some (.rf a), some (.int people), some (.int ((j : Int) + 1 + 1)), some (.bl me), some (.int kd), none, none, none, none] (.call 1009 (.cons (.var 0) (.cons (.var 1) (.cons (.bin .sub (.var 2) (.cst (.int 1))) (.cons (.var 3) .nil))))) (.name 7) .non [7])
        (fun i h' => Gs [a] h2 h' ∧ Dice a (n - 2 - i * dMax j) h') (fun _ _ y => ∃ t, y = enc t ∧ Dr people j t) (fun _ _ _ => trivial) (ts := iota 0 (m + 1)) (acc := []) (k := 0) (h := h2) ⟨Gs.refl _ _, x2.less (by omega)⟩
        (fun i t e h3 ⟨g, x⟩ => by
          have il := (iota_get e).2
          rw [Nat.zero_add] at *
          have i2 : i * dMax j ≤ 2 * dMax j := Nat.mul_le_mul_right _ (by omega)
          obtain ⟨t, h4, e4, d4, g4, x4⟩ := lterm_ok hp me j (d - 1) a _ h3 (by omega) x (by omega)
          refine ⟨enc t, h4, ?_, ⟨t, rfl, d4⟩, g.trans g4, x4.less (by rw [Nat.succ_mul]; omega)⟩
          have ee : (j : Int) + 1 + 1 - 1 = j + 1 := by omega
          simp [lcG, ee, e4]) (by rw [iota_len]; simp; omega)
      obtain ⟨ps, rfl, hps⟩ := exists_map enc (Dr people j) (ys := ys) (fun i y e => by
        have il : i < (iota 0 (m + 1)).length := by rw [← l3]; exact (List.getElem?_eq_some_iff.1 e).1
        exact q3 i _ y (List.getElem?_eq_getElem il) e)
      rw [iota_len] at x3 l3
      rw [Nat.zero_add] at x3
      rw [List.nil_append, ← encs_eq] at e3
      have pl : ps.length = m + 1 := by simpa using l3
      have mm : (m + 1) * dMax j ≤ 3 * dMax j := Nat.mul_le_mul_right _ (by omega)
      have x3' : Dice a 4 h3 := x3.less (by omega)
      obtain ⟨al3, _⟩ : a < h3.length ∧ True := ⟨x3.lt, trivial⟩
      -- the parts
      have es : ∀ v, evSrc (callN Lw.tb (d - 1)) (.rng1 (.bin .add (.cst (.int 1)) (.call 1001 (.cons (.var 0) (.cons (.cst (.int 3)) .nil))))) [some (.rf a), some v, some (.int ((j : Int) + 1 + 1)), some (.bl me), some (.int kd), none, none, none, none] h1 = .ok ⟨iota 0 (m + 1), fun _ => True⟩ h2 := by
        intro v
        have z := evSrc_rng1_ok (cl := callN Lw.tb (d - 1)) (σ := [some (.rf a), some v, some (.int ((j : Int) + 1 + 1)), some (.bl me), some (.int kd), none, none, none, none]) (h := h1) (h1 := h2) (a := .bin .add (.cst (.int 1)) (.call 1001 (.cons (.var 0) (.cons (.cst (.int 3)) .nil)))) (j := ((m + 1 : Nat) : Int)) (by simp [e2']; omega) ⟨by omega, by omega⟩
        simpa using z
      have ec := lc_ok (es (.int people)) e3
      have r3 : (h3 ++ [O.lst (encs ps)])[h3.length]? = some (.lst (encs ps)) := by simp
      have x4 : Dice a 4 (h3 ++ [O.lst (encs ps)]) := x3'.gs (Gs.app _ _ _)
      have g4 : Gs [a] h (h3 ++ [O.lst (encs ps)]) := ((g1.trans g2).trans g3).trans (Gs.app _ _ _)
      have pl3 : ps.length ≤ 3 := by omega
      generalize hh4 : h3 ++ [O.lst (encs ps)] = h4 at *
      have na : h3.length ≠ a := by omega
      generalize h3.length = P at *
      have l4 : lstOf h4 (.rf P) = some (encs ps) := by simp [lstOf, r3]
      have s4 := seqOf_lst l4
      have bt : bltI .tuple [.rf P] h4 = .ok (.tup (encs ps)) h4 := blt_tuple_lst l4
      generalize hv : T.int (people : Int) = vp at *
      have e1k : ¬ (kd : Int) = 0 := by omega
      have fin : ∀ {t : Tm} {h' : Hs}, callN Lw.tb d 1009 [.rf a, vp, .int ((j : Int) + 1 + 1), .bl me] h = .ok (enc t) h' → Dr people (j + 1) t → Gs [a] h h' → Dice a 0 h' → True := fun _ _ _ _ => trivial
      have body : ∀ r, exSs (callN Lw.tb (d - 1)) (match fn_law_term_1009.body with | .cons _ (.cons _ (.cons _ r)) => r | _ => .nil) [some (.rf a), some vp, some (.int ((j : Int) + 1 + 1)), some (.bl me), some (.int kd), some (.rf P), none, none, none] h4 = r → exSs (callN Lw.tb (d - 1)) fn_law_term_1009.body [some (.rf a), some vp, some (.int ((j : Int) + 1 + 1)), some (.bl me), none, none, none, none, none] h = r := by
        intro r e
        simp [fn_law_term_1009, e1', k0, k1, ec]
        simpa [fn_law_term_1009] using e
      have goal : ∀ (t : Tm) (h' : Hs) (n' : Nat), exSs (callN Lw.tb (d - 1)) (match fn_law_term_1009.body with | .cons _ (.cons _ (.cons _ r)) => r | _ => .nil) [some (.rf a), some vp, some (.int ((j : Int) + 1 + 1)), some (.bl me), some (.int kd), some (.rf P), none, none, none] h4 = .ret (enc t) h' → Dr people (j + 1) t → Gs [a] h4 h' → Dice a n' h' → n - dMax (j + 1) ≤ n' → ∃ (t : Tm) (h' : Hs), callN Lw.tb d 1009 [.rf a, vp, .int (((j + 1 : Nat) : Int) + 1), .bl me] h = .ok (enc t) h' ∧ Dr people (j + 1) t ∧ Gs [a] h h' ∧ Dice a (n - dMax (j + 1)) h' :=
        fun t h' n' e dr g x l => ⟨t, h', call_of Lw.tb_1009 (by omega) ⟨rfl, by decide⟩ (.inl (body _ e)), dr, g4.trans g, x.less l⟩
      have x5 : Dice a (n - dMax (j + 1) + 4) h4 := by
        rw [← hh4]
        exact (x3.gs (Gs.app _ _ _)).less (by omega)
      clear e3 es ec body fin g3 g1 g2 x x1 x2 x3 x3' e1 e1' e2 e2' q3 l3
      rcases (show kd = 1 ∨ kd = 2 ∨ kd = 3 ∨ kd = 4 ∨ (5 ≤ kd ∧ kd ≤ 7) by omega) with rfl | rfl | rfl | rfl | ⟨k5, k7⟩
      · -- between
        obtain ⟨p, h5, e5, np, g5, x6⟩ := lnumber_ok (d := d - 1) (by omega) x5 (by omega)
        obtain ⟨q, h6, e6, nq, g6, x7⟩ := lnumber_ok (d := d - 1) (by omega) x6 (by omega)
        obtain ⟨h7, e7, g7, r7⟩ := lsorted_ok (d := d - 1) (n := 20) (by omega) (h := h6 ++ [.lst (frs [p, q])]) (lst_new h6 _) (by simp [np.2.2, nq.2.2]) (by decide) (by simp)
        obtain ⟨x, y, exy, lxy, nx, ny⟩ := srt_two np nq
        rw [exy] at r7
        rw [List.length_append, List.length_singleton] at e7 r7
        have g8 : Gs [a] h4 h7 := ((g5.trans g6).trans (Gs.app _ _ _)).trans g7.nil
        have l8 : seqOf h7 (.rf (h6.length + 1)) = some (frs [x, y]) := seqOf_lst (by simp [lstOf, r7])
        have l9 : seqOf h7 (.rf P) = some (encs ps) := seqOf_lst (lstOf_gs g8 l4 (fun b q => by cases q; simpa using na))
        obtain ⟨u, us, rfl⟩ : ∃ u us, ps = u :: us := by cases ps with | nil => simp at pl | cons u us => exact ⟨u, us, rfl⟩
        refine goal (.between x y u) h7 (n - dMax (j + 1)) ?_ (Dr.between (hps u List.mem_cons_self) nx ny lxy) g8 (((x7.less (by omega)).gs (Gs.app _ _ _)).gs g7) (by omega)
        simp [frs] at e7
        simp [fn_law_term_1009, e5, e6, e7, l8, l9, enc, encs, frs]
      · -- least
        refine goal (.least ps) h4 (n - dMax (j + 1)) ?_ (Dr.parts hps pl3 (fun w => ⟨w, by omega, by omega⟩) rfl rfl (fun B => by simp only [szb]; omega)) (Gs.refl _ _) (x5.less (by omega)) (by omega)
        simp [fn_law_term_1009, bt, enc]
      · -- greatest
        refine goal (.greatest ps) h4 (n - dMax (j + 1)) ?_ (Dr.parts hps pl3 (fun w => ⟨w, by omega, by omega⟩) rfl rfl (fun B => by simp only [szb]; omega)) (Gs.refl _ _) (x5.less (by omega)) (by omega)
        simp [fn_law_term_1009, bt, enc]
      · -- ranked
        obtain ⟨k, h5, e5, rk, g5, x6⟩ := draw_ok (d := d - 1) (sides := ps.length) (by omega) (by omega) x5 (by omega)
        have l5 := lstOf_gs g5 l4 (fun b q => by cases q; simpa using na)
        have bl := blt_len_lst l4
        have bt5 := blt_tuple_lst l5
        rw [encs_len] at bl
        refine goal (.ranked (k + 1) ps) h5 (n - dMax (j + 1)) ?_ (Dr.parts hps pl3 (fun w => ⟨w, by omega, by omega, by omega, by omega⟩) rfl rfl (fun B => by simp only [szb]; omega)) g5 (x6.less (by omega)) (by omega)
        have c : (1 : Int) + k = ((k + 1 : Nat) : Int) := by omega
        simp [fn_law_term_1009, bl, e5, bt5, enc, c]
      · -- ranked or mean
        have n1 : ¬ kd = 1 := by omega
        have n2 : ¬ kd = 2 := by omega
        have n3 : ¬ kd = 3 := by omega
        have n4 : ¬ kd = 4 := by omega
        have i1 : ¬ (kd : Int) = 1 := by omega
        have i2 : ¬ (kd : Int) = 2 := by omega
        have i3 : ¬ (kd : Int) = 3 := by omega
        have i4 : ¬ (kd : Int) = 4 := by omega
        cases me with
        | false =>
          obtain ⟨k, h5, e5, rk, g5, x6⟩ := draw_ok (d := d - 1) (sides := ps.length) (by omega) (by omega) x5 (by omega)
          have l5 := lstOf_gs g5 l4 (fun b q => by cases q; simpa using na)
          have bl := blt_len_lst l4
          have bt5 := blt_tuple_lst l5
          rw [encs_len] at bl
          refine goal (.ranked (k + 1) ps) h5 (n - dMax (j + 1)) ?_ (Dr.parts hps pl3 (fun w => ⟨w, by omega, by omega, by omega, by omega⟩) rfl rfl (fun B => by simp only [szb]; omega)) g5 (x6.less (by omega)) (by omega)
          have c : (1 : Int) + k = ((k + 1 : Nat) : Int) := by omega
          simp [fn_law_term_1009, bl, e5, bt5, enc, c, i1, i2, i3, i4]
        | true =>
          obtain ⟨ys, h5, e5, l6, q6, g6, x6⟩ := lcRun_go (std := fun h' => lstOf h' (.rf P) = some (encs ps)) (f := lcG (callN Lw.tb (d - 1)) [some (.rf a), some vp, some (.int ((j : Int) + 1 + 1)), some (.bl true), some (.int kd), some (.rf P), none, none, none] (.tup (.cons (.bin .add (.cst (.int 1)) (.call 1001 (.cons (.var 0) (.cons (.cst (.int 5)) .nil)))) (.cons (.var 8) .nil))) (.name 8) .non [8])
            (fun i h' => Gs [a] h4 h' ∧ Dice a (n - dMax (j + 1) + 4 - i) h') (fun _ t y => ∃ w : Nat, y = .tup [.int (w : Int), t] ∧ (1 ≤ w ∧ w ≤ 5)) (fun _ h' i => lstOf_gs i.1 l4 (fun b q => by cases q; simpa using na)) (ts := encs ps) (acc := []) (k := 0) (h := h4) ⟨Gs.refl _ _, x5⟩
            (fun i t e h5 ⟨g, x⟩ => by
              have il : i < ps.length := by rw [← encs_len]; exact (List.getElem?_eq_some_iff.1 e).1
              rw [Nat.zero_add] at *
              obtain ⟨w, h6, e6, rw', g6, x6⟩ := draw_ok (d := d - 1) (sides := 5) (by omega) (by decide) x (by omega)
              have e6' : callN Lw.tb (d - 1) 1001 [.rf a, .int 5] h5 = .ok (.int w) h6 := e6
              refine ⟨.tup [.int ((w + 1 : Nat) : Int), t], h6, ?_, ⟨w + 1, rfl, by omega, by omega⟩, g.trans g6, x6.less (by omega)⟩
              have c : (1 : Int) + w = ((w + 1 : Nat) : Int) := by omega
              simp [lcG, e6', c]) (by rw [encs_len]; simp; omega)
          obtain ⟨ws, wl, rfl, hw⟩ := exists_zip (fun w => 1 ≤ w ∧ w ≤ 5) (ts := encs ps) (ys := ys) l6 (fun i t y a b => q6 i t y a (by simpa using b))
          rw [encs_len, Nat.zero_add] at x6
          rw [encs_len] at wl
          rw [List.nil_append] at e5
          have ov : evSrc (callN Lw.tb (d - 1)) (.over (.var 5)) [some (.rf a), some vp, some (.int ((j : Int) + 1 + 1)), some (.bl true), some (.int kd), some (.rf P), none, none, none] h4 = .ok ⟨encs ps, fun h' => lstOf h' (.rf P) = some (encs ps)⟩ h4 := by simp [walkL_lst l4]
          have ec := lc_ok ov e5
          have bt5 := blt_tuple_lst (lst_new h5 (zipT (wts ws) (encs ps)))
          refine goal (.mean ws ps) (h5 ++ [.lst (zipT (wts ws) (encs ps))]) (n - dMax (j + 1)) ?_ (Dr.parts hps pl3 (fun w => ⟨w, by omega, by omega, wl, fun w m => by have := hw w m; omega⟩) rfl rfl (fun B => by simp only [szb]; omega)) (g6.trans (Gs.app _ _ _)) ((x6.gs (Gs.app _ _ _)).less (by omega)) (by omega)
          simp [fn_law_term_1009, ec, bt5, enc, i1, i2, i3, i4]
  termination_by k => k
end CB

/-! Terms told, at right terms; rules made. -/
namespace CB
open PySem
def partsOf : Tm → List Tm
  | .bid _ => []
  | .fix _ => []
  | .mean _ ps => ps
  | .least ps => ps
  | .greatest ps => ps
  | .ranked _ ps => ps
  | .between _ _ t => [t]
def leaf : Tm → Bool
  | .bid _ => true
  | .fix _ => true
  | _ => false
theorem are_parts_ok {d : Nat} (hd : 1 ≤ d) {xs : List T} (h1 : 1 ≤ xs.length) (h8 : xs.length ≤ 8) (h : Hs) : callN Lw.tb d 18 [.tup xs] h = .ok (.bl true) h := by
  refine call_of Lw.tb_18 (by omega) ⟨rfl, by decide⟩ (.inl ?_)
  have a : (1 : Int) ≤ xs.length := by omega
  have b : (xs.length : Int) ≤ 8 := by omega
  simp [a, b]
theorem is_weighted_ok {d : Nat} (hd : 3 ≤ d) (w : Nat) (t : T) (hw : 1 ≤ w ∧ w ≤ 99) (h : Hs) : callN Lw.tb d 19 [.tup [.int w, t]] h = .ok (.bl true) h := by
  refine call_of Lw.tb_19 (by omega) ⟨rfl, by decide⟩ (.inl ?_)
  have a : (1 : Int) ≤ w := by omega
  have b : (w : Int) ≤ 99 := by omega
  simp [within_ok (show 2 ≤ d - 1 by omega), a, b]
theorem is_bound_ok {d n : Nat} (hd : 4 ≤ d) {a b : Rat} (ha : Num n a) (hb : Num n b) (hl : a ≤ b) (hn : 2 * n ≤ 900000) (w t : T) (h : Hs) : ∃ h', callN Lw.tb d 20 [.tup [w, fr a, fr b, t]] h = .ok (.bl true) h' ∧ Gs [] h h' := by
  obtain ⟨h1, e1, g1⟩ := number_ok (d := d - 1) (by omega) ha h
  obtain ⟨h2, e2, g2⟩ := number_ok (d := d - 1) (by omega) hb h1
  have l := less_ok (d := d - 1) (by omega) hb.2.2 ha.2.2 (by omega) h2
  have nl : ¬ b < a := by grind
  refine ⟨h2, call_of Lw.tb_20 (by omega) ⟨rfl, by decide⟩ (.inl ?_), g1.trans g2⟩
  simp [e1, e2, l, nl]
theorem leaf_ok {d n B : Nat} (hd : 4 ≤ d) {t : Tm} (w : wf n B t) (h : Hs) : ∃ h', callN Lw.tb d 22 [.int n, enc t] h = .ok (.bl (leaf t)) h' ∧ Gs [] h h' := by
  cases t with
  | bid p =>
    refine ⟨h, call_of Lw.tb_22 (by omega) ⟨rfl, by decide⟩ (.inl ?_), Gs.refl _ _⟩
    have w' : p < n := w
    have e : (p : Int) ≤ n - 1 := by omega
    simp [enc, leaf, within_ok (show 2 ≤ d - 1 by omega), e]
  | fix q =>
    obtain ⟨h1, e1, g1⟩ := number_ok (d := d - 1) (by omega) (n := B) (q := q) w h
    refine ⟨h1, call_of Lw.tb_22 (by omega) ⟨rfl, by decide⟩ (.inl ?_), g1⟩
    simp [enc, leaf, e1]
  | mean ws ps => exact ⟨h, call_of Lw.tb_22 (by omega) ⟨rfl, by decide⟩ (.inl (by simp [enc, leaf])), Gs.refl _ _⟩
  | least ps => exact ⟨h, call_of Lw.tb_22 (by omega) ⟨rfl, by decide⟩ (.inl (by simp [enc, leaf])), Gs.refl _ _⟩
  | greatest ps => exact ⟨h, call_of Lw.tb_22 (by omega) ⟨rfl, by decide⟩ (.inl (by simp [enc, leaf])), Gs.refl _ _⟩
  | ranked k ps => exact ⟨h, call_of Lw.tb_22 (by omega) ⟨rfl, by decide⟩ (.inl (by simp [enc, leaf])), Gs.refl _ _⟩
  | between a b t => exact ⟨h, call_of Lw.tb_22 (by omega) ⟨rfl, by decide⟩ (.inl (by simp [enc, leaf])), Gs.refl _ _⟩
@[simp] theorem inI_two (h : Hs) (s a b : Str) : inI h (.str s) (.tup [.str a, .str b]) = some (a == s || b == s) := by simp [inI, flatT, eqF]
@[simp] theorem cmp_in (h : Hs) (x y : T) : cmpI .isIn x y h = inI h x y := rfl
@[simp] theorem cmp_notin (h : Hs) (x y : T) : cmpI .notIn x y h = (inI h x y).map (!·) := rfl
@[simp] theorem blt_list_tup (xs : List T) (h : Hs) : bltI .list [.tup xs] h = .ok (.rf h.length) (h ++ [.lst xs]) := rfl
theorem parts_ok {d n B : Nat} (hd : 5 ≤ d) {t : Tm} (w : wf n B t) (nl : leaf t = false) (hB : 2 * B ≤ 900000) (h : Hs) : ∃ a h', callN Lw.tb d 21 [enc t] h = .ok (.rf a) h' ∧ h'[a]? = some (.lst (encs (partsOf t))) ∧ Gs [] h h' := by
  cases t with
  | bid p => cases nl
  | fix q => cases nl
  | mean ws ps =>
    obtain ⟨w1, w2, w3, wl, ww⟩ := w
    have zl : (zipT (wts ws) (encs ps)).length = ps.length := by simp [zipT, wts, encs_len]; omega
    have ap := are_parts_ok (d := d - 1) (by omega) (xs := zipT (wts ws) (encs ps)) (by omega) (by omega) h
    have hw : ∀ p ∈ ws.zip ps, 1 ≤ p.1 ∧ p.1 ≤ 99 := fun p m => ww _ (List.of_mem_zip (a := p.1) (b := p.2) m).1
    obtain ⟨h1, e1, g1⟩ := lcRun_list (std := fun _ => True) (f := lcG (callN Lw.tb (d - 1)) [some (enc (.mean ws ps)), some (.str "mean"), none] (.call 19 (.cons (.var 2) .nil)) (.name 2) .non [2]) (fun p : Nat × Tm => T.tup [.int (p.1 : Int), enc p.2]) (fun p => .bl true) (xs := ws.zip ps) (acc := []) (h := h) (fun _ _ => trivial)
      (fun p m h' g => ⟨h', by simp [lcG, is_weighted_ok (show 3 ≤ d - 1 by omega) p.1 (enc p.2) (hw p m)], Gs.refl _ _⟩) (by simp; omega)
    obtain ⟨h2, e2, g2⟩ := lcRun_list (std := fun _ => True) (f := lcG (callN Lw.tb (d - 1)) [some (enc (.mean ws ps)), some (.str "mean"), none] (.idx (.var 2) (.cst (.int 1))) (.name 2) .non [2]) (fun p : Nat × Tm => T.tup [.int (p.1 : Int), enc p.2]) (fun p => enc p.2) (xs := ws.zip ps) (acc := []) (h := h1 ++ [.lst ((ws.zip ps).map fun _ => .bl true)]) (fun _ _ => trivial)
      (fun p m h' g => ⟨h', by simp [lcG], Gs.refl _ _⟩) (by simp; omega)
    have m2 : (ws.zip ps).map (fun p : Nat × Tm => enc p.2) = encs ps := by
      have : (ws.zip ps).map (fun p : Nat × Tm => enc p.2) = ((ws.zip ps).map Prod.snd).map enc := by rw [List.map_map]; rfl
      rw [this, List.map_snd_zip (by omega), encs_eq]
    rw [← zip_enc] at e1
    rw [m2, ← zip_enc] at e2
    rw [List.nil_append] at e1 e2
    have ba := blt_all (h := h1 ++ [.lst ((ws.zip ps).map fun _ => .bl true)]) (fun _ : Nat × Tm => true) (t := .rf h1.length) (xs := ws.zip ps) (lst_new _ _)
    refine ⟨h2.length, h2 ++ [.lst (encs ps)], call_of Lw.tb_21 (by omega) ⟨rfl, by decide⟩ (.inl ?_), by simp [partsOf], ((g1.trans (Gs.app _ _ _)).trans g2).trans (Gs.app _ _ _)⟩
    simp only [List.all_eq_true.2 (fun _ _ => rfl)] at ba
    simp [enc] at e1 e2
    simp [enc, evE_lc, e1, ap, ba, e2]
  | least ps =>
    obtain ⟨w1, w2, w3⟩ := w
    have ap := are_parts_ok (d := d - 1) (by omega) (xs := encs ps) (by rw [encs_len]; omega) (by rw [encs_len]; omega) h
    refine ⟨h.length, h ++ [.lst (encs ps)], call_of Lw.tb_21 (by omega) ⟨rfl, by decide⟩ (.inl ?_), by simp [partsOf], Gs.app _ _ _⟩
    simp [enc, ap]
  | greatest ps =>
    obtain ⟨w1, w2, w3⟩ := w
    have ap := are_parts_ok (d := d - 1) (by omega) (xs := encs ps) (by rw [encs_len]; omega) (by rw [encs_len]; omega) h
    refine ⟨h.length, h ++ [.lst (encs ps)], call_of Lw.tb_21 (by omega) ⟨rfl, by decide⟩ (.inl ?_), by simp [partsOf], Gs.app _ _ _⟩
    simp [enc, ap]
  | ranked k ps =>
    obtain ⟨w1, w2, w3, k1, k2⟩ := w
    have ap := are_parts_ok (d := d - 1) (by omega) (xs := encs ps) (by rw [encs_len]; omega) (by rw [encs_len]; omega) h
    refine ⟨h.length, h ++ [.lst (encs ps)], call_of Lw.tb_21 (by omega) ⟨rfl, by decide⟩ (.inl ?_), by simp [partsOf], Gs.app _ _ _⟩
    have a : (1 : Int) ≤ k := by omega
    have b : (k : Int) ≤ ps.length := by omega
    simp [enc, ap, encs_len, within_ok (show 2 ≤ d - 1 by omega), a, b]
  | between a b u =>
    obtain ⟨w1, wa, wb, wl⟩ := w
    obtain ⟨h1, e1, g1⟩ := is_bound_ok (d := d - 1) (by omega) wa wb wl hB (.str "between") (enc u) h
    refine ⟨h1.length, h1 ++ [.lst [enc u]], call_of Lw.tb_21 (by omega) ⟨rfl, by decide⟩ (.inl ?_), by simp [partsOf, encs], g1.trans (Gs.app _ _ _)⟩
    simp [enc, e1]
theorem partsOf_dep {t u : Tm} (m : u ∈ partsOf t) : dep u < dep t := by
  cases t with
  | bid p => cases m
  | fix q => cases m
  | between a b v => simp [partsOf] at m; subst m; simp only [dep]; omega
  | _ => simp only [partsOf] at m; have := deps_mem m; simp only [dep]; omega
theorem partsOf_wf {n B : Nat} {t u : Tm} (w : wf n B t) (m : u ∈ partsOf t) : wf n B u := by
  cases t with
  | bid p => cases m
  | fix q => cases m
  | between a b v => simp [partsOf] at m; subst m; exact w.1
  | _ => simp only [partsOf] at m; exact wfs_mem w.1 m
theorem partsOf_cnt {t : Tm} : cnt t = 1 + cnts (partsOf t) := by
  cases t <;> simp [cnt, partsOf, cnts]
theorem enc_word (t : Tm) : ∃ s xs, enc t = .tup (.str s :: xs) := by cases t <;> exact ⟨_, _, rfl⟩
theorem cnts_take {ps : List Tm} {i : Nat} {u : Tm} (e : ps[i]? = some u) : cnts (ps.take (i + 1)) = cnts (ps.take i) + cnt u := by
  have key : ∀ xs : List Tm, cnts (xs ++ [u]) = cnts xs + cnt u := by
    intro xs
    induction xs with
    | nil => simp [cnts]
    | cons x xs ih => simp only [List.cons_append, cnts, ih]; omega
  rw [take_succ' e, key]
theorem terms_ok {n B : Nat} (hB : 2 * B ≤ 900000) : ∀ (t : Tm), wf n B t → ∀ (d deep : Nat), dep t ≤ deep → dep t + 6 ≤ d → ∀ h, ∃ h', callN Lw.tb d 23 [.int n, enc t, .int deep] h = .ok (.int (cnt t)) h' ∧ Gs [] h h' := by
  intro t
  induction t using tm_ind with
  | h t ih =>
  intro w d deep hdp hd h
  have dp := dep_pos t
  have nd : ¬ deep = 0 := by omega
  have nx : ∀ xs : List T, ¬ (xs.length : Int) + 1 = 0 := by intro xs; omega
  obtain ⟨h1, e1, g1⟩ := leaf_ok (d := d - 1) (by omega) w h
  obtain ⟨s, xs, ew⟩ := enc_word t
  cases nl : leaf t with
  | true =>
    have c1 : cnt t = 1 := by cases t <;> first | rfl | cases nl
    refine ⟨h1, call_of Lw.tb_23 (by omega) ⟨rfl, by decide⟩ (.inl ?_), g1⟩
    rw [nl] at e1
    rw [c1]
    rw [ew] at e1 ⊢
    simp [nd, nx, e1]
  | false =>
    obtain ⟨a, h2, e2, r2, g2⟩ := parts_ok (d := d - 1) (by omega) w nl hB h1
    rw [nl] at e1
    have ps := partsOf_cnt (t := t)
    obtain ⟨σ', h', er, g3, v, i2⟩ := forRun_go (std := fun h' => lstOf h' (.rf a) = some (encs (partsOf t))) (tg := .name 5) (body := exSs (callN Lw.tb (d - 1)) (.cons (.asg (.name 6) (.call 23 (.cons (.var 0) (.cons (.var 5) (.cons (.bin .sub (.var 2) (.cst (.int 1))) .nil))))) (.cons (.ifs (.cmp .is (.var 6) (.cst .non)) (.cons (.ret (.cst .non)) .nil) .nil) (.cons (.aug 4 .add (.var 6)) .nil))))
      (fun k σ h' => Gs [] h2 h' ∧ ∃ v w, σ = [some (.int n), some (enc t), some (.int deep), some (.rf a), some (.int (1 + cnts ((partsOf t).take k) : Nat)), v, w]) (fun k σ h' i => lstOf_gs i.1 (by simp [lstOf, r2]) (fun _ _ q => by cases q)) (ts := encs (partsOf t)) (k := 0) (σ := [some (.int n), some (enc t), some (.int deep), some (.rf a), some (.int 1), none, none]) (h := h2) ⟨Gs.refl _ _, none, none, rfl⟩
      (by
        rintro i x ex σ h3 ⟨g3, v, w', rfl⟩
        rw [Nat.zero_add] at *
        rw [encs_eq, List.getElem?_map] at ex
        cases q : (partsOf t)[i]? with
        | none => rw [q] at ex; cases ex
        | some u =>
          rw [q] at ex
          cases ex
          have m := List.mem_of_getElem? q
          have du := partsOf_dep m
          obtain ⟨h4, e4, g4⟩ := ih u du (partsOf_wf w m) (d - 1) (deep - 1) (by omega) (by omega) h3
          have ed : ((deep - 1 : Nat) : Int) = (deep : Int) - 1 := by omega
          rw [ed] at e4
          refine ⟨_, tak_name _ _ _, _, _, .inl ?_, g3.trans g4, some (enc u), some (.int (cnt u)), rfl⟩
          rw [cnts_take q]
          simp [e4, augI, isN]
          omega)
    rw [Nat.zero_add, encs_len, List.take_length] at i2
    obtain ⟨w', i2⟩ := i2
    refine ⟨h', call_of Lw.tb_23 (by omega) ⟨rfl, by decide⟩ (.inl ?_), (g1.trans g2).trans g3⟩
    subst i2
    have wk := walkL_lst (h := h2) (x := .rf a) (xs := encs (partsOf t)) (by simp [lstOf, r2])
    rw [← ps] at er
    rw [ew] at e1 e2 er ⊢
    simp [nd, nx, e1, e2, isN, exS_for, wk, er]
theorem init_ok {d n B : Nat} (hB : 2 * B ≤ 900000) {t : Tm} (w : wf n B t) (hn : 1 ≤ n ∧ n ≤ 6) (hdep : dep t ≤ 8) (hc : cnt t ≤ 60) (hd : 15 ≤ d) {a : Nat} {h : Hs} (e : h[a]? = some (.ins 0 [])) :
    ∃ h', callN Lw.tb d 24 [.rf a, .int n, enc t] h = .ok .non h' ∧ Gs [a] h h' ∧ RuleAt a n t h' := by
  obtain ⟨h1, e1, g1⟩ := terms_ok hB t w (d - 1) 8 hdep (by omega) h
  have a1 : (1 : Int) ≤ n := by omega
  have a2 : (n : Int) ≤ 6 := by omega
  have a3 : ¬ (60 : Int) < cnt t := by omega
  have f1 := g1.at e (fun q => by cases q)
  obtain ⟨al, f2⟩ := List.getElem?_eq_some_iff.1 f1
  refine ⟨(h1.set a (.ins 0 [(0, .int n)])).set a (.ins 0 [(0, .int n), (1, enc t)]), call_of Lw.tb_24 (by omega) ⟨rfl, by decide⟩ (.inr ⟨rfl, [some (.rf a), some (.int n), some (enc t), some (.int (cnt t))], ?_⟩), ?_, ?_⟩
  · simp at e1
    simp [within_ok (show 2 ≤ d - 1 by omega), a1, a2, e1, isN, a3, exS_sta, putN, al, f2]
  · exact ((g1.nil).trans (Gs.set [a] _ _ (by simp))).trans (Gs.set [a] _ _ (by simp))
  · unfold RuleAt; simp [al]
end CB

/-! What the law draws: rules; its dice. -/
namespace CB
open PySem
/-- a drawn rule's people and term -/
def DrR (most p : Nat) (t : Tm) : Prop := 1 ≤ p ∧ p ≤ most ∧ wf p 20 t ∧ dep t ≤ 5 ∧ cnt t ≤ 48 ∧ ∀ B, 20 ≤ B → szb B t ≤ sMax B 3 + 6 * (B + 8) + 50
def bidsL (p : Nat) : List Tm := (List.range p).map .bid
theorem bidsL_len (p : Nat) : (bidsL p).length = p := by simp [bidsL]
theorem bidsL_wfs {p n B : Nat} (h : p ≤ n) : wfs n B (bidsL p) := by
  have key : ∀ xs : List Nat, (∀ x ∈ xs, x < n) → wfs n B (xs.map .bid) := by
    intro xs
    induction xs with
    | nil => intro _; trivial
    | cons x xs ih => intro h; exact ⟨h x List.mem_cons_self, ih fun y m => h y (List.mem_cons_of_mem _ m)⟩
  exact key _ fun x m => by have := List.mem_range.1 m; omega
theorem bidsL_deps (p : Nat) : deps (bidsL p) ≤ 1 := by
  have key : ∀ xs : List Nat, deps (xs.map .bid) ≤ 1 := by
    intro xs
    induction xs with
    | nil => simp [deps]
    | cons x xs ih => simp only [List.map_cons, deps, dep]; omega
  exact key _
theorem bidsL_cnts (p : Nat) : cnts (bidsL p) = p := by
  have key : ∀ xs : List Nat, cnts (xs.map .bid) = xs.length := by
    intro xs
    induction xs with
    | nil => simp [cnts]
    | cons x xs ih => simp only [List.map_cons, cnts, cnt, List.length_cons]; omega
  rw [bidsL, key]; simp
theorem bidsL_szbs (B p : Nat) : szbs B (bidsL p) = p * (B + 8) := by
  have key : ∀ xs : List Nat, szbs B (xs.map .bid) = xs.length * (B + 8) := by
    intro xs
    induction xs with
    | nil => simp [szbs]
    | cons x xs ih => simp only [List.map_cons, szbs, szb, List.length_cons, Nat.succ_mul]; omega
  rw [bidsL, key]; simp
end CB

/-! Trees without lists and flags: what == tells. -/
namespace CB
open PySem
mutual
def pur : T → Bool
  | .non => true
  | .int _ => true
  | .str s => PyData.strOk s
  | .tup xs => purs xs
  | _ => false
def purs : List T → Bool
  | [] => true
  | x :: xs => pur x && purs xs
end
mutual
def hgt : T → Nat
  | .tup xs => hgts xs + 1
  | _ => 0
def hgts : List T → Nat
  | [] => 0
  | x :: xs => max (hgt x) (hgts xs)
end
mutual
def toD : T → PyData
  | .int i => .int i
  | .str s => .str s
  | .tup xs => .tuple (toDs xs)
  | _ => .none
def toDs : List T → List PyData
  | [] => []
  | x :: xs => toD x :: toDs xs
end
mutual
theorem dat_pur (h : Hs) : ∀ (t : T) (n : Nat), pur t = true → hgt t < n → dat h n t = some (toD t)
  | .non, n + 1, _, _ => rfl
  | .int i, n + 1, _, _ => rfl
  | .str s, n + 1, _, _ => rfl
  | .tup xs, n + 1, p, l => by
    simp only [hgt] at l
    show (mapO (dat h n) xs).map PyData.tuple = _
    rw [dats_pur h xs n p (by omega)]; rfl
  | .bl _, _, p, _ => by cases p
  | .rf _, _, p, _ => by cases p
  | .frz _, _, p, _ => by cases p
theorem dats_pur (h : Hs) : ∀ (xs : List T) (n : Nat), purs xs = true → hgts xs < n → mapO (dat h n) xs = some (toDs xs)
  | [], _, _, _ => rfl
  | x :: xs, n, p, l => by
    have p' : (pur x && purs xs) = true := p
    rw [Bool.and_eq_true] at p'
    simp only [hgts] at l
    unfold mapO
    rw [dat_pur h x n p'.1 (by omega), dats_pur h xs n p'.2 (by omega)]; rfl
end
mutual
theorem toD_lay : ∀ t : T, pur t = true → (toD t).canLay0 = true
  | .non, _ => rfl
  | .int _, _ => rfl
  | .str s, p => p
  | .tup xs, p => toDs_lay xs p
  | .bl _, p => by cases p
  | .rf _, p => by cases p
  | .frz _, p => by cases p
theorem toDs_lay : ∀ xs : List T, purs xs = true → PyData.canLayAll0 (toDs xs) = true
  | [], _ => rfl
  | x :: xs, p => by
    have p' : (pur x && purs xs) = true := p
    rw [Bool.and_eq_true] at p'
    show (_ && _) = true
    rw [toD_lay x p'.1, toDs_lay xs p'.2]; rfl
end
mutual
theorem toD_dep : ∀ t : T, (toD t).depth = hgt t
  | .non => rfl
  | .int _ => rfl
  | .str s => rfl
  | .tup xs => by
    show PyData.depthAll (toDs xs) + 1 = hgts xs + 1
    rw [toDs_dep xs]
  | .bl _ => rfl
  | .rf _ => rfl
  | .frz _ => rfl
theorem toDs_dep : ∀ xs : List T, PyData.depthAll (toDs xs) = hgts xs
  | [] => rfl
  | x :: xs => by
    show max _ _ = max _ _
    rw [toD_dep x, toDs_dep xs]
end
theorem datS_pur (h : Hs) {t : T} (p : pur t = true) (l : hgt t ≤ 64) : datS h t = some (toD t) := by
  unfold datS
  rw [dat_pur h t DP p (by show _ < 66; omega)]
  dsimp only
  rw [if_pos]
  unfold SeqAt.shaped
  rw [toD_lay t p, toD_dep t]
  simpa using l
mutual
theorem eqv_pur : ∀ t u : T, pur t = true → pur u = true → (PyData.eqv (toD t) (toD u) = true ↔ t = u)
  | .non, u, _, q => by cases u <;> first | (cases q; done) | simp [toD, PyData.eqv]
  | .int i, u, _, q => by cases u <;> first | (cases q; done) | simp [toD, PyData.eqv]
  | .str s, u, _, q => by cases u <;> first | (cases q; done) | simp [toD, PyData.eqv]
  | .tup xs, .tup ys, p, q => by
    have := eqvs_pur xs ys p q
    simp only [toD, PyData.eqv, T.tup.injEq]
    exact this
  | .tup xs, .non, _, _ => by simp [toD, PyData.eqv]
  | .tup xs, .int _, _, _ => by simp [toD, PyData.eqv]
  | .tup xs, .str _, _, _ => by simp [toD, PyData.eqv]
  | .tup xs, .bl _, _, q => by cases q
  | .tup xs, .rf _, _, q => by cases q
  | .tup xs, .frz _, _, q => by cases q
  | .bl _, _, p, _ => by cases p
  | .rf _, _, p, _ => by cases p
  | .frz _, _, p, _ => by cases p
theorem eqvs_pur : ∀ xs ys : List T, purs xs = true → purs ys = true → (PyData.eqvAll (toDs xs) (toDs ys) = true ↔ xs = ys)
  | [], [], _, _ => by simp [toDs, PyData.eqvAll]
  | [], y :: ys, _, _ => by simp [toDs, PyData.eqvAll]
  | x :: xs, [], _, _ => by simp [toDs, PyData.eqvAll]
  | x :: xs, y :: ys, p, q => by
    have p' : (pur x && purs xs) = true := p
    have q' : (pur y && purs ys) = true := q
    rw [Bool.and_eq_true] at p' q'
    have a := eqv_pur x y p'.1 q'.1
    have b := eqvs_pur xs ys p'.2 q'.2
    simp only [toDs, PyData.eqvAll, Bool.and_eq_true, a, b, List.cons.injEq]
end
/-- trees that == tells apart -/
def Pt (t : T) : Prop := pur t = true ∧ hgt t ≤ 64
theorem eqI_pt (h : Hs) {t u : T} (a : Pt t) (b : Pt u) : ∃ k, eqI h t u = some k ∧ (k = true ↔ t = u) := by
  unfold eqI
  rw [datS_pur h a.1 a.2, datS_pur h b.1 b.2]
  exact ⟨_, rfl, eqv_pur t u a.1 b.1⟩
theorem eqI_same (h : Hs) {t : T} (a : Pt t) : eqI h t t = some true := by
  obtain ⟨k, e, i⟩ := eqI_pt h a a
  rw [e, i.2 rfl]
theorem eqI_other (h : Hs) {t u : T} (a : Pt t) (b : Pt u) (n : t ≠ u) : eqI h t u = some false := by
  obtain ⟨k, e, i⟩ := eqI_pt h a b
  cases k with
  | true => exact absurd (i.1 rfl) n
  | false => exact e
theorem fr_pt (q : Rat) : Pt (fr q) := ⟨rfl, by simp [fr, hgt, hgts]⟩
mutual
theorem enc_pur : ∀ t : Tm, pur (enc t) = true ∧ hgt (enc t) ≤ 3 * dep t
  | .bid p => by simp [enc, pur, purs, hgt, hgts, dep]
  | .fix q => by simp [enc, pur, purs, hgt, hgts, dep, fr]
  | .mean ws ps => by
    obtain ⟨a, b⟩ := encs_pur ps
    have key : ∀ (ws : List Nat) (xs : List T), purs xs = true → purs (zipT (wts ws) xs) = true ∧ hgts (zipT (wts ws) xs) ≤ hgts xs + 1 := by
      intro ws
      induction ws with
      | nil => intro xs _; exact ⟨rfl, by simp [zipT, wts, hgts]⟩
      | cons w ws ih =>
        intro xs p
        cases xs with
        | nil => exact ⟨rfl, by simp [zipT, wts, hgts]⟩
        | cons x xs =>
          have p' : (pur x && purs xs) = true := p
          rw [Bool.and_eq_true] at p'
          obtain ⟨i1, i2⟩ := ih xs p'.2
          have e : zipT (wts (w :: ws)) (x :: xs) = .tup [.int w, x] :: zipT (wts ws) xs := rfl
          rw [e]
          refine ⟨by simp [purs, pur, p'.1, i1], ?_⟩
          simp only [hgts, hgt]
          omega
    obtain ⟨k1, k2⟩ := key ws (encs ps) a
    refine ⟨by simp [enc, pur, purs, k1], ?_⟩
    simp only [enc, hgt, hgts, dep]
    omega
  | .least ps => by
    obtain ⟨a, b⟩ := encs_pur ps
    refine ⟨by simp [enc, pur, purs, a], ?_⟩
    simp only [enc, hgt, hgts, dep]; omega
  | .greatest ps => by
    obtain ⟨a, b⟩ := encs_pur ps
    refine ⟨by simp [enc, pur, purs, a], ?_⟩
    simp only [enc, hgt, hgts, dep]; omega
  | .ranked k ps => by
    obtain ⟨a, b⟩ := encs_pur ps
    refine ⟨by simp [enc, pur, purs, a], ?_⟩
    simp only [enc, hgt, hgts, dep]; omega
  | .between x y t => by
    obtain ⟨a, b⟩ := enc_pur t
    refine ⟨by simp [enc, pur, purs, a, fr], ?_⟩
    have := dep_pos t
    simp only [enc, hgt, hgts, dep, fr]; omega
theorem encs_pur : ∀ ps : List Tm, purs (encs ps) = true ∧ hgts (encs ps) ≤ 3 * deps ps
  | [] => ⟨rfl, Nat.le_refl _⟩
  | t :: ts => by
    obtain ⟨a, b⟩ := enc_pur t
    obtain ⟨c, d⟩ := encs_pur ts
    refine ⟨by simp [encs, purs, a, c], ?_⟩
    simp only [encs, hgts, deps]; omega
end
theorem enc_pt {t : Tm} (h : dep t ≤ 20) : Pt (enc t) := by
  obtain ⟨a, b⟩ := enc_pur t
  exact ⟨a, by omega⟩
end CB

/-! The law's dice made. -/
namespace CB
open PySem
theorem cutT_63 {xs : List T} (h : xs.length ≤ 63) : cutT xs none (some 63) = xs := by
  have e : HT.sIx xs.length xs.length (some 63) = min 63 xs.length := HT.sIx_nat xs.length xs.length 63
  unfold cutT
  rw [e]
  show List.take (min 63 xs.length - 0) (List.drop 0 xs) = _
  rw [List.drop_zero, Nat.sub_zero, Nat.min_eq_right h, List.take_length]
theorem dice_ok {d : Nat} {t : T} {ns : List Int} {h : Hs} (hd : 1 ≤ d) (e : lstOf h t = some (ns.map .int)) (l : ns.length ≤ 63) : ∃ (a : Nat) (h' : Hs), callN Lw.tb d 1000 [t] h = .ok (.rf a) h' ∧ Gs [] h h' ∧ Dice a (2 ^ 40) h' := by
  have sl := slcI_lst e none (some 63)
  rw [cutT_63 (by simpa using l)] at sl
  obtain ⟨h1, e1, g1⟩ := lcRun_list (std := fun h' => lstOf h' (.rf h.length) = some (ns.map .int)) (f := lcG (callN Lw.tb (d - 1)) [some t, none] (.blt .abs (.cons (.blt .int (.cons (.var 1) .nil)) .nil)) (.name 1) .non [1]) (fun i : Int => T.int i) (fun i => .int (i.natAbs : Nat)) (xs := ns) (acc := []) (h := h ++ [.lst (ns.map .int)]) (fun h' g => lstOf_gs g (lst_new h _) (fun _ _ q => by cases q))
    (fun i m h' g => ⟨h', by simp [lcG], Gs.refl _ _⟩) (by simp; omega)
  rw [List.nil_append] at e1
  have em : ns.map (fun i => T.int (i.natAbs : Nat)) = nats (ns.map Int.natAbs) := by simp [nats]
  rw [em] at e1
  have es : evSrc (callN Lw.tb (d - 1)) (.over (.slc (.var 0) .non (.som (.cst (.int 63))))) [some t, none] h = .ok ⟨ns.map .int, fun h' => lstOf h' (.rf h.length) = some (ns.map .int)⟩ (h ++ [.lst (ns.map .int)]) := by
    simp [sl, walkL_lst (lst_new h (ns.map .int))]
  have ec := lc_ok es e1
  refine ⟨h1.length + 1, h1 ++ [.lst (nats (ns.map Int.natAbs))] ++ [diceO h1.length 0 0 1 0], call_of Lw.tb_1000 hd ⟨rfl, by decide⟩ (.inl ?_), (((Gs.app [] h _).trans g1).trans (Gs.app _ _ _)).trans (Gs.app _ _ _), h1.length, ns.map Int.natAbs, 0, 0, 1, 0, by simp, by simp, by decide, by decide, by simpa using l, by decide, rfl⟩
  simp [ec, diceO]
end CB

/-! Small steps that the laws share. -/
namespace CB
open PySem
theorem exSs_step {cl : Nat → List T → M T} {s : S} {r : Ss} {σ σ1 : Env} {h h1 : Hs} (e : exS cl s σ h = .nx σ1 h1) : exSs cl (.cons s r) σ h = exSs cl r σ1 h1 := by rw [exSs_cons, e]
theorem exS_for_ok {cl : Nat → List T → M T} {tg : Tg} {src : Src} {b : Ss} {σ : Env} {h h1 : Hs} {w : Wk} {o : Out} (es : evSrc cl src σ h = .ok w h1) (er : forRun w.std tg (exSs cl b) w.its σ h1 = o) : exS cl (.for tg src b) σ h = o := by
  rw [exS_for]
  unfold thenO
  rw [es]
  exact er
theorem make_ok' {d p : Nat} {t : Tm} {h : Hs} (hd : 15 ≤ d) (w : wf p 20 t) (hp : 1 ≤ p ∧ p ≤ 6) (hdep : dep t ≤ 8) (hc : cnt t ≤ 60) : ∃ h', callN Lw.tb d 24 [.rf h.length, .int p, enc t] (h ++ [.ins 0 []]) = .ok .non h' ∧ Gs [] h h' ∧ RuleAt h.length p t h' := by
  obtain ⟨h', e, g, r⟩ := init_ok (n := p) (B := 20) (by decide) w hp hdep hc hd (a := h.length) (h := h ++ [.ins 0 []]) (by simp)
  exact ⟨h', e, Gs.new (Gs.app [] h _) g (fun i m => .inr (by simp at m; omega)), r⟩
theorem Num.mono {n m : Nat} {q : Rat} (h : Num n q) (l : n ≤ m) : Num m q := ⟨h.1, h.2.1, h.2.2.mono l⟩
@[simp] theorem slc_tup1 (xs : List T) : slcI (.tup xs) (some 1) none = ret (.tup (xs.drop 1)) := by
  show ret (T.tup (cutT xs (some 1) none)) = _
  rw [cutT_one]
theorem add_tup {xs ys : List T} (l : xs.length + ys.length ≤ 1000000) : binI .add (.tup xs) (.tup ys) = ret (.tup (xs ++ ys)) := if_pos (by show _ ≤ 16777216; omega)
theorem rep_tup {q : Rat} {p : Nat} (h : 1 ≤ p ∧ p ≤ 1000) : binI .mul (.tup [fr q]) (.int p) = ret (.tup (frs (List.replicate p q))) := by
  have e : (List.replicate p [fr q]).flatten = frs (List.replicate p q) := by
    simp [frs]
  show (if [fr q] ≠ [] ∧ (1 : Int) ≤ p ∧ (p : Int) ≤ 1000 ∧ [fr q].length ≤ 1000 then ret (T.tup (List.replicate (p : Int).toNat [fr q]).flatten) else badM) = _
  rw [if_pos ⟨by simp, by omega, by omega, by simp⟩, Int.toNat_natCast, e]
theorem isi_fr (h : Hs) (q : Rat) (n : String) : isiI (.ty n) (fr q) h = L2.kitB "tuple" n := rfl
theorem seq_fr (h : Hs) (q : Rat) : seqOf h (fr q) = some [.int q.num, .int q.den] := rfl
theorem evSrc_over_tup {cl : Nat → List T → M T} {σ : Env} {h h1 : Hs} {a : E} {xs : List T} (e : evE cl a σ h = .ok (.tup xs) h1) : evSrc cl (.over a) σ h = .ok ⟨xs, fun _ => True⟩ h1 := by
  rw [evSrc_over]
  unfold bnd
  rw [e]
  rfl
theorem evSrc_over_lst {cl : Nat → List T → M T} {σ : Env} {h h1 : Hs} {a : E} {t : T} {xs : List T} (e : evE cl a σ h = .ok t h1) (l : lstOf h1 t = some xs) : evSrc cl (.over a) σ h = .ok ⟨xs, fun h' => lstOf h' t = some xs⟩ h1 := by
  rw [evSrc_over]
  unfold bnd
  rw [e]
  simp [walkL_lst l]
theorem metI_append {h : Hs} {a : Nat} {xs : List T} (e : h[a]? = some (.lst xs)) (t : T) (hl : xs.length < SZ) : metI .append (.rf a) [t] h = .ok .non (h.set a (.lst (xs ++ [t]))) := by
  unfold metI
  dsimp only
  rw [e]
  dsimp only
  rw [if_pos hl]
  rfl
/-- a comprehension that picks -/
theorem lcRun_sel {α : Type} {std : Hs → Prop} {f : T → M (Option T)} (g : α → T) (p : α → Bool) : ∀ {xs : List α} {acc : List T} {h : Hs}, (∀ h', Gs [] h h' → std h') → (∀ x ∈ xs, ∀ h', Gs [] h h' → ∃ h'', f (g x) h' = .ok (if p x = true then some (g x) else none) h'' ∧ Gs [] h' h'') → acc.length + xs.length ≤ SZ →
    ∃ h', lcRun std f (xs.map g) acc h = .ok (acc ++ (xs.filter p).map g) h' ∧ Gs [] h h'
  | [], acc, h, hs, _, _ => ⟨h, by rw [List.map_nil, lcRun_nil (hs h (Gs.refl _ _))]; simp, Gs.refl _ _⟩
  | x :: xs, acc, h, hs, hf, hl => by
    obtain ⟨h1, e1, g1⟩ := hf x List.mem_cons_self h (Gs.refl _ _)
    simp only [List.length_cons] at hl
    cases q : p x with
    | true =>
      rw [q, if_pos rfl] at e1
      obtain ⟨h2, e2, g2⟩ := lcRun_sel g p (xs := xs) (acc := acc ++ [g x]) (h := h1) (fun h' q => hs h' (g1.trans q)) (fun y m h' q => hf y (List.mem_cons_of_mem _ m) h' (g1.trans q)) (by rw [List.length_append, List.length_singleton]; omega)
      refine ⟨h2, ?_, g1.trans g2⟩
      rw [List.map_cons, lcRun_some (hs h (Gs.refl _ _)) e1 (by omega), e2, List.filter_cons, q]
      simp
    | false =>
      rw [q] at e1
      obtain ⟨h2, e2, g2⟩ := lcRun_sel g p (xs := xs) (acc := acc) (h := h1) (fun h' q => hs h' (g1.trans q)) (fun y m h' q => hf y (List.mem_cons_of_mem _ m) h' (g1.trans q)) (by omega)
      refine ⟨h2, ?_, g1.trans g2⟩
      rw [List.map_cons, lcRun_none (hs h (Gs.refl _ _)) e1, e2, List.filter_cons, q]
      rfl
end CB

/-! Values rise with the bids, and by no more; plain. -/
namespace CB
open PySem
theorem srt_le_iff {xs : List Rat} {j : Nat} {x c : Rat} (e : (srt xs)[j]? = some x) : x ≤ c ↔ j < (xs.filter fun y => decide (y ≤ c)).length := by
  have a := srt_asc xs
  have l : (xs.filter fun y => decide (y ≤ c)).length = (lo c (srt xs)).length := ((srt_perm xs).filter _).length_eq.symm
  rw [l]
  constructor
  · intro h
    rcases Nat.lt_or_ge j (lo c (srt xs)).length with q | q
    · exact q
    · rw [asc_split (q := c) a, List.getElem?_append_right q] at e
      have := hi_gt (List.mem_of_getElem? e)
      grind
  · intro h
    rw [asc_split (q := c) a, List.getElem?_append_left h] at e
    exact lo_le (List.mem_of_getElem? e)
/-- each at most the other's and a step -/
def Upto (s : Rat) (ys xs : List Rat) : Prop := All2 (fun y x => y ≤ x + s) ys xs
theorem upto_count {s c : Rat} {ys xs : List Rat} (u : Upto s ys xs) : (xs.filter fun y => decide (y ≤ c)).length ≤ (ys.filter fun y => decide (y ≤ c + s)).length := by
  induction u with
  | nil => exact Nat.le_refl _
  | @cons y x ys xs q _ ih =>
    by_cases c1 : x ≤ c
    · have c2 : y ≤ c + s := by grind
      simp only [List.filter_cons, c1, c2, decide_true, if_true, List.length_cons]
      omega
    · simp only [List.filter_cons, c1, decide_false]
      by_cases c2 : y ≤ c + s
      · simp only [c2, decide_true, if_true, List.length_cons]; simp; omega
      · simp only [c2, decide_false]; simpa using by assumption
/-- the j-th of the sorted rows -/
theorem upto_srt {s : Rat} {ys xs : List Rat} (u : Upto s ys xs) {j : Nat} {x y : Rat} (ex : (srt xs)[j]? = some x) (ey : (srt ys)[j]? = some y) : y ≤ x + s := by
  rw [srt_le_iff ey]
  have := (srt_le_iff (c := x) ex).1 Rat.le_refl
  have := upto_count (c := x) u
  omega
theorem upto_len {s : Rat} {ys xs : List Rat} (u : Upto s ys xs) : ys.length = xs.length := u.len
theorem upto_srtD {s : Rat} (hs : 0 ≤ s) {ys xs : List Rat} (u : Upto s ys xs) (j : Nat) : (srt ys)[j]?.getD 0 ≤ (srt xs)[j]?.getD 0 + s := by
  have l := upto_len u
  rcases Nat.lt_or_ge j xs.length with q | q
  · have e1 : (srt xs)[j]? = some ((srt xs)[j]?.getD 0) := by rw [List.getElem?_eq_getElem (by rw [srt_len]; exact q)]; rfl
    have e2 : (srt ys)[j]? = some ((srt ys)[j]?.getD 0) := by rw [List.getElem?_eq_getElem (by rw [srt_len]; omega)]; rfl
    exact upto_srt u e1 e2
  · have e1 : (srt xs)[j]? = none := List.getElem?_eq_none (by rw [srt_len]; exact q)
    have e2 : (srt ys)[j]? = none := List.getElem?_eq_none (by rw [srt_len]; omega)
    rw [e1, e2]
    show (0 : Rat) ≤ 0 + s
    grind
theorem mnl_srt {xs : List Rat} : mnl xs = (srt xs)[0]?.getD 0 := by
  cases xs with
  | nil => rfl
  | cons x xs => rw [srt_first (by simp)]; rfl
theorem mxl_srt {xs : List Rat} : mxl xs = (srt xs)[xs.length - 1]?.getD 0 := by
  cases xs with
  | nil => rfl
  | cons x xs => rw [srt_last (by simp)]; rfl
theorem wsum_cons (w : Nat) (v : Rat) (r : List (Nat × Rat)) : wsum ((w, v) :: r) = ((w : Int) : Rat) * v + wsum r := by
  have key : ∀ (r : List (Nat × Rat)) (a : Rat), r.foldl (fun a x => a + ((x.1 : Int) : Rat) * x.2) a = a + r.foldl (fun a x => a + ((x.1 : Int) : Rat) * x.2) 0 := by
    intro r
    induction r with
    | nil => intro a; simp [Rat.add_zero]
    | cons x r ih =>
      intro a
      simp only [List.foldl_cons]
      rw [ih (a + _), ih (0 + _)]
      grind
  unfold wsum
  simp only [List.foldl_cons]
  rw [key]
  grind
theorem cast_nonneg (w : Nat) : (0 : Rat) ≤ ((w : Int) : Rat) := by
  exact_mod_cast Nat.zero_le w
theorem wsum_upto {s : Rat} : ∀ {ws : List Nat} {ys xs : List Rat}, Upto s ys xs → ws.length = xs.length → wsum (ws.zip ys) ≤ wsum (ws.zip xs) + ((ws.sum : Int) : Rat) * s
  | [], _, _, u, l => by
    cases u with
    | nil => simp [wsum, Rat.add_zero]
    | cons _ _ => cases l
  | w :: ws, _, _, u, l => by
    cases u with
    | nil => cases l
    | @cons y x ys xs q u =>
      have ih := wsum_upto (ws := ws) u (by simpa using l)
      have h1 : ((w : Int) : Rat) * y ≤ ((w : Int) : Rat) * (x + s) := Rat.mul_le_mul_of_nonneg_left q (cast_nonneg w)
      simp only [List.zip_cons_cons, wsum_cons, List.sum_cons]
      have e : (((w + ws.sum : Nat) : Int) : Rat) = ((w : Int) : Rat) + ((ws.sum : Int) : Rat) := by
        rw [Int.natCast_add, Rat.intCast_add]
      rw [e]
      grind
theorem inv_pos {W : Nat} (h : 1 ≤ W) : ((W : Int) : Rat) * Rat.divInt 1 (W : Int) = 1 ∧ 0 ≤ Rat.divInt 1 (W : Int) := by
  have hne : ((W : Int) : Rat) ≠ 0 := by
    intro e
    have : (W : Int) = 0 := by exact_mod_cast e
    omega
  have e : Rat.divInt 1 (W : Int) = 1 / ((W : Int) : Rat) := by rw [Rat.divInt_eq_div]; rfl
  refine ⟨?_, ?_⟩
  · rw [e]; grind
  · rw [← Rat.num_nonneg, Rat.num_divInt, Int.sign_eq_one_of_pos (by omega), Int.one_mul]
    exact Int.ediv_nonneg (by decide) (by omega)
theorem meanR_upto {s : Rat} {ws : List Nat} {ys xs : List Rat} (u : Upto s ys xs) (l : ws.length = xs.length) (hW : 1 ≤ ws.sum) : meanR ws ys ≤ meanR ws xs + s := by
  have h1 := wsum_upto u l
  obtain ⟨i1, i2⟩ := inv_pos hW
  unfold meanR
  have h2 := Rat.mul_le_mul_of_nonneg_right h1 i2
  have e : (wsum (ws.zip xs) + ((ws.sum : Int) : Rat) * s) * Rat.divInt 1 (ws.sum : Int) = wsum (ws.zip xs) * Rat.divInt 1 (ws.sum : Int) + s := by
    have : ((ws.sum : Int) : Rat) * s * Rat.divInt 1 (ws.sum : Int) = s := by
      have : ((ws.sum : Int) : Rat) * s * Rat.divInt 1 (ws.sum : Int) = (((ws.sum : Int) : Rat) * Rat.divInt 1 (ws.sum : Int)) * s := by grind
      rw [this, i1]; grind
    grind
  rw [e] at h2
  exact h2
theorem vals_upto {s : Rat} {bs cs : List Rat} : ∀ {ps : List Tm}, (∀ u ∈ ps, val cs u ≤ val bs u + s) → Upto s (vals cs ps) (vals bs ps)
  | [], _ => .nil
  | p :: ps, h => .cons (h p List.mem_cons_self) (vals_upto fun u m => h u (List.mem_cons_of_mem _ m))
theorem val_upto {n B : Nat} {s : Rat} (hs : 0 ≤ s) {bs cs : List Rat} (h : ∀ i : Nat, cs[i]?.getD 0 ≤ bs[i]?.getD 0 + s) (t : Tm) : wf n B t → val cs t ≤ val bs t + s := by
  induction t using tm_ind with
  | h t ih =>
  intro w
  have parts : ∀ ps : List Tm, wfs n B ps → (∀ u ∈ ps, dep u < dep t) → Upto s (vals cs ps) (vals bs ps) := fun ps w hd => vals_upto fun u m => ih u (hd u m) (wfs_mem w m)
  cases t with
  | bid p => exact h p
  | fix q => simp only [val]; grind
  | mean ws ps =>
    obtain ⟨w1, w2, w3, wl, ww⟩ := w
    have u := parts ps w1 (fun u m => by have := deps_mem m; simp only [dep]; omega)
    refine meanR_upto u (by rw [vals_len]; exact wl) ?_
    cases ws with
    | nil => simp at wl; omega
    | cons w ws => have := ww w List.mem_cons_self; simp; omega
  | least ps =>
    have u := parts ps w.1 (fun u m => by have := deps_mem m; simp only [dep]; omega)
    simp only [val, mnl_srt]
    exact upto_srtD hs u 0
  | greatest ps =>
    have u := parts ps w.1 (fun u m => by have := deps_mem m; simp only [dep]; omega)
    simp only [val, mxl_srt, vals_len]
    exact upto_srtD hs u _
  | ranked k ps =>
    have u := parts ps w.1 (fun u m => by have := deps_mem m; simp only [dep]; omega)
    simp only [val]
    exact upto_srtD hs u _
  | between a b v =>
    have := ih v (by simp only [dep]; omega) w.1
    simp only [val]
    refine upto_srtD hs (.cons ?_ (.cons ?_ (.cons this .nil))) _
    · grind
    · grind
/-- without fixed numbers and bounds: a number at all bids -/
def plainT : Tm → Prop
  | .bid _ => True
  | .fix _ => False
  | .between _ _ _ => False
  | .mean _ ps => ∀ p ∈ ps, plainT p
  | .least ps => ∀ p ∈ ps, plainT p
  | .greatest ps => ∀ p ∈ ps, plainT p
  | .ranked _ ps => ∀ p ∈ ps, plainT p
end CB

/-! Lots, ends and outcomes; plain. -/
namespace CB
open PySem
/-- the persons whose number is so -/
def lot (p : Rat → Bool) (ws : List Rat) : List Nat := (ws.zipIdx.filter fun x => p x.1).map (·.2)
theorem mem_lot {p : Rat → Bool} {ws : List Rat} {i : Nat} : i ∈ lot p ws ↔ ∃ w, ws[i]? = some w ∧ p w = true := by
  simp only [lot, List.mem_map, List.mem_filter]
  constructor
  · rintro ⟨⟨w, j⟩, ⟨m, q⟩, rfl⟩
    exact ⟨w, List.mem_zipIdx_iff_getElem?.1 m, q⟩
  · rintro ⟨w, e, q⟩
    exact ⟨(w, i), ⟨List.mem_zipIdx_iff_getElem?.2 e, q⟩, rfl⟩
theorem lot_congr {p r : Rat → Bool} {ws : List Rat} (h : ∀ w ∈ ws, p w = r w) : lot p ws = lot r ws := by
  unfold lot
  congr 1
  refine List.filter_congr fun x m => ?_
  obtain ⟨w, i⟩ := x
  exact h w (List.mem_of_getElem? (List.mem_zipIdx_iff_getElem?.1 m))
/-- the high numbers on a lot, the low ones elsewhere -/
def ends (ls hs : List Rat) (l : List Nat) : List Rat := ls.zipIdx.map fun x => if l.contains x.2 then hs[x.2]?.getD 0 else x.1
theorem ends_len (ls hs : List Rat) (l : List Nat) : (ends ls hs l).length = ls.length := by simp [ends]
theorem ends_get (ls hs : List Rat) (l : List Nat) (i : Nat) : (ends ls hs l)[i]? = ls[i]?.map fun x => if l.contains i then hs[i]?.getD 0 else x := by
  unfold ends
  rw [List.getElem?_map, List.getElem?_zipIdx]
  cases ls[i]? <;> simp
theorem ends_nil (ls hs : List Rat) : ends ls hs [] = ls := by
  refine List.ext_getElem? fun i => ?_
  rw [ends_get]
  cases ls[i]? <;> simp
theorem ends_mem {ls hs : List Rat} {l : List Nat} {x : Rat} (h : hs.length = ls.length) (m : x ∈ ends ls hs l) : x ∈ ls ∨ x ∈ hs := by
  obtain ⟨i, e⟩ := List.mem_iff_getElem?.1 m
  rw [ends_get] at e
  cases q : ls[i]? with
  | none => rw [q] at e; cases e
  | some y =>
    rw [q] at e
    have il : i < hs.length := by rw [h]; exact (List.getElem?_eq_some_iff.1 q).1
    have e2 : hs[i]? = some hs[i] := List.getElem?_eq_getElem il
    simp only [Option.map_some, Option.some.injEq] at e
    split at e
    · rw [e2] at e; simp at e; subst e; exact .inr (List.getElem_mem il)
    · subst e; exact .inl (List.mem_of_getElem? q)
/-- a stretch's low is not above its high -/
def Below (ls hs : List Rat) : Prop := ∀ (i : Nat) (x y : Rat), ls[i]? = some x → hs[i]? = some y → x ≤ y
theorem ends_mono {ls hs : List Rat} {l m : List Nat} (hl : hs.length = ls.length) (b : Below ls hs) (s : ∀ i ∈ l, i ∈ m) (i : Nat) : (ends ls hs l)[i]?.getD 0 ≤ (ends ls hs m)[i]?.getD 0 + 0 := by
  rw [ends_get, ends_get]
  cases q : ls[i]? with
  | none => show (0 : Rat) ≤ 0 + 0; grind
  | some x =>
    have il : i < hs.length := by rw [hl]; exact (List.getElem?_eq_some_iff.1 q).1
    have e2 : hs[i]? = some hs[i] := List.getElem?_eq_getElem il
    have le := b i x _ q e2
    generalize hs[i] = y at *
    by_cases c1 : i ∈ l
    · have c2 := s i c1
      simp [c1, c2, Rat.add_zero]
    · by_cases c2 : i ∈ m
      · simp [c1, c2, e2]; grind
      · simp [c1, c2, Rat.add_zero]
theorem val_ends_mono {n B : Nat} {ls hs : List Rat} {l m : List Nat} (hl : hs.length = ls.length) (b : Below ls hs) (s : ∀ i ∈ l, i ∈ m) {t : Tm} (w : wf n B t) : val (ends ls hs l) t ≤ val (ends ls hs m) t := by
  have := val_upto (s := 0) Rat.le_refl (ends_mono hl b s) t w
  grind
/-- the number that is held from both sides -/
def outA (t : Tm) (ls hs ws : List Rat) : Rat := mxl (val ls t :: ws.map fun w => mnl [val (ends ls hs (lot (fun x => decide (w ≤ x)) ws)) t, w])
theorem mxl_le {xs : List Rat} {c : Rat} (h : xs ≠ []) : mxl xs ≤ c ↔ ∀ x ∈ xs, x ≤ c :=
  ⟨fun q x m => by have := mxl_ge m; grind, fun q => q _ (mxl_mem h)⟩
theorem mnl_two {a b c : Rat} : mnl [a, b] ≤ c ↔ a ≤ c ∨ b ≤ c := by
  constructor
  · intro q
    have := mnl_mem (qs := [a, b]) (by simp)
    simp at this
    rcases this with e | e <;> rw [e] at q
    · exact .inl q
    · exact .inr q
  · rintro (q | q)
    · have := mnl_le (qs := [a, b]) (x := a) (by simp); grind
    · have := mnl_le (qs := [a, b]) (x := b) (by simp); grind
theorem outA_le {n B : Nat} {t : Tm} (w : wf n B t) {ls hs ws : List Rat} (hl : hs.length = ls.length) (b : Below ls hs) (c : Rat) :
    outA t ls hs ws ≤ c ↔ val (ends ls hs (lot (fun x => decide (c < x)) ws)) t ≤ c := by
  unfold outA
  rw [mxl_le (by simp)]
  constructor
  · intro h
    by_cases q : ws.filter (fun x => decide (c < x)) = []
    · have e : lot (fun x => decide (c < x)) ws = [] := by
        rw [List.filter_eq_nil_iff] at q
        refine List.eq_nil_iff_forall_not_mem.2 fun i m => ?_
        obtain ⟨w, e1, e2⟩ := mem_lot.1 m
        exact q w (List.mem_of_getElem? e1) e2
      rw [e, ends_nil]
      exact h _ List.mem_cons_self
    · have m := mnl_mem q
      have lw : ∀ x ∈ ws, c < x → mnl (ws.filter fun x => decide (c < x)) ≤ x := fun x mx hx => mnl_le (List.mem_filter.2 ⟨mx, decide_eq_true hx⟩)
      generalize mnl (ws.filter fun x => decide (c < x)) = w0 at *
      obtain ⟨m1, m2⟩ := List.mem_filter.1 m
      have m3 : c < w0 := of_decide_eq_true m2
      have e : lot (fun x => decide (w0 ≤ x)) ws = lot (fun x => decide (c < x)) ws := lot_congr fun x mx => by
        by_cases cx : c < x
        · have := lw x mx cx
          rw [decide_eq_true cx, decide_eq_true this]
        · have : ¬ w0 ≤ x := by grind
          rw [decide_eq_false cx, decide_eq_false this]
      have k := h _ (List.mem_cons_of_mem _ (List.mem_map.2 ⟨w0, m1, rfl⟩))
      rw [mnl_two, e] at k
      rcases k with k | k
      · exact k
      · grind
  · intro h x m
    rcases List.mem_cons.1 m with rfl | m
    · have := val_ends_mono hl b (l := []) (m := lot (fun x => decide (c < x)) ws) (fun i q => by cases q) w
      rw [ends_nil] at this
      grind
    · obtain ⟨y, my, rfl⟩ := List.mem_map.1 m
      rw [mnl_two]
      by_cases cy : y ≤ c
      · exact .inr cy
      · refine .inl ?_
        have := val_ends_mono hl b (l := lot (fun x => decide (y ≤ x)) ws) (m := lot (fun x => decide (c < x)) ws) (fun i q => by
          obtain ⟨u, e1, e2⟩ := mem_lot.1 q
          exact mem_lot.2 ⟨u, e1, decide_eq_true (by have := of_decide_eq_true e2; grind)⟩) w
        grind
theorem eq_of_le {x y : Rat} (h : ∀ c, x ≤ c ↔ y ≤ c) : x = y := Rat.le_antisymm ((h y).2 Rat.le_refl) ((h x).1 Rat.le_refl)
/-- the first ask -/
theorem outA_above {n B : Nat} {t : Tm} (w : wf n B t) {ls hs ws : List Rat} (hl : hs.length = ls.length) (b : Below ls hs) : val (ends ls hs (lot (fun x => decide (outA t ls hs ws < x)) ws)) t ≤ outA t ls hs ws :=
  (outA_le w hl b _).1 Rat.le_refl
/-- the second ask -/
theorem outA_below {n B : Nat} {t : Tm} (w : wf n B t) {ls hs ws : List Rat} (hl : hs.length = ls.length) (b : Below ls hs) : outA t ls hs ws ≤ val (ends ls hs (lot (fun x => decide (outA t ls hs ws ≤ x)) ws)) t := by
  have key := fun c => (outA_le (ws := ws) w hl b c).2
  generalize outA t ls hs ws = q at *
  rcases Rat.le_total (a := q) (b := val (ends ls hs (lot (fun x => decide (q ≤ x)) ws)) t) with k | k
  · exact k
  generalize hv : val (ends ls hs (lot (fun x => decide (q ≤ x)) ws)) t = v at *
  by_cases e : q = v
  · rw [e]; exact Rat.le_refl
  have lt : v < q := by grind
  have m := mxl_mem (qs := v :: ws.filter fun x => decide (x < q)) (by simp)
  have up : ∀ x ∈ ws, x < q → x ≤ mxl (v :: ws.filter fun x => decide (x < q)) := fun x mx hx => mxl_ge (List.mem_cons_of_mem _ (List.mem_filter.2 ⟨mx, decide_eq_true hx⟩))
  have uv : v ≤ mxl (v :: ws.filter fun x => decide (x < q)) := mxl_ge List.mem_cons_self
  have k2 := key (mxl (v :: ws.filter fun x => decide (x < q)))
  generalize mxl (v :: ws.filter fun x => decide (x < q)) = c at *
  have cq : c < q := by
    rcases List.mem_cons.1 m with rfl | m
    · exact lt
    · exact of_decide_eq_true (List.mem_filter.1 m).2
  have e2 : lot (fun x => decide (c < x)) ws = lot (fun x => decide (q ≤ x)) ws := lot_congr fun x mx => by
    by_cases cx : c < x
    · have : q ≤ x := by
        rcases Rat.le_total (a := q) (b := x) with z | z
        · exact z
        · by_cases e3 : x = q
          · rw [e3]; exact Rat.le_refl
          · have := up x mx (by grind); grind
      rw [decide_eq_true cx, decide_eq_true this]
    · have : ¬ q ≤ x := by grind
      rw [decide_eq_false cx, decide_eq_false this]
  rw [e2, hv] at k2
  have := k2 uv
  grind
/-- no other number is held -/
theorem outA_only {n B : Nat} {t : Tm} (w : wf n B t) {ls hs ws : List Rat} (hl : hs.length = ls.length) (b : Below ls hs) {x : Rat} (h1 : val (ends ls hs (lot (fun y => decide (x < y)) ws)) t ≤ x) (h2 : x ≤ val (ends ls hs (lot (fun y => decide (x ≤ y)) ws)) t) : outA t ls hs ws = x := by
  have a := (outA_le (ws := ws) w hl b x).2 h1
  have k := outA_above (ws := ws) w hl b
  generalize outA t ls hs ws = q at *
  by_cases e : q = x
  · exact e
  have := val_ends_mono hl b (l := lot (fun y => decide (x ≤ y)) ws) (m := lot (fun x => decide (q < x)) ws) (fun i z => by
    obtain ⟨u, e1, e2⟩ := mem_lot.1 z
    exact mem_lot.2 ⟨u, e1, decide_eq_true (by have := of_decide_eq_true e2; grind)⟩) w
  grind
/-- the outcome of a rule -/
def outc (n : Nat) (t : Tm) (ws : List Rat) : Rat := outA t (List.replicate n 0) (List.replicate n 1) ws
theorem below_01 (n : Nat) : Below (List.replicate n 0) (List.replicate n 1) := fun i x y e1 e2 => by
  rw [List.getElem?_replicate] at e1 e2
  split at e1
  · rename_i q
    rw [if_pos q] at e2
    cases e1; cases e2; decide
  · cases e1
/-- 1 on a lot, 0 elsewhere -/
def corner (n : Nat) (l : List Nat) : List Rat := ends (List.replicate n 0) (List.replicate n 1) l
theorem corner_len (n : Nat) (l : List Nat) : (corner n l).length = n := by simp [corner, ends_len]
theorem corner_get {n : Nat} {l : List Nat} {i : Nat} (h : i < n) : (corner n l)[i]? = some (if l.contains i then 1 else 0) := by
  unfold corner
  rw [ends_get, List.getElem?_replicate, if_pos h, List.getElem?_replicate, if_pos h]
  rfl
theorem outc_le {n B : Nat} {t : Tm} (w : wf n B t) (ws : List Rat) (c : Rat) : outc n t ws ≤ c ↔ val (corner n (lot (fun x => decide (c < x)) ws)) t ≤ c := outA_le w (by simp) (below_01 n) c
/-- in a range -/
theorem val_range {n B : Nat} {bs : List Rat} (hn : bs.length = n) (hb : ∀ q ∈ bs, 0 ≤ q ∧ q ≤ 1) (t : Tm) : wf n B t → 0 ≤ val bs t ∧ val bs t ≤ 1 := by
  induction t using tm_ind with
  | h t ih =>
  intro w
  have parts : ∀ ps : List Tm, wfs n B ps → (∀ u ∈ ps, dep u < dep t) → ∀ v ∈ vals bs ps, 0 ≤ v ∧ v ≤ 1 := by
    intro ps w hd v m
    rw [vals_eq, List.mem_map] at m
    obtain ⟨u, mu, rfl⟩ := m
    exact ih u (hd u mu) (wfs_mem w mu)
  have nth : ∀ (vs : List Rat) (j : Nat), (∀ v ∈ vs, 0 ≤ v ∧ v ≤ 1) → 0 ≤ (srt vs)[j]?.getD 0 ∧ (srt vs)[j]?.getD 0 ≤ 1 := by
    intro vs j h
    cases q : (srt vs)[j]? with
    | none => exact ⟨by decide, by decide⟩
    | some x => exact h x (srt_mem.1 (List.mem_of_getElem? q))
  cases t with
  | bid p =>
    have hp : p < bs.length := by rw [hn]; exact w
    simp only [val, List.getElem?_eq_getElem hp, Option.getD_some]
    exact hb _ (List.getElem_mem hp)
  | fix q => exact ⟨w.1, w.2.1⟩
  | mean ws ps =>
    obtain ⟨w1, w2, w3, wl, ww⟩ := w
    have u := parts ps w1 (fun u m => by have := deps_mem m; simp only [dep]; omega)
    have hW : 1 ≤ ws.sum := by
      cases ws with
      | nil => simp at wl; omega
      | cons w ws => have := ww w List.mem_cons_self; simp; omega
    have up : ∀ vs : List Rat, (∀ v ∈ vs, 0 ≤ v ∧ v ≤ 1) → Upto 0 (List.replicate vs.length 0) vs ∧ Upto 0 vs (List.replicate vs.length 1) := by
      intro vs
      induction vs with
      | nil => intro _; exact ⟨.nil, .nil⟩
      | cons v vs ih =>
        intro h
        obtain ⟨a, b⟩ := ih fun x m => h x (List.mem_cons_of_mem _ m)
        have c := h v List.mem_cons_self
        exact ⟨.cons (by grind) a, .cons (by grind) b⟩
    obtain ⟨u1, u2⟩ := up _ u
    have l := vals_len bs ps
    have a := meanR_upto u1 (by rw [l]; exact wl) hW
    have b := meanR_upto u2 (by simp [l]; exact wl) hW
    have cst : ∀ q : Rat, meanR ws (List.replicate (vals bs ps).length q) = q := by
      intro q
      unfold meanR
      have key : ∀ (ws : List Nat) (k : Nat), ws.length = k → wsum (ws.zip (List.replicate k q)) = ((ws.sum : Int) : Rat) * q := by
        intro ws
        induction ws with
        | nil => intro k _; simp [wsum]
        | cons w ws ih =>
          intro k hk
          subst hk
          have := ih _ rfl
          simp only [List.length_cons, List.replicate_succ, List.zip_cons_cons, wsum_cons, List.sum_cons, this]
          rw [Int.natCast_add, Rat.intCast_add]
          grind
      rw [key ws _ (by rw [l]; exact wl)]
      have i := (inv_pos hW).1
      have : ((ws.sum : Int) : Rat) * q * Rat.divInt 1 (ws.sum : Int) = (((ws.sum : Int) : Rat) * Rat.divInt 1 (ws.sum : Int)) * q := by grind
      rw [this, i]; grind
    rw [cst] at a b
    simp only [val]
    exact ⟨by grind, by grind⟩
  | least ps =>
    have u := parts ps w.1 (fun u m => by have := deps_mem m; simp only [dep]; omega)
    simp only [val, mnl_srt]
    exact nth _ _ u
  | greatest ps =>
    have u := parts ps w.1 (fun u m => by have := deps_mem m; simp only [dep]; omega)
    simp only [val, mxl_srt]
    exact nth _ _ u
  | ranked k ps =>
    have u := parts ps w.1 (fun u m => by have := deps_mem m; simp only [dep]; omega)
    simp only [val]
    exact nth _ _ u
  | between a b v =>
    have h := ih v (by simp only [dep]; omega) w.1
    obtain ⟨_, na, nb, _⟩ := w
    simp only [val]
    refine nth _ _ fun x m => ?_
    simp at m
    rcases m with rfl | rfl | rfl
    · exact ⟨na.1, na.2.1⟩
    · exact ⟨nb.1, nb.2.1⟩
    · exact h
end CB

/-! The package's outcomes. -/
namespace CB
open PySem
/-- a comprehension that picks and changes -/
theorem lcRun_pick {α : Type} {std : Hs → Prop} {f : T → M (Option T)} (g k : α → T) (p : α → Bool) : ∀ {xs : List α} {acc : List T} {h : Hs}, (∀ h', Gs [] h h' → std h') → (∀ x ∈ xs, ∀ h', Gs [] h h' → ∃ h'', f (g x) h' = .ok (if p x = true then some (k x) else none) h'' ∧ Gs [] h' h'') → acc.length + xs.length ≤ SZ →
    ∃ h', lcRun std f (xs.map g) acc h = .ok (acc ++ (xs.filter p).map k) h' ∧ Gs [] h h'
  | [], acc, h, hs, _, _ => ⟨h, by rw [List.map_nil, lcRun_nil (hs h (Gs.refl _ _))]; simp, Gs.refl _ _⟩
  | x :: xs, acc, h, hs, hf, hl => by
    obtain ⟨h1, e1, g1⟩ := hf x List.mem_cons_self h (Gs.refl _ _)
    simp only [List.length_cons] at hl
    cases q : p x with
    | true =>
      rw [q, if_pos rfl] at e1
      obtain ⟨h2, e2, g2⟩ := lcRun_pick g k p (xs := xs) (acc := acc ++ [k x]) (h := h1) (fun h' q => hs h' (g1.trans q)) (fun y m h' q => hf y (List.mem_cons_of_mem _ m) h' (g1.trans q)) (by rw [List.length_append, List.length_singleton]; omega)
      refine ⟨h2, ?_, g1.trans g2⟩
      rw [List.map_cons, lcRun_some (hs h (Gs.refl _ _)) e1 (by omega), e2, List.filter_cons, q]
      simp
    | false =>
      rw [q] at e1
      obtain ⟨h2, e2, g2⟩ := lcRun_pick g k p (xs := xs) (acc := acc) (h := h1) (fun h' q => hs h' (g1.trans q)) (fun y m h' q => hf y (List.mem_cons_of_mem _ m) h' (g1.trans q)) (by omega)
      refine ⟨h2, ?_, g1.trans g2⟩
      rw [List.map_cons, lcRun_none (hs h (Gs.refl _ _)) e1, e2, List.filter_cons, q]
      rfl
theorem enum_frs (ws : List Rat) : enumT (frs ws) = ws.zipIdx.map fun x : Rat × Nat => T.tup [.int (x.2 : Int), fr x.1] := by
  unfold enumT frs
  rw [List.zipIdx_map, List.map_map]
  rfl
theorem evSrc_enum_tup {cl : Nat → List T → M T} {σ : Env} {h h1 : Hs} {a : E} {xs : List T} (e : evE cl a σ h = .ok (.tup xs) h1) : evSrc cl (.enum a) σ h = .ok ⟨enumT xs, fun _ => True⟩ h1 := by
  rw [evSrc_enum]
  unfold bnd
  rw [e]
  rfl
theorem inI_nats (h : Hs) (i : Nat) (l : List Nat) : inI h (.int (i : Int)) (.tup (nats l)) = some (l.contains i) := by
  have f : (nats l).all flatT = true := by simp [nats, flatT]
  have g : (nats l).any (fun z => eqF z (.int (i : Int))) = l.contains i := by
    clear f
    unfold nats
    rw [List.any_map]
    induction l with
    | nil => rfl
    | cons x xs ih =>
      rw [List.any_cons, ih, List.contains_cons]
      congr 1
      show ((x : Int) == (i : Int)) = (i == x)
      by_cases q : x = i
      · subst q; simp
      · have : ¬ ((x : Int) = (i : Int)) := by omega
        have q' : ¬ i = x := fun z => q z.symm
        rw [beq_eq_false_iff_ne.2 this, beq_eq_false_iff_ne.2 q']
  unfold inI
  rw [seqOf_tup]
  dsimp only
  rw [if_pos (by simp [flatT, f]), g]
theorem nats_len (l : List Nat) : (nats l).length = l.length := by simp [nats]
theorem wishing_ok {d n : Nat} (hd : 2 ≤ d) {ws : List Rat} {w : Rat} (hs : ∀ x ∈ ws, Sz n x) (hw : Sz n w) (hn : 2 * n ≤ 900000) (hl : ws.length ≤ 1000) (h : Hs) :
    ∃ h', callN Lw.tb d 28 [.tup (frs ws), fr w] h = .ok (.tup (nats (lot (fun x => decide (w ≤ x)) ws))) h' ∧ Gs [] h h' := by
  obtain ⟨h1, e1, g1⟩ := lcRun_pick (std := fun _ => True) (f := lcG (callN Lw.tb (d - 1)) [some (.tup (frs ws)), some (fr w), none, none] (.var 2) (.cons (.name 2) (.cons (.name 3) .nil)) (.som (.not (.call 5 (.cons (.var 3) (.cons (.var 1) .nil))))) [2, 3])
    (fun x : Rat × Nat => T.tup [.int (x.2 : Int), fr x.1]) (fun x : Rat × Nat => T.int (x.2 : Int)) (fun x : Rat × Nat => decide (w ≤ x.1)) (xs := ws.zipIdx) (acc := []) (h := h) (fun _ _ => trivial)
    (fun x m h' g => by
      obtain ⟨q, i⟩ := x
      have mq : q ∈ ws := List.mem_of_getElem? (List.mem_zipIdx_iff_getElem?.1 m)
      have ls := less_ok (d := d - 1) (by omega) (hs q mq) hw (by omega) h'
      refine ⟨h', ?_, Gs.refl _ _⟩
      generalize T.tup (frs ws) = W at *
      by_cases c : q < w
      · have c2 : ¬ w ≤ q := by grind
        simp [lcG, ls, c, c2]
      · have c2 : w ≤ q := by grind
        simp [lcG, ls, c, c2]) (by simp; omega)
  rw [← enum_frs, List.nil_append] at e1
  have ex : (ws.zipIdx.filter fun x : Rat × Nat => decide (w ≤ x.1)).map (fun x : Rat × Nat => T.int (x.2 : Int)) = nats (lot (fun x => decide (w ≤ x)) ws) := by
    unfold nats lot
    rw [List.map_map]
    rfl
  rw [ex] at e1
  have ec := lc_ok (evSrc_enum_tup (a := .var 0) (cl := callN Lw.tb (d - 1)) (σ := [some (.tup (frs ws)), some (fr w), none, none]) (h := h) (h1 := h) (by simp)) e1
  have bt := blt_tuple_lst (lst_new h1 (nats (lot (fun x => decide (w ≤ x)) ws)))
  refine ⟨h1 ++ [.lst (nats (lot (fun x => decide (w ≤ x)) ws))], call_of Lw.tb_28 (by omega) ⟨rfl, by decide⟩ (.inl ?_), g1.trans (Gs.app _ _ _)⟩
  generalize T.tup (frs ws) = W at *
  simp [fn_wishing_28, ec, bt]
theorem ends_ok {d : Nat} (hd : 1 ≤ d) {ls hs : List Rat} {l : List Nat} (hlen : hs.length = ls.length) (hl : ls.length ≤ 1000) (h : Hs) :
    ∃ h', callN Lw.tb d 27 [.tup (frs ls), .tup (frs hs), .tup (nats l)] h = .ok (.tup (frs (ends ls hs l))) h' ∧ Gs [] h h' := by
  obtain ⟨h1, e1, g1⟩ := lcRun_list (std := fun _ => True) (f := lcG (callN Lw.tb (d - 1)) [some (.tup (frs ls)), some (.tup (frs hs)), some (.tup (nats l)), none, none] (.ife (.cmp .isIn (.var 3) (.var 2)) (.idx (.var 1) (.var 3)) (.var 4)) (.cons (.name 3) (.cons (.name 4) .nil)) .non [3, 4])
    (fun x : Rat × Nat => T.tup [.int (x.2 : Int), fr x.1]) (fun x : Rat × Nat => fr (if l.contains x.2 then hs[x.2]?.getD 0 else x.1)) (xs := ls.zipIdx) (acc := []) (h := h) (fun _ _ => trivial)
    (fun x m h' g => by
      obtain ⟨q, i⟩ := x
      have mq := List.mem_zipIdx_iff_getElem?.1 m
      have il : i < hs.length := by rw [hlen]; exact (List.getElem?_eq_some_iff.1 mq).1
      have e2 : (frs hs)[i]? = some (fr hs[i]) := frs_at (List.getElem?_eq_getElem il)
      have ii := inI_nats h' i l
      have hx : hs[i]?.getD 0 = hs[i] := by rw [List.getElem?_eq_getElem il]; rfl
      refine ⟨h', ?_, Gs.refl _ _⟩
      rw [hx]
      generalize T.tup (frs ls) = W at *
      generalize T.tup (nats l) = W2 at *
      generalize hs[i] = y at *
      generalize frs hs = W3 at *
      by_cases c : l.contains i = true
      · rw [c] at ii
        have c2 : i ∈ l := List.contains_iff_mem.1 c
        simp [lcG, ii, c, c2, e2, atI_nat]
      · rw [Bool.not_eq_true] at c
        rw [c] at ii
        have c2 : ¬ i ∈ l := fun q => by rw [List.contains_iff_mem.2 q] at c; cases c
        simp [lcG, ii, c, c2]) (by simp; omega)
  rw [← enum_frs, List.nil_append] at e1
  have ex : ls.zipIdx.map (fun x : Rat × Nat => fr (if l.contains x.2 then hs[x.2]?.getD 0 else x.1)) = frs (ends ls hs l) := by
    unfold frs ends
    rw [List.map_map]
    rfl
  rw [ex] at e1
  have ec := lc_ok (evSrc_enum_tup (a := .var 0) (cl := callN Lw.tb (d - 1)) (σ := [some (.tup (frs ls)), some (.tup (frs hs)), some (.tup (nats l)), none, none]) (h := h) (h1 := h) (by simp)) e1
  have bt := blt_tuple_lst (lst_new h1 (frs (ends ls hs l)))
  refine ⟨h1 ++ [.lst (frs (ends ls hs l))], call_of Lw.tb_27 (by omega) ⟨rfl, by decide⟩ (.inl ?_), g1.trans (Gs.app _ _ _)⟩
  generalize T.tup (frs ls) = W at *
  generalize T.tup (frs hs) = W1 at *
  generalize T.tup (nats l) = W2 at *
  simp [fn_ends_for_27, ec, bt]
def outF (t : Tm) (ls hs ws : List Rat) (w : Rat) : Rat := mnl [val (ends ls hs (lot (fun x => decide (w ≤ x)) ws)) t, w]
theorem among_ok {d n B Bw a : Nat} {t : Tm} {ls hs ws : List Rat} {h : Hs} (ra : RuleAt a n t h) (w : wf n B t) (hB : 1 ≤ B) (hsz : szb B t + 14 < 9000) (hd : dep t + 6 ≤ d) (hll : ls.length = n) (hhl : hs.length = n) (hwl : ws.length ≤ 1000) (hn : n ≤ 1000) (zl : ∀ q ∈ ls, Sz B q) (zh : ∀ q ∈ hs, Sz B q) (zw : ∀ q ∈ ws, Sz Bw q) (hB2 : Bw ≤ 9000) :
    ∃ h', callN Lw.tb d 29 [.rf a, .tup (frs ws), .tup (frs ls), .tup (frs hs)] h = .ok (fr (outA t ls hs ws)) h' ∧ Gs [] h h' ∧ Sz (szb B t + Bw) (outA t ls hs ws) := by
  have v0 := value_ok hll zl hB t w hsz
  obtain ⟨h1, e1, g1⟩ := v0.1 (d - 1) (by omega) h
  have zval : ∀ l : List Nat, Sz (szb B t) (val (ends ls hs l) t) := fun l => (value_ok (by rw [ends_len]; exact hll) (fun q m => by rcases ends_mem (by rw [hll, hhl]) m with m | m; exact zl q m; exact zh q m) hB t w hsz).2
  have zF : ∀ x ∈ ws, Sz (szb B t + Bw) (outF t ls hs ws x) := by
    intro x m
    have := mnl_mem (qs := [val (ends ls hs (lot (fun y => decide (x ≤ y)) ws)) t, x]) (by simp)
    unfold outF
    simp at this
    rcases this with e | e <;> rw [e]
    · exact (zval _).mono (by omega)
    · exact (zw x m).mono (by omega)
  have zall : ∀ q ∈ val ls t :: ws.map (outF t ls hs ws), Sz (szb B t + Bw) q := by
    intro q m
    rcases List.mem_cons.1 m with rfl | m
    · exact v0.2.mono (by omega)
    · obtain ⟨x, mx, rfl⟩ := List.mem_map.1 m
      exact zF x mx
  obtain ⟨σ', h2, e2, w5, w6, rfl, l2, g2⟩ := forRun_go (std := fun _ => True) (tg := .name 5) (body := exSs (callN Lw.tb (d - 1)) (match fn_outcome_among_29.body with | .cons _ (.cons (.for _ _ b) _) => b | _ => .nil))
    (fun k σ h' => ∃ w5 w6, σ = [some (.rf a), some (.tup (frs ws)), some (.tup (frs ls)), some (.tup (frs hs)), some (.rf h1.length), w5, w6] ∧ h'[h1.length]? = some (.lst (frs (val ls t :: (ws.take k).map (outF t ls hs ws)))) ∧ Gs [h1.length] (h1 ++ [.lst [fr (val ls t)]]) h')
    (fun _ _ _ _ => trivial) (ts := frs ws) (k := 0) (σ := [some (.rf a), some (.tup (frs ws)), some (.tup (frs ls)), some (.tup (frs hs)), some (.rf h1.length), none, none]) (h := h1 ++ [.lst [fr (val ls t)]]) ⟨none, none, rfl, by simp [frs], Gs.refl _ _⟩
    (by
      rintro i u eu σ h2 ⟨w5, w6, rfl, l2, g2⟩
      obtain ⟨x, ex, rfl⟩ := frs_get eu
      have mx := List.mem_of_getElem? ex
      have il : i < ws.length := (List.getElem?_eq_some_iff.1 ex).1
      rw [Nat.zero_add] at *
      refine ⟨[some (.rf a), some (.tup (frs ws)), some (.tup (frs ls)), some (.tup (frs hs)), some (.rf h1.length), some (fr x), w6], (tak_name 5 _ _).trans rfl, ?_⟩
      obtain ⟨h3, e3, g3⟩ := wishing_ok (d := d - 1) (by omega) zw (zw x mx) (by omega) hwl h2
      obtain ⟨h4, e4, g4⟩ := ends_ok (d := d - 1) (by omega) (l := lot (fun y => decide (x ≤ y)) ws) (show hs.length = ls.length by rw [hhl, hll]) (by omega) h3
      obtain ⟨h5, e5, g5⟩ := (value_ok (bs := ends ls hs (lot (fun y => decide (x ≤ y)) ws)) (by rw [ends_len]; exact hll) (fun q m => by rcases ends_mem (by rw [hll, hhl]) m with m | m; exact zl q m; exact zh q m) hB t w hsz).1 (d - 1) (by omega) h4
      have alt : a < h.length := (List.getElem?_eq_some_iff.1 ra).1
      have r2 := ((ra.gs g1 (by simp)).gs (Gs.app [] h1 [.lst [fr (val ls t)]]) (by simp)).gs g2 (by simp; have := g1.1; omega)
      have at2 := att_term r2
      obtain ⟨h6, e6, g6⟩ := least_ok (d := d - 1) (n := szb B t + Bw) (by omega) (lst_new h5 (frs [val (ends ls hs (lot (fun y => decide (x ≤ y)) ws)) t, x])) (by simp) (fun q m => by
        simp at m
        rcases m with rfl | rfl
        · exact (zval _).mono (by omega)
        · exact (zw _ mx).mono (by omega)) (by omega)
      have g35 : Gs [] h2 h6 := (((g3.trans g4).trans g5).trans (Gs.app _ _ _)).trans g6
      have l6 := g35.at l2 (by simp)
      have ap := metI_append l6 (fr (outF t ls hs ws x)) (by simp [frs_len]; omega)
      have fs : frs (val ls t :: (ws.take i).map (outF t ls hs ws)) ++ [fr (outF t ls hs ws x)] = frs (val ls t :: (ws.take (i + 1)).map (outF t ls hs ws)) := by
        rw [take_succ' ex]; simp [frs]
      rw [fs] at ap
      have bl : h1.length < h6.length := (List.getElem?_eq_some_iff.1 l6).1
      refine ⟨[some (.rf a), some (.tup (frs ws)), some (.tup (frs ls)), some (.tup (frs hs)), some (.rf h1.length), some (fr x), some (fr (val (ends ls hs (lot (fun y => decide (x ≤ y)) ws)) t))], h6.set h1.length (.lst (frs (val ls t :: (ws.take (i + 1)).map (outF t ls hs ws)))), .inl ?_, _, _, rfl, by simp [bl], (g2.trans g35.nil).trans (Gs.set _ _ _ (by simp))⟩
      have l5 : lstOf h5 (.rf h1.length) = some (frs (val ls t :: (ws.take i).map (outF t ls hs ws))) := by
        have := ((g3.trans g4).trans g5).at l2 (by simp)
        simp [lstOf, this]
      have e6' : callN Lw.tb (d - 1) 6 [.rf h5.length] (h5 ++ [.lst [fr (val (ends ls hs (lot (fun y => decide (x ≤ y)) ws)) t), fr x]]) = .ok (fr (outF t ls hs ws x)) h6 := e6
      generalize outF t ls hs ws x = o at *
      generalize T.tup (frs ws) = W at *
      generalize T.tup (frs ls) = W1 at *
      generalize T.tup (frs hs) = W2 at *
      generalize frs (val ls t :: (ws.take i).map (outF t ls hs ws)) = W3 at *
      generalize frs (val ls t :: (ws.take (i + 1)).map (outF t ls hs ws)) = W4 at *
      generalize T.tup (nats (lot (fun y => decide (x ≤ y)) ws)) = W5 at *
      simp [fn_outcome_among_29, at2, e3, e4, e5, l5, e6', ap])
  rw [frs_len, Nat.zero_add, List.take_length] at l2
  obtain ⟨h3, e3, g3⟩ := greatest_ok (d := d - 1) (n := szb B t + Bw) (t := .rf h1.length) (h := h2) (qs := val ls t :: ws.map (outF t ls hs ws)) (by omega) (by simp [lstOf, l2]) (by simp) zall (by omega)
  have oe : mxl (val ls t :: ws.map (outF t ls hs ws)) = outA t ls hs ws := rfl
  rw [oe] at e3
  refine ⟨h3, call_of Lw.tb_29 (by omega) ⟨rfl, by decide⟩ (.inl ?_), ((g1.trans (Gs.app _ _ _)).new g2 (fun i m => .inr (by simp at m; have := g1.1; omega))).trans g3, ?_⟩
  · have b1 : exS (callN Lw.tb (d - 1)) (.asg (.name 4) (.lst (.cons (.call 17 (.cons (.att (.var 0) 1) (.cons (.var 2) .nil))) .nil))) [some (.rf a), some (.tup (frs ws)), some (.tup (frs ls)), some (.tup (frs hs)), none, none, none] h = .nx [some (.rf a), some (.tup (frs ws)), some (.tup (frs ls)), some (.tup (frs hs)), some (.rf h1.length), none, none] (h1 ++ [.lst [fr (val ls t)]]) := by
      have at1 := att_term ra
      generalize T.tup (frs ws) = W at *
      generalize T.tup (frs ls) = W1 at *
      generalize T.tup (frs hs) = W2 at *
      simp [at1, e1]
    have ov : evSrc (callN Lw.tb (d - 1)) (.over (.var 1)) [some (.rf a), some (.tup (frs ws)), some (.tup (frs ls)), some (.tup (frs hs)), some (.rf h1.length), none, none] (h1 ++ [.lst [fr (val ls t)]]) = .ok ⟨frs ws, fun _ => True⟩ (h1 ++ [.lst [fr (val ls t)]]) := evSrc_over_tup (by simp)
    show exSs _ (.cons (.asg _ _) (.cons (.for _ _ _) _)) _ _ = _
    refine (exSs_step b1).trans ((exSs_step (exS_for_ok ov e2)).trans ?_)
    generalize T.tup (frs ws) = W at *
    generalize T.tup (frs ls) = W1 at *
    generalize T.tup (frs hs) = W2 at *
    simp [e3]
  · rw [← oe]
    exact zall _ (mxl_mem (by simp))
theorem outcome_of_ok {d n B Bw a : Nat} {t : Tm} {ws : List Rat} {h : Hs} (ra : RuleAt a n t h) (w : wf n B t) (hB : 1 ≤ B) (hsz : szb B t + 14 < 9000) (hd : dep t + 7 ≤ d) (hwl : ws.length ≤ 1000) (hn : 1 ≤ n ∧ n ≤ 1000) (zw : ∀ q ∈ ws, Sz Bw q) (hB2 : Bw ≤ 9000) :
    ∃ h', callN Lw.tb d 30 [.rf a, .tup (frs ws)] h = .ok (fr (outc n t ws)) h' ∧ Gs [] h h' ∧ Sz (szb B t + Bw) (outc n t ws) := by
  obtain ⟨h1, e1, g1, z1⟩ := among_ok (d := d - 1) (ls := List.replicate n 0) (hs := List.replicate n 1) ra w hB hsz (by omega) (by simp) (by simp) hwl hn.2 (fun q m => by rw [(List.mem_replicate.1 m).2]; exact ⟨by simp; exact Nat.two_pow_pos _, by simp; omega⟩) (fun q m => by rw [(List.mem_replicate.1 m).2]; exact ⟨by simp; omega, by simp; omega⟩) zw hB2
  refine ⟨h1, call_of Lw.tb_30 (by omega) ⟨rfl, by decide⟩ (.inl ?_), g1, z1⟩
  have r0 : binI .mul (.tup [.tup [.int 0, .int 1]]) (.int n) = ret (.tup (frs (List.replicate n 0))) := rep_tup (q := 0) hn
  have r1 : binI .mul (.tup [.tup [.int 1, .int 1]]) (.int n) = ret (.tup (frs (List.replicate n 1))) := rep_tup (q := 1) hn
  have e1' : callN Lw.tb (d - 1) 29 [.rf a, .tup (frs ws), .tup (frs (List.replicate n 0)), .tup (frs (List.replicate n 1))] h = .ok (fr (outc n t ws)) h1 := e1
  have ap := att_people ra
  generalize T.tup (frs ws) = W at *
  generalize T.tup (frs (List.replicate n 0)) = W1 at *
  generalize T.tup (frs (List.replicate n 1)) = W2 at *
  simp [fn_outcome_of_30, ap, r0, r1, e1']
theorem check_wishes_ok {d B : Nat} (hd : 5 ≤ d) {a : Nat} {t : Tm} {qs : List Rat} {h : Hs} (r : RuleAt a qs.length t h) (hq : ∀ q ∈ qs, Num B q) (hl : qs.length ≤ 1000) : ∃ h', callN Lw.tb d 26 [.rf a, .tup (frs qs)] h = .ok .non h' ∧ Gs [] h h' := by
  obtain ⟨h1, e1, g1⟩ := numbers_ok (d := d - 1) (by omega) hq hl h
  refine ⟨h1, call_of Lw.tb_26 (by omega) ⟨rfl, by decide⟩ (.inr ⟨rfl, [some (.rf a), some (.tup (frs qs))], ?_⟩), g1⟩
  simp [att_people r, e1]
theorem outcome_ok {d n B Bw a : Nat} {t : Tm} {ws : List Rat} {h : Hs} (ra : RuleAt a n t h) (w : wf n B t) (hB : 1 ≤ B) (hsz : szb B t + 14 < 9000) (hd : dep t + 8 ≤ d) (hwl : ws.length = n) (hn : 1 ≤ n ∧ n ≤ 1000) (zw : ∀ q ∈ ws, Num Bw q) (hB2 : Bw ≤ 9000) :
    ∃ h', callN Lw.tb d 31 [.rf a, .tup (frs ws)] h = .ok (fr (outc n t ws)) h' ∧ Gs [] h h' ∧ Sz (szb B t + Bw) (outc n t ws) := by
  have dp := dep_pos t
  obtain ⟨h1, e1, g1⟩ := check_wishes_ok (d := d - 1) (by omega) (by rw [hwl]; exact ra) zw (by omega)
  obtain ⟨h2, e2, g2, z⟩ := outcome_of_ok (d := d - 1) (ra.gs g1 (by simp)) w hB hsz (by omega) (by omega) hn (fun q m => (zw q m).2.2) hB2
  refine ⟨h2, call_of Lw.tb_31 (by omega) ⟨rfl, by decide⟩ (.inl ?_), g1.trans g2, z⟩
  simp [fn_outcome_31, e1, e2]
end CB

/-! Small steps, more. -/
namespace CB
open PySem
/-- the statements of a row -/
def stm : Nat → Ss → S
  | 0, .cons s _ => s
  | n + 1, .cons _ r => stm n r
  | _, .nil => .pas
def tls : Nat → Ss → Ss
  | 0, b => b
  | n + 1, .cons _ r => tls n r
  | _, .nil => .nil
theorem run_step {cl : Nat → List T → M T} {b : Ss} {i : Nat} {σ σ1 : Env} {h h1 : Hs} (c : tls i b = .cons (stm i b) (tls (i + 1) b)) (e : exS cl (stm i b) σ h = .nx σ1 h1) : exSs cl (tls i b) σ h = exSs cl (tls (i + 1) b) σ1 h1 := by
  rw [c]; exact exSs_step e
/-- an equal pair is let -/
theorem ifs_ne {cl : Nat → List T → M T} {σ : Env} {h h1 h2 : Hs} {A B : E} {q : Rat} {r s : Ss} (eA : evE cl A σ h = .ok (fr q) h1) (eB : evE cl B σ h1 = .ok (fr q) h2) (e : exSs cl s σ h2 = .nx σ h2) : exS cl (.ifs (.cmp .ne A B) r s) σ h = .nx σ h2 := by
  have ef : eqI h2 (fr q) (fr q) = some true := eqI_same h2 (fr_pt _)
  simp [eA, eB, ef, e]
theorem eval_ne {cl : Nat → List T → M T} {σ : Env} {h h1 h2 : Hs} {A B : E} {q : Rat} (eA : evE cl A σ h = .ok (fr q) h1) (eB : evE cl B σ h1 = .ok (fr q) h2) : evE cl (.cmp .ne A B) σ h = .ok (.bl false) h2 := by
  have ef : eqI h2 (fr q) (fr q) = some true := eqI_same h2 (fr_pt _)
  simp [eA, eB, ef]
theorem eval_eq {cl : Nat → List T → M T} {σ : Env} {h h1 h2 : Hs} {A B : E} {q : Rat} (eA : evE cl A σ h = .ok (fr q) h1) (eB : evE cl B σ h1 = .ok (fr q) h2) : evE cl (.cmp .eq A B) σ h = .ok (.bl true) h2 := by
  have ef : eqI h2 (fr q) (fr q) = some true := eqI_same h2 (fr_pt _)
  simp [eA, eB, ef]
theorem idx_rf {h : Hs} {L : Nat} {qs : List Rat} {i : Int} {j : Nat} {q : Rat} (e : h[L]? = some (.lst (frs qs))) (ij : i = (j : Int)) (eq : qs[j]? = some q) : idxI (.rf L) (.int i) h = .ok (fr q) h := by
  rw [idxI_ap, seqOf_lst (x := .rf L) (xs := frs qs) (by simp [lstOf, e])]
  subst ij
  simp only [Option.bind_some, atI_nat, frs_at eq]
theorem idx_tp {h : Hs} {qs : List Rat} {i : Int} {j : Nat} {q : Rat} (ij : i = (j : Int)) (eq : qs[j]? = some q) : idxI (.tup (frs qs)) (.int i) h = .ok (fr q) h := by
  rw [idxI_ap, seqOf_tup]
  subst ij
  simp only [Option.bind_some, atI_nat, frs_at eq]
theorem idx_last {h : Hs} {L : Nat} {qs : List Rat} {q : Rat} (e : h[L]? = some (.lst (frs qs))) (eq : qs[qs.length - 1]? = some q) (hne : qs ≠ []) : idxI (.rf L) (.int (-1)) h = .ok (fr q) h := by
  rw [idxI_ap, seqOf_lst (x := .rf L) (xs := frs qs) (by simp [lstOf, e])]
  have : L2.atI (frs qs) (-1) = some (fr q) := by
    rw [atI_m1 (by simpa [frs] using hne), frs_len, frs_at eq]
  simp only [Option.bind_some, this]
theorem add_rf {h : Hs} {a b : Nat} {xs ys : List T} (e1 : h[a]? = some (.lst xs)) (e2 : h[b]? = some (.lst ys)) (l : xs.length + ys.length ≤ 1000000) : binI .add (.rf a) (.rf b) h = .ok (.rf h.length) (h ++ [.lst (xs ++ ys)]) := by
  show (match h[a]?, h[b]? with
    | some (.lst xs), some (.lst ys) => if xs.length + ys.length ≤ SZ then alloc (.lst (xs ++ ys)) h else .bad
    | _, _ => .bad) = _
  rw [e1, e2]
  dsimp only
  rw [if_pos (by show _ ≤ 16777216; omega)]
  rfl
theorem cutT_to {xs : List T} (k : Nat) : cutT xs none (some (k : Int)) = xs.take k := by
  have e : HT.sIx xs.length xs.length (some (k : Int)) = min k xs.length := HT.sIx_nat xs.length xs.length k
  unfold cutT
  rw [e]
  show List.take (min k xs.length - 0) (List.drop 0 xs) = _
  rw [List.drop_zero, Nat.sub_zero]
  rcases Nat.le_total k xs.length with q | q
  · rw [Nat.min_eq_left q]
  · rw [Nat.min_eq_right q, List.take_length, List.take_of_length_le q]
theorem cutT_from {xs : List T} (k : Nat) : cutT xs (some (k : Int)) none = xs.drop k := by
  have e : HT.sIx xs.length 0 (some (k : Int)) = min k xs.length := HT.sIx_nat xs.length 0 k
  unfold cutT
  rw [e]
  show List.take (xs.length - min k xs.length) (List.drop (min k xs.length) xs) = _
  rcases Nat.le_total k xs.length with q | q
  · rw [Nat.min_eq_left q, List.take_of_length_le (by simp)]
  · rw [Nat.min_eq_right q, List.drop_eq_nil_of_le q, List.drop_eq_nil_of_le (Nat.le_refl _)]; simp
theorem slc_to {xs : List T} (k : Nat) (h : Hs) : slcI (.tup xs) none (some (k : Int)) h = .ok (.tup (xs.take k)) h := by
  show Res.ok (T.tup (cutT xs none (some (k : Int)))) h = _
  rw [cutT_to]
theorem slc_from {xs : List T} (k : Nat) (h : Hs) : slcI (.tup xs) (some (k : Int)) none h = .ok (.tup (xs.drop k)) h := by
  show Res.ok (T.tup (cutT xs (some (k : Int)) none)) h = _
  rw [cutT_from]
theorem evSrc_zipT {cl : Nat → List T → M T} {a b : E} {σ : Env} {h h1 h2 : Hs} {xs ys : List T} (ea : evE cl a σ h = .ok (.tup xs) h1) (eb : evE cl b σ h1 = .ok (.tup ys) h2) : evSrc cl (.zip a b) σ h = .ok ⟨zipT xs ys, fun _ => True⟩ h2 := by
  rw [evSrc_zip]
  simp only [bnd_ap, ea, eb]
  rfl
theorem ixN_nat {n k : Nat} (h : k < n) : L2.ixN n (k : Int) = some k := by
  unfold L2.ixN
  rw [if_pos (by omega), if_pos (by omega)]
  try simp
theorem frs_take (qs : List Rat) (k : Nat) : (frs qs).take k = frs (qs.take k) := by simp [frs, List.map_take]
theorem frs_drop (qs : List Rat) (k : Nat) : (frs qs).drop k = frs (qs.drop k) := by simp [frs, List.map_drop]
theorem frs_app (ps qs : List Rat) : frs ps ++ frs qs = frs (ps ++ qs) := by simp [frs]
theorem frs_set (qs : List Rat) (k : Nat) (q : Rat) : (frs qs).set k (fr q) = frs (qs.set k q) := by simp [frs, List.map_set]
theorem frs_pur : ∀ qs : List Rat, purs (frs qs) = true ∧ hgts (frs qs) ≤ 1
  | [] => ⟨rfl, by simp [frs, hgts]⟩
  | q :: qs => by
    obtain ⟨a, b⟩ := frs_pur qs
    refine ⟨?_, ?_⟩
    · show (pur (fr q) && purs (frs qs)) = true
      rw [a]; rfl
    · show max (hgt (fr q)) (hgts (frs qs)) ≤ 1
      have : hgt (fr q) = 1 := rfl
      omega
theorem frsT_pt (qs : List Rat) : Pt (.tup (frs qs)) := by
  obtain ⟨a, b⟩ := frs_pur qs
  exact ⟨a, by show hgts (frs qs) + 1 ≤ 64; omega⟩
/-- a comprehension of flags -/
theorem mul_lst {h : Hs} {a k : Nat} {xs : List T} (e : h[a]? = some (.lst xs)) (hk : k < 1000) (hl : xs.length ≤ 10000) : binI .mul (.rf a) (.int (k : Int)) h = .ok (.rf h.length) (h ++ [.lst (List.replicate k xs).flatten]) := by
  show (match h[a]? with
    | some (.lst xs) => if 0 ≤ (k : Int) ∧ (k : Int) < 1000 ∧ xs.length * (k : Int).toNat ≤ SZ then alloc (.lst (List.replicate (k : Int).toNat xs).flatten) h else .bad
    | _ => .bad) = _
  rw [e]
  dsimp only
  have hh : xs.length * (k : Int).toNat ≤ SZ := by
    rw [Int.toNat_natCast]
    show xs.length * k ≤ 16777216
    exact Nat.le_trans (Nat.mul_le_mul hl (show k ≤ 1000 by omega)) (by decide)
  rw [if_pos ⟨by omega, by omega, hh⟩, Int.toNat_natCast]
  try rfl
theorem rep_flat (q : Rat) (k : Nat) : (List.replicate k [fr q]).flatten = frs (List.replicate k q) := by simp [frs]
theorem eval_neP {cl : Nat → List T → M T} {σ : Env} {h h1 h2 : Hs} {A B : E} {t : T} (p : Pt t) (eA : evE cl A σ h = .ok t h1) (eB : evE cl B σ h1 = .ok t h2) : evE cl (.cmp .ne A B) σ h = .ok (.bl false) h2 := by
  have ef : eqI h2 t t = some true := eqI_same h2 p
  simp [eA, eB, ef]
theorem ifs_no {cl : Nat → List T → M T} {σ : Env} {h h1 : Hs} {C : E} {r : Ss} (e : evE cl C σ h = .ok (.bl false) h1) : exS cl (.ifs C r .nil) σ h = .nx σ h1 := by
  simp [e]
theorem or_no {cl : Nat → List T → M T} {σ : Env} {h h1 h2 : Hs} {A B : E} (eA : evE cl A σ h = .ok (.bl false) h1) (eB : evE cl B σ h1 = .ok (.bl false) h2) : evE cl (.or A B) σ h = .ok (.bl false) h2 := by
  rw [evE_or, bnd_ok_ (e := eA)]
  exact eB
/-- what was gathered, item by item -/
theorem exists_frs {P : Rat → Prop} {R : Nat → Rat → Prop} {n : Nat} {ys : List T} (hl : ys.length = n) (h : ∀ (i : Nat) (y : T), i < n → ys[i]? = some y → ∃ q, y = fr q ∧ P q ∧ R i q) : ∃ qs : List Rat, ys = frs qs ∧ qs.length = n ∧ (∀ q ∈ qs, P q) ∧ ∀ (i : Nat) (q : Rat), qs[i]? = some q → R i q := by
  obtain ⟨qs, rfl, hP⟩ := exists_map fr P (ys := ys) (fun i y e => by
    obtain ⟨q, a, b, _⟩ := h i y (by rw [← hl]; exact (List.getElem?_eq_some_iff.1 e).1) e
    exact ⟨q, a, b⟩)
  refine ⟨qs, rfl, by simpa using hl, hP, fun i q e => ?_⟩
  obtain ⟨q', a, _, c⟩ := h i (fr q) (by rw [← hl]; simpa using (List.getElem?_eq_some_iff.1 e).1) (by rw [List.getElem?_map, e]; rfl)
  rw [fr_inj a]; exact c
theorem min1 (q : Rat) : ∃ m, (srt [q, 1])[0]? = some m ∧ m ≤ q ∧ m ≤ 1 ∧ (m = q ∨ m = 1) := by
  refine ⟨mn q 1, ?_, ?_, ?_, mn_or q 1⟩
  · rw [srt_first (by simp)]; rfl
  · unfold mn; split <;> grind
  · unfold mn; split <;> grind
theorem All2.snoc {α β : Type} {Q : α → β → Prop} {as : List α} {bs : List β} {a : α} {b : β} (h : All2 Q as bs) (q : Q a b) : All2 Q (as ++ [a]) (bs ++ [b]) := by
  induction h with
  | nil => exact .cons q .nil
  | cons p _ ih => exact .cons p ih
theorem neg_size {n : Nat} {q : Rat} (h : Sz n q) : Sz n (-q) := ⟨by rw [Rat.neg_num, Int.natAbs_neg]; exact h.1, by rw [Rat.neg_den]; exact h.2⟩
theorem sub_size {m n : Nat} {p q : Rat} (hp : Sz m p) (hq : Sz n q) : Sz (m + n + 1) (p - q) := by
  rw [Rat.sub_eq_add_neg]; exact add_size hp (neg_size hq)
theorem rgT (p : Nat) : T.tup (iota 0 p) = .tup (nats (List.range p)) := by
  unfold iota nats
  simp
theorem set_mid {qs : List Rat} {k : Nat} {q : Rat} (h : k < qs.length) : qs.take k ++ [q] ++ qs.drop (k + 1) = qs.set k q := by
  rw [List.set_eq_take_append_cons_drop, if_pos h]
  simp
/-- a number put in a row -/
theorem put_ok {qs : List Rat} {k : Nat} {q : Rat} (h : k < qs.length) (hl : qs.length ≤ 1000) :
    (∀ h, slcI (.tup (frs qs)) none (some (k : Int)) h = .ok (.tup (frs (qs.take k))) h) ∧ (∀ h, slcI (.tup (frs qs)) (some ((k : Int) + 1)) none h = .ok (.tup (frs (qs.drop (k + 1)))) h) ∧
    binI .add (.tup (frs (qs.take k))) (.tup [fr q]) = ret (.tup (frs (qs.take k ++ [q]))) ∧ binI .add (.tup (frs (qs.take k ++ [q]))) (.tup (frs (qs.drop (k + 1)))) = ret (.tup (frs (qs.set k q))) := by
  refine ⟨fun h => by rw [slc_to, frs_take], fun h => ?_, ?_, ?_⟩
  · have := slc_from (xs := frs qs) (k + 1) h
    rw [frs_drop] at this
    rw [← this]
    rfl
  · rw [add_tup (by rw [frs_len, List.length_take]; simp; omega)]
    simp [frs]
  · rw [add_tup (by rw [frs_len, frs_len, List.length_append, List.length_take, List.length_drop]; simp; omega), frs_app, set_mid h]
/-- a comprehension with an invariant that knows what was gathered -/
theorem lcRun_inv {std : Hs → Prop} {f : T → M (Option T)} (I : List T → Hs → Prop) (hs : ∀ acc h, I acc h → std h) :
    ∀ {ts acc : List T} {h : Hs}, I acc h → (∀ i t, ts[i]? = some t → ∀ acc' h, acc'.length = acc.length + i → I acc' h → ∃ y h', f t h = .ok (some y) h' ∧ I (acc' ++ [y]) h') → acc.length + ts.length ≤ SZ →
    ∃ ys h', lcRun std f ts acc h = .ok ys h' ∧ ys.length = acc.length + ts.length ∧ I ys h'
  | [], acc, h, i0, _, _ => ⟨acc, h, by rw [lcRun_nil (hs _ _ i0)], by simp, i0⟩
  | t :: ts, acc, h, i0, hf, hl => by
    obtain ⟨y, h1, e, i1⟩ := hf 0 t rfl acc h (by simp) i0
    simp only [List.length_cons] at hl
    obtain ⟨ys, h2, e2, l2, i2⟩ := lcRun_inv I hs (ts := ts) (acc := acc ++ [y]) i1 (fun i t e acc' h l ih => hf (i + 1) t (by simpa using e) acc' h (by rw [l]; simp; omega) ih) (by rw [List.length_append, List.length_singleton]; omega)
    refine ⟨ys, h2, ?_, by rw [l2]; simp; omega, i2⟩
    rw [lcRun_some (hs _ _ i0) e (by omega), e2]
theorem idx_rfT {h : Hs} {L : Nat} {xs : List T} {i : Int} {j : Nat} {t : T} (e : h[L]? = some (.lst xs)) (ij : i = (j : Int)) (eq : xs[j]? = some t) : idxI (.rf L) (.int i) h = .ok t h := by
  rw [idxI_ap, seqOf_lst (x := .rf L) (xs := xs) (by simp [lstOf, e])]
  subst ij
  simp only [Option.bind_some, atI_nat, eq]
theorem metI_popAt {h : Hs} {a : Nat} {xs : List T} (e : h[a]? = some (.lst xs)) {i : Nat} {t : T} (hi : i < 2 ^ 62) (et : xs[i]? = some t) : metI .popAt (.rf a) [.int i] h = .ok t (h.set a (.lst (xs.eraseIdx i))) := by
  unfold metI
  dsimp only
  rw [e]
  dsimp only
  rw [if_pos ⟨by omega, by omega⟩, Int.toNat_natCast, et]
  rfl
theorem eval_neB {cl : Nat → List T → M T} {σ : Env} {h h1 h2 : Hs} {A B : E} {x y : Rat} (eA : evE cl A σ h = .ok (fr x) h1) (eB : evE cl B σ h1 = .ok (fr y) h2) : evE cl (.cmp .ne A B) σ h = .ok (.bl (decide (x ≠ y))) h2 := by
  by_cases c : x = y
  · subst c
    have ef : eqI h2 (fr x) (fr x) = some true := eqI_same h2 (fr_pt _)
    simp [eA, eB, ef]
  · have ef : eqI h2 (fr x) (fr y) = some false := eqI_other h2 (fr_pt _) (fr_pt _) (fun q => c (fr_inj q))
    simp [eA, eB, ef, c]
theorem and_ok {cl : Nat → List T → M T} {σ : Env} {h h1 h2 : Hs} {A B : E} {k l : Bool} (eA : evE cl A σ h = .ok (.bl k) h1) (eB : k = true → evE cl B σ h1 = .ok (.bl l) h2) : ∃ h3, evE cl (.and A B) σ h = .ok (.bl (k && l)) h3 ∧ (h3 = h1 ∨ h3 = h2) := by
  cases k with
  | true => exact ⟨h2, by rw [evE_and, bnd_ok_ (e := eA)]; exact eB rfl, .inr rfl⟩
  | false => exact ⟨h1, by rw [evE_and, bnd_ok_ (e := eA)]; rfl, .inl rfl⟩
end CB

/-! Corners by the law. -/
namespace CB
open PySem
theorem corner_range (n : Nat) (l : List Nat) : (List.range n).map (fun i => if l.contains i then (1 : Rat) else 0) = corner n l := by
  refine List.ext_getElem? fun i => ?_
  rw [List.getElem?_map]
  rcases Nat.lt_or_ge i n with q | q
  · rw [List.getElem?_range q, corner_get q]; rfl
  · rw [List.getElem?_eq_none (by simpa using q), List.getElem?_eq_none (by rw [corner_len]; exact q)]; rfl
theorem lat_ends_ok {d n : Nat} (hd : 1 ≤ d) (hn : n ≤ 1000) (l : List Nat) (h : Hs) : ∃ h', callN Lw.tb d 1034 [.int n, .tup (nats l)] h = .ok (.tup (frs (corner n l))) h' ∧ Gs [] h h' := by
  obtain ⟨h1, e1, g1⟩ := lcRun_list (std := fun _ => True) (f := lcG (callN Lw.tb (d - 1)) [some (.int n), some (.tup (nats l)), none] (.ife (.cmp .isIn (.var 2) (.var 1)) (.tup (.cons (.cst (.int 1)) (.cons (.cst (.int 1)) .nil))) (.tup (.cons (.cst (.int 0)) (.cons (.cst (.int 1)) .nil)))) (.name 2) .non [2]) (fun i : Nat => T.int (0 + (i : Int))) (fun i : Nat => fr (if l.contains i then (1 : Rat) else 0)) (xs := List.range n) (acc := []) (h := h) (fun _ _ => trivial)
    (fun u m h' g => by
      have ii := inI_nats h' u l
      have f0 : fr 0 = .tup [.int 0, .int 1] := rfl
      have f1 : fr 1 = .tup [.int 1, .int 1] := rfl
      refine ⟨h', ?_, Gs.refl _ _⟩
      generalize T.tup (nats l) = W at *
      by_cases c : l.contains u = true
      · have c2 : u ∈ l := List.contains_iff_mem.1 c
        rw [c] at ii
        simp [lcG, ii, c2, f1]
      · have c2 : ¬ u ∈ l := fun q => c (List.contains_iff_mem.2 q)
        rw [Bool.not_eq_true] at c
        rw [c] at ii
        simp [lcG, ii, c2, f0]) (by simp; omega)
  rw [List.nil_append] at e1
  have rk : evSrc (callN Lw.tb (d - 1)) (.rng1 (.var 0)) [some (.int n), some (.tup (nats l)), none] h = .ok ⟨iota 0 n, fun _ => True⟩ h := by
    have := evSrc_rng1_ok (cl := callN Lw.tb (d - 1)) (σ := [some (.int n), some (.tup (nats l)), none]) (a := .var 0) (h := h) (h1 := h) (j := n) rfl ⟨by omega, by omega⟩
    simpa using this
  have ec := lc_ok rk (by unfold iota; exact e1)
  have ex : (List.range n).map (fun i : Nat => fr (if l.contains i then (1 : Rat) else 0)) = frs (corner n l) := by
    rw [← corner_range]; unfold frs; rw [List.map_map]; rfl
  rw [ex] at ec
  have bt := blt_tuple_lst (lst_new h1 (frs (corner n l)))
  refine ⟨h1 ++ [.lst (frs (corner n l))], call_of Lw.tb_1034 (by omega) ⟨rfl, by decide⟩ (.inl ?_), g1.trans (Gs.app _ _ _)⟩
  generalize T.tup (nats l) = W at *
  generalize T.tup (frs (corner n l)) = W2 at *
  simp [fn_law_at_ends_1034, ec, bt]
theorem corner_sz {n B : Nat} (hB : 1 ≤ B) (l : List Nat) : ∀ q ∈ corner n l, Sz B q := by
  intro q m
  rw [← corner_range] at m
  obtain ⟨i, _, rfl⟩ := List.mem_map.1 m
  have p1 : (1 : Nat) < 2 ^ B := Nat.one_lt_two_pow (by omega)
  have p0 : 0 < 2 ^ B := Nat.two_pow_pos B
  split
  · exact ⟨by simpa using p1, by simpa using p1⟩
  · exact ⟨by simpa using p0, by simpa using p1⟩
theorem lcorner_ok {d n B : Nat} {t : Tm} (w : wf n B t) (hB : 1 ≤ B) (hsz : szb B t + 30 < 9000) (hd : dep t + 4 ≤ d) (hn : n ≤ 1000) (l : List Nat) (h : Hs) : ∃ h', callN Lw.tb d 1035 [.int n, enc t, .tup (nats l)] h = .ok (fr (val (corner n l) t)) h' ∧ Gs [] h h' := by
  have dp := dep_pos t
  obtain ⟨h1, e1, g1⟩ := lat_ends_ok (d := d - 1) (by omega) hn l h
  obtain ⟨h2, e2, g2⟩ := lvalue_ok (corner_len n l) (corner_sz hB l) hB t w hsz (d - 1) (by omega) h1
  refine ⟨h2, call_of Lw.tb_1035 (by omega) ⟨rfl, by decide⟩ (.inl ?_), g1.trans g2⟩
  generalize T.tup (nats l) = W at *
  generalize T.tup (frs (corner n l)) = W2 at *
  simp [fn_law_corner_1035, e1, e2]
end CB

/-! Outcomes of known rules; plain. -/
namespace CB
open PySem
/-- all or nothing by a number -/
def ind (c w : Rat) : Rat := if c < w then 1 else 0
theorem corner_lot (c : Rat) (ws : List Rat) : corner ws.length (lot (fun x => decide (c < x)) ws) = ws.map (ind c) := by
  refine List.ext_getElem? fun i => ?_
  rcases Nat.lt_or_ge i ws.length with q | q
  · rw [corner_get q, List.getElem?_map, List.getElem?_eq_getElem q]
    have k : (lot (fun x => decide (c < x)) ws).contains i = decide (c < ws[i]) := by
      by_cases z : c < ws[i]
      · rw [decide_eq_true z]
        exact List.contains_iff_mem.2 (mem_lot.2 ⟨_, List.getElem?_eq_getElem q, decide_eq_true z⟩)
      · rw [decide_eq_false z, ← Bool.not_eq_true, List.contains_iff_mem]
        intro m
        obtain ⟨w, e1, e2⟩ := mem_lot.1 m
        rw [List.getElem?_eq_getElem q] at e1
        cases e1
        exact z (of_decide_eq_true e2)
    rw [k]
    simp [ind]
  · rw [List.getElem?_eq_none (by rw [corner_len]; exact q), List.getElem?_eq_none (by simpa using q)]
theorem vals_bids (bs : List Rat) : vals bs (bidsL bs.length) = bs := by
  rw [vals_eq, bidsL, List.map_map]
  refine List.ext_getElem? fun i => ?_
  rw [List.getElem?_map]
  rcases Nat.lt_or_ge i bs.length with q | q
  · rw [List.getElem?_range q]
    simp [val, List.getElem?_eq_getElem q]
  · rw [List.getElem?_eq_none (by simpa using q), List.getElem?_eq_none q]; rfl
theorem ind_le {c w : Rat} (h : 0 ≤ w ∧ w ≤ 1) : ind c w ≤ c ↔ w ≤ c := by
  unfold ind
  split
  · constructor <;> intro q <;> grind
  · constructor <;> intro q <;> grind
theorem count_ind (c : Rat) : ∀ {ws : List Rat}, (∀ w ∈ ws, 0 ≤ w ∧ w ≤ 1) → ((ws.map (ind c)).filter fun y => decide (y ≤ c)).length = (ws.filter fun y => decide (y ≤ c)).length
  | [], _ => rfl
  | w :: ws, h => by
    have ih := count_ind c (ws := ws) fun x m => h x (List.mem_cons_of_mem _ m)
    have k := ind_le (c := c) (h w List.mem_cons_self)
    simp only [List.map_cons, List.filter_cons]
    by_cases z : w ≤ c
    · rw [decide_eq_true z, decide_eq_true (k.2 z)]; simp [ih]
    · rw [decide_eq_false z, decide_eq_false (fun q => z (k.1 q))]; simpa using ih
theorem srtD {xs : List Rat} {j : Nat} (h : j < xs.length) : (srt xs)[j]? = some ((srt xs)[j]?.getD 0) := by
  rw [List.getElem?_eq_getElem (by rw [srt_len]; exact h)]; rfl
theorem srtD_le {xs : List Rat} {j : Nat} {c : Rat} (h : j < xs.length) : (srt xs)[j]?.getD 0 ≤ c ↔ j < (xs.filter fun y => decide (y ≤ c)).length := srt_le_iff (srtD h)
theorem known_nth {ws : List Rat} (hw : ∀ w ∈ ws, 0 ≤ w ∧ w ≤ 1) {j : Nat} (hj : j < ws.length) (c : Rat) : (srt (ws.map (ind c)))[j]?.getD 0 ≤ c ↔ (srt ws)[j]?.getD 0 ≤ c := by
  rw [srtD_le (by simpa using hj), srtD_le hj, count_ind c hw]
theorem wf_bids (p B : Nat) : wfs p B (bidsL p) := bidsL_wfs (Nat.le_refl p)
theorem outc_ranked {ws : List Rat} (hw : ∀ w ∈ ws, 0 ≤ w ∧ w ≤ 1) (hl : ws.length ≤ 8) {k : Nat} (hk : 1 ≤ k ∧ k ≤ ws.length) : outc ws.length (.ranked k (bidsL ws.length)) ws = (srt ws)[ws.length - k]?.getD 0 := by
  refine eq_of_le fun c => ?_
  rw [outc_le (B := 1) (show wf ws.length 1 (.ranked k (bidsL ws.length)) from ⟨wf_bids _ _, by rw [bidsL_len]; omega, by rw [bidsL_len]; exact hl, hk.1, by rw [bidsL_len]; exact hk.2⟩)]
  simp only [val]
  have e : vals (corner ws.length (lot (fun x => decide (c < x)) ws)) (bidsL ws.length) = ws.map (ind c) := by
    have := vals_bids (ws.map (ind c))
    rw [List.length_map] at this
    rw [corner_lot, this]
  rw [e, bidsL_len]
  exact known_nth hw (by omega) c
theorem outc_least {ws : List Rat} (hw : ∀ w ∈ ws, 0 ≤ w ∧ w ≤ 1) (hl : 1 ≤ ws.length ∧ ws.length ≤ 8) : outc ws.length (.least (bidsL ws.length)) ws = (srt ws)[0]?.getD 0 := by
  refine eq_of_le fun c => ?_
  rw [outc_le (B := 1) (show wf ws.length 1 (.least (bidsL ws.length)) from ⟨wf_bids _ _, by rw [bidsL_len]; omega, by rw [bidsL_len]; exact hl.2⟩)]
  simp only [val, mnl_srt]
  have e : vals (corner ws.length (lot (fun x => decide (c < x)) ws)) (bidsL ws.length) = ws.map (ind c) := by
    have := vals_bids (ws.map (ind c))
    rw [List.length_map] at this
    rw [corner_lot, this]
  rw [e]
  exact known_nth hw (by omega) c
theorem outc_greatest {ws : List Rat} (hw : ∀ w ∈ ws, 0 ≤ w ∧ w ≤ 1) (hl : 1 ≤ ws.length ∧ ws.length ≤ 8) : outc ws.length (.greatest (bidsL ws.length)) ws = (srt ws)[ws.length - 1]?.getD 0 := by
  refine eq_of_le fun c => ?_
  rw [outc_le (B := 1) (show wf ws.length 1 (.greatest (bidsL ws.length)) from ⟨wf_bids _ _, by rw [bidsL_len]; omega, by rw [bidsL_len]; exact hl.2⟩)]
  simp only [val, mxl_srt]
  have e : vals (corner ws.length (lot (fun x => decide (c < x)) ws)) (bidsL ws.length) = ws.map (ind c) := by
    have := vals_bids (ws.map (ind c))
    rw [List.length_map] at this
    rw [corner_lot, this]
  rw [e, List.length_map]
  exact known_nth hw (by omega) c
theorem corner_at {ws : List Rat} {j : Nat} {w : Rat} (e : ws[j]? = some w) (c : Rat) : (corner ws.length (lot (fun x => decide (c < x)) ws))[j]?.getD 0 = ind c w := by
  rw [corner_lot, List.getElem?_map, e]; rfl
theorem outc_bid {ws : List Rat} (hw : ∀ w ∈ ws, 0 ≤ w ∧ w ≤ 1) {j : Nat} {w : Rat} (e : ws[j]? = some w) : outc ws.length (.bid j) ws = w := by
  refine eq_of_le fun c => ?_
  rw [outc_le (B := 1) (show wf _ _ (.bid j) from (List.getElem?_eq_some_iff.1 e).1)]
  simp only [val]
  rw [corner_at e]
  exact ind_le (hw w (List.mem_of_getElem? e))
theorem outc_fix {n B : Nat} {ws : List Rat} {q : Rat} (hq : Num B q) : outc n (.fix q) ws = q := by
  refine eq_of_le fun c => ?_
  rw [outc_le (B := B) (show wf _ _ (.fix q) from hq)]
  simp only [val]
theorem outc_between {B : Nat} {ws : List Rat} (hw : ∀ w ∈ ws, 0 ≤ w ∧ w ≤ 1) {j : Nat} {w a b : Rat} (e : ws[j]? = some w) (ha : Num B a) (hb : Num B b) (ab : a ≤ b) : outc ws.length (.between a b (.bid j)) ws = (srt [a, b, w])[1]?.getD 0 := by
  refine eq_of_le fun c => ?_
  rw [outc_le (B := B) (show wf _ _ (.between a b (.bid j)) from ⟨(List.getElem?_eq_some_iff.1 e).1, ha, hb, ab⟩)]
  simp only [val]
  rw [corner_at e, srtD_le (by simp), srtD_le (by simp)]
  have k := ind_le (c := c) (hw w (List.mem_of_getElem? e))
  simp only [List.filter_cons, List.filter_nil]
  by_cases z : w ≤ c
  · rw [decide_eq_true z, decide_eq_true (k.2 z)]
    by_cases z1 : a ≤ c <;> by_cases z2 : b ≤ c <;> simp [z1, z2]
  · rw [decide_eq_false z, decide_eq_false (fun q => z (k.1 q))]
    by_cases z1 : a ≤ c <;> by_cases z2 : b ≤ c <;> simp [z1, z2]
theorem mul_inv_le {W : Nat} (hW : 1 ≤ W) {x c : Rat} : x * Rat.divInt 1 (W : Int) ≤ c ↔ x ≤ c * ((W : Int) : Rat) := by
  obtain ⟨i1, i2⟩ := inv_pos hW
  generalize Rat.divInt 1 (W : Int) = i at *
  have wn : (0 : Rat) ≤ ((W : Int) : Rat) := cast_nonneg W
  generalize ((W : Int) : Rat) = w at *
  constructor
  · intro h
    have := Rat.mul_le_mul_of_nonneg_right h wn
    have e : x * i * w = x * (w * i) := by grind
    rw [e, i1] at this
    grind
  · intro h
    have := Rat.mul_le_mul_of_nonneg_right h i2
    have e : c * w * i = c * (w * i) := by grind
    rw [e, i1] at this
    grind
theorem divInt_inv (a : Nat) (W : Nat) : Rat.divInt (a : Int) (W : Int) = ((a : Int) : Rat) * Rat.divInt 1 (W : Int) := by
  rw [Rat.divInt_eq_div, Rat.divInt_eq_div, Rat.div_def, Rat.div_def]
  simp
theorem wsum_ind (c : Rat) (k : Nat) : ∀ (ws : List Rat), wsum ((List.replicate ws.length k).zip (ws.map (ind c))) = ((k : Int) : Rat) * (((ws.filter fun y => decide (c < y)).length : Int) : Rat)
  | [] => by simp [wsum]
  | w :: ws => by
    have ih := wsum_ind c k ws
    simp only [List.length_cons, List.replicate_succ, List.map_cons, List.zip_cons_cons, wsum_cons, ih, List.filter_cons, ind]
    by_cases z : c < w
    · simp only [z, if_true, decide_true, List.length_cons]
      rw [Int.natCast_add, Rat.intCast_add]
      grind
    · simp only [z, if_false, decide_false]
      simp
      grind
/-- 1 / n, 2 / n and so on -/
def shares (p : Nat) : List Rat := (List.range (p - 1)).map fun i : Nat => Rat.divInt ((1 + i : Nat) : Int) (p : Int)
theorem shares_len (p : Nat) : (shares p).length = p - 1 := by simp [shares]
theorem cast_le {a b : Nat} (h : a ≤ b) : ((a : Int) : Rat) ≤ ((b : Int) : Rat) := by exact_mod_cast h
theorem share_le {a p : Nat} (hp : 1 ≤ p) {c : Rat} : Rat.divInt (a : Int) (p : Int) ≤ c ↔ ((a : Int) : Rat) ≤ c * ((p : Int) : Rat) := by
  rw [divInt_inv, mul_inv_le hp]
theorem share_count {p m : Nat} (hp : 1 ≤ p) (hm : 1 ≤ m ∧ m ≤ p - 1) (c : Rat) : m ≤ ((shares p).filter fun y => decide (y ≤ c)).length ↔ ((m : Int) : Rat) ≤ c * ((p : Int) : Rat) := by
  have asc : Asc (shares p) := by
    unfold Asc shares
    rw [List.pairwise_map]
    refine List.Pairwise.imp ?_ (List.pairwise_lt_range (n := p - 1))
    intro i j h
    rw [share_le hp, divInt_inv, Rat.mul_assoc]
    obtain ⟨i1, i2⟩ := inv_pos hp
    rw [Rat.mul_comm (Rat.divInt 1 (p : Int)), i1, Rat.mul_one]
    exact cast_le (by omega)
  have e : (shares p)[m - 1]? = some (Rat.divInt (m : Int) (p : Int)) := by
    unfold shares
    rw [List.getElem?_map, List.getElem?_range (by omega)]
    show some (Rat.divInt ((1 + (m - 1) : Nat) : Int) (p : Int)) = _
    rw [show 1 + (m - 1) = m by omega]
  rw [← share_le hp]
  constructor
  · intro h
    exact lo_get asc e (show m - 1 < ((shares p).filter fun y => decide (y ≤ c)).length by omega)
  · intro h
    rcases Nat.lt_or_ge (m - 1) (lo c (shares p)).length with q | q
    · show m ≤ (lo c (shares p)).length
      omega
    · have := hi_get asc e q
      grind
theorem len_split (f : Rat → Bool) (ws : List Rat) : (ws.filter f).length + (ws.filter fun y => !f y).length = ws.length := by
  induction ws with
  | nil => rfl
  | cons w ws ih =>
    simp only [List.filter_cons, List.length_cons]
    cases f w <;> simp <;> omega
theorem outc_mean {ws : List Rat} (hw : ∀ w ∈ ws, 0 ≤ w ∧ w ≤ 1) (hl : 2 ≤ ws.length ∧ ws.length ≤ 8) : outc ws.length (.mean (List.replicate ws.length 3) (bidsL ws.length)) ws = (srt (ws ++ shares ws.length))[ws.length - 1]?.getD 0 := by
  refine eq_of_le fun c => ?_
  rw [outc_le (B := 1) (show wf ws.length 1 (.mean (List.replicate ws.length 3) (bidsL ws.length)) from ⟨wf_bids _ _, by rw [bidsL_len]; omega, by rw [bidsL_len]; exact hl.2, by simp [bidsL_len], fun w m => by rw [(List.mem_replicate.1 m).2]; decide⟩)]
  rw [srtD_le (by simp [shares_len]; omega)]
  simp only [val]
  have e : vals (corner ws.length (lot (fun x => decide (c < x)) ws)) (bidsL ws.length) = ws.map (ind c) := by
    have := vals_bids (ws.map (ind c))
    rw [List.length_map] at this
    rw [corner_lot, this]
  rw [e]
  unfold meanR
  have ss : (List.replicate ws.length 3).sum = 3 * ws.length := by simp [Nat.mul_comm]
  rw [wsum_ind, ss, mul_inv_le (by omega), List.filter_append, List.length_append]
  have mm : (ws.filter fun y => decide (y ≤ c)).length + (ws.filter fun y => decide (c < y)).length = ws.length := by
    have : ws.filter (fun y => decide (c < y)) = ws.filter fun y => !decide (y ≤ c) := List.filter_congr fun x _ => by
      by_cases z : c < x
      · have : ¬ x ≤ c := by grind
        rw [decide_eq_true z, decide_eq_false this]; rfl
      · have : x ≤ c := by grind
        rw [decide_eq_false z, decide_eq_true this]; rfl
    rw [this]
    exact len_split (fun y => decide (y ≤ c)) ws
  have shl : ((shares ws.length).filter fun y => decide (y ≤ c)).length ≤ ws.length - 1 := by
    have := List.length_filter_le (fun y => decide (y ≤ c)) (shares ws.length)
    rw [shares_len] at this; exact this
  have all : (ws.filter fun y => decide (c < y)).length = ws.length → c < 1 := by
    intro h
    have := List.length_filter_eq_length_iff.1 h
    obtain ⟨w, ws', rfl⟩ : ∃ w ws', ws = w :: ws' := by cases ws with | nil => simp at hl | cons w ws' => exact ⟨w, ws', rfl⟩
    have a := of_decide_eq_true (this w List.mem_cons_self)
    have := hw w List.mem_cons_self
    grind
  have none : (ws.filter fun y => decide (c < y)).length = 0 → 0 ≤ c := by
    intro h
    obtain ⟨w, ws', rfl⟩ : ∃ w ws', ws = w :: ws' := by cases ws with | nil => simp at hl | cons w ws' => exact ⟨w, ws', rfl⟩
    have h2 := List.filter_eq_nil_iff.1 (List.eq_nil_of_length_eq_zero h) w List.mem_cons_self
    have := hw w List.mem_cons_self
    simp at h2
    grind
  have sc := fun hm => share_count (p := ws.length) (m := (ws.filter fun y => decide (c < y)).length) (by omega) hm c
  generalize ((shares ws.length).filter fun y => decide (y ≤ c)).length = s at *
  generalize (ws.filter fun y => decide (c < y)).length = m at *
  generalize (ws.filter fun y => decide (y ≤ c)).length = l at *
  have hp : (0 : Rat) < ((ws.length : Int) : Rat) := by
    have : (0 : Int) < (ws.length : Int) := by omega
    exact_mod_cast this
  have c3 : ((3 * ws.length : Nat) : Int) = 3 * (ws.length : Int) := by omega
  have key : ((3 : Nat) : Int) * ((m : Int) : Rat) ≤ c * (((3 * ws.length : Nat) : Int) : Rat) ↔ ((m : Int) : Rat) ≤ c * ((ws.length : Int) : Rat) := by
    rw [c3, Rat.intCast_mul]
    have : (((3 : Nat) : Int) : Rat) = 3 := rfl
    have : ((3 : Int) : Rat) = 3 := rfl
    constructor <;> intro h <;> grind
  rw [key]
  rcases Nat.eq_zero_or_pos m with rfl | hm
  · have c0 := none rfl
    constructor
    · intro _; omega
    · intro _
      have := Rat.mul_nonneg c0 (Rat.le_of_lt hp)
      simpa using this
  · rcases Nat.lt_or_ge m ws.length with q | q
    · rw [← sc ⟨hm, by omega⟩]
      constructor <;> intro h <;> omega
    · have c1 := all (by omega)
      have ml : m = ws.length := by omega
      subst ml
      constructor
      · intro h
        exfalso
        have := Rat.mul_lt_mul_of_pos_right c1 hp
        grind
      · intro h; exfalso; omega
theorem outc_two {x y : Rat} (hx : 0 ≤ x ∧ x ≤ 1) (hy : 0 ≤ y ∧ y ≤ 1) {o1 o2 : Nat} (h1 : 1 ≤ o1 ∧ o1 ≤ 99) (h2 : 1 ≤ o2 ∧ o2 ≤ 99) :
    outc 2 (.mean [o1, o2] [.bid 0, .bid 1]) [x, y] = (srt [x, y, Rat.divInt ((if y < x then o1 else o2 : Nat) : Int) ((o1 + o2 : Nat) : Int)])[1]?.getD 0 := by
  refine eq_of_le fun c => ?_
  rw [outc_le (B := 1) (show wf 2 1 (.mean [o1, o2] [.bid 0, .bid 1]) from ⟨by simp [wfs, wf], by simp, by simp, by simp, fun w m => by simp at m; omega⟩), srtD_le (by simp)]
  simp only [val]
  have e : vals (corner 2 (lot (fun z => decide (c < z)) [x, y])) [.bid 0, .bid 1] = [ind c x, ind c y] := by
    have := corner_lot c [x, y]
    simp only [List.length_cons, List.length_nil] at this
    rw [show (0 + 1 + 1 : Nat) = 2 from rfl] at this
    rw [this]
    rfl
  rw [e]
  unfold meanR
  have ss : ([o1, o2] : List Nat).sum = o1 + o2 := by simp
  have ws : wsum ([o1, o2].zip [ind c x, ind c y]) = ((o1 : Int) : Rat) * ind c x + ((o2 : Int) : Rat) * ind c y := by
    simp only [List.zip_cons_cons, List.zip_nil_left, wsum_cons]
    simp [wsum, Rat.add_zero]
  rw [ss, ws, mul_inv_le (by omega)]
  have n1 : (0 : Rat) < ((o1 : Int) : Rat) := by
    have : (0 : Int) < (o1 : Int) := by omega
    exact_mod_cast this
  have n2 : (0 : Rat) < ((o2 : Int) : Rat) := by
    have : (0 : Int) < (o2 : Int) := by omega
    exact_mod_cast this
  have n3 : (((o1 + o2 : Nat) : Int) : Rat) = ((o1 : Int) : Rat) + ((o2 : Int) : Rat) := by
    rw [Int.natCast_add, Rat.intCast_add]
  have n4 : (0 : Rat) < (((o1 + o2 : Nat) : Int) : Rat) := by rw [n3]; grind
  have sl := share_le (a := (if y < x then o1 else o2)) (p := o1 + o2) (by omega) (c := c)
  generalize Rat.divInt ((if y < x then o1 else o2 : Nat) : Int) ((o1 + o2 : Nat) : Int) = s at *
  simp only [List.filter_cons, List.filter_nil]
  unfold ind
  by_cases cx : c < x
  · have cx' : ¬ x ≤ c := by grind
    by_cases cy : c < y
    · have cy' : ¬ y ≤ c := by grind
      simp only [cx, cy, cx', cy', if_true, decide_false]
      constructor
      · intro h
        exfalso
        have := Rat.mul_lt_mul_of_pos_right (show c < 1 by grind) n4
        grind
      · intro h
        exfalso
        revert h
        by_cases z : s ≤ c <;> simp [z]
    · have cy' : y ≤ c := by grind
      have yx : y < x := by grind
      simp only [yx, if_true] at sl
      simp only [cx, cy, cx', cy', if_true, if_false, decide_false, decide_true]
      have e1 : ((o1 : Int) : Rat) * 1 + ((o2 : Int) : Rat) * 0 = ((o1 : Int) : Rat) := by grind
      rw [e1, ← sl]
      by_cases z : s ≤ c <;> simp [z]
  · have cx' : x ≤ c := by grind
    by_cases cy : c < y
    · have cy' : ¬ y ≤ c := by grind
      have yx : ¬ y < x := by grind
      simp only [yx, if_false] at sl
      simp only [cx, cy, cx', cy', if_true, if_false, decide_false, decide_true]
      have e1 : ((o1 : Int) : Rat) * 0 + ((o2 : Int) : Rat) * 1 = ((o2 : Int) : Rat) := by grind
      rw [e1, ← sl]
      by_cases z : s ≤ c <;> simp [z]
    · have cy' : y ≤ c := by grind
      simp only [cx, cy, cx', cy', if_false, decide_true]
      have c0 : 0 ≤ c := by grind
      have := Rat.mul_nonneg c0 (Rat.le_of_lt n4)
      constructor
      · intro _
        by_cases z : s ≤ c <;> simp [z]
      · intro _; grind
end CB

/-! Outcomes: raised, moved, all alike; the middles; all lots. Plain. -/
namespace CB
open PySem
theorem val_corner_mono {n B : Nat} {l m : List Nat} (s : ∀ i ∈ l, i ∈ m) {t : Tm} (w : wf n B t) : val (corner n l) t ≤ val (corner n m) t :=
  val_ends_mono (by simp) (below_01 n) s w
theorem val_corner_eq {n B : Nat} {l m : List Nat} (s : ∀ i, i ∈ l ↔ i ∈ m) {t : Tm} (w : wf n B t) : val (corner n l) t = val (corner n m) t :=
  Rat.le_antisymm (val_corner_mono (fun i => (s i).1) w) (val_corner_mono (fun i => (s i).2) w)
theorem upto_at {s : Rat} {ys xs : List Rat} (u : Upto s ys xs) : ∀ {i : Nat} {y : Rat}, ys[i]? = some y → ∃ x, xs[i]? = some x ∧ y ≤ x + s := by
  induction u with
  | nil => intro i y e; simp at e
  | cons q _ ih =>
    intro i y e
    cases i with
    | zero => simp at e; subst e; exact ⟨_, rfl, q⟩
    | succ i => exact ih (by simpa using e)
theorem outc_up {n B : Nat} {t : Tm} (w : wf n B t) {s : Rat} {rs ws : List Rat} (hs : 0 ≤ s) (u : Upto s rs ws) : outc n t rs ≤ outc n t ws + s := by
  rw [outc_le w]
  have k := (outc_le w ws _).1 Rat.le_refl
  generalize outc n t ws = c at *
  have := val_corner_mono (l := lot (fun x => decide (c + s < x)) rs) (m := lot (fun x => decide (c < x)) ws) (fun i m => by
    obtain ⟨r, e1, e2⟩ := mem_lot.1 m
    obtain ⟨x, e3, e4⟩ := upto_at u e1
    exact mem_lot.2 ⟨x, e3, decide_eq_true (by have := of_decide_eq_true e2; grind)⟩) w
  grind
theorem outc_moved {n B : Nat} {t : Tm} (w : wf n B t) {ws vs : List Rat} (hl : vs.length = ws.length) (h : ∀ (i : Nat) (x y : Rat), ws[i]? = some x → vs[i]? = some y → y = x ∨ (x < outc n t ws ∧ y < outc n t ws) ∨ (outc n t ws < x ∧ outc n t ws < y)) : outc n t vs = outc n t ws := by
  have k1 := outA_above (ws := ws) w (show (List.replicate n (1 : Rat)).length = (List.replicate n 0).length by simp) (below_01 n)
  have k2 := outA_below (ws := ws) w (show (List.replicate n (1 : Rat)).length = (List.replicate n 0).length by simp) (below_01 n)
  have oe : outA t (List.replicate n 0) (List.replicate n 1) ws = outc n t ws := rfl
  rw [oe] at k1 k2
  generalize outc n t ws = o at *
  have at1 : ∀ i y, vs[i]? = some y → ∃ x, ws[i]? = some x := fun i y e => by
    have : i < ws.length := by rw [← hl]; exact (List.getElem?_eq_some_iff.1 e).1
    exact ⟨_, List.getElem?_eq_getElem this⟩
  have at2 : ∀ i x, ws[i]? = some x → ∃ y, vs[i]? = some y := fun i x e => by
    have : i < vs.length := by rw [hl]; exact (List.getElem?_eq_some_iff.1 e).1
    exact ⟨_, List.getElem?_eq_getElem this⟩
  refine outA_only w (by simp) (below_01 n) ?_ ?_
  · refine Rat.le_trans (val_ends_mono (by simp) (below_01 n) (fun i m => ?_) w) k1
    obtain ⟨y, e1, e2⟩ := mem_lot.1 m
    obtain ⟨x, e3⟩ := at1 i y e1
    have e2 := of_decide_eq_true e2
    refine mem_lot.2 ⟨x, e3, decide_eq_true ?_⟩
    rcases h i x y e3 e1 with rfl | ⟨a, b⟩ | ⟨a, b⟩
    · exact e2
    · grind
    · exact a
  · refine Rat.le_trans k2 (val_ends_mono (by simp) (below_01 n) (fun i m => ?_) w)
    obtain ⟨x, e1, e2⟩ := mem_lot.1 m
    obtain ⟨y, e3⟩ := at2 i x e1
    have e2 := of_decide_eq_true e2
    refine mem_lot.2 ⟨y, e3, decide_eq_true ?_⟩
    rcases h i x y e1 e3 with rfl | ⟨a, b⟩ | ⟨a, b⟩
    · exact e2
    · grind
    · grind
theorem outc_all {n B : Nat} {t : Tm} (w : wf n B t) (x : Rat) : outc n t (List.replicate n x) = (srt [x, val (corner n []) t, val (corner n (List.range n)) t])[1]?.getD 0 := by
  refine eq_of_le fun c => ?_
  rw [outc_le w, srtD_le (by simp)]
  have mo := val_corner_mono (l := []) (m := List.range n) (fun i q => by cases q) w
  by_cases c1 : c < x
  · have e : val (corner n (lot (fun y => decide (c < y)) (List.replicate n x))) t = val (corner n (List.range n)) t := val_corner_eq (fun i => by
      rw [mem_lot, List.mem_range]
      constructor
      · rintro ⟨y, e1, _⟩
        have := (List.getElem?_eq_some_iff.1 e1).1
        simpa using this
      · intro hi
        exact ⟨x, by simp [hi], decide_eq_true c1⟩) w
    rw [e]
    have c2 : ¬ x ≤ c := by grind
    generalize val (corner n []) t = lo at *
    generalize val (corner n (List.range n)) t = hi at *
    simp only [List.filter_cons, List.filter_nil]
    by_cases c3 : hi ≤ c
    · have c4 : lo ≤ c := by grind
      simp [c2, c3, c4]
    · by_cases c4 : lo ≤ c <;> simp [c2, c3, c4]
  · have e : val (corner n (lot (fun y => decide (c < y)) (List.replicate n x))) t = val (corner n []) t := val_corner_eq (fun i => by
      rw [mem_lot]
      constructor
      · rintro ⟨y, e1, e2⟩
        have := (List.mem_replicate.1 (List.mem_of_getElem? e1)).2
        subst this
        exact absurd (of_decide_eq_true e2) c1
      · intro q; cases q) w
    rw [e]
    have c2 : x ≤ c := by grind
    generalize val (corner n []) t = lo at *
    generalize val (corner n (List.range n)) t = hi at *
    simp only [List.filter_cons, List.filter_nil]
    by_cases c4 : lo ≤ c
    · by_cases c3 : hi ≤ c <;> simp [c2, c3, c4]
    · have c3 : ¬ hi ≤ c := by grind
      simp [c2, c3, c4]
/-- the middle of a wish and what comes at 0 and at 1 -/
theorem outc_middle {B : Nat} {t : Tm} {ws : List Rat} (w : wf ws.length B t) {j : Nat} {x : Rat} (e : ws[j]? = some x) (hx : 0 ≤ x ∧ x ≤ 1) :
    outc ws.length t ws = (srt [x, outc ws.length t (ws.set j 0), outc ws.length t (ws.set j 1)])[1]?.getD 0 := by
  refine eq_of_le fun c => ?_
  rw [srtD_le (by simp)]
  have jl : j < ws.length := (List.getElem?_eq_some_iff.1 e).1
  have mo : outc ws.length t (ws.set j 0) ≤ outc ws.length t (ws.set j 1) := by
    have up : ∀ (xs : List Rat) (j : Nat), Upto 0 (xs.set j 0) (xs.set j 1) := by
      intro xs
      induction xs with
      | nil => intro j; exact .nil
      | cons y ys ih =>
        intro j
        cases j with
        | zero =>
          refine .cons (by decide +kernel) ?_
          clear ih
          induction ys with
          | nil => exact .nil
          | cons z zs ih => exact .cons (by grind) ih
        | succ j => exact .cons (by grind) (ih j)
    have := outc_up (B := B) w Rat.le_refl (up ws j)
    grind
  have key : ∀ (b : Rat), (c < x ↔ c < b) → (outc ws.length t ws ≤ c ↔ outc ws.length t (ws.set j b) ≤ c) := by
    intro b hb
    rw [outc_le w, outc_le w]
    have : val (corner ws.length (lot (fun y => decide (c < y)) ws)) t = val (corner ws.length (lot (fun y => decide (c < y)) (ws.set j b))) t := val_corner_eq (fun i => by
      rw [mem_lot, mem_lot, List.getElem?_set]
      by_cases ij : j = i
      · subst ij
        simp only [if_true, jl]
        constructor
        · rintro ⟨y, e1, e2⟩
          rw [e] at e1; cases e1
          exact ⟨b, rfl, decide_eq_true (hb.1 (of_decide_eq_true e2))⟩
        · rintro ⟨y, e1, e2⟩
          cases e1
          exact ⟨x, e, decide_eq_true (hb.2 (of_decide_eq_true e2))⟩
      · rw [if_neg ij]) w
    rw [this]
  simp only [List.filter_cons, List.filter_nil]
  by_cases cx : c < x
  · have c2 : ¬ x ≤ c := by grind
    rw [key 1 ⟨fun _ => by grind, fun _ => cx⟩]
    generalize outc ws.length t (ws.set j 0) = lo at *
    generalize outc ws.length t (ws.set j 1) = hi at *
    by_cases c3 : hi ≤ c
    · have c4 : lo ≤ c := by grind
      simp [c2, c3, c4]
    · by_cases c4 : lo ≤ c <;> simp [c2, c3, c4]
  · have c2 : x ≤ c := by grind
    rw [key 0 ⟨fun q => absurd q cx, fun q => by grind⟩]
    generalize outc ws.length t (ws.set j 0) = lo at *
    generalize outc ws.length t (ws.set j 1) = hi at *
    by_cases c4 : lo ≤ c
    · by_cases c3 : hi ≤ c <;> simp [c2, c3, c4]
    · have c3 : ¬ hi ≤ c := by grind
      simp [c2, c3, c4]
/-- the middles, person by person -/
def midl (t : Tm) (ws : List Rat) : List Nat → List Rat → Rat
  | [], bs => val bs t
  | p :: ps, bs => (srt [ws[p]?.getD 0, midl t ws ps (bs.set p 0), midl t ws ps (bs.set p 1)])[1]?.getD 0
def setInd (c : Rat) (ws : List Rat) : List Nat → List Rat → List Rat
  | [], bs => bs
  | p :: ps, bs => setInd c ws ps (bs.set p (ind c (ws[p]?.getD 0)))
theorem setInd_mono (c : Rat) (ws : List Rat) : ∀ (ps : List Nat) (bs cs : List Rat), cs.length = bs.length → (∀ i : Nat, cs[i]?.getD 0 ≤ bs[i]?.getD 0 + 0) → ∀ i : Nat, (setInd c ws ps cs)[i]?.getD 0 ≤ (setInd c ws ps bs)[i]?.getD 0 + 0
  | [], bs, cs, _, h => h
  | q :: qs, bs, cs, hl, h => by
    refine setInd_mono c ws qs _ _ (by simp [hl]) fun i => ?_
    rw [List.getElem?_set, List.getElem?_set, hl]
    split
    · split <;> grind
    · exact h i
theorem midl_le {n B : Nat} {t : Tm} (w : wf n B t) {ws : List Rat} : ∀ (ps : List Nat) (c : Rat) (bs : List Rat), (midl t ws ps bs ≤ c ↔ val (setInd c ws ps bs) t ≤ c)
  | [], c, bs => Iff.rfl
  | p :: ps, c, bs => by
    have mo : midl t ws ps (bs.set p 0) ≤ midl t ws ps (bs.set p 1) := by
      rw [midl_le w ps]
      have k := (midl_le w (ws := ws) ps (midl t ws ps (bs.set p 1)) (bs.set p 1)).1 Rat.le_refl
      generalize midl t ws ps (bs.set p 1) = c at *
      refine Rat.le_trans ?_ k
      have := val_upto (s := 0) Rat.le_refl (setInd_mono c ws ps (bs.set p 1) (bs.set p 0) (by simp) fun i => by
        rw [List.getElem?_set, List.getElem?_set]
        split
        · split <;> (show _ ≤ _; simp only [Option.getD_some, Option.getD_none]; grind)
        · grind) t w
      grind
    show (srt [ws[p]?.getD 0, midl t ws ps (bs.set p 0), midl t ws ps (bs.set p 1)])[1]?.getD 0 ≤ c ↔ val (setInd c ws ps (bs.set p (ind c (ws[p]?.getD 0)))) t ≤ c
    rw [srtD_le (by simp), ← midl_le w ps]
    generalize ws[p]?.getD 0 = x at *
    simp only [List.filter_cons, List.filter_nil]
    unfold ind
    by_cases cx : c < x
    · have c2 : ¬ x ≤ c := by grind
      rw [if_pos cx]
      generalize midl t ws ps (bs.set p 0) = lo at *
      generalize midl t ws ps (bs.set p 1) = hi at *
      by_cases c3 : hi ≤ c
      · have c4 : lo ≤ c := by grind
        simp [c2, c3, c4]
      · by_cases c4 : lo ≤ c <;> simp [c2, c3, c4]
    · have c2 : x ≤ c := by grind
      rw [if_neg cx]
      generalize midl t ws ps (bs.set p 0) = lo at *
      generalize midl t ws ps (bs.set p 1) = hi at *
      by_cases c4 : lo ≤ c
      · by_cases c3 : hi ≤ c <;> simp [c2, c3, c4]
      · have c3 : ¬ hi ≤ c := by grind
        simp [c2, c3, c4]
theorem setInd_len (c : Rat) (ws : List Rat) : ∀ (ps : List Nat) (bs : List Rat), (setInd c ws ps bs).length = bs.length
  | [], bs => rfl
  | p :: ps, bs => by
    show (setInd c ws ps _).length = _
    rw [setInd_len]; simp
theorem setInd_get (c : Rat) (ws : List Rat) : ∀ (ps : List Nat) (bs : List Rat) (i : Nat), i < bs.length → (setInd c ws ps bs)[i]? = (if i ∈ ps then some (ind c (ws[i]?.getD 0)) else bs[i]?)
  | [], bs, i, _ => by simp [setInd]
  | p :: ps, bs, i, h => by
    show (setInd c ws ps _)[i]? = _
    rw [setInd_get c ws ps _ i (by simpa using h), List.getElem?_set]
    by_cases m : i ∈ ps
    · simp [m]
    · by_cases q : p = i
      · subst q; simp [m, h]
      · have q' : ¬ i = p := fun z => q z.symm
        simp [m, q, q']
theorem midl_outc {B : Nat} {t : Tm} {ws : List Rat} (w : wf ws.length B t) {ps : List Nat} {bs : List Rat} (hb : bs.length = ws.length) (hp : ∀ i, i < ws.length → i ∈ ps) : midl t ws ps bs = outc ws.length t ws := by
  refine eq_of_le fun c => ?_
  rw [midl_le w, outc_le w, corner_lot]
  have : setInd c ws ps bs = ws.map (ind c) := by
    refine List.ext_getElem? fun i => ?_
    rcases Nat.lt_or_ge i ws.length with q | q
    · rw [setInd_get c ws ps bs i (by omega), if_pos (hp i q), List.getElem?_map, List.getElem?_eq_getElem q]
      rfl
    · rw [List.getElem?_eq_none (by rw [setInd_len]; omega), List.getElem?_eq_none (by simpa using q)]
  rw [this]
/-- the greatest, over all lots, of the least of the corner and the wishes in the lot -/
theorem outc_lots {n B : Nat} {t : Tm} (w : wf n B t) {ws : List Rat} (hl : ws.length = n) {ls : List (List Nat)} (h1 : ∀ l ∈ ls, ∀ i ∈ l, i < n) (h2 : ∀ p : Rat → Bool, ∃ l ∈ ls, ∀ i, i ∈ l ↔ i ∈ lot p ws) :
    mxl (ls.map fun l => mnl (val (corner n l) t :: l.map fun i => ws[i]?.getD 0)) = outc n t ws := by
  have ne : ls ≠ [] := by
    obtain ⟨l, m, _⟩ := h2 (fun _ => true)
    intro q; rw [q] at m; cases m
  have mnl_le' : ∀ {xs : List Rat} {c : Rat}, xs ≠ [] → (mnl xs ≤ c ↔ ∃ x ∈ xs, x ≤ c) := fun {xs c} h =>
    ⟨fun q => ⟨_, mnl_mem h, q⟩, fun ⟨x, m, q⟩ => Rat.le_trans (mnl_le m) q⟩
  refine eq_of_le fun c => ?_
  rw [mxl_le (by simpa using ne), outc_le w]
  constructor
  · intro h
    obtain ⟨l, ml, hl'⟩ := h2 fun x => decide (c < x)
    have k := h _ (List.mem_map.2 ⟨l, ml, rfl⟩)
    rw [mnl_le' (by simp)] at k
    obtain ⟨x, mx, xc⟩ := k
    rw [← val_corner_eq hl' w]
    rcases List.mem_cons.1 mx with rfl | mx
    · exact xc
    · obtain ⟨i, mi, rfl⟩ := List.mem_map.1 mx
      obtain ⟨y, e1, e2⟩ := mem_lot.1 ((hl' i).1 mi)
      rw [e1] at xc
      have := of_decide_eq_true e2
      simp at xc
      grind
  · intro h x mx
    obtain ⟨l, ml, rfl⟩ := List.mem_map.1 mx
    rw [mnl_le' (by simp)]
    by_cases q : ∃ i ∈ l, ws[i]?.getD 0 ≤ c
    · obtain ⟨i, mi, hi⟩ := q
      exact ⟨_, List.mem_cons_of_mem _ (List.mem_map.2 ⟨i, mi, rfl⟩), hi⟩
    · refine ⟨_, List.mem_cons_self, Rat.le_trans (val_corner_mono (fun i mi => ?_) w) h⟩
      have il : i < ws.length := by rw [hl]; exact h1 l ml i mi
      have e : ws[i]? = some ws[i] := List.getElem?_eq_getElem il
      refine mem_lot.2 ⟨_, e, decide_eq_true ?_⟩
      rcases Rat.le_total (a := ws[i]) (b := c) with z | z
      · exact absurd ⟨i, mi, by rw [e]; exact z⟩ q
      · by_cases e3 : ws[i] = c
        · exact absurd ⟨i, mi, by rw [e]; rw [e3]; exact Rat.le_refl⟩ q
        · grind
end CB

/-! All lots; what sorted does with lots. -/
namespace CB
open PySem
def lotT (l : List Nat) : T := .tup (nats l)
def lotD (l : List Nat) : PyData := .tuple (l.map fun i : Nat => .int (i : Int))
/-- lots sorted as tuples -/
noncomputable def srtL (xs : List (List Nat)) : List (List Nat) := xs.mergeSort (PySem.W.dataLe false lotD)
theorem nats_pur : ∀ l : List Nat, purs (nats l) = true ∧ hgts (nats l) = 0 ∧ toDs (nats l) = l.map fun i : Nat => .int (i : Int)
  | [] => ⟨rfl, rfl, rfl⟩
  | x :: xs => by
    obtain ⟨a, b, c⟩ := nats_pur xs
    refine ⟨?_, ?_, ?_⟩
    · show (pur (T.int x) && purs (nats xs)) = true
      rw [a]; rfl
    · show max (hgt (T.int x)) (hgts (nats xs)) = 0
      rw [b]; rfl
    · show toD (T.int x) :: toDs (nats xs) = _
      rw [c]; rfl
theorem lotT_pt (l : List Nat) : Pt (lotT l) := by
  obtain ⟨a, b, _⟩ := nats_pur l
  exact ⟨a, by show hgts (nats l) + 1 ≤ 64; omega⟩
theorem datS_lot (h : Hs) (l : List Nat) : datS h (lotT l) = some (lotD l) := by
  obtain ⟨a, b⟩ := lotT_pt l
  rw [datS_pur h a b]
  show some (PyData.tuple (toDs (nats l))) = _
  rw [(nats_pur l).2.2]; rfl
theorem mapO_map {α β γ : Type} {f : β → Option γ} {g : α → β} {k : α → γ} : ∀ {xs : List α}, (∀ x ∈ xs, f (g x) = some (k x)) → mapO f (xs.map g) = some (xs.map k)
  | [], _ => rfl
  | x :: xs, h => by
    simp only [List.map_cons, mapO, h x List.mem_cons_self, mapO_map fun y m => h y (List.mem_cons_of_mem _ m)]
theorem lotD_alike (l m : List Nat) : PySem.W.alike (lotD l) (lotD m) = true := by
  have := PySem.W.alike_ints (l.map fun i : Nat => (i : Int)) (m.map fun i : Nat => (i : Int))
  rw [List.map_map, List.map_map] at this
  show PySem.W.alikeAll _ _ = true
  exact this
theorem lotD_depth (l : List Nat) : (lotD l).depth ≤ 60 := by
  have := PySem.W.depth_ints (l.map fun i : Nat => (i : Int))
  rw [List.map_map] at this
  show PyData.depthAll (l.map fun i : Nat => .int (i : Int)) + 1 ≤ 60
  have e : PyData.depthAll (l.map fun i : Nat => .int (i : Int)) = 0 := this
  omega
theorem srtT_lots (h : Hs) {xs : List (List Nat)} (hx : (∀ l ∈ xs, l ≠ []) ∨ xs.length ≤ 1) : srtT h (xs.map lotT) = some ((srtL xs).map lotT) := by
  have e1 : mapO (fun t => (datS h t).map fun d => (t, d)) (xs.map lotT) = some (xs.map fun l => (lotT l, lotD l)) := mapO_map fun l _ => by
    rw [datS_lot]; rfl
  have e2 : srtB ((xs.map fun l => (lotT l, lotD l)).map (·.2)) = true := by
    unfold srtB
    rw [List.map_map]
    have a : ((xs.map ((fun x : T × PyData => x.2) ∘ fun l => (lotT l, lotD l))).all fun d => (xs.map ((fun x : T × PyData => x.2) ∘ fun l => (lotT l, lotD l))).all (PySem.W.alike d)) = true := by
      simp only [List.all_map, List.all_eq_true, Function.comp]
      intro l _ m _
      exact lotD_alike l m
    have c : ((xs.map ((fun x : T × PyData => x.2) ∘ fun l => (lotT l, lotD l))).all fun d => decide (d.depth ≤ 60)) = true := by
      simp only [List.all_map, List.all_eq_true, Function.comp, decide_eq_true_eq]
      intro l _
      exact lotD_depth l
    rw [a, c, Bool.true_and, Bool.and_true]
    rcases hx with hx | hx
    · have : (xs.map ((fun x : T × PyData => x.2) ∘ fun l => (lotT l, lotD l))).all srtN = true := by
        simp only [List.all_map, List.all_eq_true, Function.comp]
        intro l ml
        cases l with
        | nil => exact absurd rfl (hx _ ml)
        | cons y ys => rfl
      rw [this]; rfl
    · have : (xs.map ((fun x : T × PyData => x.2) ∘ fun l => (lotT l, lotD l))).all srtS = true := by
        simp only [List.all_map, List.all_eq_true, Function.comp]
        intro l ml
        rfl
      rw [this, List.length_map, decide_eq_true hx]; simp
  unfold srtT
  rw [e1]
  dsimp only
  rw [if_pos e2]
  congr 1
  have := List.map_mergeSort (f := fun l => ((lotT l, lotD l) : T × PyData)) (s := PySem.W.dataLe false (·.2)) (r := PySem.W.dataLe false lotD) (l := xs) (fun _ _ _ _ => rfl)
  rw [← this, List.map_map]
  rfl
theorem mem_srtL {xs : List (List Nat)} {l : List Nat} : l ∈ srtL xs ↔ l ∈ xs := List.mem_mergeSort
/-- all lots of so many people, as they are gathered -/
def lots0 : Nat → List (List Nat)
  | 0 => [[]]
  | p + 1 => lots0 p ++ (lots0 p).map (· ++ [p])
theorem lots0_len (p : Nat) : (lots0 p).length = 2 ^ p := by
  induction p with
  | zero => rfl
  | succ p ih => simp only [lots0, List.length_append, List.length_map, ih]; omega
theorem lots0_mem : ∀ {p : Nat} {l : List Nat}, l ∈ lots0 p → (∀ i ∈ l, i < p) ∧ l.length ≤ p
  | 0, l, m => by simp [lots0] at m; subst m; simp
  | p + 1, l, m => by
    simp only [lots0, List.mem_append, List.mem_map] at m
    rcases m with m | ⟨k, m, rfl⟩
    · obtain ⟨a, b⟩ := lots0_mem m
      exact ⟨fun i mi => by have := a i mi; omega, by omega⟩
    · obtain ⟨a, b⟩ := lots0_mem m
      refine ⟨fun i mi => ?_, by simp; omega⟩
      rcases List.mem_append.1 mi with mi | mi
      · have := a i mi; omega
      · simp at mi; omega
theorem lots0_any (f : Nat → Bool) : ∀ p : Nat, ∃ l ∈ lots0 p, ∀ i, i ∈ l ↔ i < p ∧ f i = true
  | 0 => ⟨[], by simp [lots0], fun i => by simp⟩
  | p + 1 => by
    obtain ⟨l, m, h⟩ := lots0_any f p
    cases q : f p with
    | true =>
      refine ⟨l ++ [p], by simp only [lots0, List.mem_append, List.mem_map]; exact .inr ⟨l, m, rfl⟩, fun i => ?_⟩
      rw [List.mem_append, h i, List.mem_singleton]
      constructor
      · rintro (⟨a, b⟩ | rfl)
        · exact ⟨by omega, b⟩
        · exact ⟨by omega, q⟩
      · rintro ⟨a, b⟩
        rcases Nat.lt_or_ge i p with c | c
        · exact .inl ⟨c, b⟩
        · exact .inr (by omega)
    | false =>
      refine ⟨l, by simp only [lots0, List.mem_append]; exact .inl m, fun i => ?_⟩
      rw [h i]
      constructor
      · rintro ⟨a, b⟩; exact ⟨by omega, b⟩
      · rintro ⟨a, b⟩
        rcases Nat.lt_or_ge i p with c | c
        · exact ⟨c, b⟩
        · have : i = p := by omega
          subst this; rw [q] at b; cases b
theorem lots0_one : ∀ p : Nat, ((lots0 p).filter fun l => l.length == 0).length ≤ 1
  | 0 => by decide
  | p + 1 => by
    have ih := lots0_one p
    simp only [lots0, List.filter_append, List.length_append]
    have : ((lots0 p).map (· ++ [p])).filter (fun l => l.length == 0) = [] := by
      rw [List.filter_eq_nil_iff]
      intro l m
      obtain ⟨k, _, rfl⟩ := List.mem_map.1 m
      simp
    rw [this]; simpa using ih
/-- by how many they are, then as tuples -/
noncomputable def bysz (xs : List (List Nat)) (k : Nat) : List (List Nat) := (List.range k).flatMap fun s => srtL (xs.filter fun l => l.length == s)
theorem bysz_succ (xs : List (List Nat)) (k : Nat) : bysz xs (k + 1) = bysz xs k ++ srtL (xs.filter fun l => l.length == k) := by
  unfold bysz
  rw [List.range_succ, List.flatMap_append]
  simp
noncomputable def lots (p : Nat) : List (List Nat) := bysz (lots0 p) (2 ^ p)
theorem mem_lots {p : Nat} {l : List Nat} : l ∈ lots p ↔ l ∈ lots0 p := by
  unfold lots bysz
  rw [List.mem_flatMap]
  constructor
  · rintro ⟨s, _, m⟩
    exact (List.mem_filter.1 (mem_srtL.1 m)).1
  · intro m
    refine ⟨l.length, List.mem_range.2 ?_, mem_srtL.2 (List.mem_filter.2 ⟨m, by simp⟩)⟩
    have := (lots0_mem m).2
    have := Nat.lt_two_pow_self (n := p)
    omega
theorem bysz_len_le (xs : List (List Nat)) (k : Nat) : (bysz xs k).length ≤ xs.length := by
  have key : ∀ k : Nat, (bysz xs k).length = (xs.filter fun l => decide (l.length < k)).length := by
    intro k
    induction k with
    | zero =>
      have : (xs.filter fun l => decide (l.length < 0)) = [] := by rw [List.filter_eq_nil_iff]; intro l _; simp
      rw [this]; rfl
    | succ k ih =>
      rw [bysz_succ, List.length_append, ih]
      unfold srtL
      rw [List.length_mergeSort]
      clear ih
      induction xs with
      | nil => rfl
      | cons x xs ih =>
        simp only [List.filter_cons]
        by_cases c1 : x.length < k
        · have c2 : ¬ x.length = k := by omega
          have c3 : x.length < k + 1 := by omega
          simp [c1, c2, c3]; omega
        · by_cases c2 : x.length = k
          · have c3 : x.length < k + 1 := by omega
            simp [c1, c2, c3]; omega
          · have c3 : ¬ x.length < k + 1 := by omega
            simp [c1, c2, c3]; omega
  rw [key]
  exact List.length_filter_le _ _
theorem outc_by_lots {p B : Nat} {t : Tm} (w : wf p B t) {ws : List Rat} (hl : ws.length = p) : mxl ((lots p).map fun l => mnl (val (corner p l) t :: l.map fun i => ws[i]?.getD 0)) = outc p t ws := by
  refine outc_lots w hl (fun l m i mi => (lots0_mem (mem_lots.1 m)).1 i mi) fun f => ?_
  obtain ⟨l, m, h⟩ := lots0_any (fun i => f (ws[i]?.getD 0)) p
  refine ⟨l, mem_lots.2 m, fun i => ?_⟩
  rw [h i, mem_lot]
  constructor
  · rintro ⟨a, b⟩
    have e : ws[i]? = some ws[i] := List.getElem?_eq_getElem (by omega)
    exact ⟨_, e, by rw [e] at b; exact b⟩
  · rintro ⟨x, e, b⟩
    exact ⟨by rw [← hl]; exact (List.getElem?_eq_some_iff.1 e).1, by rw [e]; exact b⟩
theorem corner_congr {n : Nat} {l m : List Nat} (h : ∀ i, i < n → (i ∈ l ↔ i ∈ m)) : corner n l = corner n m := by
  refine List.ext_getElem? fun i => ?_
  rcases Nat.lt_or_ge i n with q | q
  · rw [corner_get q, corner_get q]
    have := h i q
    by_cases c : i ∈ l
    · rw [if_pos (List.contains_iff_mem.2 c), if_pos (List.contains_iff_mem.2 (this.1 c))]
    · rw [if_neg (fun z => c (List.contains_iff_mem.1 z)), if_neg (fun z => c (this.2 (List.contains_iff_mem.1 z)))]
  · rw [List.getElem?_eq_none (by rw [corner_len]; exact q), List.getElem?_eq_none (by rw [corner_len]; exact q)]
theorem val_corner_mono' {n B : Nat} {l m : List Nat} {t : Tm} (w : wf n B t) (h : ∀ i, i < n → i ∈ l → i ∈ m) : val (corner n l) t ≤ val (corner n m) t := by
  rw [corner_congr (l := l) (m := l.filter fun i => decide (i < n)) (fun i q => by simp [q])]
  exact val_corner_mono (fun i m => by rw [List.mem_filter] at m; exact h i (of_decide_eq_true m.2) m.1) w
/-- the outcome of wishes at a corner -/
theorem outc_corner {n B : Nat} {t : Tm} (w : wf n B t) (l : List Nat) : outc n t (corner n l) = val (corner n l) t := by
  have rg := val_range (corner_len n l) (fun q m => by
    obtain ⟨i, e⟩ := List.mem_iff_getElem?.1 m
    have il : i < n := by have := (List.getElem?_eq_some_iff.1 e).1; rw [corner_len] at this; exact this
    rw [corner_get il] at e
    cases e
    split <;> decide) t w
  have at1 : ∀ {i x}, (corner n l)[i]? = some x → i < n ∧ x = (if l.contains i then 1 else 0) := fun {i x} e => by
    have il : i < n := by have := (List.getElem?_eq_some_iff.1 e).1; rw [corner_len] at this; exact this
    rw [corner_get il] at e
    cases e
    exact ⟨il, rfl⟩
  have top : ∀ m : List Nat, 0 ≤ val (corner n m) t ∧ val (corner n m) t ≤ 1 := fun m => val_range (corner_len n m) (fun q mq => by
    obtain ⟨i, e⟩ := List.mem_iff_getElem?.1 mq
    have il : i < n := by have := (List.getElem?_eq_some_iff.1 e).1; rw [corner_len] at this; exact this
    rw [corner_get il] at e
    cases e
    split <;> decide) t w
  refine outA_only w (by simp) (below_01 n) ?_ ?_
  · show val (corner n _) t ≤ _
    by_cases c : val (corner n l) t < 1
    · refine val_corner_mono (fun i m => ?_) w
      obtain ⟨x, e1, e2⟩ := mem_lot.1 m
      obtain ⟨il, rfl⟩ := at1 e1
      have e2 := of_decide_eq_true e2
      by_cases q : l.contains i = true
      · exact List.contains_iff_mem.1 q
      · rw [if_neg q] at e2
        have := rg.1
        grind
    · have := (top (lot (fun y => decide (val (corner n l) t < y)) (corner n l))).2
      grind
  · show _ ≤ val (corner n _) t
    by_cases c : 0 < val (corner n l) t
    · refine val_corner_mono' w (fun i il m => ?_)
      have e := corner_get (l := l) il
      rw [if_pos (List.contains_iff_mem.2 m)] at e
      exact mem_lot.2 ⟨1, e, decide_eq_true rg.2⟩
    · have := (top (lot (fun y => decide (val (corner n l) t ≤ y)) (corner n l))).1
      grind
end CB

/-! All lots and the outcome by them, by the law. -/
namespace CB
open PySem
theorem lotT_len (h : Hs) (l : List Nat) : bltI .len [lotT l] h = .ok (.int l.length) h := by
  rw [lotT, blt_len_tup, nats_len]
theorem sorted_blt {h : Hs} {a : Nat} {xs : List (List Nat)} (e : h[a]? = some (.lst (xs.map lotT))) (hx : (∀ l ∈ xs, l ≠ []) ∨ xs.length ≤ 1) : bltI .sorted [.rf a] h = .ok (.rf h.length) (h ++ [.lst ((srtL xs).map lotT)]) := by
  have e1 : lstOf h (.rf a) = some (xs.map lotT) := by simp [lstOf, e]
  show (match (lstOf h (.rf a)).bind (srtT h) with
    | some ys => alloc (.lst ys) h
    | none => .bad) = _
  rw [e1, Option.bind_some, srtT_lots h hx]
  rfl
theorem by_size_ok {d L : Nat} {xs : List (List Nat)} {h : Hs} (hd : 1 ≤ d) (e : h[L]? = some (.lst (xs.map lotT))) (hl : xs.length ≤ 1000) (h0 : (xs.filter fun l => l.length == 0).length ≤ 1) :
    ∃ (F : Nat) (h' : Hs), callN Lw.tb d 1038 [.rf L] h = .ok (.rf F) h' ∧ h'[F]? = some (.lst ((bysz xs xs.length).map lotT)) ∧ Gs [] h h' ∧ h.length ≤ F := by
  obtain ⟨σ1, h1, e1, F, w2, rfl, l1, g1, f1⟩ := forRun_go (std := fun _ => True) (tg := .name 2) (body := exSs (callN Lw.tb (d - 1)) (match fn_law_by_size_1038.body with | .cons _ (.cons (.for _ _ b) _) => b | _ => .nil))
    (fun k σ h' => ∃ (F : Nat) (w2 : Option T), σ = [some (.rf L), some (.rf F), w2, none] ∧ h'[F]? = some (.lst ((bysz xs k).map lotT)) ∧ Gs [] h h' ∧ h.length ≤ F)
    (fun _ _ _ _ => trivial) (ts := iota 0 xs.length) (k := 0) (σ := [some (.rf L), some (.rf h.length), none, none]) (h := h ++ [.lst []]) ⟨h.length, none, rfl, by simp [bysz], Gs.app _ _ _, Nat.le_refl _⟩
    (by
      rintro i u eu σ h2 ⟨F, w2, rfl, l2, g2, f2⟩
      obtain ⟨rfl, il⟩ := iota_get eu
      rw [Nat.zero_add] at *
      refine ⟨[some (.rf L), some (.rf F), some (.int (0 + (i : Int))), none], (tak_name 2 _ _).trans rfl, ?_⟩
      have eL := g2.at e (by simp)
      obtain ⟨h3, e3, g3⟩ := lcRun_sel (std := fun h' => lstOf h' (.rf L) = some (xs.map lotT)) (f := lcG (callN Lw.tb (d - 1)) [some (.rf L), some (.rf F), some (.int (0 + (i : Int))), none] (.var 3) (.name 3) (.som (.cmp .eq (.blt .len (.cons (.var 3) .nil)) (.var 2))) [3]) lotT (fun l => l.length == i) (xs := xs) (acc := []) (h := h2) (fun h' g => lstOf_gs g (by simp [lstOf, eL]) (fun _ _ q => by cases q))
        (fun l m h' g => by
          have ln := lotT_len h' l
          refine ⟨h', ?_, Gs.refl _ _⟩
          generalize lotT l = W at *
          by_cases c : l.length = i
          · simp [lcG, ln, c]
          · have c2 : ¬ ((l.length : Int) = (i : Int)) := by omega
            simp [lcG, ln, c, c2]) (by simp; omega)
      rw [List.nil_append] at e3
      have ov : evSrc (callN Lw.tb (d - 1)) (.over (.var 0)) [some (.rf L), some (.rf F), some (.int (0 + (i : Int))), none] h2 = .ok ⟨xs.map lotT, fun h' => lstOf h' (.rf L) = some (xs.map lotT)⟩ h2 := evSrc_over_lst (t := .rf L) (xs := xs.map lotT) rfl (by simp [lstOf, eL])
      have ec := lc_ok ov e3
      have so := sorted_blt (h := h3 ++ [.lst ((xs.filter fun l => l.length == i).map lotT)]) (a := h3.length) (xs := xs.filter fun l => l.length == i) (by simp) (by
        rcases Nat.eq_zero_or_pos i with rfl | hi
        · exact .inr h0
        · refine .inl fun l m q => ?_
          have := (List.mem_filter.1 m).2
          rw [q] at this
          simp at this; omega)
      have g4 : Gs [] h2 (h3 ++ [O.lst ((xs.filter fun l => l.length == i).map lotT)] ++ [O.lst ((srtL (xs.filter fun l => l.length == i)).map lotT)]) := (g3.trans (Gs.app _ _ _)).trans (Gs.app _ _ _)
      have bl := bysz_len_le xs i
      have sl : (srtL (xs.filter fun l => l.length == i)).length ≤ xs.length := by
        unfold srtL; rw [List.length_mergeSort]; exact List.length_filter_le _ _
      have ar := add_rf (h := h3 ++ [O.lst ((xs.filter fun l => l.length == i).map lotT)] ++ [O.lst ((srtL (xs.filter fun l => l.length == i)).map lotT)]) (a := F) (b := (h3 ++ [O.lst ((xs.filter fun l => l.length == i).map lotT)]).length) (xs := (bysz xs i).map lotT) (ys := (srtL (xs.filter fun l => l.length == i)).map lotT) (g4.at l2 (by simp)) (by simp) (by rw [List.length_map, List.length_map]; omega)
      rw [← List.map_append, ← bysz_succ] at ar
      refine ⟨[some (.rf L), some (.rf (h3 ++ [O.lst ((xs.filter fun l => l.length == i).map lotT)] ++ [O.lst ((srtL (xs.filter fun l => l.length == i)).map lotT)]).length), some (.int (0 + (i : Int))), none], (h3 ++ [O.lst ((xs.filter fun l => l.length == i).map lotT)] ++ [O.lst ((srtL (xs.filter fun l => l.length == i)).map lotT)]) ++ [.lst ((bysz xs (i + 1)).map lotT)], .inl ?_, _, _, rfl, by simp, (g2.trans g4).trans (Gs.app _ _ _), by have := (g2.trans g4).1; simpa using this⟩
      generalize xs.map lotT = X at *
      generalize (xs.filter fun l => l.length == i).map lotT = Y at *
      generalize (srtL (xs.filter fun l => l.length == i)).map lotT = Z at *
      generalize (bysz xs i).map lotT = V at *
      generalize (bysz xs (i + 1)).map lotT = U at *
      simp at so ar
      rw [Int.zero_add] at ec ⊢
      simp [fn_law_by_size_1038, ec, so, ar])
  rw [iota_len, Nat.zero_add] at l1
  refine ⟨F, h1, call_of Lw.tb_1038 (by omega) ⟨rfl, by decide⟩ (.inl ?_), l1, g1, f1⟩
  have s0 : exS (callN Lw.tb (d - 1)) (.asg (.name 1) (.lst .nil)) [some (.rf L), none, none, none] h = .nx [some (.rf L), some (.rf h.length), none, none] (h ++ [.lst []]) := by simp
  have rk : evSrc (callN Lw.tb (d - 1)) (.rng1 (.blt .len (.cons (.var 0) .nil))) [some (.rf L), some (.rf h.length), none, none] (h ++ [.lst []]) = .ok ⟨iota 0 xs.length, fun _ => True⟩ (h ++ [.lst []]) := by
    have bl := blt_len_lst (h := h ++ [.lst []]) (t := .rf L) (xs := xs.map lotT) (by
      have := (Gs.app [] h [.lst []]).at e (by simp)
      simp [lstOf, this])
    rw [List.length_map] at bl
    have := evSrc_rng1_ok (cl := callN Lw.tb (d - 1)) (σ := [some (.rf L), some (.rf h.length), none, none]) (a := .blt .len (.cons (.var 0) .nil)) (h := h ++ [.lst []]) (h1 := h ++ [.lst []]) (j := xs.length) (by simp [bl]) ⟨by omega, by omega⟩
    simpa using this
  show exSs _ (.cons (.asg _ _) (.cons (.for _ _ _) _)) _ _ = _
  refine (exSs_step s0).trans ((exSs_step (exS_for_ok rk e1)).trans ?_)
  simp
theorem llots_ok {d p : Nat} (hd : 2 ≤ d) (hp : p ≤ 6) (h : Hs) :
    ∃ (F : Nat) (h' : Hs), callN Lw.tb d 1039 [.int p] h = .ok (.rf F) h' ∧ h'[F]? = some (.lst ((lots p).map lotT)) ∧ Gs [] h h' ∧ h.length ≤ F := by
  have pow6 : ∀ k, k ≤ p → 2 ^ k ≤ 64 := fun k hk => by
    have : 2 ^ k ≤ 2 ^ 6 := Nat.pow_le_pow_right (by decide) (by omega)
    exact this
  obtain ⟨σ1, h1, e1, F, w2, rfl, l1, g1, f1⟩ := forRun_go (std := fun _ => True) (tg := .name 2) (body := exSs (callN Lw.tb (d - 1)) (match fn_law_lots_1039.body with | .cons _ (.cons (.for _ _ b) _) => b | _ => .nil))
    (fun k σ h' => ∃ (F : Nat) (w2 : Option T), σ = [some (.int p), some (.rf F), w2, none] ∧ h'[F]? = some (.lst ((lots0 k).map lotT)) ∧ Gs [] h h' ∧ h.length ≤ F)
    (fun _ _ _ _ => trivial) (ts := iota 0 p) (k := 0) (σ := [some (.int p), some (.rf h.length), none, none]) (h := h ++ [.lst [.tup []]]) ⟨h.length, none, rfl, by simp [lots0, lotT, nats], Gs.app _ _ _, Nat.le_refl _⟩
    (by
      rintro i u eu σ h2 ⟨F, w2, rfl, l2, g2, f2⟩
      obtain ⟨rfl, il⟩ := iota_get eu
      rw [Nat.zero_add] at *
      refine ⟨[some (.int p), some (.rf F), some (.int (0 + (i : Int))), none], (tak_name 2 _ _).trans rfl, ?_⟩
      have ll := lots0_len i
      have pi := pow6 i (by omega)
      obtain ⟨h3, e3, g3⟩ := lcRun_list (std := fun h' => lstOf h' (.rf F) = some ((lots0 i).map lotT)) (f := lcG (callN Lw.tb (d - 1)) [some (.int p), some (.rf F), some (.int (0 + (i : Int))), none] (.bin .add (.var 3) (.tup (.cons (.var 2) .nil))) (.name 3) .non [3]) lotT (fun l => lotT (l ++ [i])) (xs := lots0 i) (acc := []) (h := h2) (fun h' g => lstOf_gs g (by simp [lstOf, l2]) (fun _ _ q => by cases q))
        (fun l m h' g => by
          have lb := (lots0_mem m).2
          have ad := add_tup (xs := nats l) (ys := [.int (i : Int)]) (by rw [nats_len]; simp; omega)
          have ln : nats l ++ [.int (i : Int)] = nats (l ++ [i]) := by simp [nats]
          rw [ln] at ad
          refine ⟨h', ?_, Gs.refl _ _⟩
          have ad' : binI .add (lotT l) (.tup [.int (i : Int)]) = ret (lotT (l ++ [i])) := ad
          generalize lotT l = W at *
          generalize lotT (l ++ [i]) = W2 at *
          simp [lcG, ad']) (by simp [ll]; omega)
      rw [List.nil_append] at e3
      have ov : evSrc (callN Lw.tb (d - 1)) (.over (.var 1)) [some (.int p), some (.rf F), some (.int (0 + (i : Int))), none] h2 = .ok ⟨(lots0 i).map lotT, fun h' => lstOf h' (.rf F) = some ((lots0 i).map lotT)⟩ h2 := evSrc_over_lst (t := .rf F) (xs := (lots0 i).map lotT) rfl (by simp [lstOf, l2])
      have ec := lc_ok ov e3
      have ar := add_rf (h := h3 ++ [O.lst ((lots0 i).map fun l => lotT (l ++ [i]))]) (a := F) (b := h3.length) (xs := (lots0 i).map lotT) (ys := (lots0 i).map fun l => lotT (l ++ [i])) ((g3.trans (Gs.app _ _ _)).at l2 (by simp)) (by simp) (by rw [List.length_map, List.length_map]; omega)
      have ee : (lots0 i).map lotT ++ (lots0 i).map (fun l => lotT (l ++ [i])) = (lots0 (i + 1)).map lotT := by
        show _ = (lots0 i ++ (lots0 i).map (· ++ [i])).map lotT
        rw [List.map_append, List.map_map]; rfl
      rw [ee] at ar
      refine ⟨[some (.int p), some (.rf (h3 ++ [O.lst ((lots0 i).map fun l => lotT (l ++ [i]))]).length), some (.int (0 + (i : Int))), none], h3 ++ [O.lst ((lots0 i).map fun l => lotT (l ++ [i]))] ++ [.lst ((lots0 (i + 1)).map lotT)], .inl ?_, _, _, rfl, by simp, (g2.trans g3).trans ((Gs.app _ _ _).trans (Gs.app _ _ _)), by have := (g2.trans g3).1; simp; omega⟩
      generalize (lots0 i).map lotT = X at *
      generalize (lots0 (i + 1)).map lotT = U at *
      generalize ((lots0 i).map fun l => lotT (l ++ [i])) = Z at *
      simp at ar
      rw [Int.zero_add] at ec ⊢
      simp [fn_law_lots_1039, ec, ar])
  rw [iota_len, Nat.zero_add] at l1
  have ll := lots0_len p
  have pp := pow6 p (Nat.le_refl _)
  obtain ⟨F2, h2, e2, l2, g2, f2⟩ := by_size_ok (d := d - 1) (L := F) (by omega) l1 (by omega) (lots0_one p)
  rw [ll] at l2
  refine ⟨F2, h2, call_of Lw.tb_1039 (by omega) ⟨rfl, by decide⟩ (.inl ?_), l2, g1.trans g2, Nat.le_trans g1.1 f2⟩
  have s0 : exS (callN Lw.tb (d - 1)) (.asg (.name 1) (.lst (.cons (.tup .nil) .nil))) [some (.int p), none, none, none] h = .nx [some (.int p), some (.rf h.length), none, none] (h ++ [.lst [.tup []]]) := by simp
  have rk : evSrc (callN Lw.tb (d - 1)) (.rng1 (.var 0)) [some (.int p), some (.rf h.length), none, none] (h ++ [.lst [.tup []]]) = .ok ⟨iota 0 p, fun _ => True⟩ (h ++ [.lst [.tup []]]) := by
    have := evSrc_rng1_ok (cl := callN Lw.tb (d - 1)) (σ := [some (.int p), some (.rf h.length), none, none]) (a := .var 0) (h := h ++ [.lst [.tup []]]) (h1 := h ++ [.lst [.tup []]]) (j := p) rfl ⟨by omega, by omega⟩
    simpa using this
  show exSs _ (.cons (.asg _ _) (.cons (.for _ _ _) _)) _ _ = _
  refine (exSs_step s0).trans ((exSs_step (exS_for_ok rk e1)).trans ?_)
  simp [e2]
/-- by all lots -/
def lotF (t : Tm) (n : Nat) (ws : List Rat) (l : List Nat) : Rat := mnl (val (corner n l) t :: l.map fun i => ws[i]?.getD 0)
theorem rng_nats {cl : Nat → List T → M T} {σ : Env} {h h1 : Hs} {a : E} {n : Nat} (e : evE cl a σ h = .ok (.int n) h1) (hn : n ≤ 1000) : evSrc cl (.rng1 a) σ h = .ok ⟨nats (List.range n), fun _ => True⟩ h1 := by
  have := evSrc_rng1_ok (cl := cl) (σ := σ) (a := a) (h := h) (h1 := h1) (j := n) e ⟨by omega, by omega⟩
  have q : iota 0 (n : Int).toNat = nats (List.range n) := by unfold iota nats; simp
  rw [q] at this
  exact this
theorem nats_range_get {n i : Nat} {t : T} (e : (nats (List.range n))[i]? = some t) : t = .int (i : Int) ∧ i < n := by
  unfold nats at e
  rw [List.getElem?_map] at e
  rcases Nat.lt_or_ge i n with q | q
  · rw [List.getElem?_range q] at e; simp at e; exact ⟨e.symm, q⟩
  · rw [List.getElem?_eq_none (by simpa using q)] at e; cases e
theorem lots_len (p : Nat) (hp : p ≤ 6) : 1 ≤ (lots p).length ∧ (lots p).length ≤ 64 := by
  constructor
  · obtain ⟨l, ml, _⟩ := lots0_any (fun _ => true) p
    exact List.length_pos_of_mem (mem_lots.2 ml)
  · have a := bysz_len_le (lots0 p) (2 ^ p)
    have b := lots0_len p
    have : 2 ^ p ≤ 2 ^ 6 := Nat.pow_le_pow_right (by decide) hp
    unfold lots
    omega
theorem corner_num {n B : Nat} (hB : 1 ≤ B) (l : List Nat) : ∀ q ∈ corner n l, Num B q := by
  intro q m
  refine ⟨?_, ?_, corner_sz hB l q m⟩
  all_goals
    rw [← corner_range] at m
    obtain ⟨i, _, rfl⟩ := List.mem_map.1 m
    split <;> decide
theorem corner_val {n B : Nat} {t : Tm} (w : wf n B t) (hB : 1 ≤ B) (hsz : szb B t + 14 < 9000) (l : List Nat) : Num (szb B t) (val (corner n l) t) := by
  have := val_range (corner_len n l) (fun q m => ⟨(corner_num (B := 1) (by decide) l q m).1, (corner_num (B := 1) (by decide) l q m).2.1⟩) t w
  exact ⟨this.1, this.2, (value_ok (corner_len n l) (corner_sz hB l) hB t w hsz).2⟩
end CB

/-! Who wishes more, just, less: the package's lots and the law's. -/
namespace CB
open PySem
theorem lot_range (f : Rat → Bool) (ws : List Rat) : lot f ws = (List.range ws.length).filter fun i => f (ws[i]?.getD 0) := by
  have e : ws.zipIdx = (List.range ws.length).map fun i => (ws[i]?.getD 0, i) := by
    refine List.ext_getElem? fun i => ?_
    rw [List.getElem?_zipIdx, List.getElem?_map]
    rcases Nat.lt_or_ge i ws.length with q | q
    · rw [List.getElem?_range q, List.getElem?_eq_getElem q]
      simp
      rw [List.getElem?_eq_getElem q]; rfl
    · rw [List.getElem?_eq_none q, List.getElem?_eq_none (by simpa using q)]; rfl
  unfold lot
  rw [e, List.filter_map, List.map_map]
  simp only [Function.comp_def]
  exact List.map_id _
theorem lot_len (f : Rat → Bool) (ws : List Rat) : (lot f ws).length ≤ ws.length := by
  rw [lot_range]
  have := List.length_filter_le (fun i => f (ws[i]?.getD 0)) (List.range ws.length)
  simpa using this
/-- persons of a row that are so -/
theorem pick_ok {cl : Nat → List T → M T} {σ : Env} {h : Hs} {c : E} {v : Nat} {xs : List Nat} (p : Nat → Bool) (hl : xs.length ≤ 1000)
    (hf : ∀ i ∈ xs, ∀ h', Gs [] h h' → ∃ h'', evE cl c ((σ.set v none).set v (some (.int (i : Int)))) h' = .ok (.bl (p i)) h'' ∧ Gs [] h' h'') (hv : v < σ.length) :
    ∃ h1, lcRun (fun _ => True) (lcG cl σ (.var v) (.name v) (.som c) [v]) (nats xs) [] h = .ok (nats (xs.filter p)) h1 ∧ Gs [] h h1 := by
  obtain ⟨h1, e1, g1⟩ := lcRun_sel (std := fun _ => True) (f := lcG cl σ (.var v) (.name v) (.som c) [v]) (fun i : Nat => T.int (i : Int)) p (xs := xs) (acc := []) (h := h) (fun _ _ => trivial)
    (fun i m h' g => by
      obtain ⟨h'', e, g'⟩ := hf i m h' g
      refine ⟨h'', ?_, g'⟩
      rw [List.set_set] at e
      have hv' : ((σ.set v (some (T.int (i : Int))))[v]?).join = some (.int (i : Int)) := by simp [hv]
      cases q : p i with
      | true => rw [q] at e; simp [lcG, e, hv]
      | false => rw [q] at e; simp [lcG, e]) (by simp; omega)
  rw [List.nil_append] at e1
  exact ⟨h1, e1, g1⟩
theorem notIn_nats (h : Hs) (i : Nat) (l : List Nat) : cmpI .notIn (.int (i : Int)) (.tup (nats l)) h = some (!l.contains i) := by
  rw [cmp_notin, inI_nats]; rfl
def sideL (o : Rat) (ws : List Rat) : List Nat := (List.range ws.length).filter fun i => decide (ws[i]?.getD 0 < o)
def sideJ (o : Rat) (ws : List Rat) : List Nat := (List.range ws.length).filter fun i => decide (ws[i]?.getD 0 = o)
def sideM (o : Rat) (ws : List Rat) : List Nat := (List.range ws.length).filter fun i => decide (o < ws[i]?.getD 0)
theorem mem_side {f : Nat → Bool} {n i : Nat} : (((List.range n).filter f).contains i) = (decide (i < n) && f i) := by
  rw [Bool.eq_iff_iff, List.contains_iff_mem, List.mem_filter, List.mem_range, Bool.and_eq_true, decide_eq_true_eq]
end CB

/-! The package's way to all lots; plain. -/
namespace CB
open PySem
theorem dataLe_lot (l m : List Nat) : PySem.W.dataLe false lotD l m = true ↔ (l.map fun i : Nat => (i : Int)) ≤ (m.map fun i : Nat => (i : Int)) := by
  have e : PySem.W.dataLe false lotD l m = !PySem.W.dataLt (lotD m) (lotD l) := rfl
  have f : PySem.W.dataLt (lotD m) (lotD l) = decide ((m.map fun i : Nat => (i : Int)) < (l.map fun i : Nat => (i : Int))) := by
    have := PySem.W.dataLt_ints (m.map fun i : Nat => (i : Int)) (l.map fun i : Nat => (i : Int))
    rw [List.map_map, List.map_map] at this
    rw [← this]
    exact PySem.W.dataLt_tuple _ _
  rw [e, f]
  simp
theorem map_cast_inj : ∀ {l m : List Nat}, (l.map fun i : Nat => (i : Int)) = (m.map fun i : Nat => (i : Int)) → l = m
  | [], [], _ => rfl
  | [], _ :: _, h => by cases h
  | _ :: _, [], h => by cases h
  | x :: l, y :: m, h => by
    simp only [List.map_cons, List.cons.injEq] at h
    rw [map_cast_inj h.2, show x = y by omega]
theorem srtL_perm {xs ys : List (List Nat)} (p : xs.Perm ys) : srtL xs = srtL ys := by
  have tot : PySem.W.TotalLe (PySem.W.dataLe false lotD) := PySem.W.sortLe_total _ false _
  refine List.Perm.eq_of_pairwise (le := fun a b => PySem.W.dataLe false lotD a b = true) (fun a b _ _ h1 h2 => ?_) (PySem.W.sort_pairwise tot xs) (PySem.W.sort_pairwise tot ys) (((List.mergeSort_perm xs _).trans p).trans (List.mergeSort_perm ys _).symm)
  exact map_cast_inj (List.le_antisymm ((dataLe_lot a b).1 h1) ((dataLe_lot b a).1 h2))
def ext (p : Nat) (l : List Nat) : List (List Nat) := ((List.range p).filter fun i => l.isEmpty || decide (l.getLast?.getD 0 < i)).map fun i => l ++ [i]
noncomputable def lev (p : Nat) : Nat → List (List Nat)
  | 0 => [[]]
  | s + 1 => srtL ((lev p s).flatMap (ext p))
theorem ext_perm : ∀ p, p ≤ 6 → ∀ s, s < p → (((lots0 p).filter fun l => l.length == s).flatMap (ext p)).isPerm ((lots0 p).filter fun l => l.length == s + 1) = true := by decide +kernel
theorem lots0_zero : ∀ p, p ≤ 6 → (lots0 p).filter (fun l => l.length == 0) = [[]] := by decide +kernel
theorem lev_eq {p : Nat} (hp : p ≤ 6) : ∀ s, s ≤ p → lev p s = srtL ((lots0 p).filter fun l => l.length == s)
  | 0, _ => by
    rw [lots0_zero p hp]
    simp [lev, srtL]
  | s + 1, hs => by
    have ih := lev_eq hp s (by omega)
    show srtL ((lev p s).flatMap (ext p)) = _
    rw [ih]
    refine srtL_perm (List.Perm.trans (List.Perm.flatMap_right _ (List.mergeSort_perm _ _)) ?_)
    exact List.isPerm_iff.1 (ext_perm p hp s (by omega))
noncomputable def alots (p k : Nat) : List (List Nat) := (List.range (k + 1)).flatMap (lev p)
theorem alots_succ (p k : Nat) : alots p (k + 1) = alots p k ++ lev p (k + 1) := by
  unfold alots
  rw [List.range_succ, List.flatMap_append]
  simp
theorem bysz_more {p : Nat} : ∀ k, p + 1 ≤ k → bysz (lots0 p) k = bysz (lots0 p) (p + 1)
  | 0, h => by omega
  | k + 1, h => by
    rcases Nat.lt_or_ge k (p + 1) with q | q
    · rw [show k = p by omega]
    · rw [bysz_succ, bysz_more k q]
      have : (lots0 p).filter (fun l => l.length == k) = [] := by
        rw [List.filter_eq_nil_iff]
        intro l m
        have := (lots0_mem m).2
        simp; omega
      rw [this]
      simp [srtL]
theorem alots_eq {p : Nat} (hp : p ≤ 6) : alots p p = lots p := by
  have key : ∀ k, k ≤ p → alots p k = bysz (lots0 p) (k + 1) := by
    intro k
    induction k with
    | zero =>
      intro _
      rw [bysz_succ]
      unfold alots bysz
      have := lev_eq hp 0 (by omega)
      simp [this]
    | succ k ih =>
      intro hk
      rw [alots_succ, ih (by omega), bysz_succ (lots0 p) (k + 1), lev_eq hp (k + 1) hk]
  rw [key p (Nat.le_refl _)]
  unfold lots
  rw [bysz_more (2 ^ p) (by have := Nat.lt_two_pow_self (n := p); omega)]
theorem lev_len {p s : Nat} (hp : p ≤ 6) (hs : s ≤ p) : (lev p s).length ≤ 64 := by
  rw [lev_eq hp s hs]
  unfold srtL
  rw [List.length_mergeSort]
  have a := List.length_filter_le (fun l : List Nat => l.length == s) (lots0 p)
  have b := lots0_len p
  have : 2 ^ p ≤ 2 ^ 6 := Nat.pow_le_pow_right (by decide) hp
  omega
theorem lev_mem {p s : Nat} (hp : p ≤ 6) (hs : s ≤ p) {l : List Nat} (m : l ∈ lev p s) : l.length = s ∧ ∀ i ∈ l, i < p := by
  rw [lev_eq hp s hs] at m
  obtain ⟨a, b⟩ := List.mem_filter.1 (mem_srtL.1 m)
  exact ⟨by simpa using b, (lots0_mem a).1⟩
theorem flat_len {f : List Nat → List (List Nat)} {c : Nat} (h : ∀ l, (f l).length ≤ c) : ∀ xs : List (List Nat), (xs.flatMap f).length ≤ xs.length * c
  | [] => by simp
  | x :: xs => by
    have := flat_len h xs
    have := h x
    simp only [List.flatMap_cons, List.length_append, List.length_cons, Nat.succ_mul]
    omega
theorem ext_len (p : Nat) (l : List Nat) : (ext p l).length ≤ p := by
  unfold ext
  rw [List.length_map]
  have := List.length_filter_le (fun i => l.isEmpty || decide (l.getLast?.getD 0 < i)) (List.range p)
  simpa using this
/-- the first that holds -/
theorem find_head {P : List Nat → Bool} (xs : List (List Nat)) : (xs.filter P).head? = xs.find? P := List.head?_filter
end CB

/-! The package's lots, corners; who holds, who presses. -/
namespace CB
open PySem
theorem metI_extend {h : Hs} {a b : Nat} {xs ys : List T} (e : h[a]? = some (.lst xs)) (e2 : h[b]? = some (.lst ys)) (hl : xs.length + ys.length ≤ 1000000) : metI .extend (.rf a) [.rf b] h = .ok .non (h.set a (.lst (xs ++ ys))) := by
  unfold metI
  dsimp only
  rw [e]
  dsimp only
  rw [e2]
  dsimp only
  rw [if_pos (show xs.length + ys.length ≤ SZ by show _ ≤ 16777216; omega)]
  rfl
def lotsBody : Ss := match fn_all_lots_51.body with
  | .cons _ (.cons _ (.cons (.for _ _ b) _)) => b
  | _ => .nil
def lotsIn : Ss := match lotsBody with
  | .cons _ (.cons (.for _ _ b) _) => b
  | _ => .nil
theorem lots_in {d p k V L F : Nat} {h : Hs} {w3 w5 : Option T} (hp : p ≤ 6) (hk : k < p) (eV : h[V]? = some (.lst ((lev p k).map lotT))) (eL : h[L]? = some (.lst [])) (LV : L ≠ V) :
    ∃ (h' : Hs) (w5' : Option T), forRun (fun h' => lstOf h' (.rf V) = some ((lev p k).map lotT)) (.name 5) (exSs (callN Lw.tb d) lotsIn) ((lev p k).map lotT) [some (.int p), some (.rf F), some (.rf V), w3, some (.rf L), w5, none] h = .nx [some (.int p), some (.rf F), some (.rf V), w3, some (.rf L), w5', none] h' ∧ h'[L]? = some (.lst (((lev p k).flatMap (ext p)).map lotT)) ∧ Gs [L] h h' := by
  obtain ⟨σ', h', er, w5', rfl, e1, g1⟩ := forRun_go (std := fun h' => lstOf h' (.rf V) = some ((lev p k).map lotT)) (tg := .name 5) (body := exSs (callN Lw.tb d) lotsIn)
    (fun j σ h' => ∃ w5, σ = [some (.int p), some (.rf F), some (.rf V), w3, some (.rf L), w5, none] ∧ h'[L]? = some (.lst ((((lev p k).take j).flatMap (ext p)).map lotT)) ∧ Gs [L] h h')
    (fun j σ h' => by
      rintro ⟨_, _, _, g⟩
      exact lstOf_gs g (by simp [lstOf, eV]) (fun b q => by cases q; simp; exact fun q => LV q.symm)) (ts := (lev p k).map lotT) (k := 0) (σ := [some (.int p), some (.rf F), some (.rf V), w3, some (.rf L), w5, none]) (h := h) ⟨w5, rfl, by simpa using eL, Gs.refl _ _⟩
    (by
      rintro j u eu σ h2 ⟨w5, rfl, e2, g2⟩
      rw [List.getElem?_map] at eu
      obtain ⟨l, el, rfl⟩ := Option.map_eq_some_iff.1 eu
      have ml := List.mem_of_getElem? el
      obtain ⟨ll, lb⟩ := lev_mem hp (by omega) ml
      have jl : j < (lev p k).length := (List.getElem?_eq_some_iff.1 el).1
      have vl := lev_len hp (show k ≤ p by omega)
      rw [Nat.zero_add] at *
      refine ⟨[some (.int p), some (.rf F), some (.rf V), w3, some (.rf L), some (lotT l), none], (tak_name 5 _ _).trans rfl, ?_⟩
      obtain ⟨h3, e3, g3⟩ := lcRun_pick (std := fun _ => True) (f := lcG (callN Lw.tb d) [some (.int p), some (.rf F), some (.rf V), w3, some (.rf L), some (lotT l), none] (.bin .add (.var 5) (.tup (.cons (.var 6) .nil))) (.name 6) (.som (.or (.cmp .eq (.blt .len (.cons (.var 5) .nil)) (.cst (.int 0))) (.cmp .gt (.var 6) (.idx (.var 5) (.neg (.cst (.int 1))))))) [6])
        (fun i : Nat => T.int (i : Int)) (fun i : Nat => lotT (l ++ [i])) (fun i => l.isEmpty || decide (l.getLast?.getD 0 < i)) (xs := List.range p) (acc := []) (h := h2) (fun _ _ => trivial)
        (fun i mi h' g => by
          have ln := lotT_len h' l
          have ad : binI .add (lotT l) (.tup [.int (i : Int)]) = ret (lotT (l ++ [i])) := by
            have := add_tup (xs := nats l) (ys := [.int (i : Int)]) (by rw [nats_len]; simp; omega)
            have q : nats l ++ [.int (i : Int)] = nats (l ++ [i]) := by simp [nats]
            rw [q] at this
            exact this
          refine ⟨h', ?_, Gs.refl _ _⟩
          cases hl : l with
          | nil =>
            rw [hl] at ln ad
            generalize lotT [] = W at *
            generalize lotT ([] ++ [i]) = W2 at *
            simp [lcG, ln, ad]
          | cons y ys =>
            have la : idxI (lotT l) (.int (-1)) h' = .ok (.int (l.getLast?.getD 0 : Nat)) h' := by
              show idxI (.tup (nats l)) _ _ = _
              rw [idxI_ap, seqOf_tup]
              have : L2.atI (nats l) (-1) = some (.int (l.getLast?.getD 0 : Nat)) := by
                rw [atI_m1 (by rw [hl]; simp [nats]), nats_len]
                have e : l.getLast? = some (l.getLast?.getD 0) := by rw [hl]; simp [List.getLast?_cons]
                rw [List.getLast?_eq_getElem?] at e
                unfold nats
                rw [List.getElem?_map, e, List.getLast?_eq_getElem?]
                simp
              simp only [Option.bind_some, this]
            rw [← hl]
            have ne : ¬ l.length = 0 := by rw [hl]; simp
            have em : l.isEmpty = false := by rw [hl]; rfl
            have lz : ¬ l = [] := by rw [hl]; simp
            generalize l.getLast?.getD 0 = z at *
            generalize l.length = n at *
            generalize lotT (l ++ [i]) = W2 at *
            generalize lotT l = W at *
            by_cases c : z < i
            · simp [-idxI_ap, lcG, ln, ad, la, ne, em, c]
            · simp [-idxI_ap, lcG, ln, ad, la, ne, em, c]) (by simp; omega)
      rw [List.nil_append] at e3
      have ee : ((List.range p).filter fun i => l.isEmpty || decide (l.getLast?.getD 0 < i)).map (fun i => lotT (l ++ [i])) = (ext p l).map lotT := by
        unfold ext; rw [List.map_map]; rfl
      rw [ee] at e3
      have ec := lc_ok (rng_nats (cl := callN Lw.tb d) (σ := [some (.int p), some (.rf F), some (.rf V), w3, some (.rf L), some (lotT l), none]) (a := .var 0) (h := h2) (h1 := h2) (n := p) rfl (by omega)) (show lcRun _ _ (nats (List.range p)) [] h2 = _ from e3)
      have e3L := (g3.trans (Gs.app _ h3 [.lst ((ext p l).map lotT)])).at e2 (by simp)
      have fl := flat_len (ext_len p) ((lev p k).take j)
      have el2 := ext_len p l
      have tl : ((lev p k).take j).length ≤ 64 := by rw [List.length_take]; omega
      have me := metI_extend e3L (b := h3.length) (ys := (ext p l).map lotT) (by simp) (by
        rw [List.length_map, List.length_map]
        have : ((lev p k).take j).length * p ≤ 64 * 6 := Nat.mul_le_mul tl hp
        omega)
      have fe : (((lev p k).take j).flatMap (ext p)).map lotT ++ (ext p l).map lotT = (((lev p k).take (j + 1)).flatMap (ext p)).map lotT := by
        rw [take_succ' el, List.flatMap_append]; simp
      rw [fe] at me
      have hb : L < (h3 ++ [O.lst ((ext p l).map lotT)]).length := (List.getElem?_eq_some_iff.1 e3L).1
      have l2 : lstOf h2 (.rf L) = some ((((lev p k).take j).flatMap (ext p)).map lotT) := by simp [lstOf, e2]
      refine ⟨[some (.int p), some (.rf F), some (.rf V), w3, some (.rf L), some (lotT l), none], (h3 ++ [O.lst ((ext p l).map lotT)]).set L (.lst ((((lev p k).take (j + 1)).flatMap (ext p)).map lotT)), .inl ?_, _, rfl, by rw [List.getElem?_set_self hb], (g2.trans (g3.trans (Gs.app _ _ _)).nil).trans (Gs.set _ _ _ (by simp))⟩
      generalize (((lev p k).take j).flatMap (ext p)).map lotT = X1 at *
      generalize (((lev p k).take (j + 1)).flatMap (ext p)).map lotT = X2 at *
      generalize (ext p l).map lotT = X3 at *
      generalize lotT l = W at *
      simp [lotsIn, lotsBody, fn_all_lots_51, l2, ec, me])
  rw [List.length_map, Nat.zero_add, List.take_length] at e1
  exact ⟨h', w5', er, e1, g1⟩
theorem all_lots_ok {d p : Nat} (hd : 1 ≤ d) (hp : p ≤ 6) (h : Hs) :
    ∃ (F : Nat) (h' : Hs), callN Lw.tb d 51 [.int p] h = .ok (.rf F) h' ∧ h'[F]? = some (.lst ((lots p).map lotT)) ∧ Gs [] h h' ∧ h.length ≤ F := by
  obtain ⟨σ', h1, er, V, w3, w4, w5, rfl, e1, eV1, FV, g1⟩ := forRun_go (std := fun _ => True) (tg := .name 3) (body := exSs (callN Lw.tb (d - 1)) lotsBody)
    (fun k σ h' => ∃ (V : Nat) (w3 w4 w5 : Option T), σ = [some (.int p), some (.rf h.length), some (.rf V), w3, w4, w5, none] ∧ h'[h.length]? = some (.lst ((alots p k).map lotT)) ∧ h'[V]? = some (.lst ((lev p k).map lotT)) ∧ h.length ≠ V ∧ Gs [h.length] (h ++ [.lst [.tup []]] ++ [.lst [.tup []]]) h')
    (fun _ _ _ _ => trivial) (ts := nats (List.range p)) (k := 0) (σ := [some (.int p), some (.rf h.length), some (.rf (h.length + 1)), none, none, none, none]) (h := h ++ [.lst [.tup []]] ++ [.lst [.tup []]]) ⟨h.length + 1, none, none, none, rfl, by simp [alots, lev, lotT, nats], by simp [lev, lotT, nats], by omega, Gs.refl _ _⟩
    (by
      rintro k u eu σ h2 ⟨V, w3, w4, w5, rfl, e2, eV2, FV, g2⟩
      obtain ⟨rfl, kl⟩ := nats_range_get eu
      rw [Nat.zero_add] at *
      refine ⟨[some (.int p), some (.rf h.length), some (.rf V), some (.int k), w4, w5, none], (tak_name 3 _ _).trans rfl, ?_⟩
      have Vl : V < h2.length := (List.getElem?_eq_some_iff.1 eV2).1
      have Fl : h.length < h2.length := (List.getElem?_eq_some_iff.1 e2).1
      obtain ⟨h3, w5', e3, l3, g3⟩ := lots_in (d := d - 1) (p := p) (k := k) (V := V) (L := h2.length) (F := h.length) (h := h2 ++ [.lst []]) (w3 := some (.int k)) (w5 := w5) hp kl ((Gs.app [] h2 _).at eV2 (by simp)) (by simp) (by omega)
      have so := sorted_blt (h := h3) (a := h2.length) (xs := (lev p k).flatMap (ext p)) l3 (.inl fun l m => by
        obtain ⟨y, _, my⟩ := List.mem_flatMap.1 m
        unfold ext at my
        obtain ⟨i, _, rfl⟩ := List.mem_map.1 my
        simp)
      have so' : bltI .sorted [.rf h2.length] h3 = .ok (.rf h3.length) (h3 ++ [.lst ((lev p (k + 1)).map lotT)]) := so
      have e3F := (((Gs.app [] h2 [.lst []]).nil (B := [h2.length])).trans g3).at e2 (by simp; omega)
      have ll := lev_len hp (show k + 1 ≤ p by omega)
      have al : (alots p k).length ≤ 448 := by
        have key : ∀ k, k ≤ p → (alots p k).length ≤ (k + 1) * 64 := by
          intro k
          induction k with
          | zero => intro _; simp [alots, lev]
          | succ k ih =>
            intro hk
            rw [alots_succ, List.length_append]
            have := ih (by omega)
            have := lev_len hp hk
            omega
        have := key k (by omega)
        omega
      have me := metI_extend ((Gs.app [] h3 [.lst ((lev p (k + 1)).map lotT)]).at e3F (by simp)) (b := h3.length) (ys := (lev p (k + 1)).map lotT) (by simp) (by rw [List.length_map, List.length_map]; omega)
      have fe : (alots p k).map lotT ++ (lev p (k + 1)).map lotT = (alots p (k + 1)).map lotT := by rw [alots_succ, List.map_append]
      rw [fe] at me
      have hb : h.length < h3.length := (List.getElem?_eq_some_iff.1 e3F).1
      have lF : lstOf h3 (.rf h.length) = some ((alots p k).map lotT) := by simp [lstOf, e3F]
      refine ⟨[some (.int p), some (.rf h.length), some (.rf h3.length), some (.int k), some (.rf h2.length), w5', none], (h3 ++ [O.lst ((lev p (k + 1)).map lotT)]).set h.length (.lst ((alots p (k + 1)).map lotT)), .inl ?_, _, _, _, _, rfl, by rw [List.getElem?_set_self (by simp; omega)], ?_, by omega, ?_⟩
      · have s0 : exS (callN Lw.tb (d - 1)) (.asg (.name 4) (.lst .nil)) [some (.int p), some (.rf h.length), some (.rf V), some (.int k), w4, w5, none] h2 = .nx [some (.int p), some (.rf h.length), some (.rf V), some (.int k), some (.rf h2.length), w5, none] (h2 ++ [.lst []]) := by simp
        have ov : evSrc (callN Lw.tb (d - 1)) (.over (.var 2)) [some (.int p), some (.rf h.length), some (.rf V), some (.int k), some (.rf h2.length), w5, none] (h2 ++ [.lst []]) = .ok ⟨(lev p k).map lotT, fun h' => lstOf h' (.rf V) = some ((lev p k).map lotT)⟩ (h2 ++ [.lst []]) := evSrc_over_lst (t := .rf V) rfl (by
          have := (Gs.app [] h2 [.lst []]).at eV2 (by simp)
          simp [lstOf, this])
        show exSs _ (.cons (.asg _ _) (.cons (.for _ _ _) _)) _ _ = _
        refine (exSs_step s0).trans ((exSs_step (exS_for_ok ov e3)).trans ?_)
        have lF2 : lstOf (h3 ++ [.lst ((lev p (k + 1)).map lotT)]) (.rf h.length) = some ((alots p k).map lotT) := by
          have := (Gs.app [] h3 [.lst ((lev p (k + 1)).map lotT)]).at e3F (by simp)
          simp [lstOf, this]
        generalize (lev p (k + 1)).map lotT = X at *
        generalize (alots p (k + 1)).map lotT = X2 at *
        generalize (alots p k).map lotT = X3 at *
        simp [so', lF2, me]
      · rw [List.getElem?_set_ne (by omega)]; simp
      · exact ((g2.trans ((Gs.app [] h2 [.lst []]).nil)).new g3 (fun i m => .inr (by rw [List.mem_singleton] at m; rw [m]; exact g2.1))).trans ((Gs.app _ _ _).trans (Gs.set _ _ _ (by simp))))
  rw [nats_len, List.length_range, Nat.zero_add, alots_eq hp] at e1
  refine ⟨h.length, h1, call_of Lw.tb_51 (by omega) ⟨rfl, by decide⟩ (.inl ?_), e1, ((Gs.app [] h _).trans (Gs.app _ _ _)).new g1 (fun i m => .inr (by simp at m; omega)), Nat.le_refl _⟩
  have s0 : exS (callN Lw.tb (d - 1)) (.asg (.name 1) (.lst (.cons (.tup .nil) .nil))) [some (.int p), none, none, none, none, none, none] h = .nx [some (.int p), some (.rf h.length), none, none, none, none, none] (h ++ [.lst [.tup []]]) := by simp
  have s1 : exS (callN Lw.tb (d - 1)) (.asg (.name 2) (.lst (.cons (.tup .nil) .nil))) [some (.int p), some (.rf h.length), none, none, none, none, none] (h ++ [.lst [.tup []]]) = .nx [some (.int p), some (.rf h.length), some (.rf (h.length + 1)), none, none, none, none] (h ++ [.lst [.tup []]] ++ [.lst [.tup []]]) := by simp
  have rk := rng_nats (cl := callN Lw.tb (d - 1)) (σ := [some (.int p), some (.rf h.length), some (.rf (h.length + 1)), none, none, none, none]) (a := .var 0) (h := h ++ [.lst [.tup []]] ++ [.lst [.tup []]]) (h1 := h ++ [.lst [.tup []]] ++ [.lst [.tup []]]) (n := p) rfl (by omega)
  show exSs _ (.cons (.asg _ _) (.cons (.asg _ _) (.cons (.for _ _ _) _))) _ _ = _
  refine (exSs_step s0).trans ((exSs_step s1).trans ((exSs_step (exS_for_ok rk er)).trans ?_))
  simp
theorem corner_of_ok {d n B a : Nat} {t : Tm} {h : Hs} (ra : RuleAt a n t h) (w : wf n B t) (hB : 1 ≤ B) (hsz : szb B t + 14 < 9000) (hd : dep t + 5 ≤ d) (hn : 1 ≤ n ∧ n ≤ 1000) (l : List Nat) :
    ∃ h', callN Lw.tb d 52 [.rf a, lotT l] h = .ok (fr (val (corner n l) t)) h' ∧ Gs [] h h' := by
  have dp := dep_pos t
  obtain ⟨h1, e1, g1⟩ := ends_ok (d := d - 1) (ls := List.replicate n 0) (hs := List.replicate n 1) (l := l) (by omega) (by simp) (by simp; omega) h
  obtain ⟨h2, e2, g2⟩ := (value_ok (corner_len n l) (corner_sz hB l) hB t w hsz).1 (d - 1) (by omega) h1
  refine ⟨h2, call_of Lw.tb_52 (by omega) ⟨rfl, by decide⟩ (.inl ?_), g1.trans g2⟩
  have r0 : binI .mul (.tup [.tup [.int 0, .int 1]]) (.int n) = ret (.tup (frs (List.replicate n 0))) := rep_tup (q := 0) hn
  have r1 : binI .mul (.tup [.tup [.int 1, .int 1]]) (.int n) = ret (.tup (frs (List.replicate n 1))) := rep_tup (q := 1) hn
  have e1' : callN Lw.tb (d - 1) 27 [.tup (frs (List.replicate n 0)), .tup (frs (List.replicate n 1)), lotT l] h = .ok (.tup (frs (corner n l))) h1 := e1
  have at1 := att_term ra
  have ap := att_people ra
  generalize T.tup (frs (corner n l)) = W at *
  generalize T.tup (frs (List.replicate n 0)) = W1 at *
  generalize T.tup (frs (List.replicate n 1)) = W2 at *
  generalize lotT l = W3 at *
  simp [fn_corner_of_52, at1, ap, r0, r1, e1', e2]
/-- a for that returns what it finds first -/
theorem forRun_find {α : Type} {std : Hs → Prop} {tg : Tg} {body : Env → Hs → Out} (g : α → T) (r : α → T) (P : α → Bool) (I : Env → Hs → Prop) (J : Hs → Prop) (hs : ∀ σ h, I σ h → std h) :
    ∀ {xs : List α} {σ : Env} {h : Hs} {y : α}, xs.find? P = some y → I σ h → (∀ x ∈ xs, ∀ σ h, I σ h → ∃ σ1, tak tg (g x) σ = some σ1 ∧ ((P x = true ∧ ∃ h2, body σ1 h = .ret (r x) h2 ∧ J h2) ∨ (P x = false ∧ ∃ σ2 h2, body σ1 h = .nx σ2 h2 ∧ I σ2 h2))) →
    ∃ h', forRun std tg body (xs.map g) σ h = .ret (r y) h' ∧ J h'
  | [], σ, h, y, e, _, _ => by cases e
  | x :: xs, σ, h, y, e, i0, hf => by
    obtain ⟨σ1, e1, c⟩ := hf x List.mem_cons_self σ h i0
    rw [List.map_cons, forRun_cons (hs _ _ i0) e1]
    rcases c with ⟨c, h2, e2, j⟩ | ⟨c, σ2, h2, e2, i2⟩
    · rw [List.find?_cons, c] at e
      cases e
      exact ⟨h2, by rw [e2], j⟩
    · rw [List.find?_cons, c] at e
      obtain ⟨h', e3, j⟩ := forRun_find g r P I J hs (xs := xs) (σ := σ2) (h := h2) e i2 fun y m => hf y (List.mem_cons_of_mem _ m)
      exact ⟨h', by rw [e2]; exact e3, j⟩
end CB

/-! Flags and picks of persons, small steps. -/
namespace CB
open PySem
theorem blt_any {h : Hs} {α : Type} (f : α → Bool) {t : T} {xs : List α} (e : lstOf h t = some (xs.map fun x => .bl (f x))) : bltI .any [t] h = .ok (.bl (xs.any f)) h := by
  simp [bltI, e]
def others (p : Nat) (l : List Nat) : List Nat := (List.range p).filter fun i => !l.contains i
/-- flags of a row of persons -/
theorem flags_ok {cl : Nat → List T → M T} {σ : Env} {h : Hs} {c : E} {v s : Nat} {xs : List Nat} (p : Nat → Bool) (hl : xs.length ≤ 1000) (hs : evE cl (.var s) σ h = .ok (lotT xs) h)
    (hf : ∀ i ∈ xs, ∀ h', evE cl c ((σ.set v none).set v (some (.int (i : Int)))) h' = .ok (.bl (p i)) h') :
    ∃ h1, evE cl (.lc c (.name v) (.over (.var s)) .non [v]) σ h = .ok (.rf h1.length) (h1 ++ [.lst (xs.map fun i => .bl (p i))]) ∧ Gs [] h h1 := by
  obtain ⟨h1, e1, g1⟩ := lcRun_list (std := fun _ => True) (f := lcG cl σ c (.name v) .non [v]) (fun i : Nat => T.int (i : Int)) (fun i => .bl (p i)) (xs := xs) (acc := []) (h := h) (fun _ _ => trivial)
    (fun i m h' g => by
      have e := hf i m h'
      rw [List.set_set] at e
      exact ⟨h', by simp [lcG, e], Gs.refl _ _⟩) (by simp; omega)
  rw [List.nil_append] at e1
  exact ⟨h1, lc_ok (evSrc_over_tup (xs := nats xs) hs) e1, g1⟩
theorem others_ok {cl : Nat → List T → M T} {σ : Env} {h h0 : Hs} {v s n : Nat} {a : E} {l : List Nat} (hn : n ≤ 1000) (ha : evE cl a σ h = .ok (.int n) h) (hv : v < σ.length) (hs : ∀ i : Nat, ∀ h', evE cl (.var s) ((σ.set v none).set v (some (.int (i : Int)))) h' = .ok (lotT l) h') :
    ∃ h1, evE cl (.blt .tuple (.cons (.lc (.var v) (.name v) (.rng1 a) (.som (.cmp .notIn (.var v) (.var s))) [v]) .nil)) σ h = .ok (lotT (others n l)) h1 ∧ Gs [] h h1 := by
  obtain ⟨h1, e1, g1⟩ := pick_ok (cl := cl) (σ := σ) (h := h) (c := .cmp .notIn (.var v) (.var s)) (v := v) (xs := List.range n) (fun i => !l.contains i) (by simp; omega)
    (fun i m h' g => by
      have nn : cmpI .notIn (.int (i : Int)) (lotT l) h' = some (!l.contains i) := notIn_nats h' i l
      have e := hs i h'
      have ev : evE cl (.var v) ((σ.set v none).set v (some (.int (i : Int)))) h' = .ok (.int (i : Int)) h' := by simp [hv]
      refine ⟨h', ?_, Gs.refl _ _⟩
      rw [evE_cmp, bnd_ok_ (e := ev), bnd_ok_ (e := e)]
      simp [-cmp_notin, nn]) hv
  have ec := lc_ok (rng_nats (cl := cl) (σ := σ) (a := a) ha hn) e1
  refine ⟨h1 ++ [.lst (nats (others n l))], ?_, g1.trans (Gs.app _ _ _)⟩
  have bt : bltI .tuple [.rf h1.length] (h1 ++ [.lst (nats (others n l))]) = .ok (lotT (others n l)) (h1 ++ [.lst (nats (others n l))]) := blt_tuple_lst (lst_new _ _)
  have ec' : evE cl (.lc (.var v) (.name v) (.rng1 a) (.som (.cmp .notIn (.var v) (.var s))) [v]) σ h = .ok (.rf h1.length) (h1 ++ [.lst (nats (others n l))]) := ec
  simp [ec', bt]
theorem find_congr' {P Q : List Nat → Bool} {xs : List (List Nat)} (h : ∀ x ∈ xs, P x = Q x) : xs.find? P = xs.find? Q := by
  rw [← find_head, ← find_head, List.filter_congr h]
theorem ifs_ret {cl : Nat → List T → M T} {σ : Env} {h h1 h2 : Hs} {C e : E} {t : T} (e1 : evE cl C σ h = .ok (.bl true) h1) (e2 : evE cl e σ h1 = .ok t h2) : exS cl (.ifs C (.cons (.ret e) .nil) .nil) σ h = .ret t h2 := by
  simp [e1, e2]
theorem sel_ok {cl : Nat → List T → M T} {σ : Env} {h h1 h2 h3 : Hs} {C1 C2 : E} {A : S} {k1 k2 : Bool} (e1 : evE cl C1 σ h = .ok (.bl k1) h1) (e2 : k1 = true → evE cl C2 σ h1 = .ok (.bl k2) h2) (eA : k1 = true → k2 = true → exS cl A σ h2 = .nx σ h3) :
    ∃ h4, exS cl (.ifs C1 (.cons (.ifs C2 (.cons A .nil) .nil) .nil) .nil) σ h = .nx σ h4 ∧ (((k1 && k2) = true ∧ h4 = h3) ∨ ((k1 && k2) = false ∧ (h4 = h1 ∨ h4 = h2))) := by
  cases k1 with
  | false => exact ⟨h1, by simp [e1], .inr ⟨rfl, .inl rfl⟩⟩
  | true =>
    have e2' := e2 rfl
    cases k2 with
    | false => exact ⟨h2, by simp [e1, e2'], .inr ⟨rfl, .inr rfl⟩⟩
    | true =>
      have eA' := eA rfl rfl
      exact ⟨h3, by simp [e1, e2', eA'], .inl ⟨rfl, rfl⟩⟩
theorem count_ok {cl : Nat → List T → M T} {σ : Env} {h : Hs} {c : E} {v s : Nat} {xs : List Nat} (p : Nat → Bool) (hl : xs.length ≤ 1000) (hs : evE cl (.var s) σ h = .ok (lotT xs) h)
    (hf : ∀ i ∈ xs, ∀ h', Gs [] h h' → ∃ h'', evE cl c ((σ.set v none).set v (some (.int (i : Int)))) h' = .ok (.bl (p i)) h'' ∧ Gs [] h' h'') (hv : v < σ.length) :
    ∃ h1, evE cl (.cmp .eq (.blt .len (.cons (.lc (.var v) (.name v) (.over (.var s)) (.som c) [v]) .nil)) (.cst (.int 0))) σ h = .ok (.bl (xs.filter p).isEmpty) h1 ∧ Gs [] h h1 := by
  obtain ⟨h1, e1, g1⟩ := pick_ok (cl := cl) (σ := σ) (h := h) (c := c) (v := v) (xs := xs) p hl hf hv
  have ec := lc_ok (evSrc_over_tup (xs := nats xs) hs) e1
  have bl := blt_len_lst (lst_new h1 (nats (xs.filter p)))
  refine ⟨h1 ++ [.lst (nats (xs.filter p))], ?_, g1.trans (Gs.app _ _ _)⟩
  have ec' : evE cl (.lc (.var v) (.name v) (.over (.var s)) (.som c) [v]) σ h = .ok (.rf h1.length) (h1 ++ [.lst (nats (xs.filter p))]) := ec
  have e2 : evE cl (.blt .len (.cons (.lc (.var v) (.name v) (.over (.var s)) (.som c) [v]) .nil)) σ h = .ok (.int ((xs.filter p).length : Nat)) (h1 ++ [.lst (nats (xs.filter p))]) := by
    rw [nats_len] at bl
    simp [ec', bl]
  rw [evE_cmp, bnd_ok_ (e := e2)]
  cases q : xs.filter p with
  | nil => simp
  | cons y ys =>
    have : ¬ (((y :: ys).length : Nat) : Int) = 0 := by simp; omega
    generalize ((y :: ys).length : Int) = n at *
    simp [this]
def optT : Option (List Nat) → T
  | none => .non
  | some l => lotT l
theorem optT_pt (o : Option (List Nat)) : Pt (optT o) := by
  cases o with
  | none => exact ⟨rfl, by show 0 ≤ 64; decide⟩
  | some l => exact lotT_pt l
theorem lotT_inj {l m : List Nat} (h : lotT l = lotT m) : l = m := by
  have h1 : nats l = nats m := T.tup.inj h
  clear h
  induction l generalizing m with
  | nil => cases m with | nil => rfl | cons _ _ => cases h1
  | cons x l ih => cases m with
    | nil => cases h1
    | cons y m =>
      simp only [nats, List.map_cons, List.cons.injEq, T.int.injEq] at h1
      rw [ih h1.2, show x = y by omega]
theorem eqI_lo (h : Hs) (l : List Nat) (o : Option (List Nat)) : eqI h (lotT l) (optT o) = some (decide (o = some l)) := by
  by_cases c : o = some l
  · subst c
    rw [decide_eq_true rfl]
    exact eqI_same h (lotT_pt l)
  · rw [decide_eq_false c]
    refine eqI_other h (lotT_pt l) (optT_pt o) fun q => ?_
    cases o with
    | none => cases q
    | some m => exact c (by rw [lotT_inj q])
theorem eqI_bl (h : Hs) (a b : Bool) : eqI h (.bl a) (.bl b) = some (a == b) := by
  simp [eqI, datS, dat, SeqAt.shaped, PyData.canLay0, PyData.depth, PyData.eqv]
/-- a for that returns what it finds first, or goes through -/
theorem forRun_first {α : Type} {std : Hs → Prop} {tg : Tg} {body : Env → Hs → Out} (g : α → T) (r : α → T) (P : α → Bool) (I : Env → Hs → Prop) (J : Hs → Prop) (hs : ∀ σ h, I σ h → std h) (hJ : ∀ σ h, I σ h → J h) :
    ∀ {xs : List α} {σ : Env} {h : Hs}, I σ h → (∀ x ∈ xs, ∀ σ h, I σ h → ∃ σ1, tak tg (g x) σ = some σ1 ∧ ((P x = true ∧ ∃ h2, body σ1 h = .ret (r x) h2 ∧ J h2) ∨ (P x = false ∧ ∃ σ2 h2, body σ1 h = .nx σ2 h2 ∧ I σ2 h2))) →
    ∃ h', J h' ∧ ((∃ y, xs.find? P = some y ∧ forRun std tg body (xs.map g) σ h = .ret (r y) h') ∨ (xs.find? P = none ∧ ∃ σ', forRun std tg body (xs.map g) σ h = .nx σ' h'))
  | [], σ, h, i0, _ => ⟨h, hJ _ _ i0, .inr ⟨rfl, σ, by rw [List.map_nil, forRun_nil (hs _ _ i0)]⟩⟩
  | x :: xs, σ, h, i0, hf => by
    obtain ⟨σ1, e1, c⟩ := hf x List.mem_cons_self σ h i0
    rw [List.map_cons, forRun_cons (hs _ _ i0) e1]
    rcases c with ⟨c, h2, e2, j⟩ | ⟨c, σ2, h2, e2, i2⟩
    · exact ⟨h2, j, .inl ⟨x, by rw [List.find?_cons, c], by rw [e2]⟩⟩
    · obtain ⟨h', j, q⟩ := forRun_first g r P I J hs hJ (xs := xs) (σ := σ2) (h := h2) i2 fun y m => hf y (List.mem_cons_of_mem _ m)
      refine ⟨h', j, ?_⟩
      rw [List.find?_cons, c]
      rcases q with ⟨y, a, b⟩ | ⟨a, σ', b⟩
      · exact .inl ⟨y, a, by rw [e2]; exact b⟩
      · exact .inr ⟨a, σ', by rw [e2]; exact b⟩
/-- a for that breaks at the first that is so -/
theorem forRun_until {α : Type} {std : Hs → Prop} {tg : Tg} {body : Env → Hs → Out} (g : α → T) (P : α → Bool) (I : Env → Hs → Prop) (D : Option α) (hs : ∀ σ h, I σ h → std h) :
    ∀ {xs : List α} {σ : Env} {h : Hs}, xs.find? P = D → I σ h → (∀ x ∈ xs, (P x = true → D = some x) → ∀ σ h, I σ h → ∃ σ1, tak tg (g x) σ = some σ1 ∧ ((P x = true ∧ ∃ σ2 h2, body σ1 h = .brk σ2 h2 ∧ I σ2 h2) ∨ (P x = false ∧ ∃ σ2 h2, body σ1 h = .nx σ2 h2 ∧ I σ2 h2))) →
    ∃ σ' h', forRun std tg body (xs.map g) σ h = .nx σ' h' ∧ I σ' h'
  | [], σ, h, _, i0, _ => ⟨σ, h, by rw [List.map_nil, forRun_nil (hs _ _ i0)], i0⟩
  | x :: xs, σ, h, e, i0, hf => by
    obtain ⟨σ1, e1, c⟩ := hf x List.mem_cons_self (fun q => by rw [← e, List.find?_cons, q]) σ h i0
    rw [List.map_cons, forRun_cons (hs _ _ i0) e1]
    rcases c with ⟨c, σ2, h2, e2, i2⟩ | ⟨c, σ2, h2, e2, i2⟩
    · exact ⟨σ2, h2, by rw [e2], i2⟩
    · rw [List.find?_cons, c] at e
      obtain ⟨σ', h', e3, i3⟩ := forRun_until g P I D hs (xs := xs) (σ := σ2) (h := h2) e i2 fun y m => hf y (List.mem_cons_of_mem _ m)
      exact ⟨σ', h', by rw [e2]; exact e3, i3⟩
theorem exSs_stop {cl : Nat → List T → M T} {s : S} {r : Ss} {σ : Env} {h h1 : Hs} {t : T} (e : exS cl s σ h = .ret t h1) : exSs cl (.cons s r) σ h = .ret t h1 := by rw [exSs_cons, e]
theorem ty_int (h : Hs) (k : Int) : isiI (.ty "int") (.int k) h = some true := rfl
theorem ty_int_bool (h : Hs) (k : Int) : isiI (.ty "bool") (.int k) h = some false := rfl
theorem ty_tup (h : Hs) (xs : List T) : isiI (.ty "tuple") (.tup xs) h = some true := rfl
/-- are all of a lot whole numbers -/
theorem lints_ok {cl : Nat → List T → M T} {σ : Env} {v s : Nat} {l : List Nat} (hl : l.length ≤ 1000) (hs : ∀ h, evE cl (.var s) σ h = .ok (lotT l) h) (hv : v < σ.length) (h : Hs) :
    ∃ h1, evE cl (.or (.not (.isi (.var s) (.ty "tuple"))) (.not (.blt .all (.cons (.lc (.and (.isi (.var v) (.ty "int")) (.not (.isi (.var v) (.ty "bool")))) (.name v) (.over (.var s)) .non [v]) .nil)))) σ h = .ok (.bl false) h1 ∧ Gs [] h h1 := by
  obtain ⟨h1, e1, g1⟩ := flags_ok (cl := cl) (σ := σ) (h := h) (c := .and (.isi (.var v) (.ty "int")) (.not (.isi (.var v) (.ty "bool")))) (v := v) (s := s) (xs := l) (fun _ => true) hl (hs h)
    (fun i m h' => by
      have ev : evE cl (.var v) ((σ.set v none).set v (some (.int (i : Int)))) h' = .ok (.int (i : Int)) h' := by simp [hv]
      have a : evE cl (.isi (.var v) (.ty "int")) ((σ.set v none).set v (some (.int (i : Int)))) h' = .ok (.bl true) h' := by
        rw [evE_isi, bnd_ok_ (e := ev)]
        rfl
      have b : evE cl (.not (.isi (.var v) (.ty "bool"))) ((σ.set v none).set v (some (.int (i : Int)))) h' = .ok (.bl true) h' := by
        have b0 : evE cl (.isi (.var v) (.ty "bool")) ((σ.set v none).set v (some (.int (i : Int)))) h' = .ok (.bl false) h' := by
          rw [evE_isi, bnd_ok_ (e := ev)]
          rfl
        rw [evE_not, bnd_ok_ (e := b0)]
        rfl
      rw [evE_and, bnd_ok_ (e := a)]
      exact b)
  refine ⟨h1 ++ [.lst (l.map fun _ => .bl true)], ?_, g1.trans (Gs.app _ _ _)⟩
  have ea := blt_all (h := h1 ++ [.lst (l.map fun _ => .bl true)]) (fun _ : Nat => true) (t := .rf h1.length) (xs := l) (lst_new _ _)
  have n1 : evE cl (.not (.isi (.var s) (.ty "tuple"))) σ h = .ok (.bl false) h := by
    have b0 : evE cl (.isi (.var s) (.ty "tuple")) σ h = .ok (.bl true) h := by
      rw [evE_isi, bnd_ok_ (e := hs h)]
      rfl
    rw [evE_not, bnd_ok_ (e := b0)]
    rfl
  refine or_no n1 ?_
  have all : l.all (fun _ => true) = true := by simp
  rw [all] at ea
  simp [e1, ea]
/-- a comprehension that leaves out, with an invariant that knows what was gathered -/
theorem lcRun_opt {std : Hs → Prop} {f : T → M (Option T)} (I : Nat → List T → Hs → Prop) (hs : ∀ k acc h, I k acc h → std h) :
    ∀ {ts acc : List T} {k : Nat} {h : Hs}, I k acc h → (∀ i t, ts[i]? = some t → ∀ acc' h, I (k + i) acc' h → ∃ y h', f t h = .ok y h' ∧ I (k + i + 1) (acc' ++ y.toList) h') → acc.length + ts.length ≤ SZ →
    ∃ ys h', lcRun std f ts acc h = .ok ys h' ∧ I (k + ts.length) ys h'
  | [], acc, k, h, i0, _, _ => ⟨acc, h, by rw [lcRun_nil (hs _ _ _ i0)], i0⟩
  | t :: ts, acc, k, h, i0, hf, hl => by
    obtain ⟨y, h1, e, i1⟩ := hf 0 t rfl acc h i0
    simp only [List.length_cons] at hl
    have al : (acc ++ y.toList).length + ts.length ≤ SZ := by
      rw [List.length_append]
      have : y.toList.length ≤ 1 := by cases y <;> simp
      omega
    obtain ⟨ys, h2, e2, i2⟩ := lcRun_opt I hs (ts := ts) (acc := acc ++ y.toList) (k := k + 1) i1 (fun i t e acc' h ih => by
      have z := hf (i + 1) t (by simpa using e) acc' h (by rw [← Nat.add_assoc, Nat.add_right_comm]; exact ih)
      rw [show k + (i + 1) = k + 1 + i by omega] at z
      exact z) al
    refine ⟨ys, h2, ?_, by rw [show k + (t :: ts).length = k + 1 + ts.length by simp; omega]; exact i2⟩
    cases y with
    | none => rw [lcRun_none (hs _ _ _ i0) e]; simpa using e2
    | some y => rw [lcRun_some (hs _ _ _ i0) e (by omega)]; exact e2
theorem Dr.mono {n k m : Nat} {t : Tm} (x : Dr n k t) (l : k ≤ m) : Dr n m t := by
  induction l with
  | refl => exact x
  | @step m l ih =>
    obtain ⟨a, b, c, e⟩ := ih
    exact ⟨a, by omega, Nat.le_trans c (cMax_le m), fun B hB => Nat.le_trans (e B hB) (sMax_le B m)⟩
/-- a law that throws its dice and goes some turns -/
theorem law_turns {d id m N c : Nat} {Ni : Int} {body : Ss} {t : T} {ns : List Int} {h : Hs} (m2 : Nat) (hm2 : m2 = m + 2) (ht : Lw.tb id = some ⟨1, m2, .cons (.asg (.name 1) (.call 1000 (.cons (.var 0) .nil))) (.cons (.for (.name 2) (.rng1 (.cst (.int Ni))) body) (.cons (.ret (.cst (.bl true))) .nil))⟩) (hN : Ni = (N : Int)) (hm : 1 ≤ m) (hd : 2 ≤ d) (hN2 : N ≤ 100) (hc : c ≤ 10000)
    (e : lstOf h t = some (ns.map .int)) (l : ns.length ≤ 63)
    (turn : ∀ (a n : Nat) (r : Env) (h : Hs), r.length = m → Dice a n h → c ≤ n → ∃ (r' : Env) (h' : Hs), exSs (callN Lw.tb (d - 1)) body (some t :: some (.rf a) :: r) h = .nx (some t :: some (.rf a) :: r') h' ∧ r'.length = m ∧ Dice a (n - c) h') :
    ∃ h', callN Lw.tb d id [t] h = .ok (.bl true) h' := by
  subst hm2 hN
  obtain ⟨a, h1, e1, g1, x1⟩ := dice_ok (d := d - 1) (by omega) e l
  obtain ⟨σ', h', er, ⟨r, rfl, lr⟩, _⟩ := forRun_go (std := fun _ => True) (tg := .name 2) (body := exSs (callN Lw.tb (d - 1)) body)
    (fun k σ h' => (∃ r, σ = some t :: some (.rf a) :: r ∧ r.length = m) ∧ Dice a (2 ^ 40 - k * 10000) h') (fun _ _ _ _ => trivial) (ts := iota 0 N) (k := 0) (σ := some t :: some (.rf a) :: List.replicate m none) (h := h1) ⟨⟨_, rfl, by simp⟩, x1⟩
    (by
      rintro k u eu σ h2 ⟨⟨r, rfl, lr⟩, x⟩
      obtain ⟨et, il⟩ := iota_get eu
      rw [Nat.zero_add] at *
      refine ⟨some t :: some (.rf a) :: r.set 0 (some u), by rw [tak_name]; cases r with | nil => simp at lr; omega | cons _ _ => simp, ?_⟩
      obtain ⟨r', h3, e3, l3, x3⟩ := turn a _ (r.set 0 (some u)) h2 (by simpa using lr) x (by omega)
      exact ⟨_, h3, .inl e3, ⟨r', rfl, l3⟩, x3.less (by omega)⟩)
  refine ⟨h', call_of ht (by omega) ⟨rfl, by omega⟩ (.inl ?_)⟩
  have rk : evSrc (callN Lw.tb (d - 1)) (.rng1 (.cst (.int (N : Int)))) (some t :: some (.rf a) :: List.replicate m none) h1 = .ok ⟨iota 0 N, fun _ => True⟩ h1 := by
    have := evSrc_rng1_ok (cl := callN Lw.tb (d - 1)) (σ := some t :: some (.rf a) :: List.replicate m none) (h := h1) (h1 := h1) (a := .cst (.int (N : Int))) (j := (N : Int)) rfl ⟨by omega, by omega⟩
    simpa using this
  have b1 : exS (callN Lw.tb (d - 1)) (.asg (.name 1) (.call 1000 (.cons (.var 0) .nil))) (some t :: List.replicate (m + 1) none) h = .nx (some t :: some (.rf a) :: List.replicate m none) h1 := by simp [e1, List.replicate_succ]
  have en : List.map some [t] ++ List.replicate (m + 2 - 1) none = some t :: List.replicate (m + 1) none := rfl
  rw [en]
  refine (exSs_step b1).trans ?_
  exact (exSs_step (exS_for_ok rk er)).trans (by simp)
theorem eqI_fr (h : Hs) (x y : Rat) : eqI h (fr x) (fr y) = some (decide (x = y)) := by
  by_cases c : x = y
  · subst c; rw [eqI_same h (fr_pt _)]; simp
  · rw [eqI_other h (fr_pt _) (fr_pt _) (fun q => c (fr_inj q))]; simp [c]
end CB

/-! The law k55. -/
namespace CB
open PySem
/-- terms that a rule may have here -/
def Gt (p : Nat) (t : Tm) : Prop := wf p 20 t ∧ dep t ≤ 6 ∧ cnt t ≤ 60 ∧ szb 20 t < 4000
def PN (p : Nat) (t u : Tm) (l : List Nat) : Bool := decide (val (corner p l) t ≠ val (corner p l) u)
theorem ldue_ok {d p : Nat} {t u : Tm} {h : Hs} (hd : 15 ≤ d) (hp : 1 ≤ p ∧ p ≤ 6) (a : Gt p t) (b : Gt p u) :
    ∃ h', callN Lw.tb d 1048 [.int p, enc t, enc u] h = .ok (optT ((lots p).find? (PN p t u))) h' ∧ Gs [] h h' := by
  obtain ⟨a1, a2, a3, a4⟩ := a
  obtain ⟨b1, b2, b3, b4⟩ := b
  obtain ⟨F, h1, e1, l1, g1, f1⟩ := llots_ok (d := d - 1) (p := p) (by omega) hp.2 h
  obtain ⟨h2, g2, c⟩ := forRun_first (std := fun h' => lstOf h' (.rf F) = some ((lots p).map lotT)) (tg := .name 3) (body := exSs (callN Lw.tb (d - 1)) (match stm 0 fn_law_due_1048.body with | .for _ _ b => b | _ => .nil)) lotT lotT (PN p t u)
    (fun σ h' => ∃ w3, σ = [some (.int p), some (enc t), some (enc u), w3] ∧ Gs [] h1 h') (fun h' => Gs [] h1 h') (fun σ h' ⟨_, _, g⟩ => lstOf_gs g (by simp [lstOf, l1]) (fun _ _ q => by cases q)) (fun σ h' ⟨_, _, g⟩ => g) (xs := lots p) (σ := [some (.int p), some (enc t), some (enc u), none]) (h := h1) ⟨none, rfl, Gs.refl _ _⟩
    (by
      rintro l ml σ h2 ⟨w3, rfl, g2⟩
      refine ⟨[some (.int p), some (enc t), some (enc u), some (lotT l)], (tak_name 3 _ _).trans rfl, ?_⟩
      obtain ⟨h3, e3, g3⟩ := lcorner_ok (d := d - 1) a1 (by decide) (by omega) (by omega) (by omega) l h2
      obtain ⟨h4, e4, g4⟩ := lcorner_ok (d := d - 1) b1 (by decide) (by omega) (by omega) (by omega) l h3
      have e3' : callN Lw.tb (d - 1) 1035 [.int p, enc t, lotT l] h2 = .ok (fr (val (corner p l) t)) h3 := e3
      have e4' : callN Lw.tb (d - 1) 1035 [.int p, enc u, lotT l] h3 = .ok (fr (val (corner p l) u)) h4 := e4
      have ne := eval_neB (cl := callN Lw.tb (d - 1)) (σ := [some (.int p), some (enc t), some (enc u), some (lotT l)]) (h := h2) (h1 := h3) (h2 := h4) (A := .call 1035 (.cons (.var 0) (.cons (.var 1) (.cons (.var 3) .nil)))) (B := .call 1035 (.cons (.var 0) (.cons (.var 2) (.cons (.var 3) .nil)))) (x := val (corner p l) t) (y := val (corner p l) u) (by
        generalize lotT l = W at *
        simp [e3']) (by
        generalize lotT l = W at *
        simp [e4'])
      have pe : decide (val (corner p l) t ≠ val (corner p l) u) = PN p t u l := rfl
      rw [pe] at ne
      cases q : PN p t u l with
      | true =>
        rw [q] at ne
        refine .inl ⟨rfl, h4, ?_, g2.trans (g3.trans g4)⟩
        have := ifs_ret (e := .var 3) (t := lotT l) ne rfl
        show exSs _ (.cons (.ifs _ (.cons (.ret (.var 3)) .nil) .nil) .nil) _ _ = _
        rw [exSs_cons, this]
      | false =>
        rw [q] at ne
        refine .inr ⟨rfl, [some (.int p), some (enc t), some (enc u), some (lotT l)], h4, ?_, _, rfl, g2.trans (g3.trans g4)⟩
        have := ifs_no (r := .cons (.ret (.var 3)) .nil) ne
        show exSs _ (.cons (.ifs _ (.cons (.ret (.var 3)) .nil) .nil) .nil) _ _ = _
        rw [exSs_cons, this]
        rfl)
  have ov : evSrc (callN Lw.tb (d - 1)) (.over (.call 1039 (.cons (.var 0) .nil))) [some (.int p), some (enc t), some (enc u), none] h = .ok ⟨(lots p).map lotT, fun h' => lstOf h' (.rf F) = some ((lots p).map lotT)⟩ h1 := evSrc_over_lst (t := .rf F) (by simp [e1]) (by simp [lstOf, l1])
  refine ⟨h2, call_of Lw.tb_1048 (by omega) ⟨rfl, by decide⟩ (.inl ?_), g1.trans g2⟩
  rcases c with ⟨y, c1, c2⟩ | ⟨c1, σ', c2⟩
  · have s0 : exS (callN Lw.tb (d - 1)) (stm 0 fn_law_due_1048.body) [some (.int p), some (enc t), some (enc u), none] h = .ret (lotT y) h2 := exS_for_ok ov c2
    rw [c1]
    exact exSs_stop s0
  · have s0 : exS (callN Lw.tb (d - 1)) (stm 0 fn_law_due_1048.body) [some (.int p), some (enc t), some (enc u), none] h = .nx σ' h2 := exS_for_ok ov c2
    rw [c1]
    exact exSs_step s0
theorem parting_ok {d p r s : Nat} {t u : Tm} {h : Hs} (hd : 15 ≤ d) (hp : 1 ≤ p ∧ p ≤ 6) (ra : RuleAt r p t h) (rb : RuleAt s p u h) (a : Gt p t) (b : Gt p u) :
    ∃ h', callN Lw.tb d 57 [.rf r, .rf s] h = .ok (optT ((lots p).find? (PN p t u))) h' ∧ Gs [] h h' := by
  obtain ⟨a1, a2, a3, a4⟩ := a
  obtain ⟨b1, b2, b3, b4⟩ := b
  have e0 : callN Lw.tb (d - 1) 55 [.rf r, .rf s] h = .ok .non h := by
    refine call_of Lw.tb_55 (by omega) ⟨rfl, by decide⟩ (.inr ⟨rfl, [some (.rf r), some (.rf s)], ?_⟩)
    simp [fn_check_people_alike_55, att_people ra, att_people rb]
  obtain ⟨F, h1, e1, l1, g1, f1⟩ := all_lots_ok (d := d - 2) (p := p) (by omega) hp.2 h
  obtain ⟨h2, g2, c⟩ := forRun_first (std := fun h' => lstOf h' (.rf F) = some ((lots p).map lotT)) (tg := .name 2) (body := exSs (callN Lw.tb (d - 2)) (match stm 0 fn_parted_at_56.body with | .for _ _ b => b | _ => .nil)) lotT lotT (PN p t u)
    (fun σ h' => ∃ w3, σ = [some (.rf r), some (.rf s), w3] ∧ Gs [] h1 h') (fun h' => Gs [] h1 h') (fun σ h' ⟨_, _, g⟩ => lstOf_gs g (by simp [lstOf, l1]) (fun _ _ q => by cases q)) (fun σ h' ⟨_, _, g⟩ => g) (xs := lots p) (σ := [some (.rf r), some (.rf s), none]) (h := h1) ⟨none, rfl, Gs.refl _ _⟩
    (by
      rintro l ml σ h2 ⟨w3, rfl, g2⟩
      refine ⟨[some (.rf r), some (.rf s), some (lotT l)], (tak_name 2 _ _).trans rfl, ?_⟩
      obtain ⟨h3, e3, g3⟩ := corner_of_ok (d := d - 2) (ra.gs (g1.trans g2) (by simp)) a1 (by decide) (by omega) (by omega) ⟨hp.1, by omega⟩ l
      obtain ⟨h4, e4, g4⟩ := corner_of_ok (d := d - 2) (rb.gs ((g1.trans g2).trans g3) (by simp)) b1 (by decide) (by omega) (by omega) ⟨hp.1, by omega⟩ l
      have ne := eval_neB (cl := callN Lw.tb (d - 2)) (σ := [some (.rf r), some (.rf s), some (lotT l)]) (h := h2) (h1 := h3) (h2 := h4) (A := .call 52 (.cons (.var 0) (.cons (.var 2) .nil))) (B := .call 52 (.cons (.var 1) (.cons (.var 2) .nil))) (x := val (corner p l) t) (y := val (corner p l) u) (by
        generalize lotT l = W at *
        simp [e3]) (by
        generalize lotT l = W at *
        simp [e4])
      have pe : decide (val (corner p l) t ≠ val (corner p l) u) = PN p t u l := rfl
      rw [pe] at ne
      cases q : PN p t u l with
      | true =>
        rw [q] at ne
        refine .inl ⟨rfl, h4, ?_, g2.trans (g3.trans g4)⟩
        have := ifs_ret (e := .var 2) (t := lotT l) ne rfl
        show exSs _ (.cons (.ifs _ (.cons (.ret (.var 2)) .nil) .nil) .nil) _ _ = _
        rw [exSs_cons, this]
      | false =>
        rw [q] at ne
        refine .inr ⟨rfl, [some (.rf r), some (.rf s), some (lotT l)], h4, ?_, _, rfl, g2.trans (g3.trans g4)⟩
        have := ifs_no (r := .cons (.ret (.var 2)) .nil) ne
        show exSs _ (.cons (.ifs _ (.cons (.ret (.var 2)) .nil) .nil) .nil) _ _ = _
        rw [exSs_cons, this]
        rfl)
  have ap := att_people ra
  have ov : evSrc (callN Lw.tb (d - 2)) (.over (.call 51 (.cons (.att (.var 0) 0) .nil))) [some (.rf r), some (.rf s), none] h = .ok ⟨(lots p).map lotT, fun h' => lstOf h' (.rf F) = some ((lots p).map lotT)⟩ h1 := evSrc_over_lst (t := .rf F) (by simp [ap, e1]) (by simp [lstOf, l1])
  have e3 : callN Lw.tb (d - 1) 56 [.rf r, .rf s] h = .ok (optT ((lots p).find? (PN p t u))) h2 := by
    refine call_of Lw.tb_56 (by omega) ⟨rfl, by decide⟩ (.inl ?_)
    rw [show d - 1 - 1 = d - 2 by omega]
    rcases c with ⟨y, c1, c2⟩ | ⟨c1, σ', c2⟩
    · have s0 : exS (callN Lw.tb (d - 2)) (stm 0 fn_parted_at_56.body) [some (.rf r), some (.rf s), none] h = .ret (lotT y) h2 := exS_for_ok ov c2
      rw [c1]
      exact exSs_stop s0
    · have s0 : exS (callN Lw.tb (d - 2)) (stm 0 fn_parted_at_56.body) [some (.rf r), some (.rf s), none] h = .nx σ' h2 := exS_for_ok ov c2
      rw [c1]
      exact exSs_step s0
  refine ⟨h2, call_of Lw.tb_57 (by omega) ⟨rfl, by decide⟩ (.inl ?_), g1.trans g2⟩
  simp [fn_parting_57, e0, e3]
theorem lis_lot_ok {d : Nat} (hd : 1 ≤ d) (o : Option (List Nat)) (ho : ∀ l, o = some l → l.length ≤ 1000) (h : Hs) : ∃ h', callN Lw.tb d 1049 [optT o, optT o] h = .ok (.bl true) h' ∧ Gs [] h h' := by
  cases o with
  | none =>
    refine ⟨h, call_of Lw.tb_1049 (by omega) ⟨rfl, by decide⟩ (.inl ?_), Gs.refl _ _⟩
    simp [fn_law_is_lot_1049, optT, isN]
  | some l =>
    obtain ⟨h1, e1, g1⟩ := lints_ok (cl := callN Lw.tb (d - 1)) (σ := [some (lotT l), some (lotT l), none]) (v := 2) (s := 0) (l := l) (ho l rfl) (fun _ => rfl) (by simp) h
    refine ⟨h1, call_of Lw.tb_1049 (by omega) ⟨rfl, by decide⟩ (.inl ?_), g1⟩
    have s0 : exS (callN Lw.tb (d - 1)) (stm 0 fn_law_is_lot_1049.body) [some (lotT l), some (lotT l), none] h = .nx [some (lotT l), some (lotT l), none] h := ifs_no (h1 := h) (by simp [isN, lotT])
    have s1 : exS (callN Lw.tb (d - 1)) (stm 1 fn_law_is_lot_1049.body) [some (lotT l), some (lotT l), none] h = .nx [some (lotT l), some (lotT l), none] h1 := ifs_no e1
    have q := eqI_same h1 (lotT_pt l)
    refine (exSs_step s0).trans ((exSs_step s1).trans ?_)
    generalize lotT l = W at *
    simp [q]
def bidsB (bs : List Nat) : List Tm := bs.map .bid
theorem beside_ok {d a n p : Nat} {t : Tm} {h : Hs} (hd : 12 ≤ d) (x : Dice a n h) (hn : 200 ≤ n) (hp : 1 ≤ p ∧ p ≤ 6) (dr : Dr p 2 t) :
    ∃ (u : Tm) (h' : Hs), callN Lw.tb d 1047 [.rf a, .int p, enc t] h = .ok (enc u) h' ∧ Gt p u ∧ Gs [a] h h' ∧ Dice a (n - 200) h' := by
  obtain ⟨kd, h1, e1, r1, g1, x1⟩ := draw_ok (d := d - 1) (sides := 5) (by omega) (by decide) x (by omega)
  have e1' : callN Lw.tb (d - 1) 1001 [.rf a, .int 5] h = .ok (.int kd) h1 := e1
  obtain ⟨q, h2, e2, nq, g2, x2⟩ := lnumber_ok (d := d - 1) (by omega) x1 (by omega)
  obtain ⟨ys, h3, e3, bs, rfl, bl, bp, g3, x3⟩ := lcRun_opt (std := fun _ => True) (f := lcG (callN Lw.tb (d - 1)) [some (.rf a), some (.int p), some (enc t), some (.int kd), some (fr q), none, none, none] (.tup (.cons (.cst (.str "bid")) (.cons (.var 7) .nil))) (.name 7) (.som (.cmp .eq (.call 1001 (.cons (.var 0) (.cons (.cst (.int 2)) .nil))) (.cst (.int 0)))) [7])
    (fun k acc h' => ∃ bs : List Nat, acc = encs (bidsB bs) ∧ bs.length ≤ k ∧ (∀ b ∈ bs, b < p) ∧ Gs [a] h2 h' ∧ Dice a (n - 3 - k) h') (fun _ _ _ _ => trivial) (ts := iota 0 p) (acc := []) (k := 0) (h := h2) ⟨[], rfl, by simp, by simp, Gs.refl _ _, x2⟩
    (by
      rintro i u eu acc h3 ⟨bs, rfl, bl, bp, g3, x3⟩
      obtain ⟨rfl, il⟩ := iota_get eu
      rw [Nat.zero_add] at *
      obtain ⟨z, h4, e4, r4, g4, x4⟩ := draw_ok (d := d - 1) (sides := 2) (by omega) (by decide) x3 (by omega)
      have e4' : callN Lw.tb (d - 1) 1001 [.rf a, .int 2] h3 = .ok (.int z) h4 := e4
      by_cases z0 : z = 0
      · subst z0
        refine ⟨some (enc (.bid i)), h4, ?_, bs ++ [i], by simp [bidsB, encs_eq], by simp; omega, fun b m => ?_, g3.trans g4, x4.less (by omega)⟩
        · simp [lcG, e4', enc]
        · rcases List.mem_append.1 m with m | m
          · exact bp b m
          · simp at m; omega
      · refine ⟨none, h4, ?_, bs, by simp, by omega, bp, g3.trans g4, x4.less (by omega)⟩
        simp [lcG, e4', z0]) (by rw [iota_len]; simp; omega)
  rw [iota_len, Nat.zero_add] at x3 bl
  have es : evSrc (callN Lw.tb (d - 1)) (.rng1 (.var 1)) [some (.rf a), some (.int p), some (enc t), some (.int kd), some (fr q), none, none, none] h2 = .ok ⟨iota 0 p, fun _ => True⟩ h2 := by
    have := evSrc_rng1_ok (cl := callN Lw.tb (d - 1)) (σ := [some (.rf a), some (.int p), some (enc t), some (.int kd), some (fr q), none, none, none]) (h := h2) (h1 := h2) (a := .var 1) (j := (p : Int)) rfl ⟨by omega, by omega⟩
    simpa using this
  have ec := lc_ok es e3
  have bt := blt_tuple_lst (lst_new h3 (encs (bidsB bs)))
  have drs : ∀ u ∈ bidsB bs ++ [.fix q], Dr p 0 u := fun u m => by
    rcases List.mem_append.1 m with m | m
    · obtain ⟨b, mb, rfl⟩ := List.mem_map.1 m
      exact Dr.bid (bp b mb)
    · simp at m; subst m; exact Dr.fix nq
  have ln : (bidsB bs ++ [Tm.fix q]).length ≤ 7 := by simp [bidsB]; omega
  have ln1 : 1 ≤ (bidsB bs ++ [Tm.fix q]).length := by simp
  obtain ⟨pw, pd, pc, ps⟩ := parts_bound drs
  have ps' := ps 20 (by decide)
  have c0 : cMax 0 = 1 := rfl
  have s0 : sMax 20 0 = 20 := rfl
  rw [c0] at pc
  rw [s0] at ps'
  have m28 : (bidsB bs ++ [Tm.fix q]).length * (20 + 8) ≤ 7 * 28 := Nat.mul_le_mul_right _ ln
  have ee : encs (bidsB bs ++ [Tm.fix q]) = encs (bidsB bs) ++ [enc (.fix q)] := by simp [encs_eq]
  have at' : binI .add (.tup (encs (bidsB bs))) (.tup [enc (.fix q)]) = ret (.tup (encs (bidsB bs ++ [Tm.fix q]))) := by
    rw [ee]
    exact add_tup (by rw [encs_len]; simp [bidsB]; omega)
  have ef : enc (.fix q) = .tup [.str "fixed", fr q] := rfl
  rw [ef] at at'
  generalize hB : bidsB bs ++ [.fix q] = B at *
  clear hB ee
  generalize encs (bidsB bs) = B0 at *
  obtain ⟨dw, dd, dc, ds⟩ := dr
  have ds' := ds 20 (by decide)
  have s2 : sMax 20 2 = 408 := rfl
  have c2 : cMax 2 = 13 := rfl
  rw [s2] at ds'
  rw [c2] at dc
  have x4 : Dice a (n - 20) (h3 ++ [.lst B0]) := (x3.gs (Gs.app _ _ _)).less (by omega)
  have g4 : Gs [a] h (h3 ++ [.lst B0]) := ((g1.trans g2).trans g3).trans (Gs.app _ _ _)
  generalize h3 ++ [.lst B0] = h4 at *
  have body : ∀ {u : Tm} {h' : Hs}, exSs (callN Lw.tb (d - 1)) (tls 3 fn_law_beside_1047.body) [some (.rf a), some (.int p), some (enc t), some (.int kd), some (fr q), some (.tup B0), none, none] h4 = .ret (enc u) h' → callN Lw.tb d 1047 [.rf a, .int p, enc t] h = .ok (enc u) h' := fun {u h'} e => by
    refine call_of Lw.tb_1047 (by omega) ⟨rfl, by decide⟩ (.inl ?_)
    have b0 : exS (callN Lw.tb (d - 1)) (stm 0 fn_law_beside_1047.body) [some (.rf a), some (.int p), some (enc t), none, none, none, none, none] h = .nx [some (.rf a), some (.int p), some (enc t), some (.int kd), none, none, none, none] h1 := by simp [stm, fn_law_beside_1047, e1']
    have b1 : exS (callN Lw.tb (d - 1)) (stm 1 fn_law_beside_1047.body) [some (.rf a), some (.int p), some (enc t), some (.int kd), none, none, none, none] h1 = .nx [some (.rf a), some (.int p), some (enc t), some (.int kd), some (fr q), none, none, none] h2 := by simp [stm, fn_law_beside_1047, e2]
    have b2 : exS (callN Lw.tb (d - 1)) (stm 2 fn_law_beside_1047.body) [some (.rf a), some (.int p), some (enc t), some (.int kd), some (fr q), none, none, none] h2 = .nx [some (.rf a), some (.int p), some (enc t), some (.int kd), some (fr q), some (.tup B0), none, none] h4 := by simp [stm, fn_law_beside_1047, ec, bt]
    show exSs _ (tls 0 fn_law_beside_1047.body) _ _ = _
    exact (run_step rfl b0).trans ((run_step rfl b1).trans ((run_step rfl b2).trans e))
  rcases (show kd = 0 ∨ kd = 1 ∨ kd = 2 ∨ kd = 3 ∨ kd = 4 by omega) with rfl | rfl | rfl | rfl | rfl
  · refine ⟨.greatest [t, .least B], h4, body ?_, ⟨⟨⟨dw, ⟨pw, ln1, by omega⟩, trivial⟩, by simp, by simp⟩, by simp only [dep, deps]; omega, by simp only [cnt, cnts]; omega, by simp only [szb, szbs]; omega⟩, g4, x4.less (by omega)⟩
    simp [tls, fn_law_beside_1047, at', enc, encs]
  · refine ⟨.least [t, .greatest B], h4, body ?_, ⟨⟨⟨dw, ⟨pw, ln1, by omega⟩, trivial⟩, by simp, by simp⟩, by simp only [dep, deps]; omega, by simp only [cnt, cnts]; omega, by simp only [szb, szbs]; omega⟩, g4, x4.less (by omega)⟩
    simp [tls, fn_law_beside_1047, at', enc, encs]
  · obtain ⟨z, h5, e5, nz, g5, x5⟩ := lnumber_ok (d := d - 1) (by omega) x4 (by omega)
    obtain ⟨h7, e7, g7, r7⟩ := lsorted_ok (d := d - 1) (n := 20) (by omega) (h := h5 ++ [.lst (frs [q, z])]) (lst_new h5 _) (by simp [nq.2.2, nz.2.2]) (by decide) (by simp)
    obtain ⟨u, v, euv, luv, nu, nv⟩ := srt_two nq nz
    rw [euv] at r7
    rw [List.length_append, List.length_singleton] at e7 r7
    have l8 : seqOf h7 (.rf (h5.length + 1)) = some (frs [u, v]) := seqOf_lst (by simp [lstOf, r7])
    refine ⟨.between u v t, h7, body ?_, ⟨⟨dw, nu, nv, luv⟩, by simp only [dep]; omega, by simp only [cnt]; omega, by simp only [szb]; omega⟩, ((g4.trans g5).trans (Gs.app _ _ _)).trans g7.nil, ((x5.gs (Gs.app _ _ _)).gs g7).less (by omega)⟩
    simp [frs] at e7
    simp [tls, fn_law_beside_1047, e5, e7, l8, enc, frs]
  · refine ⟨.greatest [t, t], h4, body ?_, ⟨⟨⟨dw, dw, trivial⟩, by simp, by simp⟩, by simp only [dep, deps]; omega, by simp only [cnt, cnts]; omega, by simp only [szb, szbs]; omega⟩, g4, x4.less (by omega)⟩
    simp [tls, fn_law_beside_1047, enc, encs]
  · have d2 : dMax 2 = 64 := rfl
    obtain ⟨u, h5, e5, ⟨uw, ud, uc, us⟩, g5, x5⟩ := lterm_ok (people := p) (by omega) true 2 (d - 1) a _ h4 (by omega) x4 (by omega)
    have us' := us 20 (by decide)
    rw [s2] at us'
    rw [c2] at uc
    refine ⟨u, h5, body ?_, ⟨uw, by omega, by omega, by omega⟩, g4.trans g5, x5.less (by omega)⟩
    have e5' : callN Lw.tb (d - 1) 1009 [.rf a, .int p, .int 3, .bl true] h4 = .ok (enc u) h5 := e5
    simp [tls, fn_law_beside_1047, e5']
def k55P : List Nat := [1, 2, 3, 4, 5, 2, 3, 4, 3, 6]
def k55outer : Ss := match stm 1 fn_law_1050.body with
  | .for _ _ b => b
  | _ => .nil
def k55in : Ss := match stm 7 k55outer with
  | .for _ _ b => b
  | _ => .nil
theorem find_none {p : Nat} {t : Tm} : (lots p).find? (PN p t t) = none := List.find?_eq_none.2 fun l _ => by simp [PN]
theorem k55_lots {d p r s F : Nat} {t u : Tm} {D : Option (List Nat)} {h : Hs} {v0 v1 v2 v7 v10 v11 v12 : Option T} (hd : 20 ≤ d) (hp : 1 ≤ p ∧ p ≤ 6) (ra : RuleAt r p t h) (rb : RuleAt s p u h) (a : Gt p t) (b : Gt p u) (eD : (lots p).find? (PN p t u) = D) (eF : h[F]? = some (.lst ((lots p).map lotT))) :
    ∃ (w7 w10 w11 w12 : Option T) (h' : Hs), forRun (fun h' => lstOf h' (.rf F) = some ((lots p).map lotT)) (.name 7) (exSs (callN Lw.tb d) k55in) ((lots p).map lotT) [v0, v1, v2, some (.int p), some (enc t), some (enc u), some (optT D), v7, some (.rf r), some (.rf s), v10, v11, v12] h = .nx [v0, v1, v2, some (.int p), some (enc t), some (enc u), some (optT D), w7, some (.rf r), some (.rf s), w10, w11, w12] h' ∧ Gs [] h h' := by
  obtain ⟨a1, a2, a3, a4⟩ := a
  obtain ⟨b1, b2, b3, b4⟩ := b
  have D1 : ∀ l, D = some l → PN p t u l = true := fun l e => by rw [e] at eD; exact List.find?_some eD
  obtain ⟨σ', h', er, w7, w10, w11, w12, rfl, g⟩ := forRun_until (std := fun h' => lstOf h' (.rf F) = some ((lots p).map lotT)) (tg := .name 7) (body := exSs (callN Lw.tb d) k55in) lotT (PN p t u)
    (fun σ h' => ∃ w7 w10 w11 w12, σ = [v0, v1, v2, some (.int p), some (enc t), some (enc u), some (optT D), w7, some (.rf r), some (.rf s), w10, w11, w12] ∧ Gs [] h h') D
    (fun σ h' ⟨_, _, _, _, _, g⟩ => lstOf_gs g (by simp [lstOf, eF]) (fun _ _ q => by cases q)) (xs := lots p) (σ := [v0, v1, v2, some (.int p), some (enc t), some (enc u), some (optT D), v7, some (.rf r), some (.rf s), v10, v11, v12]) (h := h) eD ⟨_, _, _, _, rfl, Gs.refl _ _⟩
    (by
      rintro l ml q σ h2 ⟨w7, w10, w11, w12, rfl, g2⟩
      obtain ⟨lb, lc⟩ := lots0_mem (mem_lots.1 ml)
      refine ⟨[v0, v1, v2, some (.int p), some (enc t), some (enc u), some (optT D), some (lotT l), some (.rf r), some (.rf s), w10, w11, w12], (tak_name 7 _ _).trans rfl, ?_⟩
      obtain ⟨h3, e3, g3⟩ := lat_ends_ok (d := d) (n := p) (by omega) (by omega) l h2
      have e3' : callN Lw.tb d 1034 [.int p, lotT l] h2 = .ok (.tup (frs (corner p l))) h3 := e3
      have nc := corner_num (n := p) (B := 1) (by decide) l
      obtain ⟨h4, e4, g4, z4⟩ := outcome_ok (d := d) (B := 20) (Bw := 1) ((ra.gs g2 (by simp)).gs g3 (by simp)) a1 (by decide) (by omega) (by omega) (corner_len p l) ⟨hp.1, by omega⟩ nc (by decide)
      obtain ⟨h5, e5, g5, z5⟩ := outcome_ok (d := d) (B := 20) (Bw := 1) (((rb.gs g2 (by simp)).gs g3 (by simp)).gs g4 (by simp)) b1 (by decide) (by omega) (by omega) (corner_len p l) ⟨hp.1, by omega⟩ nc (by decide)
      rw [outc_corner a1] at e4 z4
      rw [outc_corner b1] at e5 z5
      obtain ⟨h6, e6, g6⟩ := lcorner_ok (d := d) a1 (by decide) (by omega) (by omega) (by omega) l h5
      have e6' : callN Lw.tb d 1035 [.int p, enc t, lotT l] h5 = .ok (fr (val (corner p l) t)) h6 := e6
      have qe : PN p t u l = !decide (val (corner p l) t = val (corner p l) u) := by unfold PN; exact decide_not
      have qd : PN p t u l = decide (D = some l) := by
        by_cases c : D = some l
        · rw [decide_eq_true c]; exact D1 l c
        · rw [decide_eq_false c]
          rw [Bool.eq_false_iff]
          exact fun w => c (q w)
      have b0 : exS (callN Lw.tb d) (stm 0 k55in) [v0, v1, v2, some (.int p), some (enc t), some (enc u), some (optT D), some (lotT l), some (.rf r), some (.rf s), w10, w11, w12] h2 = .nx [v0, v1, v2, some (.int p), some (enc t), some (enc u), some (optT D), some (lotT l), some (.rf r), some (.rf s), some (.tup (frs (corner p l))), w11, w12] h3 := by
        generalize lotT l = W at *
        generalize optT D = W1 at *
        generalize T.tup (frs (corner p l)) = W2 at *
        simp [stm, k55in, k55outer, fn_law_1050, e3']
      have b1 : exS (callN Lw.tb d) (stm 1 k55in) [v0, v1, v2, some (.int p), some (enc t), some (enc u), some (optT D), some (lotT l), some (.rf r), some (.rf s), some (.tup (frs (corner p l))), w11, w12] h3 = .nx [v0, v1, v2, some (.int p), some (enc t), some (enc u), some (optT D), some (lotT l), some (.rf r), some (.rf s), some (.tup (frs (corner p l))), some (fr (val (corner p l) t)), some (fr (val (corner p l) u))] h5 := by
        generalize lotT l = W at *
        generalize optT D = W1 at *
        generalize T.tup (frs (corner p l)) = W2 at *
        simp [stm, k55in, k55outer, fn_law_1050, e4, e5]
      have q1 := eqI_fr h6 (val (corner p l) t) (val (corner p l) u)
      have q2 := eqI_lo h6 l D
      rw [← qd] at q2
      have b2 : exS (callN Lw.tb d) (stm 2 k55in) [v0, v1, v2, some (.int p), some (enc t), some (enc u), some (optT D), some (lotT l), some (.rf r), some (.rf s), some (.tup (frs (corner p l))), some (fr (val (corner p l) t)), some (fr (val (corner p l) u))] h5 = .nx [v0, v1, v2, some (.int p), some (enc t), some (enc u), some (optT D), some (lotT l), some (.rf r), some (.rf s), some (.tup (frs (corner p l))), some (fr (val (corner p l) t)), some (fr (val (corner p l) u))] h6 := by
        refine ifs_no (or_no (h1 := h6) (eval_ne (q := val (corner p l) t) (h1 := h5) (h2 := h6) rfl ?_) ?_)
        · generalize lotT l = W at *
          generalize optT D = W1 at *
          generalize T.tup (frs (corner p l)) = W2 at *
          simp [e6']
        · rw [qe] at q2
          have q3 := eqI_bl h6 (decide (val (corner p l) t = val (corner p l) u)) (decide (val (corner p l) t = val (corner p l) u))
          generalize lotT l = W at *
          generalize optT D = W1 at *
          generalize T.tup (frs (corner p l)) = W2 at *
          simp [q1, q2, q3]
      have b3 : ∀ k : Bool, PN p t u l = k → exS (callN Lw.tb d) (stm 3 k55in) [v0, v1, v2, some (.int p), some (enc t), some (enc u), some (optT D), some (lotT l), some (.rf r), some (.rf s), some (.tup (frs (corner p l))), some (fr (val (corner p l) t)), some (fr (val (corner p l) u))] h6 = if k then .brk [v0, v1, v2, some (.int p), some (enc t), some (enc u), some (optT D), some (lotT l), some (.rf r), some (.rf s), some (.tup (frs (corner p l))), some (fr (val (corner p l) t)), some (fr (val (corner p l) u))] h6 else .nx [v0, v1, v2, some (.int p), some (enc t), some (enc u), some (optT D), some (lotT l), some (.rf r), some (.rf s), some (.tup (frs (corner p l))), some (fr (val (corner p l) t)), some (fr (val (corner p l) u))] h6 := by
        intro k e
        rw [e] at q2
        generalize lotT l = W at *
        generalize optT D = W1 at *
        generalize T.tup (frs (corner p l)) = W2 at *
        cases k <;> simp [stm, k55in, k55outer, fn_law_1050, q2]
      have go := (run_step (b := k55in) (i := 0) rfl b0).trans ((run_step (b := k55in) (i := 1) rfl b1).trans (run_step (b := k55in) (i := 2) rfl b2))
      have gg : Gs [] h h6 := g2.trans (g3.trans (g4.trans (g5.trans g6)))
      cases k : PN p t u l with
      | true =>
        refine .inl ⟨rfl, [v0, v1, v2, some (.int p), some (enc t), some (enc u), some (optT D), some (lotT l), some (.rf r), some (.rf s), some (.tup (frs (corner p l))), some (fr (val (corner p l) t)), some (fr (val (corner p l) u))], h6, ?_, some (lotT l), some (.tup (frs (corner p l))), some (fr (val (corner p l) t)), some (fr (val (corner p l) u)), rfl, gg⟩
        refine go.trans ?_
        have := b3 _ k
        show exSs _ (.cons (stm 3 k55in) .nil) _ _ = _
        rw [exSs_cons, this]; rfl
      | false =>
        refine .inr ⟨rfl, [v0, v1, v2, some (.int p), some (enc t), some (enc u), some (optT D), some (lotT l), some (.rf r), some (.rf s), some (.tup (frs (corner p l))), some (fr (val (corner p l) t)), some (fr (val (corner p l) u))], h6, ?_, some (lotT l), some (.tup (frs (corner p l))), some (fr (val (corner p l) t)), some (fr (val (corner p l) u)), rfl, gg⟩
        refine go.trans ?_
        have := b3 _ k
        show exSs _ (.cons (stm 3 k55in) .nil) _ _ = _
        rw [exSs_cons, this]; rfl)
  exact ⟨w7, w10, w11, w12, h', er, g⟩
theorem k55_turn {d a n : Nat} {h : Hs} {v0 v2 v3 v4 v5 v6 v7 v8 v9 v10 v11 v12 : Option T} (hd : 30 ≤ d) (x : Dice a n h) (hn : 400 ≤ n) :
    ∃ (h' : Hs) (w3 w4 w5 w6 w7 w8 w9 w10 w11 w12 : Option T), exSs (callN Lw.tb d) k55outer [v0, some (.rf a), v2, v3, v4, v5, v6, v7, v8, v9, v10, v11, v12] h = .nx [v0, some (.rf a), v2, w3, w4, w5, w6, w7, w8, w9, w10, w11, w12] h' ∧ Dice a (n - 400) h' := by
  obtain ⟨z, h1, e1, r1, g1, x1⟩ := draw_ok (d := d) (sides := 10) (by omega) (by decide) (x.gs (Gs.app _ _ [.lst (nats k55P)])) (by omega)
  have e1' : callN Lw.tb d 1001 [.rf a, .int 10] (h ++ [.lst (nats k55P)]) = .ok (.int z) h1 := e1
  obtain ⟨p, ep, p1, p2⟩ : ∃ p, k55P[z]? = some p ∧ 1 ≤ p ∧ p ≤ 6 := (by decide : ∀ z < 10, ∃ p ∈ [1, 2, 3, 4, 5, 6], k55P[z]? = some p ∧ 1 ≤ p ∧ p ≤ 6) z r1 |>.elim fun p ⟨_, q⟩ => ⟨p, q⟩
  have al := x.lt
  have i1 := idx_rfT (i := (z : Int)) (g1.at (i := h.length) (o := .lst (nats k55P)) (by simp) (by simp; omega)) (j := z) (t := .int (p : Int)) rfl (by simp [nats, ep])
  obtain ⟨k, h2, e2, r2, g2, x2⟩ := draw_ok (d := d) (sides := 3) (by omega) (by decide) x1 (by omega)
  have e2' : callN Lw.tb d 1001 [.rf a, .int 3] h1 = .ok (.int k) h2 := e2
  have dm : dMax k ≤ 64 := by rcases (show k = 0 ∨ k = 1 ∨ k = 2 by omega) with rfl | rfl | rfl <;> decide
  obtain ⟨t, h3, e3, dr, g3, x3⟩ := lterm_ok (people := p) (by omega) true k d a _ h2 (by omega) x2 (by omega)
  have dr2 := dr.mono (show k ≤ 2 by omega)
  have gt : Gt p t := by
    obtain ⟨w, dd, cc, ss⟩ := dr2
    have s2 : sMax 20 2 = 408 := rfl
    have c2 : cMax 2 = 13 := rfl
    have := ss 20 (by decide)
    exact ⟨w, by omega, by omega, by omega⟩
  obtain ⟨u, h4, e4, gu, g4, x4⟩ := beside_ok (d := d) (by omega) x3 (by omega) ⟨p1, p2⟩ dr2
  obtain ⟨h5, e5, g5, r5⟩ := make_ok' (d := d) (h := h4) (by omega) gt.1 ⟨p1, p2⟩ (by have := gt.2.1; omega) (by have := gt.2.2.1; omega)
  obtain ⟨h6, e6, g6, r6⟩ := make_ok' (d := d) (h := h5) (by omega) gu.1 ⟨p1, p2⟩ (by have := gu.2.1; omega) (by have := gu.2.2.1; omega)
  obtain ⟨h7, e7, g7⟩ := ldue_ok (d := d) (h := h6) (by omega) ⟨p1, p2⟩ gt gu
  have r5' := (r5.gs g6 (by simp)).gs g7 (by simp)
  have r6' := r6.gs g7 (by simp)
  have dl : ∀ l, (lots p).find? (PN p t u) = some l → l.length ≤ 1000 := fun l e => by
    obtain ⟨lb, lc⟩ := lots0_mem (mem_lots.1 (List.mem_of_find?_eq_some e))
    omega
  have sy : PN p u t = PN p t u := by funext l; simp [PN, eq_comm]
  obtain ⟨h8, e8, g8⟩ := parting_ok (d := d) (by omega) ⟨p1, p2⟩ r5' r6' gt gu
  obtain ⟨h9, e9, g9⟩ := lis_lot_ok (d := d) (by omega) _ dl h8
  obtain ⟨h10, e10, g10⟩ := parting_ok (d := d) (by omega) ⟨p1, p2⟩ (r6'.gs (g8.trans g9) (by simp)) (r5'.gs (g8.trans g9) (by simp)) gu gt
  rw [sy] at e10
  obtain ⟨h11, e11, g11⟩ := lis_lot_ok (d := d) (by omega) _ dl h10
  have g7' : Gs [] h7 h11 := (g8.trans g9).trans (g10.trans g11)
  obtain ⟨h12, e12, g12, r12⟩ := make_ok' (d := d) (h := h11) (by omega) gt.1 ⟨p1, p2⟩ (by have := gt.2.1; omega) (by have := gt.2.2.1; omega)
  obtain ⟨h13, e13, g13⟩ := parting_ok (d := d) (by omega) ⟨p1, p2⟩ ((r5'.gs g7' (by simp)).gs g12 (by simp)) r12 gt gt
  rw [find_none] at e13
  obtain ⟨F, h14, e14, l14, g14, f14⟩ := llots_ok (d := d) (p := p) (by omega) p2 h13
  have gx : Gs [] h7 h14 := ((g7'.trans g12).trans g13).trans g14
  generalize hD : (lots p).find? (PN p t u) = D at *
  obtain ⟨w7, w10, w11, w12, h15, e15, g15⟩ := k55_lots (d := d) (F := F) (v0 := v0) (v1 := some (.rf a)) (v2 := v2) (v7 := v7) (v10 := v10) (v11 := v11) (v12 := v12) (by omega) ⟨p1, p2⟩ (r5'.gs gx (by simp)) (r6'.gs gx (by simp)) gt gu hD l14
  have b0 : exS (callN Lw.tb d) (stm 0 k55outer) [v0, some (.rf a), v2, v3, v4, v5, v6, v7, v8, v9, v10, v11, v12] h = .nx [v0, some (.rf a), v2, some (.int p), v4, v5, v6, v7, v8, v9, v10, v11, v12] h1 := by
    simp only [k55P, nats, List.map_cons, List.map_nil] at e1' i1
    simp at e1'
    simp [-idxI_ap, stm, k55outer, fn_law_1050, e1', i1]
  have c2 : (1 : Int) + k = (k : Int) + 1 := by omega
  have b1 : exS (callN Lw.tb d) (stm 1 k55outer) [v0, some (.rf a), v2, some (.int p), v4, v5, v6, v7, v8, v9, v10, v11, v12] h1 = .nx [v0, some (.rf a), v2, some (.int p), some (enc t), v5, v6, v7, v8, v9, v10, v11, v12] h3 := by simp [stm, k55outer, fn_law_1050, e2', c2, e3]
  have b2 : exS (callN Lw.tb d) (stm 2 k55outer) [v0, some (.rf a), v2, some (.int p), some (enc t), v5, v6, v7, v8, v9, v10, v11, v12] h3 = .nx [v0, some (.rf a), v2, some (.int p), some (enc t), some (enc u), v6, v7, v8, v9, v10, v11, v12] h4 := by simp [stm, k55outer, fn_law_1050, e4]
  have b3 : exS (callN Lw.tb d) (stm 3 k55outer) [v0, some (.rf a), v2, some (.int p), some (enc t), some (enc u), v6, v7, v8, v9, v10, v11, v12] h4 = .nx [v0, some (.rf a), v2, some (.int p), some (enc t), some (enc u), v6, v7, some (.rf h4.length), some (.rf h5.length), v10, v11, v12] h6 := by simp [stm, k55outer, fn_law_1050, e5, e6]
  have b4 : exS (callN Lw.tb d) (stm 4 k55outer) [v0, some (.rf a), v2, some (.int p), some (enc t), some (enc u), v6, v7, some (.rf h4.length), some (.rf h5.length), v10, v11, v12] h6 = .nx [v0, some (.rf a), v2, some (.int p), some (enc t), some (enc u), some (optT D), v7, some (.rf h4.length), some (.rf h5.length), v10, v11, v12] h7 := by
    generalize optT D = W at *
    simp [stm, k55outer, fn_law_1050, e7]
  have b5 : exS (callN Lw.tb d) (stm 5 k55outer) [v0, some (.rf a), v2, some (.int p), some (enc t), some (enc u), some (optT D), v7, some (.rf h4.length), some (.rf h5.length), v10, v11, v12] h7 = .nx [v0, some (.rf a), v2, some (.int p), some (enc t), some (enc u), some (optT D), v7, some (.rf h4.length), some (.rf h5.length), v10, v11, v12] h11 := by
    generalize optT D = W at *
    refine ifs_no (or_no (h1 := h9) ?_ ?_)
    · simp [e8, e9]
    · simp [e10, e11]
  have b6 : exS (callN Lw.tb d) (stm 6 k55outer) [v0, some (.rf a), v2, some (.int p), some (enc t), some (enc u), some (optT D), v7, some (.rf h4.length), some (.rf h5.length), v10, v11, v12] h11 = .nx [v0, some (.rf a), v2, some (.int p), some (enc t), some (enc u), some (optT D), v7, some (.rf h4.length), some (.rf h5.length), v10, v11, v12] h13 := by
    have e13' : callN Lw.tb d 57 [.rf h4.length, .rf h11.length] h12 = .ok .non h13 := e13
    generalize optT D = W at *
    refine ifs_no ?_
    simp [e12, e13', isN]
  have b7 : exS (callN Lw.tb d) (stm 7 k55outer) [v0, some (.rf a), v2, some (.int p), some (enc t), some (enc u), some (optT D), v7, some (.rf h4.length), some (.rf h5.length), v10, v11, v12] h13 = .nx [v0, some (.rf a), v2, some (.int p), some (enc t), some (enc u), some (optT D), w7, some (.rf h4.length), some (.rf h5.length), w10, w11, w12] h15 := by
    have ov : evSrc (callN Lw.tb d) (.over (.call 1039 (.cons (.var 3) .nil))) [v0, some (.rf a), v2, some (.int p), some (enc t), some (enc u), some (optT D), v7, some (.rf h4.length), some (.rf h5.length), v10, v11, v12] h13 = .ok ⟨(lots p).map lotT, fun h' => lstOf h' (.rf F) = some ((lots p).map lotT)⟩ h14 := evSrc_over_lst (t := .rf F) (by
      generalize optT D = W at *
      simp [e14]) (by simp [lstOf, l14])
    exact exS_for_ok ov e15
  have x4' : Dice a (n - 400) h15 := (((((x4.gs g5).gs g6).gs g7).gs gx).gs g15).less (by omega)
  refine ⟨h15, some (.int p), some (enc t), some (enc u), some (optT D), w7, some (.rf h4.length), some (.rf h5.length), w10, w11, w12, ?_, x4'⟩
  show exSs _ (tls 0 k55outer) _ _ = _
  exact (run_step rfl b0).trans ((run_step rfl b1).trans ((run_step rfl b2).trans ((run_step rfl b3).trans ((run_step rfl b4).trans ((run_step rfl b5).trans ((run_step rfl b6).trans ((run_step rfl b7).trans rfl)))))))
theorem law_55 {d : Nat} {t : T} {ns : List Int} {h : Hs} (hd : 31 ≤ d) (e : lstOf h t = some (ns.map .int)) (l : ns.length ≤ 63) : ∃ h', callN Lw.tb d 1050 [t] h = .ok (.bl true) h' :=
  law_turns (m := 11) (N := 3) (c := 400) (body := k55outer) 13 rfl Lw.tb_1050 rfl (by decide) (by omega) (by decide) (by decide) e l fun a n r h lr x hn => by
    match r, lr with
    | [v2, v3, v4, v5, v6, v7, v8, v9, v10, v11, v12], _ =>
      obtain ⟨h', w3, w4, w5, w6, w7, w8, w9, w10, w11, w12, e, x⟩ := k55_turn (d := d - 1) (v0 := some t) (v2 := v2) (v3 := v3) (v4 := v4) (v5 := v5) (v6 := v6) (v7 := v7) (v8 := v8) (v9 := v9) (v10 := v10) (v11 := v11) (v12 := v12) (by omega) x hn
      exact ⟨_, h', e, rfl, x⟩
end CB


namespace Lw
open PySem PySem.Spec PyProof.Rows L2 CB
abbrev R : PySem.W.OpenRow := PySem.W.OpenLaw.row PySem.Challenge.rw_cornerbids_k55_whole_where_rules_part
def top (i : Nat) : Stmt := PySem.Challenge.pw_cornerbids_k55_whole_where_rules_part.main.body.getD i (.Pass ⟨0, 0, 0, 0⟩)
abbrev s_is_integer : Stmt := top 8
def d_is_integer : He.DefD := ⟨("is_integer", none), "is_integer", "is_integer", defArgs s_is_integer, defBody s_is_integer, defScope s_is_integer, [], []⟩
abbrev s_divisor : Stmt := top 9
def d_divisor : He.DefD := ⟨("divisor", none), "divisor", "divisor", defArgs s_divisor, defBody s_divisor, defScope s_divisor, [], []⟩
abbrev s_made : Stmt := top 10
def d_made : He.DefD := ⟨("made", none), "made", "made", defArgs s_made, defBody s_made, defScope s_made, [], []⟩
abbrev s_plus : Stmt := top 11
def d_plus : He.DefD := ⟨("plus", none), "plus", "plus", defArgs s_plus, defBody s_plus, defScope s_plus, [], []⟩
abbrev s_times : Stmt := top 12
def d_times : He.DefD := ⟨("times", none), "times", "times", defArgs s_times, defBody s_times, defScope s_times, [], []⟩
abbrev s_is_less : Stmt := top 13
def d_is_less : He.DefD := ⟨("is_less", none), "is_less", "is_less", defArgs s_is_less, defBody s_is_less, defScope s_is_less, [], []⟩
abbrev s_least_of : Stmt := top 14
def d_least_of : He.DefD := ⟨("least_of", none), "least_of", "least_of", defArgs s_least_of, defBody s_least_of, defScope s_least_of, [], []⟩
abbrev s_greatest_of : Stmt := top 15
def d_greatest_of : He.DefD := ⟨("greatest_of", none), "greatest_of", "greatest_of", defArgs s_greatest_of, defBody s_greatest_of, defScope s_greatest_of, [], []⟩
abbrev s_ascending : Stmt := top 16
def d_ascending : He.DefD := ⟨("ascending", none), "ascending", "ascending", defArgs s_ascending, defBody s_ascending, defScope s_ascending, [], []⟩
abbrev s_middle : Stmt := top 17
def d_middle : He.DefD := ⟨("middle", none), "middle", "middle", defArgs s_middle, defBody s_middle, defScope s_middle, [], []⟩
abbrev s_is_fraction : Stmt := top 18
def d_is_fraction : He.DefD := ⟨("is_fraction", none), "is_fraction", "is_fraction", defArgs s_is_fraction, defBody s_is_fraction, defScope s_is_fraction, [], []⟩
abbrev s_is_within : Stmt := top 21
def d_is_within : He.DefD := ⟨("is_within", none), "is_within", "is_within", defArgs s_is_within, defBody s_is_within, defScope s_is_within, [], []⟩
abbrev s_is_number : Stmt := top 22
def d_is_number : He.DefD := ⟨("is_number", none), "is_number", "is_number", defArgs s_is_number, defBody s_is_number, defScope s_is_number, [], []⟩
abbrev s_are_numbers : Stmt := top 23
def d_are_numbers : He.DefD := ⟨("are_numbers", none), "are_numbers", "are_numbers", defArgs s_are_numbers, defBody s_are_numbers, defScope s_are_numbers, [], []⟩
abbrev s_check_wishes : Stmt := top 24
def d_check_wishes : He.DefD := ⟨("check_wishes", none), "check_wishes", "check_wishes", defArgs s_check_wishes, defBody s_check_wishes, defScope s_check_wishes, [], []⟩
abbrev s_mean_of : Stmt := top 26
def d_mean_of : He.DefD := ⟨("mean_of", none), "mean_of", "mean_of", defArgs s_mean_of, defBody s_mean_of, defScope s_mean_of, [], []⟩
abbrev s_ranked_of : Stmt := top 27
def d_ranked_of : He.DefD := ⟨("ranked_of", none), "ranked_of", "ranked_of", defArgs s_ranked_of, defBody s_ranked_of, defScope s_ranked_of, [], []⟩
abbrev s_value_of : Stmt := top 28
def d_value_of : He.DefD := ⟨("value_of", none), "value_of", "value_of", defArgs s_value_of, defBody s_value_of, defScope s_value_of, [], []⟩
abbrev s_all_lots : Stmt := top 30
def d_all_lots : He.DefD := ⟨("all_lots", none), "all_lots", "all_lots", defArgs s_all_lots, defBody s_all_lots, defScope s_all_lots, [], []⟩
abbrev s_ends_for : Stmt := top 31
def d_ends_for : He.DefD := ⟨("ends_for", none), "ends_for", "ends_for", defArgs s_ends_for, defBody s_ends_for, defScope s_ends_for, [], []⟩
abbrev s_corner_of : Stmt := top 32
def d_corner_of : He.DefD := ⟨("corner_of", none), "corner_of", "corner_of", defArgs s_corner_of, defBody s_corner_of, defScope s_corner_of, [], []⟩
abbrev s_are_parts : Stmt := top 38
def d_are_parts : He.DefD := ⟨("are_parts", none), "are_parts", "are_parts", defArgs s_are_parts, defBody s_are_parts, defScope s_are_parts, [], []⟩
abbrev s_is_weighted : Stmt := top 39
def d_is_weighted : He.DefD := ⟨("is_weighted", none), "is_weighted", "is_weighted", defArgs s_is_weighted, defBody s_is_weighted, defScope s_is_weighted, [], []⟩
abbrev s_is_bound : Stmt := top 40
def d_is_bound : He.DefD := ⟨("is_bound", none), "is_bound", "is_bound", defArgs s_is_bound, defBody s_is_bound, defScope s_is_bound, [], []⟩
abbrev s_parts_told : Stmt := top 41
def d_parts_told : He.DefD := ⟨("parts_told", none), "parts_told", "parts_told", defArgs s_parts_told, defBody s_parts_told, defScope s_parts_told, [], []⟩
abbrev s_is_leaf : Stmt := top 42
def d_is_leaf : He.DefD := ⟨("is_leaf", none), "is_leaf", "is_leaf", defArgs s_is_leaf, defBody s_is_leaf, defScope s_is_leaf, [], []⟩
abbrev s_terms_told : Stmt := top 43
def d_terms_told : He.DefD := ⟨("terms_told", none), "terms_told", "terms_told", defArgs s_terms_told, defBody s_terms_told, defScope s_terms_told, [], []⟩
abbrev s_Rule___init__ : Stmt := (inClass (top 44) 0)
def d_Rule___init__ : He.DefD := ⟨("Rule", some "__init__"), "__init__", "Rule.__init__", defArgs s_Rule___init__, defBody s_Rule___init__, defScope s_Rule___init__, [], []⟩
abbrev s_check_people_alike : Stmt := top 46
def d_check_people_alike : He.DefD := ⟨("check_people_alike", none), "check_people_alike", "check_people_alike", defArgs s_check_people_alike, defBody s_check_people_alike, defScope s_check_people_alike, [], []⟩
abbrev s_parted_at : Stmt := top 47
def d_parted_at : He.DefD := ⟨("parted_at", none), "parted_at", "parted_at", defArgs s_parted_at, defBody s_parted_at, defScope s_parted_at, [], []⟩
abbrev s_parting : Stmt := top 48
def d_parting : He.DefD := ⟨("parting", none), "parting", "parting", defArgs s_parting, defBody s_parting, defScope s_parting, [], []⟩
abbrev s_wishing : Stmt := top 50
def d_wishing : He.DefD := ⟨("wishing", none), "wishing", "wishing", defArgs s_wishing, defBody s_wishing, defScope s_wishing, [], []⟩
abbrev s_outcome_among : Stmt := top 51
def d_outcome_among : He.DefD := ⟨("outcome_among", none), "outcome_among", "outcome_among", defArgs s_outcome_among, defBody s_outcome_among, defScope s_outcome_among, [], []⟩
abbrev s_outcome_of : Stmt := top 52
def d_outcome_of : He.DefD := ⟨("outcome_of", none), "outcome_of", "outcome_of", defArgs s_outcome_of, defBody s_outcome_of, defScope s_outcome_of, [], []⟩
abbrev s_outcome : Stmt := top 53
def d_outcome : He.DefD := ⟨("outcome", none), "outcome", "outcome", defArgs s_outcome, defBody s_outcome, defScope s_outcome, [], []⟩
abbrev s__law_dice : Stmt := top 55
def d__law_dice : He.DefD := ⟨("_law_dice", none), "_law_dice", "_law_dice", defArgs s__law_dice, defBody s__law_dice, defScope s__law_dice, [], []⟩
abbrev s__law_draw : Stmt := top 56
def d__law_draw : He.DefD := ⟨("_law_draw", none), "_law_draw", "_law_draw", defArgs s__law_draw, defBody s__law_draw, defScope s__law_draw, [], []⟩
abbrev s__law_lowest : Stmt := top 57
def d__law_lowest : He.DefD := ⟨("_law_lowest", none), "_law_lowest", "_law_lowest", defArgs s__law_lowest, defBody s__law_lowest, defScope s__law_lowest, [], []⟩
abbrev s__law_sum : Stmt := top 58
def d__law_sum : He.DefD := ⟨("_law_sum", none), "_law_sum", "_law_sum", defArgs s__law_sum, defBody s__law_sum, defScope s__law_sum, [], []⟩
abbrev s__law_product : Stmt := top 59
def d__law_product : He.DefD := ⟨("_law_product", none), "_law_product", "_law_product", defArgs s__law_product, defBody s__law_product, defScope s__law_product, [], []⟩
abbrev s__law_less : Stmt := top 60
def d__law_less : He.DefD := ⟨("_law_less", none), "_law_less", "_law_less", defArgs s__law_less, defBody s__law_less, defScope s__law_less, [], []⟩
abbrev s__law_sorted : Stmt := top 61
def d__law_sorted : He.DefD := ⟨("_law_sorted", none), "_law_sorted", "_law_sorted", defArgs s__law_sorted, defBody s__law_sorted, defScope s__law_sorted, [], []⟩
abbrev s__law_number : Stmt := top 62
def d__law_number : He.DefD := ⟨("_law_number", none), "_law_number", "_law_number", defArgs s__law_number, defBody s__law_number, defScope s__law_number, [], []⟩
abbrev s__law_term : Stmt := top 63
def d__law_term : He.DefD := ⟨("_law_term", none), "_law_term", "_law_term", defArgs s__law_term, defBody s__law_term, defScope s__law_term, [], []⟩
abbrev s__law_value : Stmt := top 64
def d__law_value : He.DefD := ⟨("_law_value", none), "_law_value", "_law_value", defArgs s__law_value, defBody s__law_value, defScope s__law_value, [], []⟩
abbrev s__law_lots : Stmt := top 65
def d__law_lots : He.DefD := ⟨("_law_lots", none), "_law_lots", "_law_lots", defArgs s__law_lots, defBody s__law_lots, defScope s__law_lots, [], []⟩
abbrev s__law_by_size : Stmt := top 66
def d__law_by_size : He.DefD := ⟨("_law_by_size", none), "_law_by_size", "_law_by_size", defArgs s__law_by_size, defBody s__law_by_size, defScope s__law_by_size, [], []⟩
abbrev s__law_at_ends : Stmt := top 67
def d__law_at_ends : He.DefD := ⟨("_law_at_ends", none), "_law_at_ends", "_law_at_ends", defArgs s__law_at_ends, defBody s__law_at_ends, defScope s__law_at_ends, [], []⟩
abbrev s__law_corner : Stmt := top 68
def d__law_corner : He.DefD := ⟨("_law_corner", none), "_law_corner", "_law_corner", defArgs s__law_corner, defBody s__law_corner, defScope s__law_corner, [], []⟩
abbrev s__law_beside : Stmt := top 69
def d__law_beside : He.DefD := ⟨("_law_beside", none), "_law_beside", "_law_beside", defArgs s__law_beside, defBody s__law_beside, defScope s__law_beside, [], []⟩
abbrev s__law_due : Stmt := top 70
def d__law_due : He.DefD := ⟨("_law_due", none), "_law_due", "_law_due", defArgs s__law_due, defBody s__law_due, defScope s__law_due, [], []⟩
abbrev s__law_is_lot : Stmt := top 71
def d__law_is_lot : He.DefD := ⟨("_law_is_lot", none), "_law_is_lot", "_law_is_lot", defArgs s__law_is_lot, defBody s__law_is_lot, defScope s__law_is_lot, [], []⟩
abbrev s_law : Stmt := top 72
def d_law : He.DefD := ⟨("law", none), "law", "law", defArgs s_law, defBody s_law, defScope s_law, [], []⟩
def fns0 : List He.DefD := [d_is_integer, d_divisor, d_made, d_plus, d_times, d_is_less, d_least_of, d_greatest_of, d_ascending, d_middle, d_is_fraction, d_is_within, d_is_number, d_are_numbers, d_check_wishes, d_mean_of, d_ranked_of, d_value_of, d_all_lots, d_ends_for, d_corner_of, d_are_parts, d_is_weighted, d_is_bound, d_parts_told, d_is_leaf, d_terms_told, d_Rule___init__, d_check_people_alike, d_parted_at]
def fns1 : List He.DefD := [d_parting, d_wishing, d_outcome_among, d_outcome_of, d_outcome, d__law_dice, d__law_draw, d__law_lowest, d__law_sum, d__law_product, d__law_less, d__law_sorted, d__law_number, d__law_term, d__law_value, d__law_lots, d__law_by_size, d__law_at_ends, d__law_corner, d__law_beside, d__law_due, d__law_is_lot, d_law]
def fns : List He.DefD := fns0 ++ fns1
def loose0 : List PySem.Str := ["BidError", "BadRule", "NoWishes", "OtherPeople", "ZERO", "ONE", "is_integer", "divisor", "made", "plus", "times", "is_less", "least_of", "greatest_of", "ascending", "middle", "is_fraction", "MOST_PEOPLE", "is_within", "is_number", "are_numbers", "check_wishes", "mean_of", "ranked_of", "value_of", "all_lots", "ends_for", "corner_of", "MOST_DEEP", "MOST_TERMS"]
def loose1 : List PySem.Str := ["MOST_PARTS", "MOST_WEIGHT", "are_parts", "is_weighted", "is_bound", "parts_told", "is_leaf", "terms_told", "Rule", "check_people_alike", "parted_at", "parting", "wishing", "outcome_among", "outcome_of", "outcome", "_law_dice", "_law_draw", "_law_lowest", "_law_sum", "_law_product", "_law_less", "_law_sorted", "_law_number", "_law_term", "_law_value", "_law_lots", "_law_by_size", "_law_at_ends", "_law_corner"]
def loose2 : List PySem.Str := ["_law_beside", "_law_due", "_law_is_lot"]
def loose : List PySem.Str := loose0 ++ loose1 ++ loose2
def fas0 : List He.Fa := [.glo "is_integer", .glo "divisor", .glo "made", .glo "plus", .glo "times", .glo "is_less", .glo "least_of", .glo "greatest_of", .glo "ascending", .glo "middle", .glo "is_fraction", .glo "is_within", .glo "is_number", .glo "are_numbers", .glo "check_wishes", .glo "mean_of", .glo "ranked_of", .glo "value_of", .glo "all_lots", .glo "ends_for", .glo "corner_of", .glo "are_parts", .glo "is_weighted", .glo "is_bound", .glo "parts_told", .glo "is_leaf", .glo "terms_told", .glo "check_people_alike", .glo "parted_at", .glo "parting"]
def fas1 : List He.Fa := [.glo "wishing", .glo "outcome_among", .glo "outcome_of", .glo "outcome", .glo "_law_dice", .glo "_law_draw", .glo "_law_lowest", .glo "_law_sum", .glo "_law_product", .glo "_law_less", .glo "_law_sorted", .glo "_law_number", .glo "_law_term", .glo "_law_value", .glo "_law_lots", .glo "_law_by_size", .glo "_law_at_ends", .glo "_law_corner", .glo "_law_beside", .glo "_law_due", .glo "_law_is_lot", .glo "law", .free "abs", .free "all", .free "bool", .free "enumerate", .free "int", .free "isinstance", .free "len", .free "list"]
def fas2 : List He.Fa := [.free "range", .free "sorted", .free "str", .free "sum", .free "tuple", .free "zip", .int "MOST_PEOPLE" 6, .int "MOST_DEEP" 8, .int "MOST_TERMS" 60, .int "MOST_PARTS" 8, .int "MOST_WEIGHT" 99, .glo "Rule", .cls "Rule", .mkr "Rule", .noat "Rule" "people", .noat "Rule" "term"]
def fas : List He.Fa := fas0 ++ fas1 ++ fas2
def tps : Tps := [("ZERO", [0, 1].map He.Dv.int), ("ONE", [1, 1].map He.Dv.int)]
def nmF0 : List (Str × Nat × Nat) := [("is_integer", 0, 1), ("divisor", 1, 2), ("made", 2, 2), ("plus", 3, 2), ("times", 4, 2), ("is_less", 5, 2), ("least_of", 6, 1), ("greatest_of", 7, 1), ("ascending", 8, 1), ("middle", 9, 3), ("is_fraction", 10, 1), ("is_within", 11, 3), ("is_number", 12, 1), ("are_numbers", 13, 2), ("check_wishes", 26, 2), ("mean_of", 15, 2), ("ranked_of", 16, 2), ("value_of", 17, 2), ("all_lots", 51, 1), ("ends_for", 27, 3), ("corner_of", 52, 2), ("are_parts", 18, 1), ("is_weighted", 19, 1), ("is_bound", 20, 1), ("parts_told", 21, 1), ("is_leaf", 22, 2), ("terms_told", 23, 3), ("check_people_alike", 55, 2), ("parted_at", 56, 2), ("parting", 57, 2)]
def nmF1 : List (Str × Nat × Nat) := [("wishing", 28, 2), ("outcome_among", 29, 4), ("outcome_of", 30, 2), ("outcome", 31, 2), ("_law_dice", 1000, 1), ("_law_draw", 1001, 2), ("_law_lowest", 1002, 2), ("_law_sum", 1003, 3), ("_law_product", 1004, 2), ("_law_less", 1005, 2), ("_law_sorted", 1006, 1), ("_law_number", 1007, 1), ("_law_term", 1009, 4), ("_law_value", 1011, 2), ("_law_lots", 1039, 1), ("_law_by_size", 1038, 1), ("_law_at_ends", 1034, 2), ("_law_corner", 1035, 3), ("_law_beside", 1047, 3), ("_law_due", 1048, 3), ("_law_is_lot", 1049, 2), ("law", 1050, 1)]
def nmF : List (Str × Nat × Nat) := nmF0 ++ nmF1
def nmC : List (Str × Nat × Nat × Nat) := [("Rule", 0, 24, 3)]
def nmK : List (Str × T) := [("MOST_PEOPLE", .int 6), ("MOST_DEEP", .int 8), ("MOST_TERMS", .int 60), ("MOST_PARTS", .int 8), ("MOST_WEIGHT", .int 99), ("ZERO", .tup ([0, 1].map .int)), ("ONE", .tup ([1, 1].map .int))]
def nmB : List Str := ["abs", "all", "bool", "enumerate", "int", "isinstance", "len", "list", "range", "sorted", "str", "sum", "tuple", "zip"]
def nm : Nm := ⟨nmF, nmC, nmK, nmB⟩
theorem c_is_integer : cF nm ["thing"] 1 (defScope s_is_integer) (defBody s_is_integer) = some fn_is_integer_0 := by kernel_rfl
theorem sc_is_integer : FnScope ["thing"] ["thing"] (defScope s_is_integer) := ⟨rfl, rfl, rfl, by decide +kernel, rfl, by decide +kernel, by decide +kernel⟩
theorem c_divisor : cF nm ["one", "other"] 2 (defScope s_divisor) (defBody s_divisor) = some fn_divisor_1 := by kernel_rfl
theorem sc_divisor : FnScope ["one", "other"] ["one", "other"] (defScope s_divisor) := ⟨rfl, rfl, rfl, by decide +kernel, rfl, by decide +kernel, by decide +kernel⟩
theorem c_made : cF nm ["top", "bottom", "common"] 2 (defScope s_made) (defBody s_made) = some fn_made_2 := by kernel_rfl
theorem sc_made : FnScope ["top", "bottom", "common"] ["top", "bottom"] (defScope s_made) := ⟨rfl, rfl, rfl, by decide +kernel, rfl, by decide +kernel, by decide +kernel⟩
theorem c_plus : cF nm ["one", "other"] 2 (defScope s_plus) (defBody s_plus) = some fn_plus_3 := by kernel_rfl
theorem sc_plus : FnScope ["one", "other"] ["one", "other"] (defScope s_plus) := ⟨rfl, rfl, rfl, by decide +kernel, rfl, by decide +kernel, by decide +kernel⟩
theorem c_times : cF nm ["one", "other"] 2 (defScope s_times) (defBody s_times) = some fn_times_4 := by kernel_rfl
theorem sc_times : FnScope ["one", "other"] ["one", "other"] (defScope s_times) := ⟨rfl, rfl, rfl, by decide +kernel, rfl, by decide +kernel, by decide +kernel⟩
theorem c_is_less : cF nm ["one", "other"] 2 (defScope s_is_less) (defBody s_is_less) = some fn_is_less_5 := by kernel_rfl
theorem sc_is_less : FnScope ["one", "other"] ["one", "other"] (defScope s_is_less) := ⟨rfl, rfl, rfl, by decide +kernel, rfl, by decide +kernel, by decide +kernel⟩
theorem c_least_of : cF nm ["fractions", "found", "fraction"] 1 (defScope s_least_of) (defBody s_least_of) = some fn_least_of_6 := by kernel_rfl
theorem sc_least_of : FnScope ["fractions", "found", "fraction"] ["fractions"] (defScope s_least_of) := ⟨rfl, rfl, rfl, by decide +kernel, rfl, by decide +kernel, by decide +kernel⟩
theorem c_greatest_of : cF nm ["fractions", "found", "fraction"] 1 (defScope s_greatest_of) (defBody s_greatest_of) = some fn_greatest_of_7 := by kernel_rfl
theorem sc_greatest_of : FnScope ["fractions", "found", "fraction"] ["fractions"] (defScope s_greatest_of) := ⟨rfl, rfl, rfl, by decide +kernel, rfl, by decide +kernel, by decide +kernel⟩
theorem c_ascending : cF nm ["fractions", "found", "fraction", "at"] 1 (defScope s_ascending) (defBody s_ascending) = some fn_ascending_8 := by kernel_rfl
theorem sc_ascending : FnScope ["fractions", "found", "fraction", "at"] ["fractions"] (defScope s_ascending) := ⟨rfl, rfl, rfl, by decide +kernel, rfl, by decide +kernel, by decide +kernel⟩
theorem c_middle : cF nm ["one", "two", "three"] 3 (defScope s_middle) (defBody s_middle) = some fn_middle_9 := by kernel_rfl
theorem sc_middle : FnScope ["one", "two", "three"] ["one", "two", "three"] (defScope s_middle) := ⟨rfl, rfl, rfl, by decide +kernel, rfl, by decide +kernel, by decide +kernel⟩
theorem c_is_fraction : cF nm ["thing", "part"] 1 (defScope s_is_fraction) (defBody s_is_fraction) = some fn_is_fraction_10 := by kernel_rfl
theorem sc_is_fraction : FnScope ["thing", "part"] ["thing"] (defScope s_is_fraction) := ⟨rfl, rfl, rfl, by decide +kernel, rfl, by decide +kernel, by decide +kernel⟩
theorem c_is_within : cF nm ["thing", "least", "most"] 3 (defScope s_is_within) (defBody s_is_within) = some fn_is_within_11 := by kernel_rfl
theorem sc_is_within : FnScope ["thing", "least", "most"] ["thing", "least", "most"] (defScope s_is_within) := ⟨rfl, rfl, rfl, by decide +kernel, rfl, by decide +kernel, by decide +kernel⟩
theorem c_is_number : cF nm ["thing"] 1 (defScope s_is_number) (defBody s_is_number) = some fn_is_number_12 := by kernel_rfl
theorem sc_is_number : FnScope ["thing"] ["thing"] (defScope s_is_number) := ⟨rfl, rfl, rfl, by decide +kernel, rfl, by decide +kernel, by decide +kernel⟩
theorem c_are_numbers : cF nm ["thing", "many", "part"] 2 (defScope s_are_numbers) (defBody s_are_numbers) = some fn_are_numbers_13 := by kernel_rfl
theorem sc_are_numbers : FnScope ["thing", "many", "part"] ["thing", "many"] (defScope s_are_numbers) := ⟨rfl, rfl, rfl, by decide +kernel, rfl, by decide +kernel, by decide +kernel⟩
theorem c_check_wishes : cF nm ["rule", "thing"] 2 (defScope s_check_wishes) (defBody s_check_wishes) = some fn_check_wishes_26 := by kernel_rfl
theorem sc_check_wishes : FnScope ["rule", "thing"] ["rule", "thing"] (defScope s_check_wishes) := ⟨rfl, rfl, rfl, by decide +kernel, rfl, by decide +kernel, by decide +kernel⟩
theorem c_mean_of : cF nm ["weights", "numbers", "total", "weight", "number"] 2 (defScope s_mean_of) (defBody s_mean_of) = some fn_mean_of_15 := by kernel_rfl
theorem sc_mean_of : FnScope ["weights", "numbers", "total", "weight", "number"] ["weights", "numbers"] (defScope s_mean_of) := ⟨rfl, rfl, rfl, by decide +kernel, rfl, by decide +kernel, by decide +kernel⟩
theorem c_ranked_of : cF nm ["k", "numbers"] 2 (defScope s_ranked_of) (defBody s_ranked_of) = some fn_ranked_of_16 := by kernel_rfl
theorem sc_ranked_of : FnScope ["k", "numbers"] ["k", "numbers"] (defScope s_ranked_of) := ⟨rfl, rfl, rfl, by decide +kernel, rfl, by decide +kernel, by decide +kernel⟩
theorem c_value_of : cF nm ["term", "bids", "word", "numbers", "part", "weight"] 2 (defScope s_value_of) (defBody s_value_of) = some fn_value_of_17 := by kernel_rfl
theorem sc_value_of : FnScope ["term", "bids", "word", "numbers", "part", "weight"] ["term", "bids"] (defScope s_value_of) := ⟨rfl, rfl, rfl, by decide +kernel, rfl, by decide +kernel, by decide +kernel⟩
theorem c_all_lots : cF nm ["many", "found", "level", "size", "longer", "lot", "person"] 1 (defScope s_all_lots) (defBody s_all_lots) = some fn_all_lots_51 := by kernel_rfl
theorem sc_all_lots : FnScope ["many", "found", "level", "size", "longer", "lot", "person"] ["many"] (defScope s_all_lots) := ⟨rfl, rfl, rfl, by decide +kernel, rfl, by decide +kernel, by decide +kernel⟩
theorem c_ends_for : cF nm ["lows", "highs", "lot", "person", "low"] 3 (defScope s_ends_for) (defBody s_ends_for) = some fn_ends_for_27 := by kernel_rfl
theorem sc_ends_for : FnScope ["lows", "highs", "lot", "person", "low"] ["lows", "highs", "lot"] (defScope s_ends_for) := ⟨rfl, rfl, rfl, by decide +kernel, rfl, by decide +kernel, by decide +kernel⟩
theorem c_corner_of : cF nm ["rule", "lot"] 2 (defScope s_corner_of) (defBody s_corner_of) = some fn_corner_of_52 := by kernel_rfl
theorem sc_corner_of : FnScope ["rule", "lot"] ["rule", "lot"] (defScope s_corner_of) := ⟨rfl, rfl, rfl, by decide +kernel, rfl, by decide +kernel, by decide +kernel⟩
theorem c_are_parts : cF nm ["thing"] 1 (defScope s_are_parts) (defBody s_are_parts) = some fn_are_parts_18 := by kernel_rfl
theorem sc_are_parts : FnScope ["thing"] ["thing"] (defScope s_are_parts) := ⟨rfl, rfl, rfl, by decide +kernel, rfl, by decide +kernel, by decide +kernel⟩
theorem c_is_weighted : cF nm ["thing"] 1 (defScope s_is_weighted) (defBody s_is_weighted) = some fn_is_weighted_19 := by kernel_rfl
theorem sc_is_weighted : FnScope ["thing"] ["thing"] (defScope s_is_weighted) := ⟨rfl, rfl, rfl, by decide +kernel, rfl, by decide +kernel, by decide +kernel⟩
theorem c_is_bound : cF nm ["thing"] 1 (defScope s_is_bound) (defBody s_is_bound) = some fn_is_bound_20 := by kernel_rfl
theorem sc_is_bound : FnScope ["thing"] ["thing"] (defScope s_is_bound) := ⟨rfl, rfl, rfl, by decide +kernel, rfl, by decide +kernel, by decide +kernel⟩
theorem c_parts_told : cF nm ["thing", "word", "part"] 1 (defScope s_parts_told) (defBody s_parts_told) = some fn_parts_told_21 := by kernel_rfl
theorem sc_parts_told : FnScope ["thing", "word", "part"] ["thing"] (defScope s_parts_told) := ⟨rfl, rfl, rfl, by decide +kernel, rfl, by decide +kernel, by decide +kernel⟩
theorem c_is_leaf : cF nm ["people", "thing"] 2 (defScope s_is_leaf) (defBody s_is_leaf) = some fn_is_leaf_22 := by kernel_rfl
theorem sc_is_leaf : FnScope ["people", "thing"] ["people", "thing"] (defScope s_is_leaf) := ⟨rfl, rfl, rfl, by decide +kernel, rfl, by decide +kernel, by decide +kernel⟩
theorem c_terms_told : cF nm ["people", "thing", "deep", "parts", "many", "part", "inner"] 3 (defScope s_terms_told) (defBody s_terms_told) = some fn_terms_told_23 := by kernel_rfl
theorem sc_terms_told : FnScope ["people", "thing", "deep", "parts", "many", "part", "inner"] ["people", "thing", "deep"] (defScope s_terms_told) := ⟨rfl, rfl, rfl, by decide +kernel, rfl, by decide +kernel, by decide +kernel⟩
theorem c_Rule___init__ : cF nm ["self", "people", "term", "many"] 3 (defScope s_Rule___init__) (defBody s_Rule___init__) = some fn_Rule___init_24 := by kernel_rfl
theorem sc_Rule___init__ : FnScope ["self", "people", "term", "many"] ["self", "people", "term"] (defScope s_Rule___init__) := ⟨rfl, rfl, rfl, by decide +kernel, rfl, by decide +kernel, by decide +kernel⟩
theorem c_check_people_alike : cF nm ["one", "other"] 2 (defScope s_check_people_alike) (defBody s_check_people_alike) = some fn_check_people_alike_55 := by kernel_rfl
theorem sc_check_people_alike : FnScope ["one", "other"] ["one", "other"] (defScope s_check_people_alike) := ⟨rfl, rfl, rfl, by decide +kernel, rfl, by decide +kernel, by decide +kernel⟩
theorem c_parted_at : cF nm ["one", "other", "lot"] 2 (defScope s_parted_at) (defBody s_parted_at) = some fn_parted_at_56 := by kernel_rfl
theorem sc_parted_at : FnScope ["one", "other", "lot"] ["one", "other"] (defScope s_parted_at) := ⟨rfl, rfl, rfl, by decide +kernel, rfl, by decide +kernel, by decide +kernel⟩
theorem c_parting : cF nm ["one", "other"] 2 (defScope s_parting) (defBody s_parting) = some fn_parting_57 := by kernel_rfl
theorem sc_parting : FnScope ["one", "other"] ["one", "other"] (defScope s_parting) := ⟨rfl, rfl, rfl, by decide +kernel, rfl, by decide +kernel, by decide +kernel⟩
theorem c_wishing : cF nm ["wishes", "number", "person", "wish"] 2 (defScope s_wishing) (defBody s_wishing) = some fn_wishing_28 := by kernel_rfl
theorem sc_wishing : FnScope ["wishes", "number", "person", "wish"] ["wishes", "number"] (defScope s_wishing) := ⟨rfl, rfl, rfl, by decide +kernel, rfl, by decide +kernel, by decide +kernel⟩
theorem c_outcome_among : cF nm ["rule", "wishes", "lows", "highs", "found", "wish", "held"] 4 (defScope s_outcome_among) (defBody s_outcome_among) = some fn_outcome_among_29 := by kernel_rfl
theorem sc_outcome_among : FnScope ["rule", "wishes", "lows", "highs", "found", "wish", "held"] ["rule", "wishes", "lows", "highs"] (defScope s_outcome_among) := ⟨rfl, rfl, rfl, by decide +kernel, rfl, by decide +kernel, by decide +kernel⟩
theorem c_outcome_of : cF nm ["rule", "wishes"] 2 (defScope s_outcome_of) (defBody s_outcome_of) = some fn_outcome_of_30 := by kernel_rfl
theorem sc_outcome_of : FnScope ["rule", "wishes"] ["rule", "wishes"] (defScope s_outcome_of) := ⟨rfl, rfl, rfl, by decide +kernel, rfl, by decide +kernel, by decide +kernel⟩
theorem c_outcome : cF nm ["rule", "wishes"] 2 (defScope s_outcome) (defBody s_outcome) = some fn_outcome_31 := by kernel_rfl
theorem sc_outcome : FnScope ["rule", "wishes"] ["rule", "wishes"] (defScope s_outcome) := ⟨rfl, rfl, rfl, by decide +kernel, rfl, by decide +kernel, by decide +kernel⟩
theorem c__law_dice : cF nm ["_law_script", "_law_cell"] 1 (defScope s__law_dice) (defBody s__law_dice) = some fn_law_dice_1000 := by kernel_rfl
theorem sc__law_dice : FnScope ["_law_script", "_law_cell"] ["_law_script"] (defScope s__law_dice) := ⟨rfl, rfl, rfl, by decide +kernel, rfl, by decide +kernel, by decide +kernel⟩
theorem c__law_draw : cF nm ["_law_dice_here", "_law_sides", "_law_mixed", "_law_cell", "_law_digit"] 2 (defScope s__law_draw) (defBody s__law_draw) = some fn_law_draw_1001 := by kernel_rfl
theorem sc__law_draw : FnScope ["_law_dice_here", "_law_sides", "_law_mixed", "_law_cell", "_law_digit"] ["_law_dice_here", "_law_sides"] (defScope s__law_draw) := ⟨rfl, rfl, rfl, by decide +kernel, rfl, by decide +kernel, by decide +kernel⟩
theorem c__law_lowest : cF nm ["_law_top", "_law_bottom", "_law_one", "_law_other"] 2 (defScope s__law_lowest) (defBody s__law_lowest) = some fn_law_lowest_1002 := by kernel_rfl
theorem sc__law_lowest : FnScope ["_law_top", "_law_bottom", "_law_one", "_law_other"] ["_law_top", "_law_bottom"] (defScope s__law_lowest) := ⟨rfl, rfl, rfl, by decide +kernel, rfl, by decide +kernel, by decide +kernel⟩
theorem c__law_sum : cF nm ["_law_one", "_law_other", "_law_sign"] 3 (defScope s__law_sum) (defBody s__law_sum) = some fn_law_sum_1003 := by kernel_rfl
theorem sc__law_sum : FnScope ["_law_one", "_law_other", "_law_sign"] ["_law_one", "_law_other", "_law_sign"] (defScope s__law_sum) := ⟨rfl, rfl, rfl, by decide +kernel, rfl, by decide +kernel, by decide +kernel⟩
theorem c__law_product : cF nm ["_law_one", "_law_other"] 2 (defScope s__law_product) (defBody s__law_product) = some fn_law_product_1004 := by kernel_rfl
theorem sc__law_product : FnScope ["_law_one", "_law_other"] ["_law_one", "_law_other"] (defScope s__law_product) := ⟨rfl, rfl, rfl, by decide +kernel, rfl, by decide +kernel, by decide +kernel⟩
theorem c__law_less : cF nm ["_law_one", "_law_other"] 2 (defScope s__law_less) (defBody s__law_less) = some fn_law_less_1005 := by kernel_rfl
theorem sc__law_less : FnScope ["_law_one", "_law_other"] ["_law_one", "_law_other"] (defScope s__law_less) := ⟨rfl, rfl, rfl, by decide +kernel, rfl, by decide +kernel, by decide +kernel⟩
theorem c__law_sorted : cF nm ["_law_numbers", "_law_found", "_law_number_here", "_law_at", "_law_other"] 1 (defScope s__law_sorted) (defBody s__law_sorted) = some fn_law_sorted_1006 := by kernel_rfl
theorem sc__law_sorted : FnScope ["_law_numbers", "_law_found", "_law_number_here", "_law_at", "_law_other"] ["_law_numbers"] (defScope s__law_sorted) := ⟨rfl, rfl, rfl, by decide +kernel, rfl, by decide +kernel, by decide +kernel⟩
theorem c__law_number : cF nm ["_law_dice_here", "_law_bottom"] 1 (defScope s__law_number) (defBody s__law_number) = some fn_law_number_1007 := by kernel_rfl
theorem sc__law_number : FnScope ["_law_dice_here", "_law_bottom"] ["_law_dice_here"] (defScope s__law_number) := ⟨rfl, rfl, rfl, by decide +kernel, rfl, by decide +kernel, by decide +kernel⟩
theorem c__law_term : cF nm ["_law_dice_here", "_law_people", "_law_deep", "_law_means", "_law_kind", "_law_parts", "_law_ends", "_law_k", "_law_part"] 4 (defScope s__law_term) (defBody s__law_term) = some fn_law_term_1009 := by kernel_rfl
theorem sc__law_term : FnScope ["_law_dice_here", "_law_people", "_law_deep", "_law_means", "_law_kind", "_law_parts", "_law_ends", "_law_k", "_law_part"] ["_law_dice_here", "_law_people", "_law_deep", "_law_means"] (defScope s__law_term) := ⟨rfl, rfl, rfl, by decide +kernel, rfl, by decide +kernel, by decide +kernel⟩
theorem c__law_value : cF nm ["_law_term_here", "_law_bids", "_law_word", "_law_told", "_law_whole", "_law_weight", "_law_part"] 2 (defScope s__law_value) (defBody s__law_value) = some fn_law_value_1011 := by kernel_rfl
theorem sc__law_value : FnScope ["_law_term_here", "_law_bids", "_law_word", "_law_told", "_law_whole", "_law_weight", "_law_part"] ["_law_term_here", "_law_bids"] (defScope s__law_value) := ⟨rfl, rfl, rfl, by decide +kernel, rfl, by decide +kernel, by decide +kernel⟩
theorem c__law_lots : cF nm ["_law_people", "_law_found", "_law_person", "_law_lot"] 1 (defScope s__law_lots) (defBody s__law_lots) = some fn_law_lots_1039 := by kernel_rfl
theorem sc__law_lots : FnScope ["_law_people", "_law_found", "_law_person", "_law_lot"] ["_law_people"] (defScope s__law_lots) := ⟨rfl, rfl, rfl, by decide +kernel, rfl, by decide +kernel, by decide +kernel⟩
theorem c__law_by_size : cF nm ["_law_lots_here", "_law_found", "_law_size", "_law_lot"] 1 (defScope s__law_by_size) (defBody s__law_by_size) = some fn_law_by_size_1038 := by kernel_rfl
theorem sc__law_by_size : FnScope ["_law_lots_here", "_law_found", "_law_size", "_law_lot"] ["_law_lots_here"] (defScope s__law_by_size) := ⟨rfl, rfl, rfl, by decide +kernel, rfl, by decide +kernel, by decide +kernel⟩
theorem c__law_at_ends : cF nm ["_law_people", "_law_lot", "_law_person"] 2 (defScope s__law_at_ends) (defBody s__law_at_ends) = some fn_law_at_ends_1034 := by kernel_rfl
theorem sc__law_at_ends : FnScope ["_law_people", "_law_lot", "_law_person"] ["_law_people", "_law_lot"] (defScope s__law_at_ends) := ⟨rfl, rfl, rfl, by decide +kernel, rfl, by decide +kernel, by decide +kernel⟩
theorem c__law_corner : cF nm ["_law_people", "_law_term_here", "_law_lot"] 3 (defScope s__law_corner) (defBody s__law_corner) = some fn_law_corner_1035 := by kernel_rfl
theorem sc__law_corner : FnScope ["_law_people", "_law_term_here", "_law_lot"] ["_law_people", "_law_term_here", "_law_lot"] (defScope s__law_corner) := ⟨rfl, rfl, rfl, by decide +kernel, rfl, by decide +kernel, by decide +kernel⟩
theorem c__law_beside : cF nm ["_law_dice_here", "_law_people", "_law_term_here", "_law_kind", "_law_number_here", "_law_some", "_law_ends", "_law_person"] 3 (defScope s__law_beside) (defBody s__law_beside) = some fn_law_beside_1047 := by kernel_rfl
theorem sc__law_beside : FnScope ["_law_dice_here", "_law_people", "_law_term_here", "_law_kind", "_law_number_here", "_law_some", "_law_ends", "_law_person"] ["_law_dice_here", "_law_people", "_law_term_here"] (defScope s__law_beside) := ⟨rfl, rfl, rfl, by decide +kernel, rfl, by decide +kernel, by decide +kernel⟩
theorem c__law_due : cF nm ["_law_people", "_law_term_here", "_law_other", "_law_lot"] 3 (defScope s__law_due) (defBody s__law_due) = some fn_law_due_1048 := by kernel_rfl
theorem sc__law_due : FnScope ["_law_people", "_law_term_here", "_law_other", "_law_lot"] ["_law_people", "_law_term_here", "_law_other"] (defScope s__law_due) := ⟨rfl, rfl, rfl, by decide +kernel, rfl, by decide +kernel, by decide +kernel⟩
theorem c__law_is_lot : cF nm ["_law_told", "_law_due_here", "_law_one"] 2 (defScope s__law_is_lot) (defBody s__law_is_lot) = some fn_law_is_lot_1049 := by kernel_rfl
theorem sc__law_is_lot : FnScope ["_law_told", "_law_due_here", "_law_one"] ["_law_told", "_law_due_here"] (defScope s__law_is_lot) := ⟨rfl, rfl, rfl, by decide +kernel, rfl, by decide +kernel, by decide +kernel⟩
theorem c_law : cF nm ["_law_script", "_law_dice_here", "_law_turn", "_law_people", "_law_term_here", "_law_other", "_law_due_here", "_law_lot", "_law_one", "_law_two", "_law_wishes", "_law_told", "_law_more"] 1 (defScope s_law) (defBody s_law) = some fn_law_1050 := by kernel_rfl
theorem sc_law : FnScope ["_law_script", "_law_dice_here", "_law_turn", "_law_people", "_law_term_here", "_law_other", "_law_due_here", "_law_lot", "_law_one", "_law_two", "_law_wishes", "_law_told", "_law_more"] ["_law_script"] (defScope s_law) := ⟨rfl, rfl, rfl, by decide +kernel, rfl, by decide +kernel, by decide +kernel⟩
section
variable {K : PySem.W.Frag} {mg : Str → Option Value} {h : Heap}
theorem f_is_integer (X : K.In h) (G : h.Ns mainGlobals mg) (c : He.SaysD fas fns K) : ∃ a qs, mg "is_integer" = some (.ref a) ∧ PySem.W.keepIn K (.ref a) = true ∧ qs.length = (["thing"] : List Str).length ∧ DefF K nm tb 0 qs a := fun_ok X G c 0 0 (d := d_is_integer) rfl (x := "is_integer") rfl rfl rfl rfl (N := ["thing"]) (ps := ["thing"]) sc_is_integer (by decide) (fun _ _ _ _ _ _ us hl => match us, hl with | [_], _ => rfl) rfl c_is_integer
theorem f_divisor (X : K.In h) (G : h.Ns mainGlobals mg) (c : He.SaysD fas fns K) : ∃ a qs, mg "divisor" = some (.ref a) ∧ PySem.W.keepIn K (.ref a) = true ∧ qs.length = (["one", "other"] : List Str).length ∧ DefF K nm tb 1 qs a := fun_ok X G c 1 1 (d := d_divisor) rfl (x := "divisor") rfl rfl rfl rfl (N := ["one", "other"]) (ps := ["one", "other"]) sc_divisor (by decide) (fun _ _ _ _ _ _ us hl => match us, hl with | [_, _], _ => rfl) rfl c_divisor
theorem f_made (X : K.In h) (G : h.Ns mainGlobals mg) (c : He.SaysD fas fns K) : ∃ a qs, mg "made" = some (.ref a) ∧ PySem.W.keepIn K (.ref a) = true ∧ qs.length = (["top", "bottom"] : List Str).length ∧ DefF K nm tb 2 qs a := fun_ok X G c 2 2 (d := d_made) rfl (x := "made") rfl rfl rfl rfl (N := ["top", "bottom", "common"]) (ps := ["top", "bottom"]) sc_made (by decide) (fun _ _ _ _ _ _ us hl => match us, hl with | [_, _], _ => rfl) rfl c_made
theorem f_plus (X : K.In h) (G : h.Ns mainGlobals mg) (c : He.SaysD fas fns K) : ∃ a qs, mg "plus" = some (.ref a) ∧ PySem.W.keepIn K (.ref a) = true ∧ qs.length = (["one", "other"] : List Str).length ∧ DefF K nm tb 3 qs a := fun_ok X G c 3 3 (d := d_plus) rfl (x := "plus") rfl rfl rfl rfl (N := ["one", "other"]) (ps := ["one", "other"]) sc_plus (by decide) (fun _ _ _ _ _ _ us hl => match us, hl with | [_, _], _ => rfl) rfl c_plus
theorem f_times (X : K.In h) (G : h.Ns mainGlobals mg) (c : He.SaysD fas fns K) : ∃ a qs, mg "times" = some (.ref a) ∧ PySem.W.keepIn K (.ref a) = true ∧ qs.length = (["one", "other"] : List Str).length ∧ DefF K nm tb 4 qs a := fun_ok X G c 4 4 (d := d_times) rfl (x := "times") rfl rfl rfl rfl (N := ["one", "other"]) (ps := ["one", "other"]) sc_times (by decide) (fun _ _ _ _ _ _ us hl => match us, hl with | [_, _], _ => rfl) rfl c_times
theorem f_is_less (X : K.In h) (G : h.Ns mainGlobals mg) (c : He.SaysD fas fns K) : ∃ a qs, mg "is_less" = some (.ref a) ∧ PySem.W.keepIn K (.ref a) = true ∧ qs.length = (["one", "other"] : List Str).length ∧ DefF K nm tb 5 qs a := fun_ok X G c 5 5 (d := d_is_less) rfl (x := "is_less") rfl rfl rfl rfl (N := ["one", "other"]) (ps := ["one", "other"]) sc_is_less (by decide) (fun _ _ _ _ _ _ us hl => match us, hl with | [_, _], _ => rfl) rfl c_is_less
theorem f_least_of (X : K.In h) (G : h.Ns mainGlobals mg) (c : He.SaysD fas fns K) : ∃ a qs, mg "least_of" = some (.ref a) ∧ PySem.W.keepIn K (.ref a) = true ∧ qs.length = (["fractions"] : List Str).length ∧ DefF K nm tb 6 qs a := fun_ok X G c 6 6 (d := d_least_of) rfl (x := "least_of") rfl rfl rfl rfl (N := ["fractions", "found", "fraction"]) (ps := ["fractions"]) sc_least_of (by decide) (fun _ _ _ _ _ _ us hl => match us, hl with | [_], _ => rfl) rfl c_least_of
theorem f_greatest_of (X : K.In h) (G : h.Ns mainGlobals mg) (c : He.SaysD fas fns K) : ∃ a qs, mg "greatest_of" = some (.ref a) ∧ PySem.W.keepIn K (.ref a) = true ∧ qs.length = (["fractions"] : List Str).length ∧ DefF K nm tb 7 qs a := fun_ok X G c 7 7 (d := d_greatest_of) rfl (x := "greatest_of") rfl rfl rfl rfl (N := ["fractions", "found", "fraction"]) (ps := ["fractions"]) sc_greatest_of (by decide) (fun _ _ _ _ _ _ us hl => match us, hl with | [_], _ => rfl) rfl c_greatest_of
theorem f_ascending (X : K.In h) (G : h.Ns mainGlobals mg) (c : He.SaysD fas fns K) : ∃ a qs, mg "ascending" = some (.ref a) ∧ PySem.W.keepIn K (.ref a) = true ∧ qs.length = (["fractions"] : List Str).length ∧ DefF K nm tb 8 qs a := fun_ok X G c 8 8 (d := d_ascending) rfl (x := "ascending") rfl rfl rfl rfl (N := ["fractions", "found", "fraction", "at"]) (ps := ["fractions"]) sc_ascending (by decide) (fun _ _ _ _ _ _ us hl => match us, hl with | [_], _ => rfl) rfl c_ascending
theorem f_middle (X : K.In h) (G : h.Ns mainGlobals mg) (c : He.SaysD fas fns K) : ∃ a qs, mg "middle" = some (.ref a) ∧ PySem.W.keepIn K (.ref a) = true ∧ qs.length = (["one", "two", "three"] : List Str).length ∧ DefF K nm tb 9 qs a := fun_ok X G c 9 9 (d := d_middle) rfl (x := "middle") rfl rfl rfl rfl (N := ["one", "two", "three"]) (ps := ["one", "two", "three"]) sc_middle (by decide) (fun _ _ _ _ _ _ us hl => match us, hl with | [_, _, _], _ => rfl) rfl c_middle
theorem f_is_fraction (X : K.In h) (G : h.Ns mainGlobals mg) (c : He.SaysD fas fns K) : ∃ a qs, mg "is_fraction" = some (.ref a) ∧ PySem.W.keepIn K (.ref a) = true ∧ qs.length = (["thing"] : List Str).length ∧ DefF K nm tb 10 qs a := fun_ok X G c 10 10 (d := d_is_fraction) rfl (x := "is_fraction") rfl rfl rfl rfl (N := ["thing", "part"]) (ps := ["thing"]) sc_is_fraction (by decide) (fun _ _ _ _ _ _ us hl => match us, hl with | [_], _ => rfl) rfl c_is_fraction
theorem f_is_within (X : K.In h) (G : h.Ns mainGlobals mg) (c : He.SaysD fas fns K) : ∃ a qs, mg "is_within" = some (.ref a) ∧ PySem.W.keepIn K (.ref a) = true ∧ qs.length = (["thing", "least", "most"] : List Str).length ∧ DefF K nm tb 11 qs a := fun_ok X G c 11 11 (d := d_is_within) rfl (x := "is_within") rfl rfl rfl rfl (N := ["thing", "least", "most"]) (ps := ["thing", "least", "most"]) sc_is_within (by decide) (fun _ _ _ _ _ _ us hl => match us, hl with | [_, _, _], _ => rfl) rfl c_is_within
theorem f_is_number (X : K.In h) (G : h.Ns mainGlobals mg) (c : He.SaysD fas fns K) : ∃ a qs, mg "is_number" = some (.ref a) ∧ PySem.W.keepIn K (.ref a) = true ∧ qs.length = (["thing"] : List Str).length ∧ DefF K nm tb 12 qs a := fun_ok X G c 12 12 (d := d_is_number) rfl (x := "is_number") rfl rfl rfl rfl (N := ["thing"]) (ps := ["thing"]) sc_is_number (by decide) (fun _ _ _ _ _ _ us hl => match us, hl with | [_], _ => rfl) rfl c_is_number
theorem f_are_numbers (X : K.In h) (G : h.Ns mainGlobals mg) (c : He.SaysD fas fns K) : ∃ a qs, mg "are_numbers" = some (.ref a) ∧ PySem.W.keepIn K (.ref a) = true ∧ qs.length = (["thing", "many"] : List Str).length ∧ DefF K nm tb 13 qs a := fun_ok X G c 13 13 (d := d_are_numbers) rfl (x := "are_numbers") rfl rfl rfl rfl (N := ["thing", "many", "part"]) (ps := ["thing", "many"]) sc_are_numbers (by decide) (fun _ _ _ _ _ _ us hl => match us, hl with | [_, _], _ => rfl) rfl c_are_numbers
theorem f_check_wishes (X : K.In h) (G : h.Ns mainGlobals mg) (c : He.SaysD fas fns K) : ∃ a qs, mg "check_wishes" = some (.ref a) ∧ PySem.W.keepIn K (.ref a) = true ∧ qs.length = (["rule", "thing"] : List Str).length ∧ DefF K nm tb 26 qs a := fun_ok X G c 14 14 (d := d_check_wishes) rfl (x := "check_wishes") rfl rfl rfl rfl (N := ["rule", "thing"]) (ps := ["rule", "thing"]) sc_check_wishes (by decide) (fun _ _ _ _ _ _ us hl => match us, hl with | [_, _], _ => rfl) rfl c_check_wishes
theorem f_mean_of (X : K.In h) (G : h.Ns mainGlobals mg) (c : He.SaysD fas fns K) : ∃ a qs, mg "mean_of" = some (.ref a) ∧ PySem.W.keepIn K (.ref a) = true ∧ qs.length = (["weights", "numbers"] : List Str).length ∧ DefF K nm tb 15 qs a := fun_ok X G c 15 15 (d := d_mean_of) rfl (x := "mean_of") rfl rfl rfl rfl (N := ["weights", "numbers", "total", "weight", "number"]) (ps := ["weights", "numbers"]) sc_mean_of (by decide) (fun _ _ _ _ _ _ us hl => match us, hl with | [_, _], _ => rfl) rfl c_mean_of
theorem f_ranked_of (X : K.In h) (G : h.Ns mainGlobals mg) (c : He.SaysD fas fns K) : ∃ a qs, mg "ranked_of" = some (.ref a) ∧ PySem.W.keepIn K (.ref a) = true ∧ qs.length = (["k", "numbers"] : List Str).length ∧ DefF K nm tb 16 qs a := fun_ok X G c 16 16 (d := d_ranked_of) rfl (x := "ranked_of") rfl rfl rfl rfl (N := ["k", "numbers"]) (ps := ["k", "numbers"]) sc_ranked_of (by decide) (fun _ _ _ _ _ _ us hl => match us, hl with | [_, _], _ => rfl) rfl c_ranked_of
theorem f_value_of (X : K.In h) (G : h.Ns mainGlobals mg) (c : He.SaysD fas fns K) : ∃ a qs, mg "value_of" = some (.ref a) ∧ PySem.W.keepIn K (.ref a) = true ∧ qs.length = (["term", "bids"] : List Str).length ∧ DefF K nm tb 17 qs a := fun_ok X G c 17 17 (d := d_value_of) rfl (x := "value_of") rfl rfl rfl rfl (N := ["term", "bids", "word", "numbers", "part", "weight"]) (ps := ["term", "bids"]) sc_value_of (by decide) (fun _ _ _ _ _ _ us hl => match us, hl with | [_, _], _ => rfl) rfl c_value_of
theorem f_all_lots (X : K.In h) (G : h.Ns mainGlobals mg) (c : He.SaysD fas fns K) : ∃ a qs, mg "all_lots" = some (.ref a) ∧ PySem.W.keepIn K (.ref a) = true ∧ qs.length = (["many"] : List Str).length ∧ DefF K nm tb 51 qs a := fun_ok X G c 18 18 (d := d_all_lots) rfl (x := "all_lots") rfl rfl rfl rfl (N := ["many", "found", "level", "size", "longer", "lot", "person"]) (ps := ["many"]) sc_all_lots (by decide) (fun _ _ _ _ _ _ us hl => match us, hl with | [_], _ => rfl) rfl c_all_lots
theorem f_ends_for (X : K.In h) (G : h.Ns mainGlobals mg) (c : He.SaysD fas fns K) : ∃ a qs, mg "ends_for" = some (.ref a) ∧ PySem.W.keepIn K (.ref a) = true ∧ qs.length = (["lows", "highs", "lot"] : List Str).length ∧ DefF K nm tb 27 qs a := fun_ok X G c 19 19 (d := d_ends_for) rfl (x := "ends_for") rfl rfl rfl rfl (N := ["lows", "highs", "lot", "person", "low"]) (ps := ["lows", "highs", "lot"]) sc_ends_for (by decide) (fun _ _ _ _ _ _ us hl => match us, hl with | [_, _, _], _ => rfl) rfl c_ends_for
theorem f_corner_of (X : K.In h) (G : h.Ns mainGlobals mg) (c : He.SaysD fas fns K) : ∃ a qs, mg "corner_of" = some (.ref a) ∧ PySem.W.keepIn K (.ref a) = true ∧ qs.length = (["rule", "lot"] : List Str).length ∧ DefF K nm tb 52 qs a := fun_ok X G c 20 20 (d := d_corner_of) rfl (x := "corner_of") rfl rfl rfl rfl (N := ["rule", "lot"]) (ps := ["rule", "lot"]) sc_corner_of (by decide) (fun _ _ _ _ _ _ us hl => match us, hl with | [_, _], _ => rfl) rfl c_corner_of
theorem f_are_parts (X : K.In h) (G : h.Ns mainGlobals mg) (c : He.SaysD fas fns K) : ∃ a qs, mg "are_parts" = some (.ref a) ∧ PySem.W.keepIn K (.ref a) = true ∧ qs.length = (["thing"] : List Str).length ∧ DefF K nm tb 18 qs a := fun_ok X G c 21 21 (d := d_are_parts) rfl (x := "are_parts") rfl rfl rfl rfl (N := ["thing"]) (ps := ["thing"]) sc_are_parts (by decide) (fun _ _ _ _ _ _ us hl => match us, hl with | [_], _ => rfl) rfl c_are_parts
theorem f_is_weighted (X : K.In h) (G : h.Ns mainGlobals mg) (c : He.SaysD fas fns K) : ∃ a qs, mg "is_weighted" = some (.ref a) ∧ PySem.W.keepIn K (.ref a) = true ∧ qs.length = (["thing"] : List Str).length ∧ DefF K nm tb 19 qs a := fun_ok X G c 22 22 (d := d_is_weighted) rfl (x := "is_weighted") rfl rfl rfl rfl (N := ["thing"]) (ps := ["thing"]) sc_is_weighted (by decide) (fun _ _ _ _ _ _ us hl => match us, hl with | [_], _ => rfl) rfl c_is_weighted
theorem f_is_bound (X : K.In h) (G : h.Ns mainGlobals mg) (c : He.SaysD fas fns K) : ∃ a qs, mg "is_bound" = some (.ref a) ∧ PySem.W.keepIn K (.ref a) = true ∧ qs.length = (["thing"] : List Str).length ∧ DefF K nm tb 20 qs a := fun_ok X G c 23 23 (d := d_is_bound) rfl (x := "is_bound") rfl rfl rfl rfl (N := ["thing"]) (ps := ["thing"]) sc_is_bound (by decide) (fun _ _ _ _ _ _ us hl => match us, hl with | [_], _ => rfl) rfl c_is_bound
theorem f_parts_told (X : K.In h) (G : h.Ns mainGlobals mg) (c : He.SaysD fas fns K) : ∃ a qs, mg "parts_told" = some (.ref a) ∧ PySem.W.keepIn K (.ref a) = true ∧ qs.length = (["thing"] : List Str).length ∧ DefF K nm tb 21 qs a := fun_ok X G c 24 24 (d := d_parts_told) rfl (x := "parts_told") rfl rfl rfl rfl (N := ["thing", "word", "part"]) (ps := ["thing"]) sc_parts_told (by decide) (fun _ _ _ _ _ _ us hl => match us, hl with | [_], _ => rfl) rfl c_parts_told
theorem f_is_leaf (X : K.In h) (G : h.Ns mainGlobals mg) (c : He.SaysD fas fns K) : ∃ a qs, mg "is_leaf" = some (.ref a) ∧ PySem.W.keepIn K (.ref a) = true ∧ qs.length = (["people", "thing"] : List Str).length ∧ DefF K nm tb 22 qs a := fun_ok X G c 25 25 (d := d_is_leaf) rfl (x := "is_leaf") rfl rfl rfl rfl (N := ["people", "thing"]) (ps := ["people", "thing"]) sc_is_leaf (by decide) (fun _ _ _ _ _ _ us hl => match us, hl with | [_, _], _ => rfl) rfl c_is_leaf
theorem f_terms_told (X : K.In h) (G : h.Ns mainGlobals mg) (c : He.SaysD fas fns K) : ∃ a qs, mg "terms_told" = some (.ref a) ∧ PySem.W.keepIn K (.ref a) = true ∧ qs.length = (["people", "thing", "deep"] : List Str).length ∧ DefF K nm tb 23 qs a := fun_ok X G c 26 26 (d := d_terms_told) rfl (x := "terms_told") rfl rfl rfl rfl (N := ["people", "thing", "deep", "parts", "many", "part", "inner"]) (ps := ["people", "thing", "deep"]) sc_terms_told (by decide) (fun _ _ _ _ _ _ us hl => match us, hl with | [_, _, _], _ => rfl) rfl c_terms_told
theorem f_check_people_alike (X : K.In h) (G : h.Ns mainGlobals mg) (c : He.SaysD fas fns K) : ∃ a qs, mg "check_people_alike" = some (.ref a) ∧ PySem.W.keepIn K (.ref a) = true ∧ qs.length = (["one", "other"] : List Str).length ∧ DefF K nm tb 55 qs a := fun_ok X G c 28 27 (d := d_check_people_alike) rfl (x := "check_people_alike") rfl rfl rfl rfl (N := ["one", "other"]) (ps := ["one", "other"]) sc_check_people_alike (by decide) (fun _ _ _ _ _ _ us hl => match us, hl with | [_, _], _ => rfl) rfl c_check_people_alike
theorem f_parted_at (X : K.In h) (G : h.Ns mainGlobals mg) (c : He.SaysD fas fns K) : ∃ a qs, mg "parted_at" = some (.ref a) ∧ PySem.W.keepIn K (.ref a) = true ∧ qs.length = (["one", "other"] : List Str).length ∧ DefF K nm tb 56 qs a := fun_ok X G c 29 28 (d := d_parted_at) rfl (x := "parted_at") rfl rfl rfl rfl (N := ["one", "other", "lot"]) (ps := ["one", "other"]) sc_parted_at (by decide) (fun _ _ _ _ _ _ us hl => match us, hl with | [_, _], _ => rfl) rfl c_parted_at
theorem f_parting (X : K.In h) (G : h.Ns mainGlobals mg) (c : He.SaysD fas fns K) : ∃ a qs, mg "parting" = some (.ref a) ∧ PySem.W.keepIn K (.ref a) = true ∧ qs.length = (["one", "other"] : List Str).length ∧ DefF K nm tb 57 qs a := fun_ok X G c 30 29 (d := d_parting) rfl (x := "parting") rfl rfl rfl rfl (N := ["one", "other"]) (ps := ["one", "other"]) sc_parting (by decide) (fun _ _ _ _ _ _ us hl => match us, hl with | [_, _], _ => rfl) rfl c_parting
theorem f_wishing (X : K.In h) (G : h.Ns mainGlobals mg) (c : He.SaysD fas fns K) : ∃ a qs, mg "wishing" = some (.ref a) ∧ PySem.W.keepIn K (.ref a) = true ∧ qs.length = (["wishes", "number"] : List Str).length ∧ DefF K nm tb 28 qs a := fun_ok X G c 31 30 (d := d_wishing) rfl (x := "wishing") rfl rfl rfl rfl (N := ["wishes", "number", "person", "wish"]) (ps := ["wishes", "number"]) sc_wishing (by decide) (fun _ _ _ _ _ _ us hl => match us, hl with | [_, _], _ => rfl) rfl c_wishing
theorem f_outcome_among (X : K.In h) (G : h.Ns mainGlobals mg) (c : He.SaysD fas fns K) : ∃ a qs, mg "outcome_among" = some (.ref a) ∧ PySem.W.keepIn K (.ref a) = true ∧ qs.length = (["rule", "wishes", "lows", "highs"] : List Str).length ∧ DefF K nm tb 29 qs a := fun_ok X G c 32 31 (d := d_outcome_among) rfl (x := "outcome_among") rfl rfl rfl rfl (N := ["rule", "wishes", "lows", "highs", "found", "wish", "held"]) (ps := ["rule", "wishes", "lows", "highs"]) sc_outcome_among (by decide) (fun _ _ _ _ _ _ us hl => match us, hl with | [_, _, _, _], _ => rfl) rfl c_outcome_among
theorem f_outcome_of (X : K.In h) (G : h.Ns mainGlobals mg) (c : He.SaysD fas fns K) : ∃ a qs, mg "outcome_of" = some (.ref a) ∧ PySem.W.keepIn K (.ref a) = true ∧ qs.length = (["rule", "wishes"] : List Str).length ∧ DefF K nm tb 30 qs a := fun_ok X G c 33 32 (d := d_outcome_of) rfl (x := "outcome_of") rfl rfl rfl rfl (N := ["rule", "wishes"]) (ps := ["rule", "wishes"]) sc_outcome_of (by decide) (fun _ _ _ _ _ _ us hl => match us, hl with | [_, _], _ => rfl) rfl c_outcome_of
theorem f_outcome (X : K.In h) (G : h.Ns mainGlobals mg) (c : He.SaysD fas fns K) : ∃ a qs, mg "outcome" = some (.ref a) ∧ PySem.W.keepIn K (.ref a) = true ∧ qs.length = (["rule", "wishes"] : List Str).length ∧ DefF K nm tb 31 qs a := fun_ok X G c 34 33 (d := d_outcome) rfl (x := "outcome") rfl rfl rfl rfl (N := ["rule", "wishes"]) (ps := ["rule", "wishes"]) sc_outcome (by decide) (fun _ _ _ _ _ _ us hl => match us, hl with | [_, _], _ => rfl) rfl c_outcome
theorem f__law_dice (X : K.In h) (G : h.Ns mainGlobals mg) (c : He.SaysD fas fns K) : ∃ a qs, mg "_law_dice" = some (.ref a) ∧ PySem.W.keepIn K (.ref a) = true ∧ qs.length = (["_law_script"] : List Str).length ∧ DefF K nm tb 1000 qs a := fun_ok X G c 35 34 (d := d__law_dice) rfl (x := "_law_dice") rfl rfl rfl rfl (N := ["_law_script", "_law_cell"]) (ps := ["_law_script"]) sc__law_dice (by decide) (fun _ _ _ _ _ _ us hl => match us, hl with | [_], _ => rfl) rfl c__law_dice
theorem f__law_draw (X : K.In h) (G : h.Ns mainGlobals mg) (c : He.SaysD fas fns K) : ∃ a qs, mg "_law_draw" = some (.ref a) ∧ PySem.W.keepIn K (.ref a) = true ∧ qs.length = (["_law_dice_here", "_law_sides"] : List Str).length ∧ DefF K nm tb 1001 qs a := fun_ok X G c 36 35 (d := d__law_draw) rfl (x := "_law_draw") rfl rfl rfl rfl (N := ["_law_dice_here", "_law_sides", "_law_mixed", "_law_cell", "_law_digit"]) (ps := ["_law_dice_here", "_law_sides"]) sc__law_draw (by decide) (fun _ _ _ _ _ _ us hl => match us, hl with | [_, _], _ => rfl) rfl c__law_draw
theorem f__law_lowest (X : K.In h) (G : h.Ns mainGlobals mg) (c : He.SaysD fas fns K) : ∃ a qs, mg "_law_lowest" = some (.ref a) ∧ PySem.W.keepIn K (.ref a) = true ∧ qs.length = (["_law_top", "_law_bottom"] : List Str).length ∧ DefF K nm tb 1002 qs a := fun_ok X G c 37 36 (d := d__law_lowest) rfl (x := "_law_lowest") rfl rfl rfl rfl (N := ["_law_top", "_law_bottom", "_law_one", "_law_other"]) (ps := ["_law_top", "_law_bottom"]) sc__law_lowest (by decide) (fun _ _ _ _ _ _ us hl => match us, hl with | [_, _], _ => rfl) rfl c__law_lowest
theorem f__law_sum (X : K.In h) (G : h.Ns mainGlobals mg) (c : He.SaysD fas fns K) : ∃ a qs, mg "_law_sum" = some (.ref a) ∧ PySem.W.keepIn K (.ref a) = true ∧ qs.length = (["_law_one", "_law_other", "_law_sign"] : List Str).length ∧ DefF K nm tb 1003 qs a := fun_ok X G c 38 37 (d := d__law_sum) rfl (x := "_law_sum") rfl rfl rfl rfl (N := ["_law_one", "_law_other", "_law_sign"]) (ps := ["_law_one", "_law_other", "_law_sign"]) sc__law_sum (by decide) (fun _ _ _ _ _ _ us hl => match us, hl with | [_, _, _], _ => rfl) rfl c__law_sum
theorem f__law_product (X : K.In h) (G : h.Ns mainGlobals mg) (c : He.SaysD fas fns K) : ∃ a qs, mg "_law_product" = some (.ref a) ∧ PySem.W.keepIn K (.ref a) = true ∧ qs.length = (["_law_one", "_law_other"] : List Str).length ∧ DefF K nm tb 1004 qs a := fun_ok X G c 39 38 (d := d__law_product) rfl (x := "_law_product") rfl rfl rfl rfl (N := ["_law_one", "_law_other"]) (ps := ["_law_one", "_law_other"]) sc__law_product (by decide) (fun _ _ _ _ _ _ us hl => match us, hl with | [_, _], _ => rfl) rfl c__law_product
theorem f__law_less (X : K.In h) (G : h.Ns mainGlobals mg) (c : He.SaysD fas fns K) : ∃ a qs, mg "_law_less" = some (.ref a) ∧ PySem.W.keepIn K (.ref a) = true ∧ qs.length = (["_law_one", "_law_other"] : List Str).length ∧ DefF K nm tb 1005 qs a := fun_ok X G c 40 39 (d := d__law_less) rfl (x := "_law_less") rfl rfl rfl rfl (N := ["_law_one", "_law_other"]) (ps := ["_law_one", "_law_other"]) sc__law_less (by decide) (fun _ _ _ _ _ _ us hl => match us, hl with | [_, _], _ => rfl) rfl c__law_less
theorem f__law_sorted (X : K.In h) (G : h.Ns mainGlobals mg) (c : He.SaysD fas fns K) : ∃ a qs, mg "_law_sorted" = some (.ref a) ∧ PySem.W.keepIn K (.ref a) = true ∧ qs.length = (["_law_numbers"] : List Str).length ∧ DefF K nm tb 1006 qs a := fun_ok X G c 41 40 (d := d__law_sorted) rfl (x := "_law_sorted") rfl rfl rfl rfl (N := ["_law_numbers", "_law_found", "_law_number_here", "_law_at", "_law_other"]) (ps := ["_law_numbers"]) sc__law_sorted (by decide) (fun _ _ _ _ _ _ us hl => match us, hl with | [_], _ => rfl) rfl c__law_sorted
theorem f__law_number (X : K.In h) (G : h.Ns mainGlobals mg) (c : He.SaysD fas fns K) : ∃ a qs, mg "_law_number" = some (.ref a) ∧ PySem.W.keepIn K (.ref a) = true ∧ qs.length = (["_law_dice_here"] : List Str).length ∧ DefF K nm tb 1007 qs a := fun_ok X G c 42 41 (d := d__law_number) rfl (x := "_law_number") rfl rfl rfl rfl (N := ["_law_dice_here", "_law_bottom"]) (ps := ["_law_dice_here"]) sc__law_number (by decide) (fun _ _ _ _ _ _ us hl => match us, hl with | [_], _ => rfl) rfl c__law_number
theorem f__law_term (X : K.In h) (G : h.Ns mainGlobals mg) (c : He.SaysD fas fns K) : ∃ a qs, mg "_law_term" = some (.ref a) ∧ PySem.W.keepIn K (.ref a) = true ∧ qs.length = (["_law_dice_here", "_law_people", "_law_deep", "_law_means"] : List Str).length ∧ DefF K nm tb 1009 qs a := fun_ok X G c 43 42 (d := d__law_term) rfl (x := "_law_term") rfl rfl rfl rfl (N := ["_law_dice_here", "_law_people", "_law_deep", "_law_means", "_law_kind", "_law_parts", "_law_ends", "_law_k", "_law_part"]) (ps := ["_law_dice_here", "_law_people", "_law_deep", "_law_means"]) sc__law_term (by decide) (fun _ _ _ _ _ _ us hl => match us, hl with | [_, _, _, _], _ => rfl) rfl c__law_term
theorem f__law_value (X : K.In h) (G : h.Ns mainGlobals mg) (c : He.SaysD fas fns K) : ∃ a qs, mg "_law_value" = some (.ref a) ∧ PySem.W.keepIn K (.ref a) = true ∧ qs.length = (["_law_term_here", "_law_bids"] : List Str).length ∧ DefF K nm tb 1011 qs a := fun_ok X G c 44 43 (d := d__law_value) rfl (x := "_law_value") rfl rfl rfl rfl (N := ["_law_term_here", "_law_bids", "_law_word", "_law_told", "_law_whole", "_law_weight", "_law_part"]) (ps := ["_law_term_here", "_law_bids"]) sc__law_value (by decide) (fun _ _ _ _ _ _ us hl => match us, hl with | [_, _], _ => rfl) rfl c__law_value
theorem f__law_lots (X : K.In h) (G : h.Ns mainGlobals mg) (c : He.SaysD fas fns K) : ∃ a qs, mg "_law_lots" = some (.ref a) ∧ PySem.W.keepIn K (.ref a) = true ∧ qs.length = (["_law_people"] : List Str).length ∧ DefF K nm tb 1039 qs a := fun_ok X G c 45 44 (d := d__law_lots) rfl (x := "_law_lots") rfl rfl rfl rfl (N := ["_law_people", "_law_found", "_law_person", "_law_lot"]) (ps := ["_law_people"]) sc__law_lots (by decide) (fun _ _ _ _ _ _ us hl => match us, hl with | [_], _ => rfl) rfl c__law_lots
theorem f__law_by_size (X : K.In h) (G : h.Ns mainGlobals mg) (c : He.SaysD fas fns K) : ∃ a qs, mg "_law_by_size" = some (.ref a) ∧ PySem.W.keepIn K (.ref a) = true ∧ qs.length = (["_law_lots_here"] : List Str).length ∧ DefF K nm tb 1038 qs a := fun_ok X G c 46 45 (d := d__law_by_size) rfl (x := "_law_by_size") rfl rfl rfl rfl (N := ["_law_lots_here", "_law_found", "_law_size", "_law_lot"]) (ps := ["_law_lots_here"]) sc__law_by_size (by decide) (fun _ _ _ _ _ _ us hl => match us, hl with | [_], _ => rfl) rfl c__law_by_size
theorem f__law_at_ends (X : K.In h) (G : h.Ns mainGlobals mg) (c : He.SaysD fas fns K) : ∃ a qs, mg "_law_at_ends" = some (.ref a) ∧ PySem.W.keepIn K (.ref a) = true ∧ qs.length = (["_law_people", "_law_lot"] : List Str).length ∧ DefF K nm tb 1034 qs a := fun_ok X G c 47 46 (d := d__law_at_ends) rfl (x := "_law_at_ends") rfl rfl rfl rfl (N := ["_law_people", "_law_lot", "_law_person"]) (ps := ["_law_people", "_law_lot"]) sc__law_at_ends (by decide) (fun _ _ _ _ _ _ us hl => match us, hl with | [_, _], _ => rfl) rfl c__law_at_ends
theorem f__law_corner (X : K.In h) (G : h.Ns mainGlobals mg) (c : He.SaysD fas fns K) : ∃ a qs, mg "_law_corner" = some (.ref a) ∧ PySem.W.keepIn K (.ref a) = true ∧ qs.length = (["_law_people", "_law_term_here", "_law_lot"] : List Str).length ∧ DefF K nm tb 1035 qs a := fun_ok X G c 48 47 (d := d__law_corner) rfl (x := "_law_corner") rfl rfl rfl rfl (N := ["_law_people", "_law_term_here", "_law_lot"]) (ps := ["_law_people", "_law_term_here", "_law_lot"]) sc__law_corner (by decide) (fun _ _ _ _ _ _ us hl => match us, hl with | [_, _, _], _ => rfl) rfl c__law_corner
theorem f__law_beside (X : K.In h) (G : h.Ns mainGlobals mg) (c : He.SaysD fas fns K) : ∃ a qs, mg "_law_beside" = some (.ref a) ∧ PySem.W.keepIn K (.ref a) = true ∧ qs.length = (["_law_dice_here", "_law_people", "_law_term_here"] : List Str).length ∧ DefF K nm tb 1047 qs a := fun_ok X G c 49 48 (d := d__law_beside) rfl (x := "_law_beside") rfl rfl rfl rfl (N := ["_law_dice_here", "_law_people", "_law_term_here", "_law_kind", "_law_number_here", "_law_some", "_law_ends", "_law_person"]) (ps := ["_law_dice_here", "_law_people", "_law_term_here"]) sc__law_beside (by decide) (fun _ _ _ _ _ _ us hl => match us, hl with | [_, _, _], _ => rfl) rfl c__law_beside
theorem f__law_due (X : K.In h) (G : h.Ns mainGlobals mg) (c : He.SaysD fas fns K) : ∃ a qs, mg "_law_due" = some (.ref a) ∧ PySem.W.keepIn K (.ref a) = true ∧ qs.length = (["_law_people", "_law_term_here", "_law_other"] : List Str).length ∧ DefF K nm tb 1048 qs a := fun_ok X G c 50 49 (d := d__law_due) rfl (x := "_law_due") rfl rfl rfl rfl (N := ["_law_people", "_law_term_here", "_law_other", "_law_lot"]) (ps := ["_law_people", "_law_term_here", "_law_other"]) sc__law_due (by decide) (fun _ _ _ _ _ _ us hl => match us, hl with | [_, _, _], _ => rfl) rfl c__law_due
theorem f__law_is_lot (X : K.In h) (G : h.Ns mainGlobals mg) (c : He.SaysD fas fns K) : ∃ a qs, mg "_law_is_lot" = some (.ref a) ∧ PySem.W.keepIn K (.ref a) = true ∧ qs.length = (["_law_told", "_law_due_here"] : List Str).length ∧ DefF K nm tb 1049 qs a := fun_ok X G c 51 50 (d := d__law_is_lot) rfl (x := "_law_is_lot") rfl rfl rfl rfl (N := ["_law_told", "_law_due_here", "_law_one"]) (ps := ["_law_told", "_law_due_here"]) sc__law_is_lot (by decide) (fun _ _ _ _ _ _ us hl => match us, hl with | [_, _], _ => rfl) rfl c__law_is_lot
theorem f_law (X : K.In h) (G : h.Ns mainGlobals mg) (c : He.SaysD fas fns K) : ∃ a qs, mg "law" = some (.ref a) ∧ PySem.W.keepIn K (.ref a) = true ∧ qs.length = (["_law_script"] : List Str).length ∧ DefF K nm tb 1050 qs a := fun_ok X G c 52 51 (d := d_law) rfl (x := "law") rfl rfl rfl rfl (N := ["_law_script", "_law_dice_here", "_law_turn", "_law_people", "_law_term_here", "_law_other", "_law_due_here", "_law_lot", "_law_one", "_law_two", "_law_wishes", "_law_told", "_law_more"]) (ps := ["_law_script"]) sc_law (by decide) (fun _ _ _ _ _ _ us hl => match us, hl with | [_], _ => rfl) rfl c_law
def ca (K : PySem.W.Frag) : Nat → Addr
  | 0 => He.ga K "Rule"
  | _ => 0
theorem k_Rule (X : K.In h) (G : h.Ns mainGlobals mg) (c : He.SaysD fas fns K) : mg "Rule" = some (.ref (ca K 0)) ∧ CO K (ca K 0) ∧ ∃ a qs, Mk K (ca K 0) a ∧ qs.length = (["self", "people", "term"] : List Str).length ∧ DefF K nm tb 24 qs a := make_ok X G c 27 71 (d := d_Rule___init__) rfl (x := "Rule") rfl rfl rfl rfl rfl rfl rfl rfl (ca := ca K) rfl (N := ["self", "people", "term", "many"]) (ps := ["self", "people", "term"]) sc_Rule___init__ (by decide) (fun _ _ _ _ _ _ us hl => match us, hl with | [_, _, _], _ => rfl) rfl c_Rule___init__
theorem txt (X : K.In h) (G : h.Ns mainGlobals mg) (c0 : obsE fas fns tps K = He.valD fns) : Txt K mg nm tb (ca K) := by
  have c := saysD c0
  refine ⟨fun x f n e => ?_, fun x m i n e => ?_, fun x t e => ?_, fun x e => ?_⟩
  · have z : ∀ p ∈ nmF, ∃ a qs, mg p.1 = some (.ref a) ∧ PySem.W.keepIn K (.ref a) = true ∧ qs.length = p.2.2 ∧ DefF K nm tb p.2.1 qs a := (allA (allC (f_is_integer X G c) (allC (f_divisor X G c) (allC (f_made X G c) (allC (f_plus X G c) (allC (f_times X G c) (allC (f_is_less X G c) (allC (f_least_of X G c) (allC (f_greatest_of X G c) (allC (f_ascending X G c) (allC (f_middle X G c) (allC (f_is_fraction X G c) (allC (f_is_within X G c) (allC (f_is_number X G c) (allC (f_are_numbers X G c) (allC (f_check_wishes X G c) (allC (f_mean_of X G c) (allC (f_ranked_of X G c) (allC (f_value_of X G c) (allC (f_all_lots X G c) (allC (f_ends_for X G c) (allC (f_corner_of X G c) (allC (f_are_parts X G c) (allC (f_is_weighted X G c) (allC (f_is_bound X G c) (allC (f_parts_told X G c) (allC (f_is_leaf X G c) (allC (f_terms_told X G c) (allC (f_check_people_alike X G c) (allC (f_parted_at X G c) (allC (f_parting X G c) allN)))))))))))))))))))))))))))))) (allC (f_wishing X G c) (allC (f_outcome_among X G c) (allC (f_outcome_of X G c) (allC (f_outcome X G c) (allC (f__law_dice X G c) (allC (f__law_draw X G c) (allC (f__law_lowest X G c) (allC (f__law_sum X G c) (allC (f__law_product X G c) (allC (f__law_less X G c) (allC (f__law_sorted X G c) (allC (f__law_number X G c) (allC (f__law_term X G c) (allC (f__law_value X G c) (allC (f__law_lots X G c) (allC (f__law_by_size X G c) (allC (f__law_at_ends X G c) (allC (f__law_corner X G c) (allC (f__law_beside X G c) (allC (f__law_due X G c) (allC (f__law_is_lot X G c) (allC (f_law X G c) allN)))))))))))))))))))))))
    exact z _ (lookup_mem e)
  · have z : ∀ p ∈ nmC, mg p.1 = some (.ref (ca K p.2.1)) ∧ CO K (ca K p.2.1) ∧ ∃ a qs, Mk K (ca K p.2.1) a ∧ qs.length = p.2.2.2 ∧ DefF K nm tb p.2.2.1 qs a := (allC (k_Rule X G c) allN)
    exact z _ (lookup_mem e)
  · have z : ∀ p ∈ nmK, ∃ u v, mg p.1 = some u ∧ RelV v u ∧ ∀ ρ H, Rf K ρ H p.2 v := (allC (int_con X G c 66 rfl) (allC (int_con X G c 67 rfl) (allC (int_con X G c 68 rfl) (allC (int_con X G c 69 rfl) (allC (int_con X G c 70 rfl) (allC (tup_con X G c0 (x := "ZERO") (ns := [0, 1]) (by simp [tps])) (allC (tup_con X G c0 (x := "ONE") (ns := [1, 1]) (by simp [tps])) allN)))))))
    exact z _ (lookup_mem e)
  · have z : ∀ p ∈ nmB, mg p = none := (allC (He.free_ok X G (c.fact 52 (f := .free "abs") rfl)) (allC (He.free_ok X G (c.fact 53 (f := .free "all") rfl)) (allC (He.free_ok X G (c.fact 54 (f := .free "bool") rfl)) (allC (He.free_ok X G (c.fact 55 (f := .free "enumerate") rfl)) (allC (He.free_ok X G (c.fact 56 (f := .free "int") rfl)) (allC (He.free_ok X G (c.fact 57 (f := .free "isinstance") rfl)) (allC (He.free_ok X G (c.fact 58 (f := .free "len") rfl)) (allC (He.free_ok X G (c.fact 59 (f := .free "list") rfl)) (allC (He.free_ok X G (c.fact 60 (f := .free "range") rfl)) (allC (He.free_ok X G (c.fact 61 (f := .free "sorted") rfl)) (allC (He.free_ok X G (c.fact 62 (f := .free "str") rfl)) (allC (He.free_ok X G (c.fact 63 (f := .free "sum") rfl)) (allC (He.free_ok X G (c.fact 64 (f := .free "tuple") rfl)) (allC (He.free_ok X G (c.fact 65 (f := .free "zip") rfl)) allN))))))))))))))
    exact z x (by simpa [nm] using e)
theorem law_def (X : K.In h) (G : h.Ns mainGlobals mg) (c0 : obsE fas fns tps K = He.valD fns) {fa : Addr} (e : mg "law" = some (.ref fa)) : DefF K nm tb 1050 ["_law_script"] fa := by
  have z := (def_ok (tb := tb) (nm := nm) (f := 1050) (F := fn_law_1050) (saysD c0) 52 (d := d_law) rfl rfl rfl (N := ["_law_script", "_law_dice_here", "_law_turn", "_law_people", "_law_term_here", "_law_other", "_law_due_here", "_law_lot", "_law_one", "_law_two", "_law_wishes", "_law_told", "_law_more"]) (ps := ["_law_script"]) sc_law (by decide) (fun _ _ _ _ _ _ us hl => match us, hl with | [_], _ => rfl) rfl c_law).2
  have e2 := He.glo_ok X G ((saysD c0).fact 51 (f := .glo "law") rfl)
  rw [e] at e2
  cases e2
  exact z
end

abbrev hk : PySem.W.Hook := hookE 4 fas fns tps
def ob (s : PySem.W.SharedT) : He.AlD := obsEG 4 fas fns tps (HandSHeadRun.getT s)
theorem ob_eq (s : PySem.W.SharedT) : ob s = hk.obs s.abs := obsEG_eq (HandSHeadRun.getT_eq s)
theorem run (w : World) : HandSHeadRun.RunEq R (PySem.W.view R.prog [72]) hk ob 3000 loose w := by
  intro os
  kernel_rfl
end Lw
open PySem PySem.W PySem.Calls PyProof.Rows
set_option maxRecDepth 100000 in
set_option maxHeartbeats 8000000 in
theorem PySem.Challenge.cw_cornerbids_k55_whole_where_rules_part_holds : PySem.Challenge.rw_cornerbids_k55_whole_where_rules_part.Holds := by
  w_on; o_law
  refine HandSHeadRun.head_any (r := OpenLaw.row PySem.Challenge.rw_cornerbids_k55_whole_where_rules_part) (q := view (OpenLaw.row PySem.Challenge.rw_cornerbids_k55_whole_where_rules_part).prog [72]) (H := Lw.hk) (ob := Lw.ob) (M := 3000) (loose := Lw.loose) (d := HandSHeadRun.topDef (OpenLaw.row PySem.Challenge.rw_cornerbids_k55_whole_where_rules_part).prog 72) (kwd := []) Lw.ob_eq
    (by kernel_rfl) (fun s => by kernel_rfl) Lw.run (by kernel_rfl) (by kernel_rfl) (by kernel_rfl) (by rfl) (by first | assumption | decide +kernel) (by decide +kernel) ⟨rfl, rfl, rfl, rfl, rfl, by decide +kernel⟩ ?hw ?hc
  case hw => w_witness2
  case hc =>
    refine LamX.walk_ofTsE (l := PySem.Challenge.rw_cornerbids_k55_whole_where_rules_part) (n := 63) (k := 66) (x := "_law_script") (CX := fun w => L2.CX (PySem.Challenge.rw_cornerbids_k55_whole_where_rules_part).prog w) rfl (by decide) (by kernel_rfl) ⟨rfl, by decide, by decide⟩ ?F (fun w H s e s' z => by obtain ⟨_, _, _, _, _, _, _, _, _, _, _, _, z⟩ := z; exact z)
    intro w mg fa h Y G hmg0
    obtain ⟨K, KX, c⟩ := Y
    have hmg : mg ("law" : PySem.Str) = some (.ref fa) := by
      have e : (HandSHeadRun.topDef (OpenLaw.row PySem.Challenge.rw_cornerbids_k55_whole_where_rules_part).prog 72).name = ("law" : PySem.Str) := by kernel_rfl
      rw [← e]
      exact hmg0
    exact ⟨K, KX, CB.law_at (d := 32) (Lw.txt KX G c) (Lw.law_def KX G c hmg) (fun ns l _ t hs e => CB.law_55 (by decide) e l)⟩
