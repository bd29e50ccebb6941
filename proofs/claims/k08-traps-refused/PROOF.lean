import PyProof.Rows.All
import Wide.All
import OpenK.AllK
import Wide.FinOn
import HandS.HotCalls
import HandS.TryOnly
import HandS.Dict
import HandS.List
import HandS.Comp
import PyProof.StrOps2
import HandS.ForMost
import HandS.ForExc
import HandS.Wide
import HandS.WideBits
import HandS.IsInst
import HandS.Lambda
import HandS.ExcCtx
import KE.DataEq
import HandS.ExcInitHot
import HandS.Flow
import HandS.MakeKw
import KE.IntTextLaws
import HandS.Style
import HandS.Text
import HandS.ExcOwn
import HandS.Head0
import HandS.Head1
import HandS.Head2
import HandS.HeadHook1
import HandS.HeadHook2
import HandS.HeadNt
import KE.KExcMake
import HandS.HeadWalk
import HandS.ExcIs
import KE.KExcIs
import HandS.Iter
import HandS.Walk
import KE.GoesEnum
import HandS.Finally
import HandS.Zip
import HandS.EndTab
import HandS.HeadHook4
import PyProof.Rows.StrOr
import KE.KIntText
import PyProof.MaxThree
import HandS.StrMore
import HandS.ExcValue
import HandS.ReplaceLit
import PyProof.EqKinds
import PyProof.ReprRoads
import HandS.Rev
import PySem.Challenge.RW_tenreckon_k08_traps_refused
set_option Elab.async false
set_option linter.all false
set_option maxRecDepth 100000
set_option maxHeartbeats 4000000
set_option exponentiation.threshold 40000
/-! iterators that end, whether or not an exception is handled meanwhile -/
namespace TC
open PySem PySem.Spec PyProof.Rows HotX
section
variable {prog : Program} {w : World} {A : Around} {E : Value → Shared → Prop} {s : Shared} {h h' : Heap}
/-- nothing is handled, or what is handled stands without a context -/
def Cool (A : Around) (h : Heap) : Prop := A.handled = none ∨ ∃ x, HotAt A x h
theorem hot_keep {x : Addr} (c : HotAt A x h) (k : ∀ b o, h.get? b = some o → h'.get? b = some o) : HotAt A x h' := by
  obtain ⟨e, o, vs, g, d, z⟩ := c
  exact ⟨e, o, vs, k _ _ g, d, z⟩
theorem Cool.keep (c : Cool A h) (k : ∀ b o, h.get? b = some o → h'.get? b = some o) : Cool A h' := c.imp id fun ⟨x, z⟩ => ⟨x, hot_keep z k⟩
theorem Cool.in1 (c : Cool A h) : Cool A.in1 h := c
/-- StopIteration, made and raised -/
theorem stop_cool {α : Type} {Q : α → Shared → Prop} (c : Cool A s.heap)
    (q : ∀ k' e, (∀ b o, s.heap.get? b = some o → k'.get? b = some o) → ({ s with heap := k' } : Shared).TypeIs (.ref e) "StopIteration" → E (.ref e) { s with heap := k' }) :
    wpAny (model prog w) A (newExc (.type "StopIteration") [] >>= fun e => (raiseNew e : Sem α)) Q E s := by
  refine wpAny_bind ?_
  simp only [newExc, newTuple]
  refine wpAny_bind (wpAny_newObj_type ?_ (by size_fits))
  refine wpAny_bind (m := firstArgMember _ _) (wpAny_of_eq (a := Value.none) (by first | rfl | (simp only [firstArgMember]; rfl)) ?_)
  refine wpAny_newObj_type ?_ (by size_fits)
  rcases c with hh | ⟨x, hot⟩
  · simp only [raiseNew]
    refine wpAny_bind (wpAny_handled ?_)
    rw [hh]
    refine wpAny_bind (wpAny_pure (wpAny_throw ?_))
    exact q _ _ (fun b o e => Heap.get?_push_of_some _ (Heap.get?_push_of_some _ e)) ⟨_, Heap.get?_push_size _ rfl, rfl⟩
  · obtain ⟨hh, o1, v1, h1, d1, c1⟩ := hot
    refine raiseNew_hot ⟨hh, o1, v1, Heap.get?_push_of_some _ (Heap.get?_push_of_some _ h1), d1, c1⟩ (Nat.ne_of_lt (Heap.lt_size (Heap.get?_push_of_some _ h1))) (Heap.get?_push_size _ rfl) rfl (by first | (simp; done) | (simp; omega)) ?_
    refine q _ _ (fun b o e => ?_) ⟨_, Heap.get?_update_self _ (Heap.get?_push_size _ rfl) rfl, rfl⟩
    rw [Heap.get?_update_other _ _ (Nat.ne_of_gt (Heap.lt_size (Heap.get?_push_of_some _ e)))]
    exact Heap.get?_push_of_some _ (Heap.get?_push_of_some _ e)
theorem extBut_of {x : Addr} {h0 h1 h2 : Heap} (a : Heap.SameBut x h0 h1) (k : ∀ b o, h1.get? b = some o → h2.get? b = some o) : Heap.ExtBut x h0 h2 := fun b o hb e => k b o (a.extBut b o hb e)
theorem cool_set {it : Addr} {o : Obj} {f : Obj → Obj} (c : Cool A s.heap) (ho : s.heap.get? it = some o) (hn : ∀ x, HotAt A x s.heap → x ≠ it) : Cool A (s.heap.update it f) := by
  rcases c with hh | ⟨x, hot⟩
  · exact .inl hh
  · have hne := hn x hot
    obtain ⟨e, o1, v1, g, d, z⟩ := hot
    exact .inr ⟨x, e, o1, v1, by rw [Heap.get?_update_other _ _ (Ne.symm hne)]; exact g, d, z⟩
theorem next_list_stop {it l : Addr} {i : Nat} {items : Array Value} {Q : Option Value → Shared → Prop} (c : Cool A s.heap) (hn : ∀ x, HotAt A x s.heap → x ≠ it)
    (hit : s.heap.IsListIter it l i) (hl : s.heap.IsList l items) (hx : items[i]? = none)
    (hQ : ∀ k', Heap.ExtBut it s.heap k' → Q none { s with heap := k' }) : wpAny (model prog w) A (pyNext (.ref it)) Q E s := by
  obtain ⟨o, e1, e2, e3⟩ := id hit
  obtain ⟨ol, e4, _, nl, e5⟩ := hl
  unfold pyNext
  refine wpAny_bind (wpAny_attempt (wpAny_callSpecial?_slot (name := Str.ofString "__next__") hit.typeIs slot_listiter_next (wpAny_call_entry slot_listiter_next hit.typeIs entry_listiter_next ?_ (args_listiter_next _))))
  show wpAny _ _ (field (.ref it) 0 >>= _) _ _ s
  refine wpAny_bind (wpAny_field e1 e3 (x := .ref l) rfl ?_)
  show wpAny _ _ (if (Value.ref l == Value.none) = true then _ else _) _ _ s
  rw [if_neg (show ¬ ((Value.ref l == Value.none) = true) from Bool.false_ne_true)]
  show wpAny _ _ (field (.ref it) 1 >>= _) _ _ s
  refine wpAny_bind (wpAny_field e1 e3 (x := .int i 0) rfl ?_)
  show wpAny _ _ (seqItems? (.ref l) >>= _) _ _ s
  refine wpAny_bind (wpAny_seqItems e4 e5 ?_)
  simp only [Int.toNat_natCast, hx]
  refine wpAny_bind (wpAny_rule (wpAny_bind (wpAny_setField e1 e3 (by simp) ?_)))
  refine stop_cool (cool_set c e1 hn) fun k' e k t => ?_
  refine wpAny_bind (wpAny_isInstance (T := "StopIteration") (b := true) t isSubtype_stop ?_)
  exact wpAny_pure (hQ _ (extBut_of (Heap.SameBut.update ..) k))
theorem next_tup_stop {it l : Addr} {i : Nat} {items : Array Value} {Q : Option Value → Shared → Prop} (c : Cool A s.heap) (hn : ∀ x, HotAt A x s.heap → x ≠ it)
    (hit : IsTupIter s.heap it l i) (hl : IsTup s.heap l items) (hx : items[i]? = none)
    (hQ : ∀ k', Heap.ExtBut it s.heap k' → Q none { s with heap := k' }) : wpAny (model prog w) A (pyNext (.ref it)) Q E s := by
  obtain ⟨o, e1, e2, e3⟩ := id hit
  obtain ⟨ol, e4, _, nl, e5⟩ := hl
  unfold pyNext
  refine wpAny_bind (wpAny_attempt (wpAny_callSpecial?_slot (name := Str.ofString "__next__") hit.typeIs slot_tupleiter_next (wpAny_call_entry slot_tupleiter_next hit.typeIs entry_tupleiter_next ?_ (args_tupleiter_next _))))
  show wpAny _ _ (field (.ref it) 0 >>= _) _ _ s
  refine wpAny_bind (wpAny_field e1 e3 (x := .ref l) rfl ?_)
  show wpAny _ _ (if (Value.ref l == Value.none) = true then _ else _) _ _ s
  rw [if_neg (show ¬ ((Value.ref l == Value.none) = true) from Bool.false_ne_true)]
  show wpAny _ _ (field (.ref it) 1 >>= _) _ _ s
  refine wpAny_bind (wpAny_field e1 e3 (x := .int i 0) rfl ?_)
  show wpAny _ _ (seqItems? (.ref l) >>= _) _ _ s
  refine wpAny_bind (wpAny_seqItems e4 e5 ?_)
  simp only [Int.toNat_natCast, hx]
  refine wpAny_bind (wpAny_rule (wpAny_bind (wpAny_setField e1 e3 (by simp) ?_)))
  refine stop_cool (cool_set c e1 hn) fun k' e k t => ?_
  refine wpAny_bind (wpAny_isInstance (T := "StopIteration") (b := true) t isSubtype_stop ?_)
  exact wpAny_pure (hQ _ (extBut_of (Heap.SameBut.update ..) k))
theorem next_rng_stop {it : Addr} {x left step : Int} {Q : Option Value → Shared → Prop} (c : Cool A s.heap) (hit : IsRangeIter s.heap it x left step) (hl : left ≤ 0)
    (hQ : ∀ k', Heap.ExtBut it s.heap k' → Q none { s with heap := k' }) : wpAny (model prog w) A (pyNext (.ref it)) Q E s := by
  rcases c with hh | ⟨x1, hot⟩
  · exact wpAny_pyNext_range_end hh hit hl hQ
  · exact pyNext_range_end_hot hot hit hl fun k' e => hQ k' fun b o _ => e b o
/-! walks -/
theorem hot_of {x : Addr} {o : Obj} {vs : Array Value} (hh : A.handled = some (.ref x)) (g : h.get? x = some o) (d : o.data = .fields vs) (z : vs[2]? = some .none) : HotAt A x h := ⟨hh, o, vs, g, d, z⟩
theorem hot_one {x y : Addr} (a : HotAt A x h) (hh : A.handled = some (.ref y)) : x = y := by
  obtain ⟨e, _⟩ := a
  rw [hh] at e
  cases e
  rfl
theorem walk_hot_tup {x : Addr} {ox : Obj} {vs : Array Value} (hh : A.handled = some (.ref x)) (d : ox.data = .fields vs) (z : vs[2]? = some .none) (it l : Addr) (hne : l ≠ it) (hx : x ≠ it) (items : Array Value) :
    Walks prog w A it [it, l, x] [it] items.size (fun i v => items[i]? = some v) (fun i k => (IsTupIter k it l i ∧ IsTup k l items) ∧ k.get? x = some ox) where
  sub := fun b hb => by simp at hb; simp [hb]
  frame := fun i k k' ⟨⟨a, b⟩, c⟩ hk => ⟨⟨by
    obtain ⟨o, e1, e2, e3⟩ := a
    exact ⟨o, hk it (by simp) o e1, e2, e3⟩, by
    obtain ⟨o, e1, r⟩ := b
    exact ⟨o, hk l (by simp) o e1, r⟩⟩, hk x (by simp) _ c⟩
  item := fun i s Q E hi ⟨⟨a, b⟩, c⟩ hQ => by
    refine next_tuple_item a b (x := items[i]) (by simp [hi]) fun k' hit' hs' => ?_
    exact hQ _ k' s.toks (by simp [hi]) ⟨⟨hit', b.extBut hs'.extBut hne⟩, hs'.extBut _ _ hx c⟩ fun b o hb e => hs'.extBut b o (fun h => hb (by simp [h])) e
  done := fun s Q E ⟨⟨a, b⟩, c⟩ hQ => next_tup_stop (.inr ⟨x, hot_of hh c d z⟩) (fun y hy => by rw [hot_one hy hh]; exact hx) a b (by simp) fun k' he => hQ k' s.toks fun b o hb e => he b o (fun h => hb (by simp [h])) e
  self := fun i s Q E ⟨⟨a, b⟩, c⟩ hQ => wpAny_pyIter_tupleiter a hQ
theorem walk_hot_lst {x : Addr} {ox : Obj} {vs : Array Value} (hh : A.handled = some (.ref x)) (d : ox.data = .fields vs) (z : vs[2]? = some .none) (it l : Addr) (hne : l ≠ it) (hx : x ≠ it) (items : Array Value) :
    Walks prog w A it [it, l, x] [it] items.size (fun i v => items[i]? = some v) (fun i k => (k.IsListIter it l i ∧ k.IsList l items) ∧ k.get? x = some ox) where
  sub := fun b hb => by simp at hb; simp [hb]
  frame := fun i k k' ⟨⟨a, b⟩, c⟩ hk => ⟨⟨a.at fun o e => hk it (by simp) o e, b.at fun o e => hk l (by simp) o e⟩, hk x (by simp) _ c⟩
  item := fun i s Q E hi ⟨⟨a, b⟩, c⟩ hQ => by
    refine wpAny_pyNext_list_item a b (x := items[i]) (by simp [hi]) fun k' hit' hs' => ?_
    exact hQ _ k' s.toks (by simp [hi]) ⟨⟨hit', b.extBut hs'.extBut hne⟩, hs'.extBut _ _ hx c⟩ fun b o hb e => hs'.extBut b o (fun h => hb (by simp [h])) e
  done := fun s Q E ⟨⟨a, b⟩, c⟩ hQ => next_list_stop (.inr ⟨x, hot_of hh c d z⟩) (fun y hy => by rw [hot_one hy hh]; exact hx) a b (by simp) fun k' he => hQ k' s.toks fun b o hb e => he b o (fun h => hb (by simp [h])) e
  self := fun i s Q E ⟨⟨a, b⟩, c⟩ hQ => wpAny_pyIter_listiter a hQ
/-- a walk over the tuple at l, by the iterator at it -/
theorem walk_tup {it l : Addr} {items : Array Value} (c : Cool A h) (hn : ∀ x, HotAt A x h → x ≠ it) (hne : l ≠ it) (a : IsTupIter h it l 0) (b : IsTup h l items) :
    ∃ (fp : List Addr) (St : Nat → Heap → Prop), Walks prog w A it fp [it] items.size (fun i v => items[i]? = some v) St ∧ St 0 h ∧ ∀ b ∈ fp, b < h.objs.size := by
  have h1 : it < h.objs.size := by obtain ⟨_, e, _⟩ := a; exact Heap.lt_size e
  have h2 : l < h.objs.size := by obtain ⟨_, e, _⟩ := b; exact Heap.lt_size e
  rcases c with hh | ⟨x, hot⟩
  · refine ⟨_, _, Walks.tuple hh it l hne items, ⟨a, b⟩, fun b hb => ?_⟩
    simp only [List.mem_cons, List.not_mem_nil, or_false] at hb
    rcases hb with rfl | rfl <;> assumption
  · have hx := hn x hot
    obtain ⟨hh, ox, vs, g, d, z⟩ := hot
    refine ⟨_, _, walk_hot_tup hh d z it l hne hx items, ⟨⟨a, b⟩, g⟩, fun b hb => ?_⟩
    simp only [List.mem_cons, List.not_mem_nil, or_false] at hb
    rcases hb with rfl | rfl | rfl
    · exact h1
    · exact h2
    · exact Heap.lt_size g
theorem walk_lst {it l : Addr} {items : Array Value} (c : Cool A h) (hn : ∀ x, HotAt A x h → x ≠ it) (hne : l ≠ it) (a : h.IsListIter it l 0) (b : h.IsList l items) :
    ∃ (fp : List Addr) (St : Nat → Heap → Prop), Walks prog w A it fp [it] items.size (fun i v => items[i]? = some v) St ∧ St 0 h ∧ ∀ b ∈ fp, b < h.objs.size := by
  have h1 : it < h.objs.size := by obtain ⟨_, e, _⟩ := a; exact Heap.lt_size e
  have h2 : l < h.objs.size := by obtain ⟨_, e, _⟩ := b; exact Heap.lt_size e
  rcases c with hh | ⟨x, hot⟩
  · refine ⟨_, _, Walks.list hh it l hne items, ⟨a, b⟩, fun b hb => ?_⟩
    simp only [List.mem_cons, List.not_mem_nil, or_false] at hb
    rcases hb with rfl | rfl <;> assumption
  · have hx := hn x hot
    obtain ⟨hh, ox, vs, g, d, z⟩ := hot
    refine ⟨_, _, walk_hot_lst hh d z it l hne hx items, ⟨⟨a, b⟩, g⟩, fun b hb => ?_⟩
    simp only [List.mem_cons, List.not_mem_nil, or_false] at hb
    rcases hb with rfl | rfl | rfl
    · exact h1
    · exact h2
    · exact Heap.lt_size g
/-- what is handled is older than what is new -/
theorem hot_old {x : Addr} {hp : Heap} (c : HotAt A x (hp.push o)) (c0 : Cool A hp) {n : Nat} (hn : hp.objs.size ≤ n) : x ≠ n := by
  obtain ⟨hh, _⟩ := c
  rcases c0 with z | ⟨y, hy⟩
  · rw [z] at hh; cases hh
  · have e := hot_one (show HotAt A y hp from hy) hh
    subst e
    obtain ⟨_, _, _, g, _⟩ := hy
    exact Nat.ne_of_lt (Nat.lt_of_lt_of_le (Heap.lt_size g) hn)
/-! ### max, min of two, unpacking -/
theorem two_size {a b : Value} : (s.heap.push { cls := .type "tuple", data := .seq #[a, b] }).objs.size = s.heap.objs.size + 1 := Heap.size_push ..
theorem max_two {a b : Int} {t u : Tok} {Q : Value → Shared → Prop} (c : Cool A s.heap) (q : ∀ k' tk, (∀ c o, s.heap.get? c = some o → k'.get? c = some o) → Q (if b > a then .int b u else .int a t) { s with heap := k', toks := tk }) :
    wpAny (model prog w) A (call (.builtin "max") [.int a t, .int b u]) Q E s := by
  have hT : IsTup (s.heap.push { cls := .type "tuple", data := .seq #[.int a t, .int b u] }) s.heap.objs.size (intItems #[(a, t), (b, u)]) := ⟨_, Heap.get?_push_size _ rfl, rfl, 0, by simp [intItems]⟩
  have hz := two_size (s := s) (a := .int a t) (b := .int b u)
  refine call_max_two (iter_tuple hT ?_)
  generalize hs1 : s.heap.push { cls := .type "tuple", data := .seq #[.int a t, .int b u] } = h1 at *
  have k1 : ∀ b o, s.heap.get? b = some o → h1.get? b = some o := fun b o e => by rw [← hs1]; exact Heap.get?_push_of_some _ e
  have hlt : s.heap.objs.size ≠ h1.objs.size := by omega
  have c1 : Cool A.in1 (h1.push { cls := .type "tuple_iterator", data := .fields #[.ref s.heap.objs.size, .int 0 0] }) := c.keep fun b o e => Heap.get?_push_of_some _ (k1 b o e)
  obtain ⟨fp, St, W, st, hf⟩ := walk_tup (prog := prog) (w := w) c1 (fun x hx => hot_old hx (c.keep k1) (Nat.le_refl _)) hlt ⟨_, Heap.get?_push_size _ rfl, rfl, rfl⟩ (hT.push _)
  refine ⟨_, fp, [_], _, _, St, _, rfl, W, st, hf, by simp [intItems], CmpOf.ints_gt (numAt #[(a, t), (b, u)]) (fun _ _ => intItems_at), fun v k' tk hP hk => ?_⟩
  have hold : ∀ c o, s.heap.get? c = some o → k'.get? c = some o := fun c o e => by
    refine hk c o (fun hm => ?_) (Heap.get?_push_of_some _ (k1 c o e))
    have e1 : c = h1.objs.size := by simpa using hm
    have h2 := Heap.lt_size e
    rw [e1] at h2
    exact absurd (Nat.lt_trans h2 (show s.heap.objs.size < h1.objs.size by omega)) (Nat.lt_irrefl _)
  have fin := q k' tk hold
  have hv : v = if b > a then Value.int b u else Value.int a t := by
    have hP' : (intItems #[(a, t), (b, u)])[argBest (fun i j => decide (numAt #[(a, t), (b, u)] i > numAt #[(a, t), (b, u)] j)) 1]? = some v := by
      rw [show (1 : Nat) = (intItems #[(a, t), (b, u)]).size - 1 by simp [intItems]]
      exact hP
    by_cases hba : b > a
    · rw [show argBest (fun i j => decide (numAt #[(a, t), (b, u)] i > numAt #[(a, t), (b, u)] j)) 1 = 1 by simp [argBest, numAt, hba]] at hP'
      simpa [intItems, hba] using hP'.symm
    · rw [show argBest (fun i j => decide (numAt #[(a, t), (b, u)] i > numAt #[(a, t), (b, u)] j)) 1 = 0 by simp [argBest, numAt, hba]] at hP'
      simpa [intItems, hba] using hP'.symm
  rw [hv]
  exact fin
theorem min_two {a b : Int} {t u : Tok} {Q : Value → Shared → Prop} (c : Cool A s.heap) (q : ∀ k' tk, (∀ c o, s.heap.get? c = some o → k'.get? c = some o) → Q (if b < a then .int b u else .int a t) { s with heap := k', toks := tk }) :
    wpAny (model prog w) A (call (.builtin "min") [.int a t, .int b u]) Q E s := by
  have hT : IsTup (s.heap.push { cls := .type "tuple", data := .seq #[.int a t, .int b u] }) s.heap.objs.size (intItems #[(a, t), (b, u)]) := ⟨_, Heap.get?_push_size _ rfl, rfl, 0, by simp [intItems]⟩
  have hz := two_size (s := s) (a := .int a t) (b := .int b u)
  refine call_min_two (iter_tuple hT ?_)
  generalize hs1 : s.heap.push { cls := .type "tuple", data := .seq #[.int a t, .int b u] } = h1 at *
  have k1 : ∀ b o, s.heap.get? b = some o → h1.get? b = some o := fun b o e => by rw [← hs1]; exact Heap.get?_push_of_some _ e
  have hlt : s.heap.objs.size ≠ h1.objs.size := by omega
  have c1 : Cool A.in1 (h1.push { cls := .type "tuple_iterator", data := .fields #[.ref s.heap.objs.size, .int 0 0] }) := c.keep fun b o e => Heap.get?_push_of_some _ (k1 b o e)
  obtain ⟨fp, St, W, st, hf⟩ := walk_tup (prog := prog) (w := w) c1 (fun x hx => hot_old hx (c.keep k1) (Nat.le_refl _)) hlt ⟨_, Heap.get?_push_size _ rfl, rfl, rfl⟩ (hT.push _)
  refine ⟨_, fp, [_], _, _, St, _, rfl, W, st, hf, by simp [intItems], CmpOf.ints_lt (numAt #[(a, t), (b, u)]) (fun _ _ => intItems_at), fun v k' tk hP hk => ?_⟩
  have hold : ∀ c o, s.heap.get? c = some o → k'.get? c = some o := fun c o e => by
    refine hk c o (fun hm => ?_) (Heap.get?_push_of_some _ (k1 c o e))
    have e1 : c = h1.objs.size := by simpa using hm
    have h2 := Heap.lt_size e
    rw [e1] at h2
    exact absurd (Nat.lt_trans h2 (show s.heap.objs.size < h1.objs.size by omega)) (Nat.lt_irrefl _)
  have fin := q k' tk hold
  have hv : v = if b < a then Value.int b u else Value.int a t := by
    have hP' : (intItems #[(a, t), (b, u)])[argBest (fun i j => decide (numAt #[(a, t), (b, u)] i < numAt #[(a, t), (b, u)] j)) 1]? = some v := by
      rw [show (1 : Nat) = (intItems #[(a, t), (b, u)]).size - 1 by simp [intItems]]
      exact hP
    by_cases hba : b < a
    · rw [show argBest (fun i j => decide (numAt #[(a, t), (b, u)] i < numAt #[(a, t), (b, u)] j)) 1 = 1 by simp [argBest, numAt, hba]] at hP'
      simpa [intItems, hba] using hP'.symm
    · rw [show argBest (fun i j => decide (numAt #[(a, t), (b, u)] i < numAt #[(a, t), (b, u)] j)) 1 = 0 by simp [argBest, numAt, hba]] at hP'
      simpa [intItems, hba] using hP'.symm
  rw [hv]
  exact fin
theorem unpack_tup {t : Addr} {items : Array Value} {Q : List Value → Shared → Prop} (c : Cool A s.heap) (ht : IsTup s.heap t items)
    (hQ : ∀ k', Heap.ExtBut s.heap.objs.size s.heap k' → Q items.toList { s with heap := k' }) : wpAny (model prog w) A (unpackItems (.ref t) items.size none) Q E s := by
  have hlt : t ≠ s.heap.objs.size := by obtain ⟨o, ho, _⟩ := ht; exact Nat.ne_of_lt (Heap.lt_size ho)
  unfold unpackItems
  refine wpAny_bind ?_
  unfold notIterableAtAll
  refine wpAny_bind (wpAny_specialOf ht.typeIs slot_tuple_iter.lookup (wpAny_pure ?_))
  simp only [Bool.false_eq_true, if_false]
  refine wpAny_bind (wpAny_holding (iter_tuple ht (wpAny_bind (wpAny_holding (draw_tuple hlt items.size 0 _ _ ⟨_, Heap.get?_push_size _ rfl, rfl, rfl⟩ (ht.push _) (by omega) fun h₁ hit₁ hs₁ => ?_)))))
  rw [List.drop_zero, List.take_of_length_le (by simp : items.toList.length ≤ items.size), if_neg (by simp)]
  have ht₁ : IsTup h₁ t items := (ht.push _).extBut hs₁.extBut hlt
  have k1 : ∀ b o, s.heap.get? b = some o → h₁.get? b = some o := fun b o e => hs₁.extBut b o (Nat.ne_of_lt (Heap.lt_size e)) (Heap.get?_push_of_some _ e)
  refine wpAny_bind (wpAny_holding (next_tup_stop (c.keep k1) (fun x hx => ?_) hit₁ ht₁ (by simp) fun h₂ he₂ => ?_))
  · rcases c with z | ⟨y, hy⟩
    · obtain ⟨hh, _⟩ := hx
      rw [z] at hh; cases hh
    · have e := hot_one hx hy.1
      subst e
      obtain ⟨_, _, _, g, _⟩ := hy
      exact Nat.ne_of_lt (Heap.lt_size g)
  · simp only [Option.isSome_none, Bool.false_eq_true, if_false]
    exact wpAny_pure (hQ h₂ fun b o hb e => he₂ b o hb (k1 b o e))
theorem assign_tup {env : Env} {elts : List Expr} {x1} {pos : Pos} {t : Addr} {items : Array Value} {Q : Unit → Shared → Prop} (c : Cool A s.heap) (ht : IsTup s.heap t items)
    (hn : (assignEach elts env).length = items.size) (hstar : (assignEach elts env).findIdx? (·.1) = none)
    (q : ∀ k', Heap.ExtBut s.heap.objs.size s.heap k' → wpAny (model prog w) A (assignInOrder ((assignEach elts env).map (·.2)) items.toList) Q E { s with heap := k' }) :
    wpAny (model prog w) A (assign (.Tuple elts x1 pos) env (.ref t)) Q E s := by
  rw [assign_Tuple]
  refine wpAny_bind (wpAny_standAt ?_)
  unfold unpack
  rw [hn, hstar]
  exact wpAny_bind (wpAny_holding (unpack_tup c ht q))
/-! ### raising anything new -/
theorem raise_cool {α : Type} {a : Addr} {cl : Value} {dc : Option Addr} {z0 z1 z2 z3 z4 z5 z6 z7 : Value} {sl : Array (Option Value)} {Q : α → Shared → Prop} (c : Cool A s.heap) (hn : ∀ x, HotAt A x s.heap → x ≠ a)
    (ha : s.heap.get? a = some { cls := cl, dict := dc, data := .fields #[z0, z1, z2, z3, z4, z5, z6, z7], slots := sl })
    (q : ∀ k' y, (∀ b o, b ≠ a → s.heap.get? b = some o → k'.get? b = some o) → k'.get? a = some { cls := cl, dict := dc, data := .fields #[z0, z1, y, z3, z4, z5, z6, z7], slots := sl } → E (.ref a) { s with heap := k' }) :
    wpAny (model prog w) A (raiseNew (.ref a) : Sem α) Q E s := by
  rcases c with hh | ⟨x, hot⟩
  · unfold raiseNew
    refine wpAny_bind (wpAny_handled ?_)
    rw [hh]
    have e := q s.heap z2 (fun b o _ e => e) ha
    first
      | exact wpAny_throw e
      | exact wpAny_bind (wpAny_pure (wpAny_throw e))
  · refine raiseNew_hot hot (hn x hot) ha rfl (by simp) ?_
    refine q _ (.ref x) (fun b o hb e => ?_) ?_
    · rw [Heap.get?_update_other _ _ (Ne.symm hb)]
      exact e
    · rw [Heap.get?_update_self _ ha rfl]
      rfl
structure NewAE (h h' : Heap) (e : Addr) (o : Value) (name : Str) : Prop where
  keeps : ∀ b ob, h.get? b = some ob → h'.get? b = some ob
  there : ∃ t u y, h'.get? e = some { cls := .type "AttributeError", data := .fields #[t, .none, y, .none, .bool false, .none, .str name u, o] }
theorem raiseAE {α : Type} {o : Value} {name : Str} {msg : Str} {Q : α → Shared → Prop} (c : Cool A s.heap)
    (q : ∀ k' tk e, NewAE s.heap k' e o name → E (.ref e) { s with heap := k', toks := tk }) (hm : msg.length ≤ sizeLine := by size_fits) :
    wpAny (model prog w) A (raiseAttrError o name msg : Sem α) Q E s := by
  unfold raiseAttrError
  refine wpAny_bind (wpAny_mkStr (wpAny_bind ?_) hm)
  unfold newExc newTuple
  refine wpAny_bind (wpAny_newObj_type ?_ (by size_fits))
  refine wpAny_bind (m := firstArgMember _ _) (wpAny_of_eq (a := Value.none) (by simp only [firstArgMember, attrError_no_first]; rfl) ?_)
  rw [ownMembersOf_AttributeError]
  refine wpAny_newObj_type ?_ (by size_fits)
  obtain ⟨hp, g, d, tk, os⟩ := s
  have f1 := sub_AttributeError
  repeat (any_goals (first | assumption | with_reducible refine raise_cool ?_ ?_ ?_ ?_ | wp_step))
  dsimp only
  have k1 : ∀ {x y : Obj} {f : Obj → Obj} (b : Addr) (ob : Obj), hp.get? b = some ob → (((hp.push x).push y).update (hp.push x).objs.size f).get? b = some ob := fun {x y f} b ob hb => by
    refine (Heap.get?_update_other _ _ ?_).trans (Heap.get?_push_of_some _ (Heap.get?_push_of_some _ hb))
    rw [Heap.size_push]
    exact Nat.ne_of_gt (Nat.lt_succ_of_lt (Heap.lt_size hb))
  refine raise_cool (z0 := _) (z1 := .none) (z2 := .none) (z3 := .none) (z4 := .bool false) (z5 := .none) (z6 := .str name _) (z7 := o) (c.keep fun b ob hb => k1 b ob hb) (fun x hx => ?_) (Heap.get?_update_self _ (Heap.get?_push_size _ rfl) rfl) fun k' y k e => q _ _ _ ⟨fun b ob hb => k b ob ?_ (k1 b ob hb), _, _, y, e⟩
  · have old : x < hp.objs.size := by
      rcases c with z | ⟨y, hy⟩
      · obtain ⟨hh, _⟩ := hx
        rw [z] at hh; cases hh
      · have e := hot_one hx hy.1
        subst e
        obtain ⟨_, _, _, g', _⟩ := hy
        exact Heap.lt_size g'
    rw [Heap.size_push]
    exact Nat.ne_of_lt (Nat.lt_succ_of_lt old)
  · rw [Heap.size_push]
    exact Nat.ne_of_lt (Nat.lt_succ_of_lt (Heap.lt_size hb))
/-! ### dict(..) of a list of pairs -/
def missSpec (o : Value) (name : Str) : PySem.Spec := fun A R s => Cool A s.heap ∧ ∀ k' tk e, NewAE s.heap k' e o name → R (.error (.ref e)) { s with heap := k', toks := tk }
theorem meets_miss (a : Addr) (xs : Array Value) (k : Nat) (sl : Array (Option Value)) (name : Str) (u : Tok) (h1 : typeLookup (.type "list") name = pure none) (h2 : (["__module__", "__name__", "__qualname__", "__doc__", "__annotations__"] : List Str).contains name = false) (h3 : name.length + 100 ≤ sizeLine) :
    Meets (Builtin.«object.__getattribute__» ⟨[.ref a, .str name u], []⟩) (fun A R s => s.heap.get? a = some { cls := .type "list", dict := none, data := .seq xs k, slots := sl } ∧ missSpec (.ref a) name A R s) :=
  Meets.of_wp fun prog w A R s hs => by
    obtain ⟨hp, g, d, tk, os⟩ := s
    obtain ⟨hx, hs⟩ := hs
    have tl : (⟨hp, g, d, tk, os⟩ : Shared).TypeIs (.ref a) "list" := ⟨_, hx, rfl⟩
    unfold Builtin.«object.__getattribute__»
    repeat (any_goals (first | assumption | wp_step))
    simp only [h2, Bool.false_eq_true, if_false]
    repeat (any_goals (first | assumption | wp_step))
    exact raiseAE hs.1 hs.2 (attrMsg_fits (by decide +kernel) h3)
theorem no_keys {a : Addr} {o : Obj} {xs : Array Value} {k : Nat} {Q : Option Value → Shared → Prop} (hx : s.heap.get? a = some o) (hc : o.cls = .type "list") (hdat : o.data = .seq xs k) (hd : o.dict = none) (c : Cool A s.heap)
    (q : ∀ k' tk, (∀ b ob, s.heap.get? b = some ob → k'.get? b = some ob) → Q none { s with heap := k', toks := tk }) : wpAny (model prog w) A (getAttr? (.ref a) "keys") Q E s := by
  obtain ⟨cl, dct, dat, sl⟩ := o
  simp only at hc hdat hd
  subst hc hdat hd
  obtain ⟨hp, g, d, tk, os⟩ := s
  have tl : ∀ tk', (⟨hp, g, d, tk', os⟩ : Shared).TypeIs (.ref a) "list" := fun _ => ⟨_, hx, rfl⟩
  have m0 := L2.list_keys_none
  have m1 : (["__module__", "__name__", "__qualname__", "__doc__", "__annotations__"] : List Str).contains "keys" = false := by decide +kernel
  have m2 : ("keys" : Str).length + 100 ≤ sizeLine := by first | size_fits | decide +kernel
  have f1 := sub_AttributeError
  have f3 := PySem.F.slot_list_getattribute.lookup
  have f4 := PySem.F.slot_list_getattribute.bind (.ref a)
  have f5 := am_list_getattr_none
  unfold getAttr? getAttrBy? getAttrBy
  repeat (any_goals (first | assumption | exact tl _ | ((with_reducible show wpAny _ _ (call (Value.builtin "list.__getattribute__") _ _) _ _ _); refine call_meets PySem.F.slot_list_getattribute (tl _) am_entry_list_getattribute (PySem.F.args_list_getattribute_2 _ _) (meets_miss a xs k sl "keys" _ m0 m1 m2) ⟨hx, c, fun k' tk' e hk => ?_⟩) | wp_step))
  obtain ⟨t', u', y, he⟩ := hk.there
  show wpAny _ _ (getattributeRaised _ _ _ _ _ _ _) _ _ _
  unfold getattributeRaised
  repeat (any_goals (first | assumption | wp_step))
  all_goals first | exact q _ _ hk.keeps | (dsimp only; repeat (any_goals (first | assumption | exact q _ _ hk.keeps | wp_step)))
theorem upd_walk {R : Result → Shared → Prop} {S I l : Addr} {items : Array Value} {res : Value} (lI : l ≠ I) (SI : S ≠ I) (Sl : S ≠ l) :
    ∀ (rest : List (L2.Key × Value)) (i : Nat) (acc : List (L2.Key × Value)) (ix : Int) (t : Tok) (s : Shared), Cool A s.heap → (∀ x, HotAt A x s.heap → x ≠ I ∧ x ≠ S) → items.size = i + rest.length → acc.length + rest.length ≤ sizeLine →
      (∀ (j : Nat) (q : L2.Key × Value), rest[j]? = some q → ∃ (b : Addr) (u : Value), items[i + j]? = some (.ref b) ∧ b ≠ S ∧ b ≠ I ∧ IsTup s.heap b #[u, q.2] ∧ L2.keyIs q.1 u = true) →
      s.heap.IsListIter I l i → s.heap.IsList l items → s.heap.DictOf (L2.mixKind prog w) S acc →
      (∀ k' tk, k'.DictOf (L2.mixKind prog w) S (merged acc rest) → (∀ b o, b ≠ S → b ≠ I → s.heap.get? b = some o → k'.get? b = some o) → R (.ok (.ret res)) { s with heap := k', toks := tk }) →
      codeAny (model prog w) A (.builtin "dict.update.loop" ⟨[.ref S, .ref I, .int ix t, res], []⟩) R s
  | [], i, acc, ix, t, s, c, hx, hsz, hln, ht, hit, hl, hm, hR => by
    refine codeAny_builtin L2.ud_entry ?_
    rw [Around.under_plainId L2.ud_plain _]
    show wpAny _ A.in1 (pyNext (.ref I) >>= _) _ _ s
    refine wpAny_bind (next_list_stop (A := A.in1) c (fun x z => (hx x z).1) hit hl (by first | exact Array.getElem?_eq_none (Nat.le_of_eq hsz) | (simp at hsz; simp; omega)) fun k' he => ?_)
    show wpAny _ A.in1 (Builtin.Dict.addKeywords S [] >>= _) _ _ _
    exact wpAny_bind (wpAny_pure (wpAny_pure (hR k' s.toks (hm.extBut he SI) fun b o _ hb e => he b o hb e)))
  | q :: rest, i, acc, ix, t, s, c, hx, hsz, hln, ht, hit, hl, hm, hR => by
    obtain ⟨b, u, hb, bS, bI, tup, hk⟩ := ht 0 q rfl
    rw [List.length_cons] at hsz hln
    refine codeAny_builtin L2.ud_entry ?_
    rw [Around.under_plainId L2.ud_plain _]
    show wpAny _ A.in1 (pyNext (.ref I) >>= _) _ _ s
    refine wpAny_bind (wpAny_pyNext_list_item (x := .ref b) hit hl (by simpa using hb) fun h1 hit1 hs1 => ?_)
    have t1 : IsTup h1 b #[u, q.2] := tup.extBut hs1.extBut bI
    have l1 : h1.IsList l items := hl.extBut hs1.extBut lI
    have d1 : h1.DictOf (L2.mixKind prog w) S acc := hm.extBut hs1.extBut SI
    obtain ⟨o, ho, hc, n, hd⟩ := id t1
    show wpAny _ A.in1 (holding [Value.ref b] _ >>= _) _ _ _
    refine wpAny_bind (wpAny_holding (wpAny_bind (wpAny_tryCatch ?_)))
    unfold Builtin.Dict.pairItems
    refine wpAny_bind (wpAny_typeOf (T := "tuple") ⟨o, ho, hc⟩ ?_)
    rw [if_pos (by first | decide | rfl | simp)]
    refine wpAny_bind (wpAny_seqItems ho hd (wpAny_pure ?_))
    show wpAny _ A.in1 (holding [u, q.2] (dictSet S u q.2)) _ _ _
    refine wpAny_holding (wpAny_dictSet_pairs (knd := L2.mixKind prog w) (k := q.1) hk d1 (fun h2 d2 hs2 => ?_) (by omega))
    have far : ∀ c oc, c ≠ S → c ≠ I → s.heap.get? c = some oc → h2.get? c = some oc := fun c oc h3 h4 e => hs2.extBut c oc h3 (hs1.extBut c oc h4 e)
    have same : ∀ x, HotAt A x h2 → x ≠ I ∧ x ≠ S := fun x z => by
      rcases c with z2 | ⟨y, hy⟩
      · obtain ⟨hh, _⟩ := z
        rw [z2] at hh; cases hh
      · rw [hot_one z hy.1]
        exact hx y hy
    have c2 : Cool A h2 := by
      rcases c with z2 | ⟨y, hy⟩
      · exact .inl z2
      · obtain ⟨z3, z4⟩ := hx y hy
        obtain ⟨hh, oy, vs, g, dd, z⟩ := hy
        exact .inr ⟨y, hh, oy, vs, far y oy z4 z3 g, dd, z⟩
    refine wpAny_pure ⟨plainId_quiet L2.ud_plain _, upd_walk (items := items) lI SI Sl rest (i + 1) (stored acc q.1 q.2) (ix + 1) 0 _ c2 same (show items.size = i + 1 + rest.length by omega) ?_ (fun j q' e => ?_) ?_ ?_ d2 fun k' tk hd' k => ?_⟩
    · have z := stored_length_le acc q.1 q.2
      omega
    · obtain ⟨b', u', g1, g2, g3, g4, g5⟩ := ht (j + 1) q' (by simpa using e)
      refine ⟨b', u', ?_, g2, g3, (g4.extBut hs1.extBut g3).extBut hs2.extBut g2, g5⟩
      rw [show i + 1 + j = i + (j + 1) by omega]
      exact g1
    · exact hit1.at fun o' e => hs2.extBut I o' (Ne.symm SI) e
    · exact l1.extBut hs2.extBut (Ne.symm Sl)
    · exact hR k' tk hd' fun c oc h3 h4 e => k c oc h3 h4 (far c oc h3 h4 e)
theorem hot_lt {x : Addr} {h1 : Heap} (z : HotAt A x h1) (c : Cool A h) : x < h.objs.size := by
  rcases c with z2 | ⟨y, hy⟩
  · obtain ⟨hh, _⟩ := z
    rw [z2] at hh; cases hh
  · rw [hot_one z hy.1]
    obtain ⟨_, _, _, g, _⟩ := hy
    exact Heap.lt_size g
theorem dict_pairs {l : Addr} {ol : Obj} {items : Array Value} {n : Nat} {prs : List (L2.Key × Value)} {Q : Value → Shared → Prop} (c : Cool A s.heap) (hl : s.heap.get? l = some ol) (hc : ol.cls = .type "list") (hd : ol.dict = none)
    (hdat : ol.data = .seq items n) (hsz : items.size = prs.length) (hln : prs.length ≤ sizeLine)
    (ht : ∀ (j : Nat) (q : L2.Key × Value), prs[j]? = some q → ∃ (b : Addr) (u : Value), items[j]? = some (.ref b) ∧ IsTup s.heap b #[u, q.2] ∧ L2.keyIs q.1 u = true)
    (q : ∀ k' tk, k'.DictOf (L2.mixKind prog w) s.heap.objs.size (merged [] prs) → (∀ b o, s.heap.get? b = some o → k'.get? b = some o) → Q (.ref s.heap.objs.size) { s with heap := k', toks := tk }) :
    wpAny (model prog w) A (call (.type "dict") [.ref l]) Q E s := by
  refine callType_codes (Q₁ := fun obj s₁ => obj = .ref s.heap.objs.size ∧ s₁ = { s with heap := s.heap.push { cls := .type "dict", data := .dict #[] } }) PySem.F.kt_called_dict (PySem.F.kt_typeCall_dict_1 _) PySem.F.entry_dict_init (kt_code_dict_new _ ⟨rfl, rfl⟩) ?_
  rintro obj s₁ ⟨rfl, rfl⟩
  have nw : (s.heap.push { cls := .type "dict", data := .dict #[] }).DictOf (L2.mixKind prog w) s.heap.objs.size [] := Heap.DictOf.new s.heap
  have k0 : ∀ b o, s.heap.get? b = some o → (s.heap.push { cls := .type "dict", data := .dict #[] }).get? b = some o := fun b o e => Heap.get?_push_of_some _ e
  refine ⟨nw.typeIs, PySem.F.args_dict_init_2 _ _, ?_⟩
  unfold Builtin.«dict.__init__»
  refine wpAny_bind ?_
  unfold Builtin.Dict.selfAndRest
  refine wpAny_bind (wpAny_notOrdered_dict nw.typeIs ?_)
  show wpAny _ _ (pure (s.heap.objs.size, [Value.ref l])) _ _ _
  refine wpAny_pure ?_
  show wpAny _ _ (Builtin.Dict.updateFrom "dict.__init__" s.heap.objs.size (.ref l) [] .none) _ _ _
  unfold Builtin.Dict.updateFrom
  refine wpAny_bind (wpAny_typeOf (T := "list") ⟨ol, k0 _ _ hl, hc⟩ ?_)
  rw [if_pos (by first | decide | rfl | simp)]
  refine wpAny_bind (no_keys (k0 _ _ hl) hc hdat hd (c.keep k0) fun h1 tk1 hk1 => ?_)
  rw [if_pos (show (none : Option Value).isNone = true from rfl)]
  refine wpAny_bind (wpAny_rule ?_)
  have l1 : h1.IsList l items := ⟨ol, hk1 _ _ (k0 _ _ hl), hc, n, hdat⟩
  have S1 : s.heap.objs.size < h1.objs.size := by
    have e : (s.heap.push { cls := .type "dict", data := .dict #[] }).get? s.heap.objs.size = some { cls := .type "dict", data := .dict #[] } := Heap.get?_push_size _ rfl
    exact Heap.lt_size (hk1 _ _ e)
  refine wpAny_bind (wpAny_pyIter_list l1 ?_)
  have k2 : ∀ b o, h1.get? b = some o → (h1.push { cls := .type "list_iterator", data := .fields #[.ref l, .int 0 0] }).get? b = some o := fun b o e => Heap.get?_push_of_some _ e
  have k3 : ∀ b o, s.heap.get? b = some o → (h1.push { cls := .type "list_iterator", data := .fields #[.ref l, .int 0 0] }).get? b = some o := fun b o e => k2 _ _ (hk1 _ _ (k0 _ _ e))
  have hlt : l < s.heap.objs.size := Heap.lt_size hl
  have key := upd_walk (prog := prog) (w := w) (A := A.in1) (R := wants (fun r s₂ => r = .none ∧ Q (.ref s.heap.objs.size) s₂) E) (S := s.heap.objs.size) (I := h1.objs.size) (l := l) (items := items) (res := Value.none)
    (Nat.ne_of_lt (Nat.lt_trans hlt S1)) (Nat.ne_of_lt S1) (Nat.ne_of_gt hlt) prs 0 [] 0 0
    { s with heap := h1.push { cls := .type "list_iterator", data := .fields #[.ref l, .int 0 0] }, toks := tk1 } (c.keep k3) (fun x z => ⟨Nat.ne_of_lt (Nat.lt_trans (hot_lt (A := A) z c) S1), Nat.ne_of_lt (hot_lt (A := A) z c)⟩) (by rw [hsz, Nat.zero_add]) (by rw [List.length_nil, Nat.zero_add]; exact hln)
    (fun j q e => by
      obtain ⟨b, u, e1, e2, e3⟩ := ht j q e
      have hb : b < s.heap.objs.size := e2.lt
      exact ⟨b, u, by rw [Nat.zero_add]; exact e1, Nat.ne_of_lt hb, Nat.ne_of_lt (Nat.lt_trans hb S1), e2.keeps k3, e3⟩)
    ⟨_, Heap.get?_push_size _ rfl, rfl, rfl⟩ (l1.at fun o e => k2 _ _ e) ((nw.at fun o e => hk1 _ _ e).at fun o e => k2 _ _ e)
    (fun k' tk hd' k => ⟨rfl, q k' tk hd' fun b o e => k b o (Nat.ne_of_lt (Heap.lt_size e)) (Nat.ne_of_lt (Nat.lt_trans (Heap.lt_size e) S1)) (k3 _ _ e)⟩)
  first
    | exact wpAny_pure ⟨plainId_quiet L2.ud_plain _, key⟩
    | exact wpAny_bind (wpAny_pure (wpAny_pure ⟨plainId_quiet L2.ud_plain _, key⟩))
end
end TC

/-! the rules that walk, whether or not an exception is handled meanwhile -/
namespace TC
open PySem PySem.Spec PyProof.Rows L2 HotX
abbrev St := L2.St
def CoolX (X : Cx) : Prop := X.calm = true ∨ L2H.HotC X
theorem coolX_calm {X : Cx} (h : X.calm = true) : CoolX X := .inl h
section
variable {X : Cx} {pins : List (Addr × Obj)} {σ : St} {H : Hp} {s : Shared}
theorem CoolX.at (c : CoolX X) (I : Inv X pins σ H s) : Cool X.A s.heap := c.imp (fun h => I.ok.hd h) fun h => h.at I
/-- what is handled is none of the objects that the iterator turns -/
theorem hot_fp {x b : Addr} (c : CoolX X) (I : Inv X pins σ H s) (f : FpOk X pins H b) (hx : HotAt X.A x s.heap) : x ≠ b := by
  obtain ⟨hh, _⟩ := hx
  rcases c with z | ⟨p, ⟨h2, _⟩, hp⟩
  · rw [I.ok.hd z] at hh; cases hh
  · rw [h2] at hh
    cases hh
    exact f.2.2.2.2.2 p (List.mem_append_left _ hp)
theorem max2 (c : CoolX X) : CallR X (.builtin "max") (fun xs H Q => ∃ i j, xs = [.int i, .int j] ∧ Q (.int (if j > i then j else i)) H) := by
  intro pins s σ H xs us Q I r h
  obtain ⟨i, j, rfl, q⟩ := h
  obtain ⟨u, w', rfl, ⟨t, rfl⟩, ⟨t', rfl⟩⟩ := vals2 r
  refine max_two (c.at I) fun k' tk k => ⟨_, H, I.kept k, ?_, q⟩
  by_cases hj : j > i
  · rw [if_pos hj, if_pos hj]; exact ⟨_, rfl⟩
  · rw [if_neg hj, if_neg hj]; exact ⟨_, rfl⟩
theorem min2 (c : CoolX X) : CallR X (.builtin "min") (fun xs H Q => ∃ i j, xs = [.int i, .int j] ∧ Q (.int (if j < i then j else i)) H) := by
  intro pins s σ H xs us Q I r h
  obtain ⟨i, j, rfl, q⟩ := h
  obtain ⟨u, w', rfl, ⟨t, rfl⟩, ⟨t', rfl⟩⟩ := vals2 r
  refine min_two (c.at I) fun k' tk k => ⟨_, H, I.kept k, ?_, q⟩
  by_cases hj : j < i
  · rw [if_pos hj, if_pos hj]; exact ⟨_, rfl⟩
  · rw [if_neg hj, if_neg hj]; exact ⟨_, rfl⟩
theorem c_any (c : CoolX X) : CallR X (.builtin "any") (rAny X.K) := by
  intro pins s σ H vs us Q I r h
  obtain ⟨a, bs, rfl, hs, q⟩ := h
  obtain ⟨its, rv, hl, _⟩ := I.list hs
  rw [Vals.ref1 r]
  have hb := rv.bls
  refine call_any_walk (iter_any hl.isList fun s₂ e2 st hne => ?_)
  subst e2
  obtain ⟨fp, Sx, W, s0, _⟩ := walk_lst (prog := X.prog) (w := X.w) (A := X.A.in1) ((c.at I).keep fun b o e => Heap.get?_push_of_some _ e) (fun x hx => Nat.ne_of_lt (hot_lt (A := X.A) hx (c.at I))) hne st.1 st.2
  refine ⟨_, fp, _, _, _, Sx, _, rfl, W, s0, truth_bools hb, fun k' tk hk => ?_⟩
  refine ⟨.bl _, H, I.kept fun b o eo => hk b o (fun hm => ?_) (Heap.get?_push_of_some _ eo), ?_, q⟩
  · have e1 : b = s.heap.objs.size := by simpa using hm
    exact absurd (e1 ▸ Heap.lt_size eo) (Nat.lt_irrefl _)
  · show Value.bool _ = Value.bool _
    rw [← L2.any_range, hb, List.size_toArray, List.length_map]
theorem c_all (c : CoolX X) : CallR X (.builtin "all") (rAll X.K) := by
  intro pins s σ H vs us Q I r h
  obtain ⟨a, bs, rfl, hs, q⟩ := h
  obtain ⟨its, rv, hl, _⟩ := I.list hs
  rw [Vals.ref1 r]
  have hb := rv.bls
  refine call_all_walk (iter_any hl.isList fun s₂ e2 st hne => ?_)
  subst e2
  obtain ⟨fp, Sx, W, s0, _⟩ := walk_lst (prog := X.prog) (w := X.w) (A := X.A.in1) ((c.at I).keep fun b o e => Heap.get?_push_of_some _ e) (fun x hx => Nat.ne_of_lt (hot_lt (A := X.A) hx (c.at I))) hne st.1 st.2
  refine ⟨_, fp, _, _, _, Sx, _, rfl, W, s0, truth_bools hb, fun k' tk hk => ?_⟩
  refine ⟨.bl _, H, I.kept fun b o eo => hk b o (fun hm => ?_) (Heap.get?_push_of_some _ eo), ?_, q⟩
  · have e1 : b = s.heap.objs.size := by simpa using hm
    exact absurd (e1 ▸ Heap.lt_size eo) (Nat.lt_irrefl _)
  · show Value.bool _ = Value.bool _
    rw [← L2.all_range, hb, List.size_toArray, List.length_map]
theorem dictP (c : CoolX X) : CallR X (.type "dict") (fun xs H Q => ∃ (a : Addr) (ps : List Addr) (kvs : List (L2.Key × V)), xs = [.ref a] ∧ SqL X.K H a (ps.map V.ref) ∧ Paired (fun p kv => SqT X.K H p [kV kv.1, kv.2]) ps kvs ∧
    ∀ p, H p = none → Q (.ref p) (upd H p (.dK (mergeK [] kvs)))) := by
  intro pins s σ H xs us Q I r q
  obtain ⟨a, ps, kvs, ex, hq, hp, q⟩ := q
  subst ex
  obtain ⟨u, eu, rx⟩ := vals1 r
  subst eu
  cases rx
  obtain ⟨its, rv, pl, hz⟩ := I.list hq
  have ei := refs_at rv
  subst ei
  rw [List.length_map] at hz
  obtain ⟨prs, rel, hl, hpr⟩ := pairs_of I hp
  obtain ⟨o, n, ho, hc, hd, hdat⟩ := pl
  refine dict_pairs (prs := prs) (c.at I) ho hc hd hdat (by simp [hl]) (by rw [hl]; exact hz) (fun j q' e => ?_) fun k' tk hd' k => ?_
  · obtain ⟨b, u, e1, e2, e3⟩ := hpr j q' e
    exact ⟨b, u, by simp [e1], e2, e3⟩
  · have hm : (s.heap.objs.size == sysModules) = false := beq_eq_false_iff_ne.mpr (Nat.ne_of_gt I.big)
    have hlen : (mergeK [] kvs).length ≤ sizeLine := by
      refine Nat.le_trans (length_mergeK kvs []) ?_
      rw [List.length_nil, Nat.zero_add, rel.length, hl]
      exact hz
    exact ⟨.ref s.heap.objs.size, upd H s.heap.objs.size (.dK (mergeK [] kvs)), I.laid (t' := tk) k (Nat.le_refl _) (show ObjOk X.prog X.w _ _ _ (.dK (mergeK [] kvs)) from ⟨hlen, hm, merged [] prs, KV.merge rel .nil, hd'⟩), rfl, q _ (I.hok.fresh (Nat.le_refl _))⟩
theorem tg_tup {es : List Expr} {k : Nat} {t : TGs} {n : Nat} {pos : Pos} (c : CoolX X) (h : PGs X es t)
    (hn : (assignEach es X.env).length = n := by rfl) (hst : (assignEach es X.env).findIdx? (·.1) = none := by rfl) : PG X (.Tuple es k pos) (gTup X.K n t) := by
  refine ⟨fun pins s σ H v u Q I r hw => ?_⟩
  obtain ⟨a, xs, e1, hq, hl, hw⟩ := hw
  subst e1
  cases r
  obtain ⟨its, rv, ht, hz⟩ := I.tuple hq
  refine assign_tup (c.at I) ht (by simp [hn, ← hl, rv.length]) hst fun k' hx => ?_
  have I1 : Inv X pins σ H { s with heap := k' } := I.kept (t' := s.toks) fun b o e => hx b o (Nat.ne_of_lt (Heap.lt_size e)) e
  exact h.run pins _ σ H xs _ Q I1 (by simpa using rv) hw
end
/-! ### iterators -/
/-- an iterator that serves where C holds -/
structure TurnC (C : Cx → Prop) (P : Program) (w : World) (K : PySem.W.Frag) (tg : Expr) (J : It) (fp : List Addr) (it : Addr) (tn : Nat → Heap → Prop) : Prop where
  mem : it ∈ fp
  obj : ∀ i h, tn i h → ∀ b ∈ fp, ∃ o, h.get? b = some o ∧ ∀ v, o.data ≠ .cell v
  keep : ∀ i h h', tn i h → (∀ b ∈ fp, ∀ o, h.get? b = some o → h'.get? b = some o) → tn i h'
  item : ∀ (X : Cx), X.prog = P → X.w = w → X.K = K → C X → ∀ (i : Nat) (pins : List (Addr × Obj)) (s : Shared) (σ : St) (H : Hp) (E : Value → Shared → Prop), Inv X pins σ H s → (∀ b ∈ fp, FpOk X pins H b) → tn i s.heap → J.go i H →
    wpAny (model P w) X.A (pyNext (.ref it)) (fun r s1 => ∃ u, r = some u ∧
      wpAny (model P w) X.A (letOwnedTupleGo tg (.ref it) u) (fun _ s2 => ∃ x H', Inv X pins σ H' s2 ∧ RelV x u ∧ J.yld i H x H' ∧ tn (i + 1) s2.heap ∧ ∀ b ∈ fp, H' b = none) E s1) E s
  done : ∀ (X : Cx), X.prog = P → X.w = w → X.K = K → C X → ∀ (i : Nat) (pins : List (Addr × Obj)) (s : Shared) (σ : St) (H : Hp) (E : Value → Shared → Prop), Inv X pins σ H s → (∀ b ∈ fp, FpOk X pins H b) → tn i s.heap → J.stop i H →
    wpAny (model P w) X.A (pyNext (.ref it)) (fun r s1 => r = none ∧ Inv X pins σ H s1) E s
  self : ∀ (A : Around) (i : Nat) (s : Shared) (Q : Value → Shared → Prop) (E : Value → Shared → Prop), tn i s.heap → Q (.ref it) s → wpAny (model P w) A (pyIter (.ref it)) Q E s
def Calm (X : Cx) : Prop := X.calm = true
section
variable {P : Program} {w : World} {K : PySem.W.Frag} {tg : Expr}
theorem turn_of {J : It} {fp : List Addr} {it : Addr} {tn : Nat → Heap → Prop} (T : Turn P w K tg J fp it tn) : TurnC Calm P w K tg J fp it tn := ⟨T.mem, T.obj, T.keep, T.item, T.done, T.self⟩
theorem turn_lst (a it : Addr) : TurnC CoolX P w K tg (Itl K a) [it] it (fun i h => h.IsListIter it a i) where
  mem := List.mem_singleton_self it
  obj := (turn_list (P := P) (w := w) (K := K) (tg := tg) a it).obj
  keep := (turn_list (P := P) (w := w) (K := K) (tg := tg) a it).keep
  self := (turn_list (P := P) (w := w) (K := K) (tg := tg) a it).self
  item := by
    intro X hP hw hK _ i pins s σ H E I hf st hg
    subst hP hw hK
    obtain ⟨xs, x, hq, hx⟩ := hg
    obtain ⟨its, rv, p, hz⟩ := I.list hq
    obtain ⟨u, hu, ru⟩ := rv.get hx
    obtain ⟨f0, f1, f2, f3, f4, f5⟩ := hf it (by simp)
    refine wpAny_pyNext_list_item st p.isList (x := u) (by simpa using hu) fun k' st' sb => ?_
    have I1 : Inv X pins σ H { s with heap := k' } := I.turned (t' := s.toks) (fun b o hb e => (sb.2 b hb).trans e) f0 f1 f3 f4 f5
    obtain ⟨o, e, c, d⟩ := id st'
    exact ⟨u, rfl, go_of (s := { s with heap := k' }) e c d (by decide) ⟨x, H, I1, ru, ⟨rfl, fun ys hy => by rw [I.list_inj hy hq]; exact hx⟩, st', fun b hb => (hf b hb).1⟩⟩
  done := by
    intro X hP hw hK c i pins s σ H E I hf st hg
    subst hP hw hK
    obtain ⟨xs, hq, hx⟩ := hg
    obtain ⟨its, rv, p, hz⟩ := I.list hq
    have hff := hf it (by simp)
    obtain ⟨f0, f1, f2, f3, f4, f5⟩ := id hff
    have hl := rv.length
    exact next_list_stop (c.at I) (fun x z => hot_fp c I hff z) st p.isList (by simp; omega) fun k' eb => ⟨rfl, I.turned (t' := s.toks) (fun b o hb e => eb b o hb e) f0 f1 f3 f4 f5⟩
theorem turn_tup (a it : Addr) : TurnC CoolX P w K tg (Itt K a) [it] it (fun i h => h.IsTupleIter it a i) where
  mem := List.mem_singleton_self it
  obj := (turn_tuple (P := P) (w := w) (K := K) (tg := tg) a it).obj
  keep := (turn_tuple (P := P) (w := w) (K := K) (tg := tg) a it).keep
  self := (turn_tuple (P := P) (w := w) (K := K) (tg := tg) a it).self
  item := by
    intro X hP hw hK _ i pins s σ H E I hf st hg
    subst hP hw hK
    obtain ⟨xs, x, hq, hx⟩ := hg
    obtain ⟨its, rv, p, hz⟩ := I.tuple hq
    obtain ⟨u, hu, ru⟩ := rv.get hx
    obtain ⟨f0, f1, f2, f3, f4, f5⟩ := hf it (by simp)
    refine wpAny_pyNext_tuple_item st (show s.heap.IsTuple a its.toArray from p) (x := u) (by simpa using hu) fun k' st' sb => ?_
    have I1 : Inv X pins σ H { s with heap := k' } := I.turned (t' := s.toks) (fun b o hb e => (sb.2 b hb).trans e) f0 f1 f3 f4 f5
    obtain ⟨o, e, c, d⟩ := id st'
    exact ⟨u, rfl, go_of (s := { s with heap := k' }) e c d (by decide) ⟨x, H, I1, ru, ⟨rfl, fun ys hy => by rw [I.tuple_inj hy hq]; exact hx⟩, st', fun b hb => (hf b hb).1⟩⟩
  done := by
    intro X hP hw hK c i pins s σ H E I hf st hg
    subst hP hw hK
    obtain ⟨xs, hq, hx⟩ := hg
    obtain ⟨its, rv, p, hz⟩ := I.tuple hq
    have hff := hf it (by simp)
    obtain ⟨f0, f1, f2, f3, f4, f5⟩ := id hff
    have hl := rv.length
    exact next_tup_stop (c.at I) (fun x z => hot_fp c I hff z) st p (by simp; omega) fun k' eb => ⟨rfl, I.turned (t' := s.toks) (fun b o hb e => eb b o hb e) f0 f1 f3 f4 f5⟩
theorem turn_rng (it : Addr) (lo : Int) (n : Nat) : TurnC CoolX P w K tg (Itr lo n) [it] it (fun i h => IsRangeIter h it (lo + (i : Nat) * 1) ((n : Int) - (i : Nat)) 1) where
  mem := List.mem_singleton_self it
  obj := (turn_range (P := P) (w := w) (K := K) (tg := tg) it lo n).obj
  keep := (turn_range (P := P) (w := w) (K := K) (tg := tg) it lo n).keep
  self := (turn_range (P := P) (w := w) (K := K) (tg := tg) it lo n).self
  item := by
    intro X hP hw hK _ i pins s σ H E I hf st hg
    subst hP hw hK
    obtain ⟨f0, f1, f2, f3, f4, f5⟩ := hf it (by simp)
    have hlt : i < n := hg
    refine wpAny_pyNext_range_item st (by omega) fun k' st' sb => ?_
    have st2 : IsRangeIter k' it (lo + ((i + 1 : Nat) : Int) * 1) ((n : Int) - ((i + 1 : Nat) : Int)) 1 := by
      rw [show lo + ((i + 1 : Nat) : Int) * 1 = lo + ((i : Nat) : Int) * 1 + 1 by omega, show (n : Int) - ((i + 1 : Nat) : Int) = (n : Int) - ((i : Nat) : Int) - 1 by omega]
      exact st'
    have I1 : Inv X pins σ H { s with heap := k', toks := s.toks + 1 } := I.turned (fun b o hb e => (sb.2 b hb).trans e) f0 f1 f3 f4 f5
    refine ⟨_, rfl, go_of (s := { s with heap := k', toks := s.toks + 1 }) (n := "range_iterator") st2 rfl rfl (by decide) ⟨.int (lo + i), H, I1, ⟨s.toks, ?_⟩, ⟨rfl, rfl⟩, st2, fun b hb => (hf b hb).1⟩⟩
    rw [Int.mul_one]
  done := by
    intro X hP hw hK c i pins s σ H E I hf st hg
    subst hP hw hK
    obtain ⟨f0, f1, f2, f3, f4, f5⟩ := hf it (by simp)
    exact next_rng_stop (c.at I) st (by have : n ≤ i := hg; omega) fun k' eb => ⟨rfl, I.turned (t' := s.toks) (fun b o hb e => eb b o hb e) f0 f1 f3 f4 f5⟩
end
def PIEC (C : Cx → Prop) (X : Cx) (pins : List (Addr × Obj)) (σ : St) (tg : Expr) (R : It → Hp → Prop) (itv : Value) (s2 : Shared) : Prop :=
  ∃ (it : Addr) (fp : List Addr) (tn : Nat → Heap → Prop) (J : It) (H' : Hp), itv = .ref it ∧ Inv X pins σ H' s2 ∧ TurnC C X.prog X.w X.K tg J fp it tn ∧ tn 0 s2.heap ∧ (∀ b ∈ fp, FpOk X pins H' b) ∧ R J H'
structure PIC (C : Cx → Prop) (X : Cx) (tg iter : Expr) (wi : TI) : Prop where
  run : ∀ (pins : List (Addr × Obj)) (s : Shared) (σ : St) (H : Hp) (R : It → Hp → Prop), Inv X pins σ H s → wi σ H R →
    wpAny (model X.prog X.w) X.A (eval iter X.env) (fun v s1 => wpAny (model X.prog X.w) X.A (pyIter v) (PIEC C X pins σ tg R) X.xe s1) X.xe s
section
variable {X : Cx} {tg : Expr}
theorem pic_of {iter : Expr} {wi : TI} (h : PI X tg iter wi) : PIC Calm X tg iter wi := ⟨fun pins s σ H R I q => thn (h.run pins s σ H R I q) fun v s1 h1 => thn h1 fun itv s2 ⟨it, fp, tn, J, H', e, I', T, r⟩ => ⟨it, fp, tn, J, H', e, I', turn_of T, r⟩⟩
theorem pic_list {l : Expr} {tl : TE} (hl : PE X l tl) : PIC CoolX X tg l (iList X.K tl) := by
  refine ⟨fun pins s σ H R I h => thn (hl.run pins s σ H _ I h) fun v s1 ⟨x, H1, I1, r1, q1⟩ => ?_⟩
  obtain ⟨a, e, ⟨xs, hq⟩, q⟩ := q1
  subst e
  cases r1
  obtain ⟨its, rv, p, hz⟩ := I1.list hq
  refine wpAny_pyIter_list p.isList ⟨s1.heap.objs.size, [s1.heap.objs.size], _, _, H1, rfl, I1.kept (t' := s1.toks) fun b o e => Heap.get?_push_of_some _ e, turn_lst a _, ⟨_, Heap.get?_push_size _ rfl, rfl, rfl⟩, fun b hb => ?_, q⟩
  have e : b = s1.heap.objs.size := by simpa using hb
  subst e
  exact I1.fpOk (Nat.le_refl _) (I1.hok.fresh (Nat.le_refl _))
theorem pic_tup {l : Expr} {tl : TE} (hl : PE X l tl) : PIC CoolX X tg l (iTup X.K tl) := by
  refine ⟨fun pins s σ H R I h => thn (hl.run pins s σ H _ I h) fun v s1 ⟨x, H1, I1, r1, q1⟩ => ?_⟩
  obtain ⟨a, e, ⟨xs, hq⟩, q⟩ := q1
  subst e
  cases r1
  obtain ⟨its, rv, p, hz⟩ := I1.tuple hq
  refine wpAny_pyIter_tuple (show s1.heap.IsTuple a its.toArray from p) ⟨s1.heap.objs.size, [s1.heap.objs.size], _, _, H1, rfl, I1.kept (t' := s1.toks) fun b o e => Heap.get?_push_of_some _ e, turn_tup a _, ⟨_, Heap.get?_push_size _ rfl, rfl, rfl⟩, fun b hb => ?_, q⟩
  have e : b = s1.heap.objs.size := by simpa using hb
  subst e
  exact I1.fpOk (Nat.le_refl _) (I1.hok.fresh (Nat.le_refl _))
theorem rng_itC {pins : List (Addr × Obj)} {σ : St} {H : Hp} {s : Shared} {R : It → Hp → Prop} {E : Value → Shared → Prop} {lo hi : Int} {t u v : Tok} {tk : Nat} (I : Inv X pins σ H s) (h1 : -(2 ^ 62) ≤ lo) (h2 : lo < 2 ^ 62) (h3 : -(2 ^ 62) ≤ hi) (h4 : hi < 2 ^ 62)
    (q : R (Itr lo (hi - lo).toNat) H) : wpAny (model X.prog X.w) X.A (pyIter (.ref s.heap.objs.size)) (PIEC CoolX X pins σ tg R) E { s with heap := s.heap.push { cls := .type "range", data := .fields #[.int lo t, .int hi u, .int 1 v] }, toks := tk } := by
  refine wpAny_pyIter_range (IsRange.new ..) (small_one h1 h2 h3 h4) ?_
  have I1 : Inv X pins σ H { s with heap := s.heap.push { cls := .type "range", data := .fields #[.int lo t, .int hi u, .int 1 v] }, toks := tk } := I.kept fun b o e => Heap.get?_push_of_some _ e
  generalize hs1 : s.heap.push { cls := .type "range", data := .fields #[.int lo t, .int hi u, .int 1 v] } = h1 at *
  refine ⟨h1.objs.size, [h1.objs.size], _, _, H, rfl, I1.kept (t' := tk) fun b o e => Heap.get?_push_of_some _ e, turn_rng _ lo (hi - lo).toNat, ?_, fun b hb => ?_, q⟩
  · have e2 : (((hi - lo).toNat : Nat) : Int) - ((0 : Nat) : Int) = Builtin.Range.rangeSize lo hi 1 := by rw [rangeSize_one]; split <;> omega
    show IsRangeIter _ _ (lo + ((0 : Nat) : Int) * 1) ((((hi - lo).toNat : Nat) : Int) - ((0 : Nat) : Int)) 1
    rw [show lo + ((0 : Nat) : Int) * 1 = lo by simp, e2]
    exact Heap.get?_push_size _ rfl
  · have e : b = h1.objs.size := by simpa using hb
    subst e
    exact I1.fpOk (Nat.le_refl _) (I1.hok.fresh (Nat.le_refl _))
theorem pic_range1 {a : Expr} {ta : TA} {p pos : Pos} (hg : Gl X "range") (hm : X.mg "range" = none) (ha : PA X [a] ta) (hs : starEach [a] X.env = [(false, eval a X.env)] := by rfl) : PIC CoolX X tg (.Call (.Name "range" p) [a] [] pos) (iRng1 ta) := by
  refine ⟨fun pins s σ H R I h => Call_ (ld_blt I hg hm boot_range (PyProof.Rows.callWith_type1 (thn (ha.run pos pins s σ H _ I h) fun us s1 ⟨vs, H1, I1, r1, q1⟩ => ?_) hs rfl))⟩
  obtain ⟨j, e, q1, q2, q⟩ := q1
  subst e
  cases r1 with
  | cons r rr =>
    cases rr
    obtain ⟨t, rfl⟩ := r
    exact call_range_1 (rng_itC I1 (by omega) (by omega) q1 q2 (by simpa using q))
theorem pic_range2 {a b : Expr} {ta : TA} {p pos : Pos} (hg : Gl X "range") (hm : X.mg "range" = none) (ha : PA X [a, b] ta) (hs : starEach [a, b] X.env = [(false, eval a X.env), (false, eval b X.env)] := by rfl) (hs2 : starEach [b] X.env = [(false, eval b X.env)] := by rfl) :
    PIC CoolX X tg (.Call (.Name "range" p) [a, b] [] pos) (iRng2 ta) := by
  refine ⟨fun pins s σ H R I h => Call_ (ld_blt I hg hm boot_range (PyProof.Rows.callWith_type1 (thn (ha.run pos pins s σ H _ I h) fun us s1 ⟨vs, H1, I1, r1, q1⟩ => ?_) (by rw [hs, hs2]) (by rw [hs2]; rfl)))⟩
  obtain ⟨i, j, e, ⟨q1, q2, q3, q4⟩, q⟩ := q1
  subst e
  cases r1 with
  | cons r rr =>
    cases rr with
    | cons r' rr =>
      cases rr
      obtain ⟨t, rfl⟩ := r
      obtain ⟨t', rfl⟩ := r'
      exact call_range_2 (rng_itC I1 q1 q2 q3 q4 q)
/-- for -/
theorem ps_forC {C : Cx → Prop} {iter : Expr} {body : List Stmt} {wi : TI} {g : TG} {tb : TS} {pos : Pos} (hp : PassesOwn (model X.prog X.w) X.A X.env X.xe) (hc : C X) (hi : PIC C X tg iter wi) (hg : PG X tg g) (hb : PSs X body tb)
    (hs : ∀ x, foldedSetIterable iter X.env x = pure x := by intro _; rfl) : PS X (.For tg iter body [] pos) (tFor wi g tb) := by
  refine ⟨fun pins s σ H D I h => wpAny_For (thn (hi.run pins s σ H _ I h) fun v s1 h1 => thn h1 fun itv s2 h2 => ?_) hs⟩
  obtain ⟨it, fp, tn, J, H2, e, I2, T, st2, f2, W, ⟨m0, w0⟩, turn⟩ := h2
  subst e
  have stay : ∀ {H' : Hp}, (∀ b ∈ fp, H' b = none) → ∀ b ∈ fp, FpOk X pins H' b := fun hn b hb => ⟨hn b hb, (f2 b hb).2⟩
  refine codeAny_forLoop_any (fun n s' => ∃ i σ' H', Inv X pins σ' H' s' ∧ tn i s'.heap ∧ (∀ b ∈ fp, H' b = none) ∧ W i n σ' H') ?_ m0 ⟨0, σ, H2, I2, st2, fun b hb => (f2 b hb).1, w0⟩
  rintro n s3 ⟨i, σ3, H3, I3, st3, fr3, w3⟩
  rcases turn i n σ3 H3 w3 with ⟨stop, qn⟩ | ⟨go, N, hN, step⟩
  · refine wpAny_passesOwn hp (thn (T.done X rfl rfl rfl hc i pins s3 σ3 H3 X.xe I3 (stay fr3) st3 stop) fun r s4 ⟨hr, I4⟩ => ?_)
    subst hr
    exact wpAny_execs_nil ⟨σ3, H3, I4, qn⟩
  · refine wpAny_passesOwn hp (thn (T.item X rfl rfl rfl hc i pins s3 σ3 H3 X.xe I3 (stay fr3) st3 go) fun r s4 ⟨u, hr, h4⟩ => ?_)
    subst hr
    refine wpAny_passesOwn hp (thn h4 fun _ s5 ⟨x, H5, I5, r5, y5, st5, fr5⟩ => ?_)
    have I5' := I5.pinned (stay fr5) (T.obj _ _ st5)
    refine wpAny_passesOwn hp (thn (hg.run _ s5 σ3 H5 x u _ I5' r5 (step x H5 y5)) fun _ s6 ⟨σ6, H6, I6, q6⟩ => ?_)
    refine wpAny_passesOwn hp (thn (hb.run _ s6 σ6 H6 _ I6 q6) fun f s7 q7 => ?_)
    have again : ∀ {σ7 : St} {H7 : Hp}, Inv X (pins ++ pinsAt fp s5.heap) σ7 H7 s7 → N σ7 H7 → ∃ m, m < n ∧ ∃ i σ' H', Inv X pins σ' H' s7 ∧ tn i s7.heap ∧ (∀ b ∈ fp, H' b = none) ∧ W i m σ' H' := fun {σ7 H7} I7 n7 => by
      obtain ⟨m', hm, w7⟩ := hN σ7 H7 n7
      have pin : ∀ b ∈ fp, ∀ o, s5.heap.get? b = some o → s7.heap.get? b = some o ∧ H7 b = none := fun b hb o e =>
        let z := I7.pin (b, o) (List.mem_append_right _ (List.mem_append_right _ (mem_pinsAt hb e)))
        ⟨z.1, z.2.1⟩
      refine ⟨m', hm, i + 1, σ7, H7, I7.unpinned, T.keep _ _ _ st5 fun b hb o e => (pin b hb o e).1, fun b hb => ?_, w7⟩
      obtain ⟨o, e, d⟩ := T.obj _ _ st5 b hb
      exact (pin b hb o e).2
    cases f with
    | next => obtain ⟨σ7, H7, I7, n7⟩ := q7; exact again I7 n7
    | cont => obtain ⟨σ7, H7, I7, n7⟩ := q7; exact again I7 n7
    | brk => obtain ⟨σ7, H7, I7, q7⟩ := q7; exact ⟨σ7, H7, I7.unpinned, q7⟩
    | ret v => obtain ⟨x7, σ7, H7, I7, r7, q7⟩ := q7; exact ⟨x7, σ7, H7, I7.unpinned, r7, q7⟩
end
end TC

/-! list comprehensions, exceptions passing out of them, whether or not an exception is handled meanwhile -/
namespace TC
open PySem PySem.Spec PyProof.Rows L2 HotX
section
variable {M : Model} {A : Around} {E : Value → Shared → Prop} {s : Shared} {env : Env}
/-- what is wanted behind the loop of a comprehension whose block's names stand in ce -/
def postX (M : Model) (A : Around) (E : Value → Shared → Prop) (use : Option (Value → Sem Unit)) (Q : Value → Shared → Prop) (acc : Value) (ce : Env) (r : Result) (s' : Shared) : Prop :=
  match r, use with
  | .ok _, none => ∃ m, s'.heap.Ns ce.locals m ∧ ∀ k', Heap.SameBut ce.locals s'.heap k' → Q acc { s' with heap := k' }
  | .ok _, some u => wpAny M A (u acc) (fun _ s2 => ∃ m, s2.heap.Ns ce.locals m ∧ ∀ k', Heap.SameBut ce.locals s2.heap k' → Q .none { s2 with heap := k' }) E s'
  | .error x, _ => ∃ m, s'.heap.Ns ce.locals m ∧ ∀ k', Heap.SameBut ce.locals s'.heap k' → wpAny M A (passOn "comprehension.variables-let-go" x ce : Sem Value) (fun _ _ => False) E { s' with heap := k' }
theorem comprX {e : Expr} {scope : Scope} {pos : Pos} {newAcc first : Sem Value} {g : Comprehension} {gs : List Comprehension} {cl : List (Str × Addr)} {use : Option (Value → Sem Unit)} {Q : Value → Shared → Prop}
    (h1 : clausesOf e = g :: gs) (h2 : ∀ x, foldedSetIterable g.iter env x = pure x) (h3 : closureFor scope env = pure cl) (hk : scope.kind = .function) (hn : ∀ x ∈ scope.names, x.2 = .local → scope.names.lookup x.1 = some .local)
    (h : wpAny M A first (fun x s1 => wpAny M A (pyIter x) (fun it s2 => wpAny M A newAcc (fun acc s3 => wpAny M A (newFunctionEnv scope env.globals cl [] env.qual none .none (some env)) (fun ce s4 =>
        codeAny M A (.compStart e 0 it acc { ce with scope := relabel scope env }) (postX M A E use Q acc { ce with scope := relabel scope env }) s4) E s3) E s2) E s1) E s) :
    wpAny M A (comprehension e scope env pos newAcc false first use) Q E s := by
  unfold comprehension
  rw [h3, h1]
  refine wpAny_bind (wpAny_mono h (fun x s1 q1 => wpAny_bind (wpAny_standAt (wpAny_bind (wpAny_of_eq (h2 x) (wpAny_bind (wpAny_holding (wpAny_mono q1 (fun it s2 q2 =>
    wpAny_standIf (wpAny_bind (wpAny_mono q2 (fun acc s3 q3 => wpAny_bind (wpAny_pure (wpAny_bind (wpAny_mono q3 (fun ce s4 q4 => ?_) fun _ _ z => z)))) fun _ _ z => z))) fun _ _ z => z))))))) fun _ _ z => z)
  dsimp only
  have hv : ∀ x ∈ (scope.names.filter fun x => (x.2 == .local || x.2 == .cell) && x.1 != (".0" : Str)).reverse, x.2 = .local → Env.kindOf { ce with scope := relabel scope env } x.1 = some .local :=
    fun x hx hl => lookup_relabel_local (hn x (List.mem_filter.mp (List.mem_reverse.mp hx)).1 hl)
  refine wpAny_holding (wpAny_bind (wpAny_attempt (wpAny_holding (wpAny_run (codeAny_mono q4 fun r s' hr => ?_)))))
  cases r with
  | ok f =>
    cases use with
    | none =>
      obtain ⟨m, z, hr⟩ := hr
      exact wpAny_bind (wpAny_holding (wpAny_comp_letGo (cenv := { ce with scope := relabel scope env }) hk _ s' m hv z fun k' m' _ sb => wpAny_pure (hr k' sb)))
    | some u =>
      refine wpAny_bind (wpAny_rule (wpAny_bind (wpAny_holding (wpAny_mono hr (fun _ s2 hr2 => ?_) fun _ _ z => z))))
      obtain ⟨m, z, hr2⟩ := hr2
      refine wpAny_bind (wpAny_comp_letGo (cenv := { ce with scope := relabel scope env }) hk _ s2 m (fun x hx hl => ?_) z fun k' m' _ sb => wpAny_pure (hr2 k' sb))
      rcases List.mem_append.mp hx with c | c
      · exact hv x (List.mem_of_mem_drop c) hl
      · exact hv x (List.mem_of_mem_take c) hl
  | error x =>
    have hr2 : ∃ m, s'.heap.Ns ce.locals m ∧ ∀ k', Heap.SameBut ce.locals s'.heap k' → wpAny M A (passOn "comprehension.variables-let-go" x { ce with scope := relabel scope env } : Sem Value) (fun _ _ => False) E { s' with heap := k' } := by cases use <;> exact hr
    obtain ⟨m, z, hr2⟩ := hr2
    exact wpAny_bind (wpAny_holding (wpAny_comp_letGo (cenv := { ce with scope := relabel scope env }) hk _ s' m hv z fun k' m' _ sb => wpAny_mono (hr2 k' sb) (fun _ _ f => f.elim) fun _ _ y => y))
theorem note_env {e : Value} {e1 e2 : Env} (h : e1.frame = e2.frame) : noteFrame e e1 = noteFrame e e2 := by
  unfold noteFrame PySem.frameOf
  rw [h]
end
/-! ### noted by the frame, wherever it comes from -/
section
variable {M : Model} {A : Around} {E : Value → Shared → Prop} {s : Shared} {Z : Obj → Prop} {base : Heap} {env : Env} {outer : List Env} {L e : Addr}
theorem looks_other {fl : Value} {Q : Unit → Shared → Prop} (hZ : PXN.Steady1 Z) (hfr : A.frames = some (env :: outer)) (hf : env.frame = some L) (st : base.StaysIn s.heap) (hen : base.get? e = none) (hl : s.heap.FunFrames base (env :: outer)) (ht : HandSPX.TracedZ s.heap base e Z fl) (hne : (fl == rawInt L) = false)
    (hQ : ∀ k', HandSPX.HeldZ base (env :: outer) e Z L k' → s.heap.UpToSlots k' → Q () { s with heap := k' }) : wpAny M A (noteFrame (.ref e) env) Q E s := by
  obtain ⟨oe, vs, T, oT, ts, he, hz, hd, h1, hnT, hTe, hT, hdT, h3⟩ := ht
  unfold noteFrame
  simp only [hf]
  refine wpAny_bind (wpAny_field he hd h1 ?_)
  rw [if_pos (show (Value.ref T != Value.none) = true from by simp)]
  refine wpAny_bind (wpAny_field hT hdT h3 ?_)
  rw [if_neg (by rw [hne]; exact Bool.false_ne_true)]
  refine wpAny_bind (wpAny_setField hT hdT (Array.getElem?_eq_some_iff.mp h3).1 ?_)
  have oth : ∀ b, b ≠ T → (s.heap.update T (Obj.mapFields (·.setIfInBounds 3 Value.none))).get? b = s.heap.get? b := fun b hb => Heap.get?_update_other _ _ (Ne.symm hb)
  have nr : ∀ b o, s.heap.get? b = some o → (∀ vs, o.data ≠ .fields vs) → b ≠ T := fun b o hb hnf q => by
    rw [q, hT] at hb
    injection hb with hb
    subst hb
    exact hnf ts hdT
  refine PXN.wpAny_entryZ hZ hfr (hl.of_keeps fun b o hb hnf => ⟨o, (oth b (nr b o hb hnf)).trans hb, rfl⟩) hf ((oth e (Ne.symm hTe)).trans he)
    (fun b o hbo => (oth b fun q => by rw [q, hnT] at hbo; cases hbo).trans (st b o hbo)) hen hd (Array.getElem?_eq_some_iff.mp h1).1 hz fun k' hN => ?_
  obtain ⟨x1, x2, x3, x4⟩ := hN
  exact hQ k' ⟨x1, hen, x2, x3⟩ fun b o hb hnf => x4 b o ((oth b (nr b o hb hnf)).trans hb) hnf
theorem sky_held {C : Addr} {Q : Unit → Shared → Prop} (hZ : PXN.Steady1 Z) (hfr : A.frames = some (env :: outer)) (hf : env.frame = some L) (hC : C ≠ L) (x : Sky base (env :: outer) e Z C s.heap)
    (hQ : ∀ k', HandSPX.HeldZ base (env :: outer) e Z L k' → s.heap.UpToSlots k' → Q () { s with heap := k' }) : wpAny M A (noteFrame (.ref e) env) Q E s := by
  rcases x with ⟨hB, hn, hl, oe, vs, he, hz, hd, h1⟩ | fl | hh
  · exact PXN.look_newZ hZ hfr hl hf he hB hn hd h1 hz hQ
  · exact PXN.looks_onZ hZ hfr hf fl hQ
  · obtain ⟨a, b, c, d⟩ := hh
    exact looks_other hZ hfr hf a b c d (beq_eq_false_iff_ne.mpr fun q => hC (by unfold rawInt at q; injection q with q _; exact Int.ofNat.inj q)) hQ
theorem frames_to {B' h' : Heap} : ∀ {l : List Env}, s.heap.FunFrames base l → (∀ b ∈ frs l, B'.get? b = none) → (∀ b ∈ frs l, ∀ o, s.heap.get? b = some o → ∃ o', h'.get? b = some o' ∧ o'.data = o.data) → h'.FunFrames B' l
  | [], _, _, _ => trivial
  | env :: l, h, hn, hk => by
    obtain ⟨h1, ⟨L, o, hf, _, ho, hd⟩, hr⟩ := h
    have hm : L ∈ frs (env :: l) := List.mem_filterMap.mpr ⟨env, List.mem_cons_self, hf⟩
    obtain ⟨o', ho', e⟩ := hk L hm o ho
    have tl : ∀ b, b ∈ frs l → b ∈ frs (env :: l) := fun b hb => by
      obtain ⟨x, hx, q⟩ := List.mem_filterMap.mp hb
      exact List.mem_filterMap.mpr ⟨x, List.mem_cons_of_mem _ hx, q⟩
    exact ⟨h1, ⟨L, o', hf, hn L hm, ho', fun vs q => hd vs (e.symm.trans q)⟩, frames_to hr (fun b hb => hn b (tl b hb)) fun b hb => hk b (tl b hb)⟩
end
/-! ### the block -/
/-- the context of a block, what the def holds pinned in it -/
abbrev blkX (X : Cx) (s : Shared) (H : Hp) (scope : Scope) (cenv : Env) (fp : List Addr) (xe : Value → Shared → Prop) : Cx :=
  { X with s_0 := s, H_0 := H, env := cenv, outer := X.stack, ex := fp, fn := fun x => scope.names.lookup x == some .cell, pn := X.pn, xe := xe }
class BlkC (C : Cx → Prop) : Prop where
  blk : ∀ X s H scope cenv fp xe, C X → C (blkX X s H scope cenv fp xe)
instance : BlkC Calm := ⟨fun X s H scope cenv fp xe h => h⟩
instance : BlkC CoolX := ⟨fun X s H scope cenv fp xe h => h⟩
section
variable {X : Cx} {pins : List (Addr × Obj)} {σ : St} {H : Hp} {s s' : Shared} {scope : Scope} {ce : Env} {fp : List Addr} {H0 : Hp} {s0 : Shared}
theorem inv_blkX {xe : Value → Shared → Prop} (I : Inv (X.blk s0 H0 scope ce fp) [] σ H s) (hp : ∀ p ∈ X.pn, s.heap.get? p.1 = some p.2 ∧ H p.1 = none ∧ p.1 ≠ ce.locals ∧ p.1 ∉ frs X.stack ∧ ∀ v, p.2.data ≠ .cell v) : Inv (blkX X s0 H0 scope ce fp xe) [] σ H s := by
  obtain ⟨⟨a1, a2, a3, a4, a5, a6, a7, a8, a9, a10, a11, a12, a13, a14, a15, a16, a17, a18⟩, b1, b2, b3, b4, b5, b6, b7, b8, b9, b10⟩ := I
  exact ⟨⟨a1, a2, a3, a4, a5, a6, a7, a8, a9, a10, a11, a12, a13, a14, a15, a16, a17, a18⟩, b1, b2, b3, b4, b5, b6, b7, fun p h => hp p (by simpa using h), b9, b10⟩
theorem hide_one {h : Heap} {C b : Addr} {o : Obj} : (PySem.W.hideAll h [C]).get? b = some o ↔ b ≠ C ∧ h.get? b = some o := by
  constructor
  · intro e
    refine ⟨fun z => ?_, PySem.W.of_hideAll _ e⟩
    rw [z, PySem.W.hideAll_none _ List.mem_cons_self] at e
    cases e
  · intro ⟨h1, e⟩
    exact PySem.W.hideAll_get _ e (by simpa using h1)
/-- an exception of the block is one of the def's -/
theorem takes_blk {Wo Wb : WX} {use : Option (Value → Sem Unit)} {Qf : Value → Shared → Prop} {acc : Value} (hs : X.stack = X.env :: X.outer) (hf : X.env.frame = some X.env.locals) (tk : L2N.Takes X Wo) (hW : ∀ cls d τ K, Wb cls d τ K → Wo cls d σ K) (I : Inv X pins σ H s)
    (hC : ce.locals = s.heap.objs.size) (hce : ce.frame = X.env.frame) (hfp : ∀ b ∈ fp, FpOk X pins H b ∧ b < s.heap.objs.size) :
    L2N.Takes (blkX X s H scope ce fp (notedBy (model X.prog X.w) X.A ce fun e t => postX (model X.prog X.w) X.A X.xe use Qf acc ce (.error e) t)) Wb := by
  rintro u s' ⟨a, B, sI, pins', σ', H', cls, d, rfl, I', nb, up, sky, na, os, ag, w⟩
  have hfr : X.A.frames = some (X.env :: X.outer) := by rw [I.ok.frames, hs]
  show wpAny _ _ (noteFrame (.ref a) ce) _ _ _
  rw [note_env hce]
  have hlt : X.env.locals < s.heap.objs.size := I.lt
  have hCL : ce.locals ≠ X.env.locals := by rw [hC]; exact Nat.ne_of_gt hlt
  have sky : Sky B (X.env :: X.outer) a (L2N.Zn cls d) ce.locals s'.heap := by rw [← hs]; exact sky
  refine sky_held L2N.Zn.steady hfr hf hCL sky fun h1 held up1 => ?_
  obtain ⟨st1, ben, ff1, oe, vs, T, oT, ts, he, hz, hd, hv1, hnT, hTe, hT, hdT, h3⟩ := held
  obtain ⟨m, ⟨o, es, ep, hoC, hdC, r1, r2⟩, _⟩ := I'.loc
  have hoC : sI.heap.get? ce.locals = some o := hoC
  have ndC : ∀ vs, o.data ≠ .fields vs := fun vs q => by rw [hdC] at q; cases q
  obtain ⟨sl1, g1⟩ := up _ o hoC ndC
  obtain ⟨sl2, g2⟩ := up1 _ _ g1 ndC
  refine ⟨m, ⟨_, es, ep, g2, hdC, r1, r2⟩, fun h2 sb => ?_⟩
  have notC : ∀ {b : Addr} {ob : Obj} {fs : Array Value}, h1.get? b = some ob → ob.data = .fields fs → b ≠ ce.locals := fun {b ob fs} e q z => by
    rw [z, g2] at e
    injection e with e
    subst e
    exact ndC _ q
  have aC := notC he hd
  have TC := notC hT hdT
  have he2 : h2.get? a = some oe := (sb.2 a aC).trans he
  have hT2 : h2.get? T = some oT := (sb.2 T TC).trans hT
  have frC : ∀ b ∈ frs (X.env :: X.outer), b ≠ ce.locals := fun b hb z => by
    have hb' : b ∈ frs X.stack := by rw [hs]; exact hb
    obtain ⟨_, o', e', _⟩ := I.stack.mem hb'
    have z2 := Heap.lt_size e'
    rw [z, hC] at z2
    exact Nat.lt_irrefl _ z2
  have Bn : ∀ b ∈ frs (X.env :: X.outer), B.get? b = none := fun b hb => (ff1.mem hb).1
  have st2 : (PySem.W.hideAll B [ce.locals]).StaysIn h2 := fun b ob e => by
    obtain ⟨n1, e1⟩ := hide_one.mp e
    exact (sb.2 b n1).trans (st1 b ob e1)
  have hid : ∀ {b : Addr}, B.get? b = none → (PySem.W.hideAll B [ce.locals]).get? b = none := fun {b} q => by
    cases z : (PySem.W.hideAll B [ce.locals]).get? b with
    | none => rfl
    | some ob =>
      rw [(hide_one.mp z).2] at q
      cases q
  have ff2 : h2.FunFrames (PySem.W.hideAll B [ce.locals]) (X.env :: X.outer) := frames_to (s := { s' with heap := h1 }) ff1 (fun b hb => hid (Bn b hb)) fun b hb ob e => ⟨ob, (sb.2 b (frC b hb)).trans e, rfl⟩
  have tr2 : HandSPX.TracedZ h2 (PySem.W.hideAll B [ce.locals]) a (L2N.Zn cls d) (rawInt X.env.locals) := ⟨oe, vs, T, oT, ts, he2, hz, hd, hv1, hid hnT, hTe, hT2, hdT, h3⟩
  unfold PySem.passOn
  refine wpAny_bind (wpAny_field he2 hd hv1 ?_)
  rw [if_neg (show ¬ ((Value.ref T == Value.none) = true) from by simp)]
  have fin : wpAny (model X.prog X.w) X.A (setFlight (.ref a) ce.frame) (fun _ s4 => wpAny (model X.prog X.w) X.A (throw (.ref a) : Sem Value) (fun _ _ => False) X.xe s4) X.xe { s' with heap := h2 } := by
    rw [hce, hf]
    refine HandSPX.setFlight_anyZ st2 ff2 tr2 fun h4 k1 k2 k3 k4 => wpAny_throw (tk _ _ ?_)
    have HC : H' ce.locals = none := I'.free
    have J : Inv X pins σ H' { sI with heap := PySem.W.hideAll sI.heap [ce.locals] } := by
      have ub := I'.base
      have old : ∀ {b : Addr} {ob : Obj}, s.heap.get? b = some ob → b ≠ ce.locals := fun {b ob} e z => by
        have z2 := Heap.lt_size e
        rw [z, hC] at z2
        exact Nat.lt_irrefl _ z2
      refine I.call' (ch := fp) I'.os ⟨fun b ob e n1 n2 n3 => hide_one.mpr ⟨old e, ub.keep b ob e n1 n2 n3⟩, fun b ob e n1 n2 n3 => ?_, ub.free, fun b ob e n1 => ?_, ub.tups, ub.frzs, ub.tbls⟩ (fun b ob q => ?_) I'.bare fun b hb => ?_
      · obtain ⟨sl, e2⟩ := ub.slot b ob e n1 n2 n3
        exact ⟨sl, hide_one.mpr ⟨old e, e2⟩⟩
      · obtain ⟨o2, e2⟩ := ub.there b ob e n1
        exact ⟨o2, hide_one.mpr ⟨old e, e2⟩⟩
      · refine (I'.hok b ob q).stay (fun c v hc r => hide_one.mpr ⟨fun z => ?_, r⟩) (fun _ z => z) fun _ _ z => z
        rcases hc with hc | hc
        · rw [← hc, z, HC] at q; cases q
        · rw [z, HC] at hc; cases hc
      · obtain ⟨⟨f0, f1, f2, f3, f4, f5⟩, _⟩ := hfp b hb
        exact ⟨f3, fun z => f1 z, f4, f5⟩
    refine ⟨a, PySem.W.hideAll B [ce.locals], { sI with heap := PySem.W.hideAll sI.heap [ce.locals] }, pins, σ, H', cls, d, rfl, J, fun b ob e hb => ?_, fun b ob e hnf => ?_, .inr (.inr ?_), na, os, ag, hW _ _ _ _ w⟩
    · obtain ⟨n1, e1⟩ := hide_one.mp e
      exact hide_one.mpr ⟨n1, nb b ob e1 hb⟩
    · obtain ⟨n1, e1⟩ := hide_one.mp e
      obtain ⟨x1, y1⟩ := up b ob e1 hnf
      obtain ⟨x2, y2⟩ := up1 b _ y1 hnf
      obtain ⟨x3, y3⟩ := k4 b _ ((sb.2 b n1).trans y2) hnf
      exact ⟨x3, y3⟩
    · rw [hs]
      exact ⟨k1, hid ben, k2, k3⟩
  first
    | exact wpAny_bind (wpAny_pure (wpAny_bind fin))
    | exact wpAny_bind fin
end
section
variable {X : Cx} {C : Cx → Prop} [BlkC C]
/-- the block's wish where an exception comes out of it -/
abbrev xeB (X : Cx) (use : Option (Value → Sem Unit)) (Qf : Value → Shared → Prop) (acc : Value) (ce : Env) : Value → Shared → Prop :=
  notedBy (model X.prog X.w) X.A ce fun e t => postX (model X.prog X.w) X.A X.xe use Qf acc ce (.error e) t
abbrev BlkPE (X : Cx) (scope : Scope) (Wb : WX) (e : Expr) (t : TE) : Prop := ∀ (s : Shared) (H : Hp) (c : Addr) (cl : List (Str × Addr)) (fp : List Addr) (xe : Value → Shared → Prop), L2N.Takes (blkX X s H scope (compEnvC scope cl c X.env) fp xe) Wb → PE (blkX X s H scope (compEnvC scope cl c X.env) fp xe) e t
abbrev BlkPTs (X : Cx) (scope : Scope) (Wb : WX) (es : List Expr) (t : TT) : Prop := ∀ (s : Shared) (H : Hp) (c : Addr) (cl : List (Str × Addr)) (fp : List Addr) (xe : Value → Shared → Prop), L2N.Takes (blkX X s H scope (compEnvC scope cl c X.env) fp xe) Wb → PTs (blkX X s H scope (compEnvC scope cl c X.env) fp xe) es t
abbrev BlkPG (X : Cx) (scope : Scope) (e : Expr) (g : TG) : Prop := ∀ (s : Shared) (H : Hp) (c : Addr) (cl : List (Str × Addr)) (fp : List Addr) (xe : Value → Shared → Prop), PG (blkX X s H scope (compEnvC scope cl c X.env) fp xe) e g
/-- what is let out of the block is taken -/
abbrev BlkTk (X : Cx) (scope : Scope) (use : Option (Value → Sem Unit)) (Qf : Value → Shared → Prop) (pins : List (Addr × Obj)) (σ : St) (Wb : WX) : Prop :=
  ∀ (acc : Value) (s : Shared) (H : Hp) (fp : List Addr) (ce : Env), Inv X pins σ H s → ce.locals = s.heap.objs.size → ce.frame = X.env.frame → (∀ b ∈ fp, FpOk X pins H b ∧ b < s.heap.objs.size) → L2N.Takes (blkX X s H scope ce fp (xeB X use Qf acc ce)) Wb
theorem blkTk_none {scope : Scope} {use : Option (Value → Sem Unit)} {Qf : Value → Shared → Prop} {pins : List (Addr × Obj)} {σ : St} : BlkTk X scope use Qf pins σ (fun _ _ _ _ => False) := fun _ _ _ _ _ _ _ _ _ _ _ ⟨_, _, _, _, _, _, _, _, _, _, _, _, _, _, _, _, w⟩ => w.elim
theorem blkTk_of {scope : Scope} {use : Option (Value → Sem Unit)} {Qf : Value → Shared → Prop} {pins : List (Addr × Obj)} {σ : St} {Wo Wb : WX} (hs : X.stack = X.env :: X.outer) (hf : X.env.frame = some X.env.locals) (tk : L2N.Takes X Wo) (hW : ∀ cls d τ K, Wb cls d τ K → Wo cls d σ K) : BlkTk X scope use Qf pins σ Wb :=
  fun acc s H fp ce I h1 h2 h3 => takes_blk hs hf tk hW I h1 h2 h3
theorem coreX {pins : List (Addr × Obj)} {s : Shared} {σ : St} {H : Hp} {Q : VK} {elt tg iter : Expr} {ifs : List Expr} {scope : Scope} {own : List (Str × Nat)} {pos pos' : Pos} {wi : TI} {g : TG} {tt : TT} {te : TE} {Wb : WX} {use : Option (Value → Sem Unit)} {Qf : Value → Shared → Prop}
    (hc : C X) (hN : X.N.Nodup) (I : Inv X pins σ H s) (hi : PIC C X tg iter wi) (ok : BlkOk X.N X.env.scope scope own) (hg : BlkPG X scope tg g) (ht : BlkPTs X scope Wb ifs tt) (he : BlkPE X scope Wb elt te) (hfs : ∀ x, foldedSetIterable iter X.env x = pure x)
    (htk : BlkTk X scope use Qf pins σ Wb) (h : tLc wi g tt te (own.map (·.2)) σ H Q)
    (hRR : ∀ D ce s' m H', Inv X pins σ H' s' → Q (.ref D) H' → s'.heap.Ns ce.locals m → FpOk X pins H' ce.locals → postX (model X.prog X.w) X.A X.xe use Qf (.ref D) ce (.ok .next) s') :
    wpAny (model X.prog X.w) X.A (comprehension (.ListComp elt [⟨tg, iter, ifs, 0⟩] scope pos) scope X.env pos' (newList []) false (eval iter X.env) use) Qf X.xe s := by
  have hfree : ∀ y ∈ scope.names, y.2 = .free → ∃ c, X.env.cells.lookup y.1 = some c := fun y hy e => I.ok.has _ (ok.free y hy e)
  refine comprX (use := use) rfl hfs (closure_ok hfree) ok.kind (fun y hy e => by rw [ok.uniq y hy, e]) (thn (hi.run pins s σ H _ I h) fun xv s1 hx => thn hx fun itv s2 h2 => ?_)
  obtain ⟨it, fp, tn, J, H2, e, I2, T, st2, f2, q⟩ := h2
  subst e
  refine wpAny_newObj_type (newEnv_comp ?_) (by show 0 ≤ sizeLine; decide)
  generalize hD : s2.heap.objs.size = D
  have hDn : H2 D = none := I2.hok.fresh (Nat.le_of_eq hD)
  obtain ⟨W, ⟨m0, w0⟩, turn⟩ := q D hDn
  generalize hs3 : ({ s2 with heap := s2.heap.push { cls := .type "list", data := .seq ([] : List Value).toArray } } : Shared) = s3
  have I3 : Inv X pins σ (upd H2 D (.lst [])) s3 := by
    rw [← hs3]
    refine I2.laid (t' := s2.toks) (fun b o e => Heap.get?_push_of_some _ e) (Nat.le_of_eq hD) ⟨Nat.zero_le _, [], 0, .nil, ?_⟩
    rw [← hD]
    exact Heap.get?_push_size _ rfl
  have hp3 : s3.heap = s2.heap.push { cls := .type "list", data := .seq ([] : List Value).toArray } := by rw [← hs3]
  have sz : ∀ b ∈ fp, b < s2.heap.objs.size := fun b hb => by
    obtain ⟨o, e, _⟩ := T.obj _ _ st2 b hb
    exact Heap.lt_size e
  have f3 : ∀ b ∈ fp, FpOk X pins (upd H2 D (.lst [])) b ∧ b < s3.heap.objs.size := fun b hb => by
    have hlt := sz b hb
    refine ⟨⟨?_, (f2 b hb).2⟩, by rw [hp3, Heap.size_push]; exact Nat.lt_succ_of_lt hlt⟩
    rw [upd_ne (by rw [← hD]; exact Nat.ne_of_lt hlt)]
    exact (f2 b hb).1
  have st3 : tn 0 s3.heap := T.keep _ _ _ st2 fun b _ o e => by rw [hp3]; exact Heap.get?_push_of_some _ e
  have IB := block_start I3 ok hN f3
  have tkb := htk (.ref D) s3 (upd H2 D (.lst [])) fp (compEnvC scope (cellsFrom (s3.heap.objs.size + 1) scope.names (cloFrom X.env.cells scope.names [])) s3.heap.objs.size X.env) I3 rfl rfl f3
  have pg := hg s3 (upd H2 D (.lst [])) s3.heap.objs.size (cellsFrom (s3.heap.objs.size + 1) scope.names (cloFrom X.env.cells scope.names [])) fp (xeB X use Qf (.ref D) (compEnvC scope (cellsFrom (s3.heap.objs.size + 1) scope.names (cloFrom X.env.cells scope.names [])) s3.heap.objs.size X.env))
  have pt := ht s3 (upd H2 D (.lst [])) s3.heap.objs.size (cellsFrom (s3.heap.objs.size + 1) scope.names (cloFrom X.env.cells scope.names [])) fp _ tkb
  have pe := he s3 (upd H2 D (.lst [])) s3.heap.objs.size (cellsFrom (s3.heap.objs.size + 1) scope.names (cloFrom X.env.cells scope.names [])) fp _ tkb
  have cb := BlkC.blk (C := C) X s3 (upd H2 D (.lst [])) scope (compEnvC scope (cellsFrom (s3.heap.objs.size + 1) scope.names (cloFrom X.env.cells scope.names [])) s3.heap.objs.size X.env) fp (xeB X use Qf (.ref D) (compEnvC scope (cellsFrom (s3.heap.objs.size + 1) scope.names (cloFrom X.env.cells scope.names [])) s3.heap.objs.size X.env)) hc
  show codeAny _ _ (.compStart (.ListComp elt [⟨tg, iter, ifs, 0⟩] scope pos) 0 (.ref it) (.ref D) (compEnvC scope (cellsFrom (s3.heap.objs.size + 1) scope.names (cloFrom X.env.cells scope.names [])) s3.heap.objs.size X.env)) (postX (model X.prog X.w) X.A X.xe use Qf (.ref D) (compEnvC scope (cellsFrom (s3.heap.objs.size + 1) scope.names (cloFrom X.env.cells scope.names [])) s3.heap.objs.size X.env)) { s3 with heap := pushCells (s3.heap.push { cls := .type "dict", data := .dict #[] }) scope.names }
  have nfp : ∀ b ∈ fp, (upd H2 D (.lst [])) b = none := fun b hb => (f3 b hb).1.1
  generalize hce : compEnvC scope (cellsFrom (s3.heap.objs.size + 1) scope.names (cloFrom X.env.cells scope.names [])) s3.heap.objs.size X.env = ce at IB tkb pg pt pe cb ⊢
  have cL : ce.locals = s3.heap.objs.size := by subst hce; rfl
  generalize hH3 : upd H2 D (.lst []) = H3 at I3 IB tkb pg pt pe cb w0 nfp f3
  have I4 : Inv (blkX X s3 H3 scope ce fp (xeB X use Qf (.ref D) ce)) [] (wipe σ (own.map (·.2))) H3 { s3 with heap := pushCells (s3.heap.push { cls := .type "dict", data := .dict #[] }) scope.names } := by
    refine inv_blkX IB fun p hp => ?_
    obtain ⟨p1, p2, p3, p4, p5⟩ := I3.pin p (List.mem_append_left _ hp)
    refine ⟨pushCells_keeps _ _ _ _ (Heap.get?_push_of_some _ p1), p2, ?_, fun hm => (List.mem_cons.mp (I3.stkSub p.1 hm)).elim p3 p4, p5⟩
    rw [cL]
    exact Nat.ne_of_lt (Heap.lt_size p1)
  clear IB
  generalize hs4 : ({ s3 with heap := pushCells (s3.heap.push { cls := .type "dict", data := .dict #[] }) scope.names } : Shared) = s4 at I4 ⊢
  have st4 : tn 0 s4.heap := T.keep _ _ _ st3 fun b _ o e => by rw [← hs4]; exact pushCells_keeps _ _ _ _ (Heap.get?_push_of_some _ e)
  have stay : ∀ {σ' : St} {H' : Hp} {s' : Shared}, Inv (blkX X s3 H3 scope ce fp (xeB X use Qf (.ref D) ce)) [] σ' H' s' → (∀ b ∈ fp, H' b = none) → ∀ b ∈ fp, FpOk (blkX X s3 H3 scope ce fp (xeB X use Qf (.ref D) ce)) [] H' b := fun {σ' H' s'} I' hn b hb =>
    ⟨hn b hb, (I'.ok.exf b hb).1, I'.ok.exfs b hb, .inl hb, fun x c e => (I'.ok.exf b hb).2 x c e, fun p hp => (f3 b hb).1.2.2.2.2.2 p (List.mem_append_left _ (show p ∈ X.pn by simpa using hp))⟩
  refine codeAny_compStart_list (?_ : codeAny (model X.prog X.w) X.A (.compLoop (.ListComp elt [⟨tg, iter, ifs, 0⟩] scope pos) 0 (.ref it) (.ref D) ce) (postX (model X.prog X.w) X.A X.xe use Qf (.ref D) ce) s4) (T.self X.A 0 _ _ _ st4 ?_)
  all_goals
    refine compLoop_any (fun n s' => ∃ i H', Inv (blkX X s3 H3 scope ce fp (xeB X use Qf (.ref D) ce)) [] (wipe σ (own.map (·.2))) H' s' ∧ tn i s'.heap ∧ (∀ b ∈ fp, H' b = none) ∧ W i n H') ?_ m0 ⟨0, H3, I4, st4, nfp, w0⟩
    rintro n s5 ⟨i, H5, I5, st5, n5, w5⟩
    rcases turn i n H5 w5 with ⟨stop, qq⟩ | ⟨go, Nx, hNx, step⟩
    · refine thn (T.done (blkX X s3 H3 scope ce fp (xeB X use Qf (.ref D) ce)) rfl rfl rfl cb i [] s5 _ H5 (xeB X use Qf (.ref D) ce) I5 (stay I5 n5) st5 stop) fun r s6 ⟨hr, I6⟩ => ?_
      subst hr
      have I7 : Inv X pins σ H5 s6 := I3.call' (ch := fp) I6.os I6.base I6.hok I6.bare fun b hb => ⟨(f3 b hb).1.2.2.2.1, (f3 b hb).1.2.1, (f3 b hb).1.2.2.2.2.1, (f3 b hb).1.2.2.2.2.2⟩
      have nC : H5 ce.locals = none := I6.free
      obtain ⟨m, hn, _⟩ := I6.loc
      exact hRR D ce s6 m H5 I7 qq hn (by rw [cL]; exact I3.fpOk (Nat.le_refl _) (by rw [← cL]; exact nC))
    · refine thn (T.item (blkX X s3 H3 scope ce fp (xeB X use Qf (.ref D) ce)) rfl rfl rfl cb i [] s5 _ H5 (xeB X use Qf (.ref D) ce) I5 (stay I5 n5) st5 go) fun r s6 ⟨u, hr, h6⟩ => ?_
      subst hr
      refine thn h6 fun _ s7 ⟨x, H7, I7, r7, y7, st7, n7⟩ => ?_
      have I7' := I7.pinned (stay I7 n7) (T.obj _ _ st7)
      refine thn (pg.run _ s7 _ H7 x u _ I7' r7 (step x H7 y7)) fun _ s8 ⟨σ8, H8, I8, hw8, q8⟩ => ?_
      refine thn (pt.run _ s8 σ8 H8 _ I8 q8) fun b s9 ⟨H9, I9, q9⟩ => ?_
      have fin : ∀ {s' : Shared} {H' : Hp}, Inv (blkX X s3 H3 scope ce fp (xeB X use Qf (.ref D) ce)) ([] ++ pinsAt fp s7.heap) σ8 H' s' → Nx H' → ∃ m, m < n ∧ ∃ i H', Inv (blkX X s3 H3 scope ce fp (xeB X use Qf (.ref D) ce)) [] (wipe σ (own.map (·.2))) H' s' ∧ tn i s'.heap ∧ (∀ b ∈ fp, H' b = none) ∧ W i m H' := fun {s' H'} I' nx => by
        obtain ⟨m', hm, w'⟩ := hNx H' nx
        have pin : ∀ b ∈ fp, ∀ o, s7.heap.get? b = some o → s'.heap.get? b = some o ∧ H' b = none := fun b hb o e =>
          let z := I'.pin (b, o) (List.mem_append_right _ (List.mem_append_right _ (mem_pinsAt hb e)))
          ⟨z.1, z.2.1⟩
        have hl : (wipe σ (own.map (·.2))).length = σ8.length := by rw [← hw8, wipe_length]
        refine ⟨m', hm, i + 1, H', (I'.unpinned (pins := [])).weak hl (fun j v e => ?_), T.keep _ _ _ st7 fun b hb o e => (pin b hb o e).1, fun b hb => ?_, w'⟩
        · rw [← hw8] at e
          exact (wipe_some e).1
        · obtain ⟨o, e, _⟩ := T.obj _ _ st7 b hb
          exact (pin b hb o e).2
      cases b with
      | false =>
        simp only [Bool.false_eq_true, if_false] at q9 ⊢
        exact fin I9 q9
      | true =>
        simp only [if_true] at q9 ⊢
        refine thn (pe.run _ s9 σ8 H9 _ I9 q9) fun z s10 ⟨yv, H10, I10, r10, acc, hD10, hz10, nx⟩ => ?_
        exact app_ok (X := blkX X s3 H3 scope ce fp (xeB X use Qf (.ref D) ce)) I10 hD10 hz10 r10 fun s11 I11 => fin I11 nx
/-- as a value -/
theorem pe_lcX {elt tg iter : Expr} {ifs : List Expr} {scope : Scope} {own : List (Str × Nat)} {pos : Pos} {wi : TI} {g : TG} {tt : TT} {te : TE} {Wb : WX} (hc : C X) (hN : X.N.Nodup) (hi : PIC C X tg iter wi) (ok : BlkOk X.N X.env.scope scope own)
    (hg : BlkPG X scope tg g) (ht : BlkPTs X scope Wb ifs tt) (he : BlkPE X scope Wb elt te) (htk : ∀ (Qf : Value → Shared → Prop) pins σ H s, Inv X pins σ H s → BlkTk X scope none Qf pins σ Wb) (hfs : ∀ x, foldedSetIterable iter X.env x = pure x := by intro _; rfl) :
    PE X (.ListComp elt [⟨tg, iter, ifs, 0⟩] scope pos) (tLc wi g tt te (own.map (·.2))) := by
  refine ⟨fun pins s σ H Q I h => ?_⟩
  rw [eval_ListComp]
  refine coreX hc hN I hi ok hg ht he hfs (htk _ pins σ H s I) h fun D ce s' m H' I' q hn f => ⟨m, hn, fun k' sb => ?_⟩
  obtain ⟨f0, f1, f2, f3, f4, f5⟩ := f
  exact ⟨.ref D, H', I'.turned (t' := s'.toks) (fun b o hb e => (sb.2 b hb).trans e) f0 f1 f3 f4 f5, rfl, q⟩
/-- name = [..] on one line, the name a local -/
theorem ps_setLcX {i : Nat} {y : Str} {py : Pos} {elt tg iter : Expr} {ifs : List Expr} {scope : Scope} {own : List (Str × Nat)} {pos spos : Pos} {wi : TI} {g : TG} {tt : TT} {te : TE} {Wb : WX} (hc : C X) (hN : X.N.Nodup) (hy : X.N[i]? = some y) (hyl : X.env.scope.names.lookup y = some .local)
    (hsw : swapsWith (.ListComp elt [⟨tg, iter, ifs, 0⟩] scope pos) (some (.Name y py)) spos.line X.env = pure true) (hi : PIC C X tg iter wi) (ok : BlkOk X.N X.env.scope scope own) (hg : BlkPG X scope tg g) (ht : BlkPTs X scope Wb ifs tt) (he : BlkPE X scope Wb elt te)
    (htk : ∀ (use : Option (Value → Sem Unit)) (Qf : Value → Shared → Prop) pins σ H s, Inv X pins σ H s → BlkTk X scope use Qf pins σ Wb) (hfs : ∀ x, foldedSetIterable iter X.env x = pure x := by intro _; rfl) :
    PS X (.Assign [.Name y py] (.ListComp elt [⟨tg, iter, ifs, 0⟩] scope pos) spos) (tAsg (tLc wi g tt te (own.map (·.2))) (gName i)) := by
  refine ⟨fun pins s σ H D I h => ?_⟩
  rw [exec_Assign_Name_used _ _ _ _ hsw]
  refine wpAny_bind (wpAny_standAt (wpAny_bind ?_))
  show wpAny _ X.A (do let _ ← comprehension (.ListComp elt [⟨tg, iter, ifs, 0⟩] scope pos) scope X.env (firstIterPos [⟨tg, iter, ifs, 0⟩] pos) (newList []) false (eval iter X.env) (some (assign (.Name y py) X.env))) _ _ s
  have h : tLc wi g tt te (own.map (·.2)) σ H (fun x H1 => gName i x σ H1 D.nx) := h
  refine wpAny_bind (thn (coreX (Qf := fun _ s' => SP X pins D .next s') hc hN I hi ok hg ht he hfs (htk _ _ pins σ H s I) h fun L ce s' m H' I' q hn f => ?_) fun _ s' hq => wpAny_pure (wpAny_pure hq))
  show wpAny _ _ (assign (.Name y py) X.env (.ref L)) _ _ _
  refine wpAny_assign_Name (store_ok2 (v := V.ref L) I' hN hy (.inl hyl) rfl (fun s2 I2 ⟨a, sb, ha⟩ => ?_) (.inr hyl))
  obtain ⟨f0, f1, f2, f3, f4, f5⟩ := f
  have haC : ce.locals ≠ a := by
    rcases ha with z | z
    · rw [z]; exact f1
    · exact fun e => f4 y a z e.symm
  refine ⟨m, hn.sameBut sb haC, fun k' sb3 => ⟨_, H', I2.turned (t' := s2.toks) (fun b o hb e => (sb3.2 b hb).trans e) f0 f1 f3 f4 f5, q⟩⟩
end
end TC

/-! The layer over the hand layer: values without addresses. What nobody writes (texts, tuples, lists that are not changed, instances that are not changed) stands inline; what is written stands in Mem, by its address. -/
namespace TQ
open PySem PySem.Spec PyProof.Rows L2

inductive PV where
  | non | bl (b : Bool) | int (i : Int) | str (x : Str)
  | tup (xs : List PV) | lst (xs : List PV) | scr (ns : List Int)
  | obj (C : Addr) (ns : List Str) (vs : List PV)
  | ref (a : Addr) | ty (n : String)
  | exc (a d : Addr) (x : PV)
  | eo (a D : Addr) (d : Option Addr) (x : PV)

/-- a lambda's words -/
structure LamT where
  q : Str
  pa : Arguments
  body : Expr
  sc : Scope
/-- what is written; a lambda, with the cells that it captured and, while these stand still, what they hold; a table of lambdas' code objects -/
inductive MO where
  | lst (xs : List PV) | dic (ks : List Key) (vs : List PV) | ins (C : Addr) (ns : List Str) (vs : List PV)
  | lam (L : LamT) (cl : List (Str × Addr)) (vals : Option (List PV)) | tab (q : Str)
  | fdc (od : Obj) (ks : List Key) (us : List V) (vs : List PV)
abbrev Mem := Addr → Option MO
def mset (M : Mem) (a : Addr) (o : MO) : Mem := fun b => if b = a then some o else M b
theorem mset_same {M : Mem} {a : Addr} {o : MO} : mset M a o a = some o := if_pos rfl
theorem mset_ne {M : Mem} {a b : Addr} {o : MO} (h : b ≠ a) : mset M a o b = M b := if_neg h

/-- an exception object that nobody raises any more -/
def ExV (cls : Value) (d : Option Addr) (a : Addr) : HO := .ext fun h => ∃ (oe : Obj) (vs : Array Value), h.get? a = some oe ∧ L2N.Zn cls d oe ∧ oe.data = .fields vs
mutual
def Rep (K : PySem.W.Frag) (G : Hp) : PV → V → Prop
  | .non, v => v = .non
  | .bl b, v => v = .bl b
  | .int i, v => v = .int i
  | .str x, v => v = .str x
  | .tup xs, v => ∃ a vs, v = .ref a ∧ SqT K G a vs ∧ Reps K G xs vs
  | .lst xs, v => ∃ a vs, v = .ref a ∧ G a = some (.lst vs) ∧ Reps K G xs vs
  | .scr ns, v => ∃ a, v = .ref a ∧ SqL K G a (ns.map V.int)
  | .obj C ns xs, v => ∃ a dx vs, v = .ref a ∧ G a = some (.ins C dx (ns.zip vs)) ∧ Reps K G xs vs
  | .ref a, v => v = .ref a
  | .ty n, v => v = .ty n
  | .exc a d x, v => v = .ref a ∧ ∃ u, G d = some (.xd [(("signal" : Str), u)]) ∧ Rep K G x u
  | .eo a D d x, v => v = .ref a ∧ G a = some (ExV (.ref D) d a) ∧ ∀ dd, d = some dd → ∃ u, G dd = some (.xd [(("signal" : Str), u)]) ∧ Rep K G x u
def Reps (K : PySem.W.Frag) (G : Hp) : List PV → List V → Prop
  | [], vs => vs = []
  | x :: xs, vs => ∃ v ws, vs = v :: ws ∧ Rep K G x v ∧ Reps K G xs ws
end

def Ext (G G' : Hp) : Prop := ∀ a o, G a = some o → G' a = some o
theorem Ext.refl (G : Hp) : Ext G G := fun _ _ h => h
theorem Ext.trans {G G1 G2 : Hp} (a : Ext G G1) (b : Ext G1 G2) : Ext G G2 := fun x o h => b x o (a x o h)
theorem Ext.new {G : Hp} {p : Addr} {o : HO} (h : G p = none) : Ext G (upd G p o) := fun a u e => by
  rw [upd_ne (ne_of_none e h)]; exact e
theorem ext_rd {H H' : Hp} {a : Addr} {u : HO} (e : Ext H H') (h : Rd H a u) : Rd H' a u := by
  rcases h with h | ⟨o, h⟩
  · exact .inl (e a _ h)
  · exact .inr ⟨o, e a _ h⟩
theorem ext_t {K : PySem.W.Frag} {H H' : Hp} {a : Addr} {xs : List V} (e : Ext H H') (h : SqT K H a xs) : SqT K H' a xs := by
  rcases h with h | h
  · exact .inl (ext_rd e h)
  · exact .inr h
theorem ext_l {K : PySem.W.Frag} {H H' : Hp} {a : Addr} {xs : List V} (e : Ext H H') (h : SqL K H a xs) : SqL K H' a xs := by
  rcases h with h | h
  · exact .inl (ext_rd e h)
  · exact .inr h

section
variable {K : PySem.W.Frag} {G G' : Hp}
mutual
theorem Rep.mono (e : Ext G G') : ∀ (x : PV) (v : V), Rep K G x v → Rep K G' x v
  | .non, _, h => h
  | .bl _, _, h => h
  | .int _, _, h => h
  | .str _, _, h => h
  | .tup xs, _, h => by
    obtain ⟨a, vs, h1, h2, h3⟩ := h
    exact ⟨a, vs, h1, ext_t e h2, Reps.mono e xs vs h3⟩
  | .lst xs, _, h => by
    obtain ⟨a, vs, h1, h2, h3⟩ := h
    exact ⟨a, vs, h1, e _ _ h2, Reps.mono e xs vs h3⟩
  | .scr ns, _, h => by
    obtain ⟨a, h1, h2⟩ := h
    exact ⟨a, h1, ext_l e h2⟩
  | .obj C ns xs, _, h => by
    obtain ⟨a, dx, vs, h1, h2, h3⟩ := h
    exact ⟨a, dx, vs, h1, e _ _ h2, Reps.mono e xs vs h3⟩
  | .ref _, _, h => h
  | .ty _, _, h => h
  | .exc a d x, _, h => by
    obtain ⟨h0, v, h1, h2⟩ := h
    exact ⟨h0, v, e _ _ h1, Rep.mono e x v h2⟩
  | .eo a D d x, _, h => by
    obtain ⟨h0, h1, h2⟩ := h
    refine ⟨h0, e _ _ h1, fun dd hd => ?_⟩
    obtain ⟨u, q1, q2⟩ := h2 dd hd
    exact ⟨u, e _ _ q1, Rep.mono e x u q2⟩
theorem Reps.mono (e : Ext G G') : ∀ (xs : List PV) (vs : List V), Reps K G xs vs → Reps K G' xs vs
  | [], _, h => h
  | x :: xs, _, h => by
    obtain ⟨v, ws, h1, h2, h3⟩ := h
    exact ⟨v, ws, h1, Rep.mono e x v h2, Reps.mono e xs ws h3⟩
end
theorem Reps.length : ∀ {xs : List PV} {vs : List V}, Reps K G xs vs → xs.length = vs.length
  | [], _, h => by cases h; rfl
  | x :: xs, _, h => by
    obtain ⟨v, ws, rfl, _, h3⟩ := h
    simp [Reps.length h3]
theorem Reps.get : ∀ {xs : List PV} {vs : List V} {i : Nat} {x : PV}, Reps K G xs vs → xs[i]? = some x → ∃ v, vs[i]? = some v ∧ Rep K G x v
  | [], _, _, _, _, e => by simp at e
  | x :: xs, _, 0, y, h, e => by
    obtain ⟨v, ws, rfl, h2, h3⟩ := h
    simp at e
    subst e
    exact ⟨v, rfl, h2⟩
  | x :: xs, _, i + 1, y, h, e => by
    obtain ⟨v, ws, rfl, h2, h3⟩ := h
    obtain ⟨u, q1, q2⟩ := Reps.get h3 (by simpa using e)
    exact ⟨u, by simpa using q1, q2⟩
theorem Reps.getV : ∀ {xs : List PV} {vs : List V} {i : Nat} {v : V}, Reps K G xs vs → vs[i]? = some v → ∃ x, xs[i]? = some x ∧ Rep K G x v
  | [], _, _, _, h, e => by cases h; simp at e
  | x :: xs, _, 0, y, h, e => by
    obtain ⟨v, ws, rfl, h2, h3⟩ := h
    simp at e
    subst e
    exact ⟨x, rfl, h2⟩
  | x :: xs, _, i + 1, y, h, e => by
    obtain ⟨v, ws, rfl, h2, h3⟩ := h
    obtain ⟨u, q1, q2⟩ := Reps.getV h3 (by simpa using e)
    exact ⟨u, by simpa using q1, q2⟩
theorem Reps.append : ∀ {xs ys : List PV} {vs ws : List V}, Reps K G xs vs → Reps K G ys ws → Reps K G (xs ++ ys) (vs ++ ws)
  | [], _, _, _, h, q => by cases h; exact q
  | x :: xs, _, _, _, h, q => by
    obtain ⟨v, ws, rfl, h2, h3⟩ := h
    exact ⟨v, _, rfl, h2, Reps.append h3 q⟩
theorem Reps.one {x : PV} {v : V} (h : Rep K G x v) : Reps K G [x] [v] := ⟨v, [], rfl, h, rfl⟩
theorem Reps.cons {x : PV} {v : V} {xs : List PV} {vs : List V} (h : Rep K G x v) (q : Reps K G xs vs) : Reps K G (x :: xs) (v :: vs) := ⟨v, vs, rfl, h, q⟩
theorem Reps.nil : Reps K G [] [] := rfl
theorem Reps.set : ∀ {xs : List PV} {vs : List V} {x : PV} {v : V} (i : Nat), Reps K G xs vs → Rep K G x v → Reps K G (xs.set i x) (vs.set i v)
  | [], _, _, _, _, h, _ => by cases h; exact Reps.nil
  | y :: xs, _, x, v, 0, h, q => by
    obtain ⟨w, ws, rfl, h2, h3⟩ := h
    exact Reps.cons q h3
  | y :: xs, _, x, v, i + 1, h, q => by
    obtain ⟨w, ws, rfl, h2, h3⟩ := h
    exact Reps.cons h2 (Reps.set i h3 q)
theorem Reps.drop : ∀ {xs : List PV} {vs : List V} (n : Nat), Reps K G xs vs → Reps K G (xs.drop n) (vs.drop n)
  | xs, vs, 0, h => h
  | [], _, n + 1, h => by cases h; exact Reps.nil
  | x :: xs, _, n + 1, h => by
    obtain ⟨v, ws, rfl, h2, h3⟩ := h
    exact Reps.drop n h3
theorem Reps.take : ∀ {xs : List PV} {vs : List V} (n : Nat), Reps K G xs vs → Reps K G (xs.take n) (vs.take n)
  | xs, vs, 0, h => Reps.nil
  | [], _, n + 1, h => by cases h; exact Reps.nil
  | x :: xs, _, n + 1, h => by
    obtain ⟨v, ws, rfl, h2, h3⟩ := h
    exact Reps.cons h2 (Reps.take n h3)
theorem Reps.ints : ∀ (ns : List Int), Reps K G (ns.map PV.int) (ns.map V.int)
  | [] => Reps.nil
  | n :: ns => Reps.cons rfl (Reps.ints ns)
end

/-- the function object of a lambda -/
def LamO (f : Addr) (L : LamT) (cl : List (Str × Addr)) (c' : Addr) : HO := .ext fun h => ∃ pm ctv, h.get? f = some (PySem.W.kla_obj "<lambda>" L.q L.pa L.body L.sc cl pm c' ctv)
/-- a cell that stands still -/
def CellOk (K : PySem.W.Frag) (G H : Hp) (c : Addr) (x : PV) : Prop := G c = none ∧ ∃ (o : Obj) (z : Value) (v : V), H c = some (.frz o (.ext fun _ => True)) ∧ o.data = .cell (some z) ∧ RelV v z ∧ Rep K G x v
/-- the names that a lambda captures, as they stand in its closure -/
def capN (L : LamT) : List Str := ((L.sc.names.filter fun y => y.2 == .free).map (·.1)).reverse
structure ClOk (L : LamT) (cl : List (Str × Addr)) : Prop where
  nm : cl.map (·.1) = capN L
  one : ∀ y c d, (y, c) ∈ cl → (y, d) ∈ cl → c = d
  has : ∀ y ∈ L.sc.names, y.2 = .free → ∃ c, cl.lookup y.1 = some c
  inj : ∀ x y c, cl.lookup x = some c → cl.lookup y = some c → x = y
def MOk (K : PySem.W.Frag) (G H : Hp) (a : Addr) : MO → Prop
  | .lst xs => ∃ vs, H a = some (.lst vs) ∧ Reps K G xs vs
  | .dic ks xs => ∃ vs, H a = some (.dK (ks.zip vs)) ∧ ks.length = vs.length ∧ Reps K G xs vs
  | .ins C ns xs => ∃ dx vs, H a = some (.ins C dx (ns.zip vs)) ∧ Reps K G xs vs
  | .lam L cl vals => ∃ c', H a = some (LamO a L cl c') ∧ H c' = some (LamX.CodeO c' L.q) ∧ ClOk L cl ∧ ∀ xs, vals = some xs → xs.length = cl.length ∧ ∀ (i : Nat) y c x, cl[i]? = some (y, c) → xs[i]? = some x → CellOk K G H c x
  | .tab q => LamX.TabS H a q
  | .fdc od ks vs xs => H a = some (.frz od (.dK (ks.zip vs))) ∧ ks.length = vs.length ∧ Reps K G xs vs
/-- what stays for good -/
def Fix : HO → Prop
  | .ext _ => True
  | .frz _ _ => True
  | _ => False
def NFix (H : Hp) (p : Addr) : Prop := H p = none ∨ ∃ u, H p = some u ∧ ¬ Fix u
theorem NFix.ne {H : Hp} {p b : Addr} {u : HO} (h : NFix H p) (e : H b = some u) (f : Fix u) : b ≠ p := by
  rintro rfl
  rcases h with h | ⟨u', h, n⟩
  · rw [h] at e; cases e
  · rw [h] at e; cases e; exact n f

structure Wf (K : PySem.W.Frag) (M : Mem) (H G : Hp) : Prop where
  sub : Ext G H
  mem : ∀ a m, M a = some m → G a = none ∧ MOk K G H a m
  ntb : ∀ a ps, G a ≠ some (.tbl ps)

/-- local names -/
abbrev Sl := List (Option PV)
structure EnvR (K : PySem.W.Frag) (G : Hp) (env : Sl) (σ : L2.St) : Prop where
  len : env.length = σ.length
  get : ∀ (i : Nat) (x : PV), env[i]? = some (some x) → ∃ v, σ[i]? = some (some v) ∧ Rep K G x v
structure Sim (K : PySem.W.Frag) (env : Sl) (M : Mem) (G : Hp) (σ : L2.St) (H : Hp) : Prop where
  env : EnvR K G env σ
  wf : Wf K M H G

section
variable {K : PySem.W.Frag} {G G' H H' : Hp} {M M' : Mem} {env : Sl} {σ : L2.St}
theorem EnvR.mono (e : Ext G G') (h : EnvR K G env σ) : EnvR K G' env σ := ⟨h.len, fun i x q => by
  obtain ⟨v, q1, q2⟩ := h.get i x q
  exact ⟨v, q1, Rep.mono e x v q2⟩⟩
theorem EnvR.set {i : Nat} {x : PV} {v : V} (h : EnvR K G env σ) (q : Rep K G x v) : EnvR K G (env.set i (some x)) (σ.set i (some v)) := by
  refine ⟨by simp [h.len], fun j y e => ?_⟩
  by_cases hj : i = j
  · subst hj
    rw [List.getElem?_set] at e ⊢
    rw [if_pos rfl] at e ⊢
    split at e
    · rename_i hl
      rw [if_pos (by rw [← h.len]; exact hl)]
      cases e
      exact ⟨v, rfl, q⟩
    · cases e
  · rw [List.getElem?_set_ne hj] at e ⊢
    exact h.get j y e
theorem Sim.to (s : Sim K env M G σ H) (e : Ext G G') (w : Wf K M' H' G') : Sim K env M' G' σ H' := ⟨s.env.mono e, w⟩
theorem Sim.set {i : Nat} {x : PV} {v : V} (s : Sim K env M G σ H) (q : Rep K G x v) : Sim K (env.set i (some x)) M G (σ.set i (some v)) H := ⟨s.env.set q, s.wf⟩
theorem MOk.mono {a : Addr} (e : Ext G G') (hg : ∀ c o u, H c = some (.frz o u) → G c = none → G' c = none) (hk : ∀ b u, H b = some u → Fix u → H' b = some u) (hh : H' a = H a) : ∀ {m : MO}, MOk K G H a m → MOk K G' H' a m := fun {m} h => by
  cases m with
  | lst xs => obtain ⟨vs, h1, h2⟩ := h; exact ⟨vs, hh.trans h1, Reps.mono e _ _ h2⟩
  | dic ks xs => obtain ⟨vs, h1, h2, h3⟩ := h; exact ⟨vs, hh.trans h1, h2, Reps.mono e _ _ h3⟩
  | ins C ns xs => obtain ⟨dx, vs, h1, h2⟩ := h; exact ⟨dx, vs, hh.trans h1, Reps.mono e _ _ h2⟩
  | lam L cl vals =>
    obtain ⟨c', h1, h2, h3, h4⟩ := h
    refine ⟨c', hk _ _ h1 trivial, hk _ _ h2 trivial, h3, fun xs hx => ⟨(h4 xs hx).1, fun i y c x e1 e2 => ?_⟩⟩
    obtain ⟨g, o, z, v, q1, q2, q3, q4⟩ := (h4 xs hx).2 i y c x e1 e2
    exact ⟨hg _ _ _ q1 g, o, z, v, hk _ _ q1 trivial, q2, q3, Rep.mono e _ _ q4⟩
  | tab q =>
    obtain ⟨ps, h1, h2, h3⟩ := h
    refine ⟨ps, hh.trans h1, h2, fun pos cv hc => ?_⟩
    obtain ⟨c, e1, e2⟩ := h3 pos cv hc
    exact ⟨c, e1, hk _ _ e2 trivial⟩
  | fdc od ks vs xs => obtain ⟨h1, h2, h3⟩ := h; exact ⟨hh.trans h1, h2, Reps.mono e _ _ h3⟩
theorem MOk.some {a : Addr} {m : MO} (h : MOk K G H a m) : ∃ o, H a = some o := by
  cases m with
  | lst xs => obtain ⟨vs, h1, h2⟩ := h; exact ⟨_, h1⟩
  | dic ks xs => obtain ⟨vs, h1, h2⟩ := h; exact ⟨_, h1⟩
  | ins C ns xs => obtain ⟨dx, vs, h1, h2⟩ := h; exact ⟨_, h1⟩
  | lam L cl vals => obtain ⟨c', h1, _⟩ := h; exact ⟨_, h1⟩
  | tab q => obtain ⟨ps, h1, _⟩ := h; exact ⟨_, h1⟩
  | fdc od ks vs xs => exact ⟨_, h.1⟩
theorem Wf.free {p : Addr} (w : Wf K M H G) (h : H p = none) : G p = none := by
  cases q : G p with
  | none => rfl
  | some o => rw [w.sub p o q] at h; cases h
theorem Wf.freeM {p : Addr} (w : Wf K M H G) (h : H p = none) : M p = none := by
  cases q : M p with
  | none => rfl
  | some m =>
    obtain ⟨o, z⟩ := (w.mem p m q).2.some
    rw [z] at h; cases h
/-- a new thing that nobody writes -/
theorem Wf.newG {p : Addr} {o : HO} (w : Wf K M H G) (h : H p = none) (ho : ∀ ps, o ≠ .tbl ps := by intro ps h; cases h) : Wf K M (upd H p o) (upd G p o) := by
  have hg := w.free h
  refine ⟨fun a u e => ?_, fun a m e => ?_, fun a ps e => ?_⟩
  · by_cases z : a = p
    · subst z; rw [upd_same] at e ⊢; exact e
    · rw [upd_ne z] at e ⊢; exact w.sub a u e
  · obtain ⟨h1, h2⟩ := w.mem a m e
    have z : a ≠ p := by rintro rfl; rw [w.freeM h] at e; cases e
    exact ⟨by rw [upd_ne z]; exact h1, h2.mono (Ext.new hg) (fun c o u q n => by rw [upd_ne (ne_of_none q h)]; exact n) (fun b u q _ => by rw [upd_ne (ne_of_none q h)]; exact q) (upd_ne z)⟩
  · by_cases z : a = p
    · subst z; rw [upd_same] at e; exact ho ps (Option.some.inj e)
    · rw [upd_ne z] at e; exact w.ntb a ps e
/-- something in H that nobody speaks of -/
theorem Wf.newH {p : Addr} {o : HO} (w : Wf K M H G) (h : H p = none) : Wf K M (upd H p o) G := by
  refine ⟨fun a u e => ?_, fun a m e => ?_, w.ntb⟩
  · by_cases z : a = p
    · subst z; rw [w.free h] at e; cases e
    · rw [upd_ne z]; exact w.sub a u e
  · obtain ⟨h1, h2⟩ := w.mem a m e
    have z : a ≠ p := by rintro rfl; rw [w.freeM h] at e; cases e
    exact ⟨h1, h2.mono (Ext.refl G) (fun _ _ _ _ n => n) (fun b u q _ => by rw [upd_ne (ne_of_none q h)]; exact q) (upd_ne z)⟩
/-- a thing in Mem is new, or changed -/
theorem Wf.put {p : Addr} {o : HO} {m : MO} (w : Wf K M H G) (h : G p = none) (q : MOk K G (upd H p o) p m) (hf : NFix H p := by first | exact Or.inl (by assumption) | (refine Or.inr ⟨_, by assumption, ?_⟩; exact fun z => z)) : Wf K (mset M p m) (upd H p o) G := by
  refine ⟨fun a u e => ?_, fun a n e => ?_, w.ntb⟩
  · by_cases z : a = p
    · subst z; rw [h] at e; cases e
    · rw [upd_ne z]; exact w.sub a u e
  · by_cases z : a = p
    · subst z
      rw [mset_same] at e
      cases e
      exact ⟨h, q⟩
    · rw [mset_ne z] at e
      obtain ⟨h1, h2⟩ := w.mem a n e
      exact ⟨h1, h2.mono (Ext.refl G) (fun _ _ _ _ n => n) (fun b u q f => by rw [upd_ne (hf.ne q f)]; exact q) (upd_ne z)⟩
end

/-! ### what a reading by such values says -/
abbrev PK := PV → Mem → Prop
/-- an exception: its class, what its field holds -/
abbrev EK := Value → Option PV → Mem → Prop
abbrev QT := Sl → Mem → PK → EK → Prop
abbrev QB := Sl → Mem → (Bool → Mem → Prop) → EK → Prop
abbrev QA := Sl → Mem → (List PV → Mem → Prop) → EK → Prop
structure QEnds where
  nx : Sl → Mem → Prop
  rt : PK
  bk : Sl → Mem → Prop := fun _ _ => False
  ct : Sl → Mem → Prop := fun _ _ => False
  ex : Value → Option PV → Sl → Mem → Prop := fun _ _ _ _ => False
abbrev QS := QEnds → Sl → Mem → Prop

/-- the field of an exception -/
def ExR (K : PySem.W.Frag) (G : Hp) (d : Option Addr) (pl : Option PV) : Prop :=
  match pl with
  | none => d = none
  | some x => ∃ dd v, d = some dd ∧ G dd = some (.xd [(("signal" : Str), v)]) ∧ Rep K G x v
def LiftV (K : PySem.W.Frag) (G : Hp) (Q0 : PK) (Q : VK) : Prop := ∀ x M' v H' G', Ext G G' → Wf K M' H' G' → Rep K G' x v → Q0 x M' → Q v H'
def LiftE (K : PySem.W.Frag) (G : Hp) (E0 : EK) (E : XK) : Prop := ∀ c pl M' d H' G', Ext G G' → Wf K M' H' G' → ExR K G' d pl → E0 c pl M' → E c d H'
def LiftB (K : PySem.W.Frag) (G : Hp) (Q0 : Bool → Mem → Prop) (Q : Bool → Hp → Prop) : Prop := ∀ x M' H' G', Ext G G' → Wf K M' H' G' → Q0 x M' → Q x H'
def LiftA (K : PySem.W.Frag) (G : Hp) (Q0 : List PV → Mem → Prop) (Q : List V → Hp → Prop) : Prop := ∀ xs M' vs H' G', Ext G G' → Wf K M' H' G' → Reps K G' xs vs → Q0 xs M' → Q vs H'
def LiftN (K : PySem.W.Frag) (G : Hp) (Q0 : Sl → Mem → Prop) (Q : L2.St → Hp → Prop) : Prop := ∀ env' M' σ' H' G', Ext G G' → Sim K env' M' G' σ' H' → Q0 env' M' → Q σ' H'
def LiftX (K : PySem.W.Frag) (G : Hp) (E0 : Value → Option PV → Sl → Mem → Prop) (W : WX) : Prop := ∀ c pl env' M' d σ' H' G', Ext G G' → Sim K env' M' G' σ' H' → ExR K G' d pl → E0 c pl env' M' → W c d σ' H'
section
variable {K : PySem.W.Frag} {G G' : Hp}
theorem LiftV.mono {Q0 : PK} {Q : VK} (h : LiftV K G Q0 Q) (e : Ext G G') : LiftV K G' Q0 Q := fun x M' v H' G1 e1 => h x M' v H' G1 (e.trans e1)
theorem LiftE.mono {Q0 : EK} {Q : XK} (h : LiftE K G Q0 Q) (e : Ext G G') : LiftE K G' Q0 Q := fun c x M' v H' G1 e1 => h c x M' v H' G1 (e.trans e1)
theorem LiftB.mono {Q0 : Bool → Mem → Prop} {Q : Bool → Hp → Prop} (h : LiftB K G Q0 Q) (e : Ext G G') : LiftB K G' Q0 Q := fun x M' H' G1 e1 => h x M' H' G1 (e.trans e1)
theorem LiftA.mono {Q0 : List PV → Mem → Prop} {Q : List V → Hp → Prop} (h : LiftA K G Q0 Q) (e : Ext G G') : LiftA K G' Q0 Q := fun x M' v H' G1 e1 => h x M' v H' G1 (e.trans e1)
theorem LiftN.mono {Q0 : Sl → Mem → Prop} {Q : L2.St → Hp → Prop} (h : LiftN K G Q0 Q) (e : Ext G G') : LiftN K G' Q0 Q := fun env' M' σ' H' G1 e1 => h env' M' σ' H' G1 (e.trans e1)
theorem LiftX.mono {Q0 : Value → Option PV → Sl → Mem → Prop} {Q : WX} (h : LiftX K G Q0 Q) (e : Ext G G') : LiftX K G' Q0 Q := fun c pl env' M' d σ' H' G1 e1 => h c pl env' M' d σ' H' G1 (e.trans e1)
end

def tie (K : PySem.W.Frag) (W : WX) (t : QT) : TE := fun σ H Q => ∃ env M G Q0 E0, Sim K env M G σ H ∧ t env M Q0 E0 ∧ LiftV K G Q0 Q ∧ LiftE K G E0 (WE W σ)
def tieB (K : PySem.W.Frag) (W : WX) (t : QB) : TT := fun σ H Q => ∃ env M G Q0 E0, Sim K env M G σ H ∧ t env M Q0 E0 ∧ LiftB K G Q0 Q ∧ LiftE K G E0 (WE W σ)
def tieA (K : PySem.W.Frag) (W : WX) (t : QA) : TA := fun σ H Q => ∃ env M G Q0 E0, Sim K env M G σ H ∧ t env M Q0 E0 ∧ LiftA K G Q0 Q ∧ LiftE K G E0 (WE W σ)
structure LiftD (K : PySem.W.Frag) (W : WX) (G : Hp) (D0 : QEnds) (D : Ends) : Prop where
  nx : LiftN K G D0.nx D.nx
  rt : LiftV K G D0.rt D.rt
  bk : LiftN K G D0.bk D.bk
  ct : LiftN K G D0.ct D.ct
  ex : LiftX K G D0.ex W
theorem LiftD.mono {K : PySem.W.Frag} {W : WX} {G G' : Hp} {D0 : QEnds} {D : Ends} (h : LiftD K W G D0 D) (e : Ext G G') : LiftD K W G' D0 D := ⟨h.nx.mono e, h.rt.mono e, h.bk.mono e, h.ct.mono e, h.ex.mono e⟩
def tieS (K : PySem.W.Frag) (W : WX) (t : QS) : TS := fun D σ H => ∃ env M G D0, Sim K env M G σ H ∧ t D0 env M ∧ LiftD K W G D0 D

abbrev QE (X : Cx) (W : WX) (e : Expr) (t : QT) : Prop := PE X e (tie X.K W t)
abbrev QPT (X : Cx) (W : WX) (e : Expr) (t : QB) : Prop := PT X e (tieB X.K W t)
abbrev QPA (X : Cx) (W : WX) (es : List Expr) (t : QA) : Prop := PA X es (tieA X.K W t)
abbrev QPS (X : Cx) (W : WX) (st : Stmt) (t : QS) : Prop := PS X st (tieS X.K W t)
abbrev QPSs (X : Cx) (W : WX) (st : List Stmt) (t : QS) : Prop := PSs X st (tieS X.K W t)

section
variable {X : Cx}
theorem _root_.L2.PE.imp {e : Expr} {t t' : TE} (h : PE X e t) (f : ∀ σ H Q, t' σ H Q → t σ H Q) : PE X e t' := ⟨fun pins s σ H Q I q => h.run pins s σ H Q I (f σ H Q q)⟩
theorem _root_.L2.PT.imp {e : Expr} {t t' : TT} (h : PT X e t) (f : ∀ σ H Q, t' σ H Q → t σ H Q) : PT X e t' := ⟨fun pins s σ H Q I q => h.run pins s σ H Q I (f σ H Q q)⟩
theorem _root_.L2.PW.imp {e : Expr} {t t' : TT} (h : PW X e t) (f : ∀ σ H Q, t' σ H Q → t σ H Q) : PW X e t' := ⟨fun w pins s σ H Q I q => h.run w pins s σ H Q I (f σ H Q q)⟩
theorem _root_.L2.PA.imp {e : List Expr} {t t' : TA} (h : PA X e t) (f : ∀ σ H Q, t' σ H Q → t σ H Q) : PA X e t' := ⟨fun pos pins s σ H Q I q => h.run pos pins s σ H Q I (f σ H Q q)⟩
theorem _root_.L2.PS.imp {e : Stmt} {t t' : TS} (h : PS X e t) (f : ∀ D σ H, t' D σ H → t D σ H) : PS X e t' := ⟨fun pins s σ H D I q => h.run pins s σ H D I (f D σ H q)⟩
theorem _root_.L2.PSs.imp {e : List Stmt} {t t' : TS} (h : PSs X e t) (f : ∀ D σ H, t' D σ H → t D σ H) : PSs X e t' := ⟨fun pins s σ H D I q => h.run pins s σ H D I (f D σ H q)⟩
end

/-! ### names, constants -/
section
variable {X : Cx} {W : WX}
def qVar (i : Nat) : QT := fun env M Q _ => ∃ x, env[i]? = some (some x) ∧ Q x M
def qC (x : PV) : QT := fun _ M Q _ => Q x M
theorem qe_var {i : Nat} {e : Expr} (h : PE X e (tVar i)) : QE X W e (qVar i) := h.imp fun σ H Q ⟨env, M, G, Q0, E0, S, ⟨x, e1, q⟩, L, _⟩ => by
  obtain ⟨v, h1, h2⟩ := S.env.get i x e1
  exact ⟨v, h1, L x M v H G (Ext.refl G) S.wf h2 q⟩
theorem qe_c {e : Expr} {v : V} {x : PV} (h : PE X e (tC v)) (r : ∀ K G, Rep K G x v) : QE X W e (qC x) := h.imp fun σ H Q ⟨env, M, G, Q0, E0, S, q, L, _⟩ =>
  L x M v H G (Ext.refl G) S.wf (r _ _) q
theorem qe_int {i j pos} : QE X W (.Constant (.int i) j pos) (qC (.int i)) := qe_c pe_int fun _ _ => rfl
theorem qe_bl {b j pos} : QE X W (.Constant (.bool b) j pos) (qC (.bl b)) := qe_c pe_bl fun _ _ => rfl
theorem qe_non {j pos} : QE X W (.Constant .none j pos) (qC .non) := qe_c pe_non fun _ _ => rfl
theorem qe_str {x j pos} : QE X W (.Constant (.str x) j pos) (qC (.str x)) := qe_c pe_str fun _ _ => rfl
theorem qv (i : Nat) {x : Str} {pos : Pos} (hN : X.N[i]? = some x := by rfl) (hv : Vis X.env.scope x := by first | exact Or.inl rfl | exact Or.inr (Or.inl rfl) | exact Or.inr (Or.inr rfl)) (hd : (x == ("__debug__" : Str)) = false := by decide)
    (hcd : (x == ("__classdict__" : Str)) = false := by decide) : QE X W (.Name x pos) (qVar i) := qe_var (pe_var hN hv hd hcd)

/-! ### two in a row -/
/-- a value-level operation of two -/
abbrev F2 := PV → PV → Mem → PK → Prop
def OpQ (X : Cx) (g : Value → Value → Sem Value) (f : F2) : Prop := OpR X g fun a b H Q => ∃ x y M G Q0, Rep X.K G x a ∧ Rep X.K G y b ∧ Wf X.K M H G ∧ f x y M Q0 ∧ LiftV X.K G Q0 Q
def q2 (f : F2) (ta tb : QT) : QT := fun env M Q E => ta env M (fun x M1 => tb env M1 (fun y M2 => f x y M2 Q) E) E
theorem tie2 {ta tb : QT} {f : F2} {r : R2} {σ : L2.St} {H : Hp} {Q : VK} (hr : ∀ a b H Q, (∃ x y M G Q0, Rep X.K G x a ∧ Rep X.K G y b ∧ Wf X.K M H G ∧ f x y M Q0 ∧ LiftV X.K G Q0 Q) → r a b H Q)
    (h : tie X.K W (q2 f ta tb) σ H Q) : tOp r (tie X.K W ta) (tie X.K W tb) σ H Q := by
  obtain ⟨env, M, G, Q0, E0, S, q, L, LE⟩ := h
  refine ⟨env, M, G, _, E0, S, q, fun x M1 v H1 G1 e1 w1 r1 q1 => ?_, LE⟩
  refine ⟨env, M1, G1, _, E0, S.to e1 w1, q1, fun y M2 u H2 G2 e2 w2 r2 q2 => ?_, LE.mono e1⟩
  exact hr _ _ _ _ ⟨x, y, M2, G2, Q0, Rep.mono e2 x v r1, r2, w2, q2, L.mono (e1.trans e2)⟩
theorem qe_bin {op : Operator} {a b : Expr} {ta tb : QT} {f : F2} {pos : Pos} (ho : OpQ X (binaryOp op) f) (ha : QE X W a ta) (hb : QE X W b tb) : QE X W (.BinOp a op b pos) (q2 f ta tb) :=
  (pe_op ho ha hb).imp fun σ H Q h => tie2 (fun _ _ _ _ z => z) h
theorem qe_cmp {op : CmpOp} {a b : Expr} {ta tb : QT} {f : F2} {pos : Pos} (ho : OpQ X (compareOp op) f) (ha : QE X W a ta) (hb : QE X W b tb) (hm : behindInMarks op b = false := by first | exact nomark _ | rfl) : QE X W (.Compare a [op] [b] pos) (q2 f ta tb) :=
  (pe_cmpR ho ha hb hm).imp fun σ H Q h => tie2 (fun _ _ _ _ z => z) h
end
end TQ

namespace TQ
open PySem PySem.Spec PyProof.Rows L2

/-- the list at an address -/
def ml (o : Option MO) : Option (List PV) := match o with
  | some (.lst xs) => some xs
  | _ => none
theorem ml_some {o : Option MO} {xs : List PV} (h : ml o = some xs) : o = some (.lst xs) := by
  cases o with
  | none => cases h
  | some m => cases m <;> first | (cases h; rfl) | cases h
/-- the items of a list -/
def sq (M : Mem) : PV → Option (List PV)
  | .lst xs => some xs
  | .ref a => ml (M a)
  | _ => none
/-- the items of what len, indexes and loops take -/
def sqA (M : Mem) : PV → Option (List PV)
  | .scr ns => some (ns.map PV.int)
  | x => sq M x
section
variable {K : PySem.W.Frag} {G H : Hp} {M : Mem} {x : PV} {v : V} {xs : List PV}
theorem sq_H (h : sq M x = some xs) (r : Rep K G x v) (w : Wf K M H G) : ∃ p vs, v = .ref p ∧ H p = some (.lst vs) ∧ Reps K G xs vs := by
  cases x with
  | lst ys =>
    cases h
    obtain ⟨a, vs, h1, h2, h3⟩ := r
    exact ⟨a, vs, h1, w.sub _ _ h2, h3⟩
  | ref a =>
    obtain ⟨_, vs, h1, h2⟩ := w.mem a _ (ml_some (o := M a) h)
    exact ⟨a, vs, r, h1, h2⟩
  | _ => cases h
theorem sqA_H (h : sqA M x = some xs) (r : Rep K G x v) (w : Wf K M H G) : ∃ p vs, v = .ref p ∧ SqL K H p vs ∧ Reps K G xs vs := by
  cases x with
  | scr ns =>
    cases h
    obtain ⟨a, h1, h2⟩ := r
    exact ⟨a, _, h1, ext_l w.sub h2, Reps.ints ns⟩
  | _ =>
    obtain ⟨p, vs, h1, h2, h3⟩ := sq_H (h := by exact h) r w
    exact ⟨p, vs, h1, SqL.of h2, h3⟩
end

/-! ### data, for == and in -/
mutual
def dat0 : PV → Option PyData
  | .non => some .none
  | .bl b => some (.bool b)
  | .int i => some (.int i)
  | .str x => some (.str x)
  | .tup xs => (dat0s xs).map .tuple
  | .lst xs => (dat0s xs).map .list
  | _ => none
def dat0s : List PV → Option (List PyData)
  | [] => some []
  | x :: xs => (dat0 x).bind fun d => (dat0s xs).map fun ds => d :: ds
end
def dat (M : Mem) : PV → Option PyData
  | .ref a => (ml (M a)).bind fun xs => (dat0s xs).map .list
  | .scr ns => some (.list (ns.map .int))
  | x => dat0 x
section
variable {K : PySem.W.Frag} {G H : Hp} {M : Mem}
mutual
theorem dat0_dp (e : Ext G H) : ∀ (x : PV) (v : V) (d : PyData), dat0 x = some d → Rep K G x v → Dp K H v d
  | .non, _, _, h, r => by cases h; cases r; exact .non
  | .bl b, _, _, h, r => by cases h; cases r; exact .bl b
  | .int b, _, _, h, r => by cases h; cases r; exact .int b
  | .str b, _, _, h, r => by cases h; cases r; exact .str b
  | .tup xs, _, _, h, r => by
    obtain ⟨a, vs, h1, h2, h3⟩ := r
    unfold dat0 at h
    cases hd : dat0s xs with
    | none => rw [hd] at h; cases h
    | some ds =>
      rw [hd] at h
      cases h
      subst h1
      exact .tup (ext_t e h2) (dat0s_dp e xs vs ds hd h3)
  | .lst xs, _, _, h, r => by
    obtain ⟨a, vs, h1, h2, h3⟩ := r
    unfold dat0 at h
    cases hd : dat0s xs with
    | none => rw [hd] at h; cases h
    | some ds =>
      rw [hd] at h
      cases h
      subst h1
      exact .lst (SqL.of (e _ _ h2)) (dat0s_dp e xs vs ds hd h3)
  | .scr _, _, _, h, _ => by cases h
  | .obj _ _ _, _, _, h, _ => by cases h
  | .ref _, _, _, h, _ => by cases h
  | .ty _, _, _, h, _ => by cases h
theorem dat0s_dp (e : Ext G H) : ∀ (xs : List PV) (vs : List V) (ds : List PyData), dat0s xs = some ds → Reps K G xs vs → DpAll K H vs ds
  | [], _, _, h, r => by cases h; cases r; exact .nil
  | x :: xs, _, _, h, r => by
    obtain ⟨v, ws, rfl, h2, h3⟩ := r
    unfold dat0s at h
    cases hd : dat0 x with
    | none => rw [hd] at h; cases h
    | some d =>
      rw [hd] at h
      cases hs : dat0s xs with
      | none => rw [hs] at h; cases h
      | some ds =>
        rw [hs] at h
        cases h
        exact .cons (dat0_dp e x v d hd h2) (dat0s_dp e xs ws ds hs h3)
end
theorem ints_dp : ∀ (ns : List Int), DpAll K H (ns.map V.int) (ns.map PyData.int)
  | [] => .nil
  | n :: ns => .cons (.int n) (ints_dp ns)
theorem dat_dp (w : Wf K M H G) {x : PV} {v : V} {d : PyData} (h : dat M x = some d) (r : Rep K G x v) : Dp K H v d := by
  cases x with
  | ref a =>
    replace h : ((ml (M a)).bind fun xs => (dat0s xs).map .list) = some d := h
    cases hm : ml (M a) with
    | none => rw [hm] at h; cases h
    | some ys =>
      rw [hm] at h
      obtain ⟨_, vs, h1, h2⟩ := w.mem a _ (ml_some hm)
      replace h : (dat0s ys).map .list = some d := h
      cases hd : dat0s ys with
      | none => rw [hd] at h; cases h
      | some ds =>
        rw [hd] at h
        cases h
        cases r
        exact .lst (SqL.of h1) (dat0s_dp w.sub ys vs ds hd h2)
  | scr ns =>
    cases h
    obtain ⟨a, h1, h2⟩ := r
    subst h1
    exact .lst (ext_l w.sub h2) (ints_dp ns)
  | _ => exact dat0_dp w.sub _ v d h r
mutual
theorem dat0_plain : ∀ (x : PV) (d : PyData), dat0 x = some d → d.plain = true
  | .non, _, h => by cases h; rfl
  | .bl b, _, h => by cases h; rfl
  | .int b, _, h => by cases h; rfl
  | .str b, _, h => by cases h; rfl
  | .tup xs, _, h => by
    unfold dat0 at h
    cases hd : dat0s xs with
    | none => rw [hd] at h; cases h
    | some ds => rw [hd] at h; cases h; exact dat0s_plain xs ds hd
  | .lst xs, _, h => by
    unfold dat0 at h
    cases hd : dat0s xs with
    | none => rw [hd] at h; cases h
    | some ds => rw [hd] at h; cases h; exact dat0s_plain xs ds hd
  | .scr _, _, h => by cases h
  | .obj _ _ _, _, h => by cases h
  | .ref _, _, h => by cases h
  | .ty _, _, h => by cases h
theorem dat0s_plain : ∀ (xs : List PV) (ds : List PyData), dat0s xs = some ds → PyData.plainAll ds = true
  | [], _, h => by cases h; rfl
  | x :: xs, _, h => by
    unfold dat0s at h
    cases hd : dat0 x with
    | none => rw [hd] at h; cases h
    | some d =>
      rw [hd] at h
      cases hs : dat0s xs with
      | none => rw [hs] at h; cases h
      | some ds =>
        rw [hs] at h
        cases h
        show (d.plain && PyData.plainAll ds) = true
        rw [dat0_plain x d hd, dat0s_plain xs ds hs]; rfl
end
theorem ints_plain : ∀ ns : List Int, PyData.plainAll (ns.map PyData.int) = true
  | [] => rfl
  | n :: ns => by show (true && _) = true; rw [ints_plain ns]; rfl
theorem dat_plain {x : PV} {d : PyData} (h : dat M x = some d) : d.plain = true := by
  cases x with
  | ref a =>
    replace h : ((ml (M a)).bind fun xs => (dat0s xs).map .list) = some d := h
    cases hm : ml (M a) with
    | none => rw [hm] at h; cases h
    | some ys =>
      rw [hm] at h
      replace h : (dat0s ys).map .list = some d := h
      cases hd : dat0s ys with
      | none => rw [hd] at h; cases h
      | some ds => rw [hd] at h; cases h; exact dat0s_plain ys ds hd
  | scr ns => cases h; exact ints_plain ns
  | _ => exact dat0_plain _ d h
end

/-! ### values of two, by their kinds -/
def bAdd : F2 := fun x y M Q => match x, y with
  | .int i, .int j => Q (.int (i + j)) M
  | .str a, .str b => a.length + b.length ≤ sizeLine ∧ Q (.str (a ++ b)) M
  | x, y => match sq M x, sq M y with
    | some xs, some ys => xs.length + ys.length ≤ sizeLine ∧ Q (.lst (xs ++ ys)) M
    | _, _ => False
def bSub : F2 := fun x y M Q => match x, y with
  | .int i, .int j => Q (.int (i - j)) M
  | _, _ => False
/-- a text so many times over -/
def repS (x : Str) (n : Int) : Str := ⟨(List.replicate n.toNat x.cps).foldl (· ++ ·) #[]⟩
def bMul : F2 := fun x y M Q => match x, y with
  | .int i, .int j => IntMulOk i j ∧ Q (.int (i * j)) M
  | .str a, .int n => (0 ≤ n ∧ n ≤ 100000 ∧ a.length ≤ 100) ∧ Q (.str (repS a n)) M
  | x, .int n => match sq M x with
    | some xs => (0 ≤ n ∧ n ≤ 1000 ∧ xs.length ≤ 1000) ∧ Q (.lst (List.replicate n.toNat xs).flatten) M
    | none => False
  | _, _ => False
def bDiv : F2 := fun x y M Q => match x, y with
  | .int i, .int j => CDivW i j ∧ Q (.int (i / j)) M
  | _, _ => False
def bMod : F2 := fun x y M Q => match x, y with
  | .int i, .int j => 0 < j ∧ Q (.int (i % j)) M
  | _, _ => False
def bPow : F2 := fun x y M Q => match x, y with
  | .int i, .int j => CPow i j ∧ Q (.int (i ^ j.toNat)) M
  | _, _ => False
def bEqP (neg : Bool) : F2 := fun x y M Q => match x, y with
  | .int i, .int j => Q (.bl (if neg then !decide (i = j) else decide (i = j))) M
  | .str i, .str j => Q (.bl (if neg then !decide (i = j) else decide (i = j))) M
  | .bl i, .bl j => Q (.bl (if neg then !decide (i = j) else decide (i = j))) M
  | x, y => match dat M x, dat M y with
    | some d, some e => min d.depth e.depth ≤ 64 ∧ Q (.bl (if neg then !PyData.eqv d e else PyData.eqv d e)) M
    | _, _ => False
abbrev bEq : F2 := bEqP false
abbrev bNe : F2 := bEqP true
def bLt : F2 := fun x y M Q => match x, y with
  | .int i, .int j => Q (.bl (decide (i < j))) M
  | _, _ => False
def bLe : F2 := fun x y M Q => match x, y with
  | .int i, .int j => Q (.bl (decide (i ≤ j))) M
  | _, _ => False
def bGt : F2 := fun x y M Q => match x, y with
  | .int i, .int j => Q (.bl (decide (j < i))) M
  | _, _ => False
def bGe : F2 := fun x y M Q => match x, y with
  | .int i, .int j => Q (.bl (decide (j ≤ i))) M
  | _, _ => False
/-- x is None -/
def bIsN (neg : Bool) : F2 := fun x y M Q => match y with
  | .non => (match x with
    | .non => Q (.bl (!neg)) M
    | _ => Q (.bl neg) M)
  | _ => False

section
variable {X : Cx}
theorem OpQ.of {g : Value → Value → Sem Value} {r : R2} {f : F2} (h : OpR X g r) (k : ∀ a b H Q, (∃ x y M G Q0, Rep X.K G x a ∧ Rep X.K G y b ∧ Wf X.K M H G ∧ f x y M Q0 ∧ LiftV X.K G Q0 Q) → r a b H Q) : OpQ X g f :=
  fun pins s σ H x y v u Q I rx ry q => h pins s σ H x y v u Q I rx ry (k _ _ _ _ q)
theorem opq_int {g : Value → Value → Sem Value} {C : Int → Int → Prop} {e : Int → Int → V} {e' : Int → Int → PV} {f : F2} (h : OpR X g (rI C e)) (he : ∀ i j K G, Rep K G (e' i j) (e i j))
    (k : ∀ x y M Q, f x y M Q → ∃ i j, x = .int i ∧ y = .int j ∧ C i j ∧ Q (e' i j) M) : OpQ X g f := OpQ.of h fun a b H Q ⟨x, y, M, G, Q0, rx, ry, w, q, L⟩ => by
  obtain ⟨i, j, rfl, rfl, c, q'⟩ := k x y M Q0 q
  exact ⟨i, j, rx, ry, c, L (e' i j) M _ H G (Ext.refl G) w (he i j _ _) q'⟩
theorem opq_int0 {g : Value → Value → Sem Value} {e : Int → Int → V} {e' : Int → Int → PV} {f : F2} (h : OpR X g (rI0 e)) (he : ∀ i j K G, Rep K G (e' i j) (e i j))
    (k : ∀ x y M Q, f x y M Q → ∃ i j, x = .int i ∧ y = .int j ∧ Q (e' i j) M) : OpQ X g f := OpQ.of h fun a b H Q ⟨x, y, M, G, Q0, rx, ry, w, q, L⟩ => by
  obtain ⟨i, j, rfl, rfl, q'⟩ := k x y M Q0 q
  exact ⟨i, j, rx, ry, L (e' i j) M _ H G (Ext.refl G) w (he i j _ _) q'⟩
theorem oq_sub : OpQ X (binaryOp .Sub) bSub := opq_int0 op_sub (e' := fun i j => .int (i - j)) (fun _ _ _ _ => rfl) fun x y M Q q => by
  cases x <;> cases y <;> first | exact q.elim | exact ⟨_, _, rfl, rfl, q⟩
theorem oq_mod : OpQ X (binaryOp .Mod) bMod := opq_int op_mod (e' := fun i j => .int (i % j)) (fun _ _ _ _ => rfl) fun x y M Q q => by
  cases x <;> cases y <;> first | exact q.elim | exact ⟨_, _, rfl, rfl, q⟩
theorem oq_div : OpQ X (binaryOp .FloorDiv) bDiv := opq_int op_fdivW (e' := fun i j => .int (i / j)) (fun _ _ _ _ => rfl) fun x y M Q q => by
  cases x <;> cases y <;> first | exact q.elim | exact ⟨_, _, rfl, rfl, q⟩
theorem oq_pow : OpQ X (binaryOp .Pow) bPow := opq_int op_pow (e' := fun i j => .int (i ^ j.toNat)) (fun _ _ _ _ => rfl) fun x y M Q q => by
  cases x <;> cases y <;> first | exact q.elim | exact ⟨_, _, rfl, rfl, q⟩
theorem oq_lt : OpQ X (compareOp .Lt) bLt := opq_int0 op_lt (e' := fun i j => .bl (decide (i < j))) (fun _ _ _ _ => rfl) fun x y M Q q => by
  cases x <;> cases y <;> first | exact q.elim | exact ⟨_, _, rfl, rfl, q⟩
theorem oq_le : OpQ X (compareOp .LtE) bLe := opq_int0 op_le (e' := fun i j => .bl (decide (i ≤ j))) (fun _ _ _ _ => rfl) fun x y M Q q => by
  cases x <;> cases y <;> first | exact q.elim | exact ⟨_, _, rfl, rfl, q⟩
theorem oq_gt : OpQ X (compareOp .Gt) bGt := opq_int0 op_gt (e' := fun i j => .bl (decide (j < i))) (fun _ _ _ _ => rfl) fun x y M Q q => by
  cases x <;> cases y <;> first | exact q.elim | exact ⟨_, _, rfl, rfl, q⟩
theorem oq_ge : OpQ X (compareOp .GtE) bGe := opq_int0 op_ge (e' := fun i j => .bl (decide (j ≤ i))) (fun _ _ _ _ => rfl) fun x y M Q q => by
  cases x <;> cases y <;> first | exact q.elim | exact ⟨_, _, rfl, rfl, q⟩
theorem op_mulA : OpR X (binaryOp .Mult) (rI IntMulOk fun i j => .int (i * j)) := opI fun _ _ _ _ _ _ _ hc q => mul_int q hc
theorem op_mulS : OpR X (binaryOp .Mult) (fun x y H Q => ∃ a n, x = .str a ∧ y = .int n ∧ (0 ≤ n ∧ n ≤ 100000 ∧ a.length ≤ 100) ∧ Q (.str (repS a n)) H) := by
  intro pins s σ H x y v u Q I rx ry h
  obtain ⟨a, n, rfl, rfl, ⟨h0, h1, h2⟩, q⟩ := h
  obtain ⟨t, rfl⟩ := rx
  obtain ⟨t', rfl⟩ := ry
  have hm : a.length * n.toNat ≤ 100 * 100000 := Nat.mul_le_mul h2 (by omega)
  refine P.mul_str ?_ ?_ ?_ ?_
  · rw [decide_eq_false (by omega), decide_eq_false (by omega)]; rfl
  · intro hn _ hg
    have : (100 : Int) ≤ (2 ^ 63 - 1) / n := by
      rw [Int.le_ediv_iff_mul_le (by omega)]
      omega
    omega
  · intro _ _
    show decide (a.length * n.toNat > sizeLine) = false
    rw [sizeLine_eq]
    exact decide_eq_false (by omega)
  · have fold_one : ∀ (m : Nat), (List.replicate m a.cps).foldl (· ++ ·) #[] = (List.replicate m a.cps).foldl (· ++ ·) #[] := fun _ => rfl
    split
    · have e : n = 0 := by omega
      subst e
      exact ⟨by decide, .str _, H, I.tok _, ⟨_, rfl⟩, q⟩
    · split
      · rename_i hn hz
        simp only [Bool.or_eq_true, beq_iff_eq] at hz
        refine ⟨.str _, H, I, ⟨_, rfl⟩, ?_⟩
        have e : repS a n = a := by
          rcases hz with hz | hz
          · subst hz
            unfold repS
            simp
          · have ha : a.cps = #[] := Array.eq_empty_of_size_eq_zero hz
            unfold repS
            rw [ha]
            have : ∀ m : Nat, (List.replicate m (#[] : Array Nat)).foldl (· ++ ·) #[] = #[] := fun m => by
              induction m with
              | zero => rfl
              | succ m ih => rw [List.replicate_succ, List.foldl_cons]; simpa using ih
            rw [this]
            cases a
            simp at ha
            rw [ha]
        rw [← e]; exact q
      · refine ⟨?_, .str _, H, I.tok _, ⟨_, rfl⟩, q⟩
        have len : ∀ (m : Nat) (acc : Array Nat), ((List.replicate m a.cps).foldl (· ++ ·) acc).size = acc.size + m * a.cps.size := fun m => by
          induction m with
          | zero => intro acc; simp
          | succ m ih => intro acc; rw [List.replicate_succ, List.foldl_cons, ih, Array.size_append, Nat.succ_mul]; omega
        show ((List.replicate n.toNat a.cps).foldl (· ++ ·) #[]).size ≤ sizeLine
        rw [len, sizeLine_eq]
        have hc : a.cps.size = a.length := rfl
        rw [hc, Nat.mul_comm]
        simp
        omega
end
end TQ

namespace TQ
open PySem PySem.Spec PyProof.Rows L2
section
variable {K : PySem.W.Frag} {G H : Hp} {M : Mem} {Q0 : PK} {Q : VK} {p : Addr} {xs : List PV} {vs : List V}
theorem give_lst (L : LiftV K G Q0 Q) (w : Wf K M H G) (hp : H p = none) (r : Reps K G xs vs) (q : Q0 (.lst xs) M) : Q (.ref p) (upd H p (.lst vs)) :=
  L (.lst xs) M _ _ _ (Ext.new (w.free hp)) (w.newG hp) ⟨p, vs, rfl, upd_same, Reps.mono (Ext.new (w.free hp)) _ _ r⟩ q
theorem give_tup (L : LiftV K G Q0 Q) (w : Wf K M H G) (hp : H p = none) (r : Reps K G xs vs) (q : Q0 (.tup xs) M) : Q (.ref p) (upd H p (.tup vs)) :=
  L (.tup xs) M _ _ _ (Ext.new (w.free hp)) (w.newG hp) ⟨p, vs, rfl, SqT.of upd_same, Reps.mono (Ext.new (w.free hp)) _ _ r⟩ q
/-- the same value as it stands -/
theorem give (L : LiftV K G Q0 Q) (w : Wf K M H G) {x : PV} {v : V} (r : Rep K G x v) (q : Q0 x M) : Q v H := L x M v H G (Ext.refl G) w r q
theorem mok_lst (r : Reps K G xs vs) : MOk K G (upd H p (.lst vs)) p (.lst xs) := ⟨vs, upd_same, r⟩
end
section
variable {X : Cx}
theorem oq_add : OpQ X (binaryOp .Add) bAdd := by
  intro pins s σ H a b v u Q I ra rb ⟨x, y, M, G, Q0, rx, ry, w, q, L⟩
  have lists : ∀ {x y : PV}, (match sq M x, sq M y with
      | some xs, some ys => xs.length + ys.length ≤ sizeLine ∧ Q0 (.lst (xs ++ ys)) M
      | _, _ => False) → Rep X.K G x a → Rep X.K G y b → wpAny (model X.prog X.w) X.A (binaryOp .Add v u) (EP X pins σ Q) X.xe s := fun {x y} q rx ry => by
    cases hx : sq M x with
    | none => rw [hx] at q; exact q.elim
    | some xs =>
      cases hy : sq M y with
      | none => rw [hx, hy] at q; exact q.elim
      | some ys =>
        rw [hx, hy] at q
        obtain ⟨p1, vs, e1, h1, r1⟩ := sq_H hx rx w
        obtain ⟨p2, ws, e2, h2, r2⟩ := sq_H hy ry w
        obtain ⟨hz, q⟩ := q
        refine op_cat pins s σ H a b v u Q I ra rb ⟨p1, p2, vs, ws, e1, e2, h1, h2, by rw [← r1.length, ← r2.length]; exact hz, fun p hp => give_lst L w hp (r1.append r2) q⟩
  cases x <;> cases y <;> first
    | exact op_add pins s σ H a b v u Q I ra rb ⟨_, _, rx, ry, give L w (x := .int _) rfl q⟩
    | exact op_add_str pins s σ H a b v u Q I ra rb ⟨_, _, rx, ry, q.1, give L w (x := .str _) rfl q.2⟩
    | exact lists q rx ry
theorem oq_mul : OpQ X (binaryOp .Mult) bMul := by
  intro pins s σ H a b v u Q I ra rb ⟨x, y, M, G, Q0, rx, ry, w, q, L⟩
  have lists : ∀ {x : PV} {n : Int}, (match sq M x with
      | some xs => (0 ≤ n ∧ n ≤ 1000 ∧ xs.length ≤ 1000) ∧ Q0 (.lst (List.replicate n.toNat xs).flatten) M
      | none => False) → Rep X.K G x a → Rep X.K G (.int n) b → wpAny (model X.prog X.w) X.A (binaryOp .Mult v u) (EP X pins σ Q) X.xe s := fun {x n} q rx ry => by
    cases hx : sq M x with
    | none => rw [hx] at q; exact q.elim
    | some xs =>
      rw [hx] at q
      obtain ⟨p1, vs, e1, h1, r1⟩ := sq_H hx rx w
      obtain ⟨⟨g0, g1, g2⟩, q⟩ := q
      have hm : vs.length * n.toNat ≤ 1000 * 1000 := Nat.mul_le_mul (by rw [← r1.length]; exact g2) (by omega)
      have rep : ∀ m : Nat, Reps X.K G (List.replicate m xs).flatten (List.replicate m vs).flatten := fun m => by
        induction m with
        | zero => exact Reps.nil
        | succ m ih => rw [List.replicate_succ, List.replicate_succ, List.flatten_cons, List.flatten_cons]; exact r1.append ih
      refine op_rep pins s σ H a b v u Q I ra rb ⟨p1, n, vs, e1, ry, h1, by omega, by omega, by rw [sizeLine_eq]; omega, fun p hp => give_lst L w hp (rep _) q⟩
  cases x <;> cases y <;> first
    | exact op_mulA pins s σ H a b v u Q I ra rb ⟨_, _, rx, ry, q.1, give L w (x := .int _) rfl q.2⟩
    | exact op_mulS pins s σ H a b v u Q I ra rb ⟨_, _, rx, ry, q.1, give L w (x := .str _) rfl q.2⟩
    | exact lists q rx ry
    | exact q.elim
theorem op_eqN (hu : X.A.units + 64 < cLine) : OpR X (compareOp .Eq) (fun x y H Q => ∃ d e, Dp X.K H x d ∧ Dp X.K H y e ∧ d.plain = true ∧ e.plain = true ∧ min d.depth e.depth ≤ 64 ∧ Q (.bl (PyData.eqv d e)) H) := by
  intro pins s σ H x y v u Q I rx ry h
  obtain ⟨d, e, hd, he, sd, se, hm, q⟩ := h
  obtain ⟨as, r1⟩ := Dp.reads I d x v hd rx
  obtain ⟨bs, r2⟩ := Dp.reads I e y u he ry
  exact SeqAt.eq_plain r1 r2 sd se (by omega) ⟨.bl _, H, I, rfl, q⟩
theorem op_neN (hu : X.A.units + 64 < cLine) : OpR X (compareOp .NotEq) (fun x y H Q => ∃ d e, Dp X.K H x d ∧ Dp X.K H y e ∧ d.plain = true ∧ e.plain = true ∧ min d.depth e.depth ≤ 64 ∧ Q (.bl (!PyData.eqv d e)) H) := by
  intro pins s σ H x y v u Q I rx ry h
  obtain ⟨d, e, hd, he, sd, se, hm, q⟩ := h
  obtain ⟨as, r1⟩ := Dp.reads I d x v hd rx
  obtain ⟨bs, r2⟩ := Dp.reads I e y u he ry
  exact SeqAt.ne_plain r1 r2 sd se (by omega) ⟨.bl _, H, I, rfl, q⟩
theorem dec_iff {α β : Type} [DecidableEq α] [DecidableEq β] {a b : α} {c d : β} (h : a = b ↔ c = d) : decide (a = b) = decide (c = d) := by
  rw [Bool.eq_iff_iff]; simp [h]
theorem oq_eq (hu : X.A.units + 64 < cLine) : OpQ X (compareOp .Eq) bEq := by
  intro pins s σ H a b v u Q I ra rb ⟨x, y, M, G, Q0, rx, ry, w, q, L⟩
  have data : ∀ {x y : PV}, (match dat M x, dat M y with
      | some d, some e => min d.depth e.depth ≤ 64 ∧ Q0 (.bl (if false then !PyData.eqv d e else PyData.eqv d e)) M
      | _, _ => False) → Rep X.K G x a → Rep X.K G y b → wpAny (model X.prog X.w) X.A (compareOp .Eq v u) (EP X pins σ Q) X.xe s := fun {x y} q rx ry => by
    cases hx : dat M x with
    | none => rw [hx] at q; exact q.elim
    | some d =>
      cases hy : dat M y with
      | none => rw [hx, hy] at q; exact q.elim
      | some e =>
        rw [hx, hy] at q
        exact op_eqN hu pins s σ H a b v u Q I ra rb ⟨d, e, dat_dp w hx rx, dat_dp w hy ry, dat_plain hx, dat_plain hy, q.1, give L w (x := .bl _) rfl q.2⟩
  cases x <;> cases y <;> first
    | exact data q rx ry
    | (cases rx; cases ry; exact op_eq pins s σ H _ _ v u Q I ra rb ⟨rfl, give L w (x := .bl _) (show V.bl _ = V.bl _ by simp) q⟩)
theorem oq_ne (hu : X.A.units + 64 < cLine) : OpQ X (compareOp .NotEq) bNe := by
  intro pins s σ H a b v u Q I ra rb ⟨x, y, M, G, Q0, rx, ry, w, q, L⟩
  have data : ∀ {x y : PV}, (match dat M x, dat M y with
      | some d, some e => min d.depth e.depth ≤ 64 ∧ Q0 (.bl (if true then !PyData.eqv d e else PyData.eqv d e)) M
      | _, _ => False) → Rep X.K G x a → Rep X.K G y b → wpAny (model X.prog X.w) X.A (compareOp .NotEq v u) (EP X pins σ Q) X.xe s := fun {x y} q rx ry => by
    cases hx : dat M x with
    | none => rw [hx] at q; exact q.elim
    | some d =>
      cases hy : dat M y with
      | none => rw [hx, hy] at q; exact q.elim
      | some e =>
        rw [hx, hy] at q
        exact op_neN hu pins s σ H a b v u Q I ra rb ⟨d, e, dat_dp w hx rx, dat_dp w hy ry, dat_plain hx, dat_plain hy, q.1, give L w (x := .bl _) rfl q.2⟩
  cases x <;> cases y <;> first
    | exact data q rx ry
    | (cases rx; cases ry; exact op_ne pins s σ H _ _ v u Q I ra rb ⟨rfl, give L w (x := .bl _) (show V.bl _ = V.bl _ by simp) q⟩)
theorem rep_non {K : PySem.W.Frag} {G : Hp} {x : PV} {v : V} (r : Rep K G x v) : decide (v = V.non) = (match x with
    | .non => true
    | _ => false) := by
  cases x with
  | non => cases r; rfl
  | tup xs => obtain ⟨a, vs, rfl, _⟩ := r; rfl
  | lst xs => obtain ⟨a, vs, rfl, _⟩ := r; rfl
  | scr xs => obtain ⟨a, rfl, _⟩ := r; rfl
  | obj C ns xs => obtain ⟨a, dx, vs, rfl, _⟩ := r; rfl
  | exc a d x => obtain ⟨rfl, _⟩ := r; rfl
  | eo a D d x => obtain ⟨rfl, _⟩ := r; rfl
  | _ => cases r; rfl
theorem oq_isN : OpQ X (compareOp .Is) (bIsN false) := by
  intro pins s σ H a b v u Q I ra rb ⟨x, y, M, G, Q0, rx, ry, w, q, L⟩
  cases y <;> first
    | exact q.elim
    | (refine op_isN pins s σ H a b v u Q I ra rb ⟨ry, ?_⟩
       rw [rep_non rx]
       cases x <;> exact give L w (x := .bl _) rfl q)
theorem oq_notN : OpQ X (compareOp .IsNot) (bIsN true) := by
  intro pins s σ H a b v u Q I ra rb ⟨x, y, M, G, Q0, rx, ry, w, q, L⟩
  cases y <;> first
    | exact q.elim
    | (refine op_notN pins s σ H a b v u Q I ra rb ⟨ry, ?_⟩
       rw [rep_non rx]
       cases x <;> exact give L w (x := .bl _) rfl q)
end

/-! ### tests, and, or, not, a if t else b -/
section
variable {X : Cx} {W : WX} {pos : Pos}
/-- a value that is a truth, as a test -/
def qTst (t : QT) : QB := fun env M Q E => t env M (fun x M1 => ∃ b, x = .bl b ∧ Q b M1) E
theorem tie_tst {t : QT} {σ : L2.St} {H : Hp} {Q : Bool → Hp → Prop} (h : tieB X.K W (qTst t) σ H Q) : tie X.K W t σ H fun x H1 => ∃ c, x = .bl c ∧ Q c H1 := by
  obtain ⟨env, M, G, Q0, E0, S, q, L, LE⟩ := h
  refine ⟨env, M, G, _, E0, S, q, fun x M1 v H1 G1 e1 w1 r1 q1 => ?_, LE⟩
  obtain ⟨b, rfl, q1⟩ := q1
  exact ⟨b, r1, L b M1 H1 G1 e1 w1 q1⟩
theorem qt_cmp {op : CmpOp} {a b : Expr} {ta tb : QT} {f : F2} (ho : OpQ X (compareOp op) f) (ha : QE X W a ta) (hb : QE X W b tb) (hm : behindInMarks op b = false := by first | exact nomark _ | rfl) : QPT X W (.Compare a [op] [b] pos) (qTst (q2 f ta tb)) :=
  (pt_cmpR ho ha hb hm).imp fun σ H Q h => tie2 (fun _ _ _ _ z => z) (tie_tst h)
theorem qt_val {e : Expr} {t : QT} (h : QE X W e t) (he : ∀ whole, isTrue e X.env whole = (do let v ← whole; standAt e.pos; holding [v] (truthy v)) := by intro _; rfl) : QPT X W e (qTst t) :=
  (pt_val h he).imp fun σ H Q h => tie_tst h
def qAnd (t u : QB) : QB := fun env M Q E => t env M (fun c M1 => if c = true then u env M1 Q E else Q false M1) E
def qOr (t u : QB) : QB := fun env M Q E => t env M (fun c M1 => if c = true then Q true M1 else u env M1 Q E) E
def qNot (t : QB) : QB := fun env M Q E => t env M (fun c M1 => Q (!c) M1) E
abbrev QPW (X : Cx) (W : WX) (e : Expr) (t : QB) : Prop := PW X e (tieB X.K W t)
theorem qw_one_and {a : Expr} {t : QB} (h : QPT X W a t) : QPW X W (.BoolOp .And [a] pos) t := pw_and1 h
theorem qw_one_or {a : Expr} {t : QB} (h : QPT X W a t) : QPW X W (.BoolOp .Or [a] pos) t := pw_or1 h
theorem qw_and {a b : Expr} {rest : List Expr} {t u : QB} (h : QPT X W a t) (k : QPW X W (.BoolOp .And (b :: rest) pos) u) : QPW X W (.BoolOp .And (a :: b :: rest) pos) (qAnd t u) :=
  (pw_and h k).imp fun σ H Q hh => by
    obtain ⟨env, M, G, Q0, E0, S, q, L, LE⟩ := hh
    refine ⟨env, M, G, _, E0, S, q, fun c M1 H1 G1 e1 w1 q1 => ?_, LE⟩
    cases c with
    | true => exact ⟨env, M1, G1, Q0, E0, S.to e1 w1, q1, L.mono e1, LE.mono e1⟩
    | false => exact L false M1 H1 G1 e1 w1 q1
theorem qw_or {a b : Expr} {rest : List Expr} {t u : QB} (h : QPT X W a t) (k : QPW X W (.BoolOp .Or (b :: rest) pos) u) : QPW X W (.BoolOp .Or (a :: b :: rest) pos) (qOr t u) :=
  (pw_or h k).imp fun σ H Q hh => by
    obtain ⟨env, M, G, Q0, E0, S, q, L, LE⟩ := hh
    refine ⟨env, M, G, _, E0, S, q, fun c M1 H1 G1 e1 w1 q1 => ?_, LE⟩
    cases c with
    | false => exact ⟨env, M1, G1, Q0, E0, S.to e1 w1, q1, L.mono e1, LE.mono e1⟩
    | true => exact L true M1 H1 G1 e1 w1 q1
theorem qt_w {e : Expr} {t : QB} (h : QPW X W e t) : QPT X W e t := PW.pt h
theorem qt_not {a : Expr} {t : QB} (h : QPT X W a t) : QPT X W (.UnaryOp .Not a pos) (qNot t) := (pt_not h).imp fun σ H Q hh => by
  obtain ⟨env, M, G, Q0, E0, S, q, L, LE⟩ := hh
  exact ⟨env, M, G, _, E0, S, q, fun c M1 H1 G1 e1 w1 q1 => L (!c) M1 H1 G1 e1 w1 q1, LE⟩
/-- as values -/
def qAndV (t u : QT) : QT := fun env M Q E => t env M (fun x M1 => ∃ c, x = .bl c ∧ if c = true then u env M1 Q E else Q (.bl false) M1) E
def qOrV (t u : QT) : QT := fun env M Q E => t env M (fun x M1 => ∃ c, x = .bl c ∧ if c = true then Q (.bl true) M1 else u env M1 Q E) E
def qNotV (t : QT) : QT := fun env M Q E => t env M (fun x M1 => ∃ c, x = .bl c ∧ Q (.bl (!c)) M1) E
def qIf (c : QB) (t u : QT) : QT := fun env M Q E => c env M (fun b M1 => if b = true then t env M1 Q E else u env M1 Q E) E
theorem qe_one {op} {a : Expr} {t : QT} (h : QE X W a t) : QE X W (.BoolOp op [a] pos) t := pe_one h
theorem qe_and {a b : Expr} {rest : List Expr} {t u : QT} (h : QE X W a t) (k : QE X W (.BoolOp .And (b :: rest) pos) u) : QE X W (.BoolOp .And (a :: b :: rest) pos) (qAndV t u) :=
  (pe_and h k).imp fun σ H Q hh => by
    obtain ⟨env, M, G, Q0, E0, S, q, L, LE⟩ := hh
    refine ⟨env, M, G, _, E0, S, q, fun x M1 v H1 G1 e1 w1 r1 q1 => ?_, LE⟩
    obtain ⟨c, rfl, q1⟩ := q1
    refine ⟨c, r1, ?_⟩
    cases c with
    | true => exact ⟨env, M1, G1, Q0, E0, S.to e1 w1, q1, L.mono e1, LE.mono e1⟩
    | false => exact L (.bl false) M1 _ H1 G1 e1 w1 rfl q1
theorem qe_or {a b : Expr} {rest : List Expr} {t u : QT} (h : QE X W a t) (k : QE X W (.BoolOp .Or (b :: rest) pos) u) : QE X W (.BoolOp .Or (a :: b :: rest) pos) (qOrV t u) :=
  (pe_or h k).imp fun σ H Q hh => by
    obtain ⟨env, M, G, Q0, E0, S, q, L, LE⟩ := hh
    refine ⟨env, M, G, _, E0, S, q, fun x M1 v H1 G1 e1 w1 r1 q1 => ?_, LE⟩
    obtain ⟨c, rfl, q1⟩ := q1
    refine ⟨c, r1, ?_⟩
    cases c with
    | false => exact ⟨env, M1, G1, Q0, E0, S.to e1 w1, q1, L.mono e1, LE.mono e1⟩
    | true => exact L (.bl true) M1 _ H1 G1 e1 w1 rfl q1
theorem qe_not {a : Expr} {t : QT} (h : QE X W a t) : QE X W (.UnaryOp .Not a pos) (qNotV t) := (pe_not h).imp fun σ H Q hh => by
  obtain ⟨env, M, G, Q0, E0, S, q, L, LE⟩ := hh
  refine ⟨env, M, G, _, E0, S, q, fun x M1 v H1 G1 e1 w1 r1 q1 => ?_, LE⟩
  obtain ⟨c, rfl, q1⟩ := q1
  exact ⟨c, r1, L (.bl (!c)) M1 _ H1 G1 e1 w1 rfl q1⟩
theorem qe_if {c a b : Expr} {tc : QB} {t u : QT} (hc : QPT X W c tc) (h : QE X W a t) (k : QE X W b u) : QE X W (.IfExp c a b pos) (qIf tc t u) := (pe_ifExp hc h k).imp fun σ H Q hh => by
  obtain ⟨env, M, G, Q0, E0, S, q, L, LE⟩ := hh
  refine ⟨env, M, G, _, E0, S, q, fun c M1 H1 G1 e1 w1 q1 => ?_, LE⟩
  cases c with
  | true => exact ⟨env, M1, G1, Q0, E0, S.to e1 w1, q1, L.mono e1, LE.mono e1⟩
  | false => exact ⟨env, M1, G1, Q0, E0, S.to e1 w1, q1, L.mono e1, LE.mono e1⟩
end
end TQ

namespace TQ
open PySem PySem.Spec PyProof.Rows L2
/-! ### arguments, displays -/
section
variable {X : Cx} {W : WX} {pos : Pos}
def qNil : QA := fun _ M Q _ => Q [] M
def qCons (t : QT) (r : QA) : QA := fun env M Q E => t env M (fun x M1 => r env M1 (fun xs M2 => Q (x :: xs) M2) E) E
theorem qa_nil : QPA X W [] qNil := pa_nil.imp fun σ H Q ⟨env, M, G, Q0, E0, S, q, L, LE⟩ => L [] M [] H G (Ext.refl G) S.wf Reps.nil q
theorem qa_cons {e : Expr} {es : List Expr} {t : QT} {r : QA} (h : QE X W e t) (k : QPA X W es r) (hs : starEach (e :: es) X.env = (false, eval e X.env) :: starEach es X.env := by rfl) : QPA X W (e :: es) (qCons t r) :=
  (pa_cons h k hs).imp fun σ H Q ⟨env, M, G, Q0, E0, S, q, L, LE⟩ => by
    refine ⟨env, M, G, _, E0, S, q, fun x M1 v H1 G1 e1 w1 r1 q1 => ?_, LE⟩
    refine ⟨env, M1, G1, _, E0, S.to e1 w1, q1, fun xs M2 vs H2 G2 e2 w2 r2 q2 => ?_, LE.mono e1⟩
    exact L (x :: xs) M2 (v :: vs) H2 G2 (e1.trans e2) w2 (Reps.cons (Rep.mono e2 x v r1) r2) q2
def qTup (t : QA) : QT := fun env M Q E => t env M (fun xs M1 => xs.length ≤ sizeLine ∧ Q (.tup xs) M1) E
def qLst (t : QA) : QT := fun env M Q E => t env M (fun xs M1 => xs.length ≤ sizeLine ∧ Q (.lst xs) M1) E
/-- a list that will be written -/
def qLstM (t : QA) : QT := fun env M Q E => t env M (fun xs M1 => xs.length ≤ sizeLine ∧ ∀ p, M1 p = none → Q (.ref p) (mset M1 p (.lst xs))) E
theorem qe_tup {es : List Expr} {t : QA} {j} (h : QPA X W es t) : QE X W (.Tuple es j pos) (qTup t) := (pe_tup h).imp fun σ H Q ⟨env, M, G, Q0, E0, S, q, L, LE⟩ => by
  refine ⟨env, M, G, _, E0, S, q, fun xs M1 vs H1 G1 e1 w1 r1 q1 => ?_, LE⟩
  exact ⟨by rw [← r1.length]; exact q1.1, fun p hp => give_tup (L.mono e1) w1 hp r1 q1.2⟩
theorem qe_lst {es : List Expr} {t : QA} (h : QPA X W es t) : QE X W (.List es pos) (qLst t) := (pe_lst h).imp fun σ H Q ⟨env, M, G, Q0, E0, S, q, L, LE⟩ => by
  refine ⟨env, M, G, _, E0, S, q, fun xs M1 vs H1 G1 e1 w1 r1 q1 => ?_, LE⟩
  exact ⟨by rw [← r1.length]; exact q1.1, fun p hp => give_lst (L.mono e1) w1 hp r1 q1.2⟩
theorem give_ref {K : PySem.W.Frag} {G H : Hp} {M : Mem} {Q0 : PK} {Q : VK} {p : Addr} {o : HO} {m : MO} (L : LiftV K G Q0 Q) (w : Wf K M H G) (hg : G p = none) (r : MOk K G (upd H p o) p m) (q : Q0 (.ref p) (mset M p m)) (hf : NFix H p := by first | exact Or.inl (by assumption) | (refine Or.inr ⟨_, by assumption, ?_⟩; exact fun z => z)) : Q (.ref p) (upd H p o) :=
  L (.ref p) _ _ _ G (Ext.refl G) (w.put hg r hf) rfl q
theorem qe_lstM {es : List Expr} {t : QA} (h : QPA X W es t) : QE X W (.List es pos) (qLstM t) := (pe_lst h).imp fun σ H Q ⟨env, M, G, Q0, E0, S, q, L, LE⟩ => by
  refine ⟨env, M, G, _, E0, S, q, fun xs M1 vs H1 G1 e1 w1 r1 q1 => ?_, LE⟩
  exact ⟨by rw [← r1.length]; exact q1.1, fun p hp => give_ref (L.mono e1) w1 (w1.free hp) (mok_lst r1) (q1.2 p (w1.freeM hp))⟩
end

/-! ### items, slices -/
def bIx : F2 := fun x y M Q => match y with
  | .int i => (match x with
    | .tup xs => ∃ v, atI xs i = some v ∧ Q v M
    | .str z => z.length ≤ sizeLine ∧ ∃ c, atI z.cps.toList i = some c ∧ Q (.str ⟨#[c]⟩) M
    | x => match sqA M x with
      | some xs => ∃ v, atI xs i = some v ∧ Q v M
      | none => False)
  | _ => False
theorem atI_rep {K : PySem.W.Frag} {G : Hp} {xs : List PV} {vs : List V} {i : Int} {x : PV} (r : Reps K G xs vs) (h : atI xs i = some x) : ∃ v, atI vs i = some v ∧ Rep K G x v := by
  unfold atI at h ⊢
  rw [← r.length]
  cases hi : ixN xs.length i with
  | none => rw [hi] at h; cases h
  | some j =>
    rw [hi] at h
    exact r.get (show xs[j]? = some x from h)
def bSl (lo hi : Option Int) (x : PV) (M : Mem) (Q : PK) : Prop := match x with
  | .str z => z.length ≤ sizeLine ∧ Q (.str (cutS z lo hi)) M
  | .tup xs => ¬ (HT.sIx xs.length 0 lo = 0 ∧ HT.sIx xs.length xs.length hi = xs.length) ∧ Q (.tup ((xs.drop (HT.sIx xs.length 0 lo)).take (HT.sIx xs.length xs.length hi - HT.sIx xs.length 0 lo))) M
  | x => match sqA M x with
    | some xs => Q (.lst ((xs.drop (HT.sIx xs.length 0 lo)).take (HT.sIx xs.length xs.length hi - HT.sIx xs.length 0 lo))) M
    | none => False
section
variable {X : Cx} {W : WX} {pos : Pos}
theorem ixq : IxR X (fun a b H Q => ∃ x y M G Q0, Rep X.K G x a ∧ Rep X.K G y b ∧ Wf X.K M H G ∧ bIx x y M Q0 ∧ LiftV X.K G Q0 Q) := by
  intro value slice pins s σ H a b v u Q I ra rb ⟨x, y, M, G, Q0, rx, ry, w, q, L⟩ hs
  have sq1 : ∀ {x : PV} {i : Int}, (match sqA M x with
      | some xs => ∃ v, atI xs i = some v ∧ Q0 v M
      | none => False) → Rep X.K G x a → Rep X.K G (.int i) b → wpAny (model X.prog X.w) X.A (subscriptTail value slice v u) (EP X pins σ Q) X.xe s := fun {x i} q rx ry => by
    cases hx : sqA M x with
    | none => rw [hx] at q; exact q.elim
    | some xs =>
      rw [hx] at q
      obtain ⟨z, hz, q⟩ := q
      obtain ⟨p, vs, e1, h1, r1⟩ := sqA_H hx rx w
      obtain ⟨zv, h2, r2⟩ := atI_rep r1 hz
      exact ix_list value slice pins s σ H a b v u Q I ra rb ⟨p, vs, i, zv, e1, ry, h1, h2, give L w r2 q⟩ hs
  cases y with
  | int i =>
    cases x with
    | tup xs =>
      obtain ⟨z, hz, q⟩ := q
      obtain ⟨p, vs, e1, h1, r1⟩ := rx
      obtain ⟨zv, h2, r2⟩ := atI_rep r1 hz
      exact ix_tup value slice pins s σ H a b v u Q I ra rb ⟨p, vs, i, zv, e1, ry, ext_t w.sub h1, h2, give L w r2 q⟩ hs
    | str z =>
      obtain ⟨hz, c, hc, q⟩ := q
      exact ix_str value slice pins s σ H a b v u Q I ra rb ⟨z, i, c, rx, ry, hz, hc, give L w (x := .str _) rfl q⟩ hs
    | _ => exact sq1 q rx ry
  | _ => exact q.elim
theorem qe_ix {a b : Expr} {ta tb : QT} (ha : QE X W a ta) (hb : QE X W b tb) (hp : PlainIx b := by exact fun _ _ => rfl) : QE X W (.Subscript a b pos) (q2 bIx ta tb) :=
  (pe_ix ixq ha hb hp).imp fun σ H Q h => tie2 (fun _ _ _ _ z => z) h
abbrev QO := Sl → Mem → (Option Int → Mem → Prop) → EK → Prop
def qoNone : QO := fun _ M Q _ => Q none M
def qoSome (t : QT) : QO := fun env M Q E => t env M (fun x M1 => ∃ i, x = .int i ∧ Q (some i) M1) E
def tieO (K : PySem.W.Frag) (W : WX) (t : QO) : TO := fun σ H Q => ∃ env M G Q0 E0, Sim K env M G σ H ∧ t env M Q0 E0 ∧ (∀ o M' H' G', Ext G G' → Wf K M' H' G' → Q0 o M' → Q o H') ∧ LiftE K G E0 (WE W σ)
abbrev QPO (X : Cx) (W : WX) (e : Option Expr) (t : QO) : Prop := PO X e (tieO X.K W t)
theorem _root_.L2.PO.imp {e : Option Expr} {t t' : TO} (h : PO X e t) (f : ∀ σ H Q, t' σ H Q → t σ H Q) : PO X e t' := ⟨fun pins s σ H Q I q => h.run pins s σ H Q I (f σ H Q q)⟩
theorem qo_none : QPO X W none qoNone := po_none.imp fun σ H Q ⟨env, M, G, Q0, E0, S, q, L, LE⟩ => L none M H G (Ext.refl G) S.wf q
theorem qo_some {e : Expr} {t : QT} (h : QE X W e t) : QPO X W (some e) (qoSome t) := (po_some h).imp fun σ H Q ⟨env, M, G, Q0, E0, S, q, L, LE⟩ => by
  refine ⟨env, M, G, _, E0, S, q, fun x M1 v H1 G1 e1 w1 r1 q1 => ?_, LE⟩
  obtain ⟨i, rfl, q1⟩ := q1
  exact ⟨i, r1, L (some i) M1 H1 G1 e1 w1 q1⟩
def qSl (t : QT) (lo hi : QO) : QT := fun env M Q E => t env M (fun x M1 => lo env M1 (fun l M2 => hi env M2 (fun u M3 => bSl l u x M3 Q) E) E) E
def rSlQ (K : PySem.W.Frag) : V → Option Int → Option Int → Hp → VK → Prop := fun a lo hi H Q => ∃ x M G Q0, Rep K G x a ∧ Wf K M H G ∧ bSl lo hi x M Q0 ∧ LiftV K G Q0 Q
theorem cut_rep {K : PySem.W.Frag} {G : Hp} {xs : List PV} {vs : List V} (lo hi : Option Int) (r : Reps K G xs vs) :
    Reps K G ((xs.drop (HT.sIx xs.length 0 lo)).take (HT.sIx xs.length xs.length hi - HT.sIx xs.length 0 lo)) (cutV vs lo hi) := by
  unfold cutV
  rw [r.length]
  exact (r.drop _).take _
theorem slq : SlR X (rSlQ X.K) := by
  intro pins s σ H a v vl vu lo hi sl Q I ra hs pl pu ⟨x, M, G, Q0, rx, w, q, L⟩
  have sq1 : ∀ {x : PV}, (match sqA M x with
      | some xs => Q0 (.lst ((xs.drop (HT.sIx xs.length 0 lo)).take (HT.sIx xs.length xs.length hi - HT.sIx xs.length 0 lo))) M
      | none => False) → Rep X.K G x a → ∃ T id, typeLookup (.type T) "__getitem__" = pure (some (.builtin id)) ∧ s.TypeIs v T ∧ wpAny (model X.prog X.w) X.A (getItem v (.ref sl)) (EP X pins σ Q) X.xe s := fun {x} q rx => by
    cases hx : sqA M x with
    | none => rw [hx] at q; exact q.elim
    | some xs =>
      rw [hx] at q
      obtain ⟨p, vs, e1, h1, r1⟩ := sqA_H hx rx w
      exact sl_list pins s σ H a v vl vu lo hi sl Q I ra hs pl pu ⟨p, vs, e1, h1, fun p hp => give_lst L w hp (cut_rep lo hi r1) q⟩
  cases x with
  | str z => exact sl_str pins s σ H a v vl vu lo hi sl Q I ra hs pl pu ⟨z, rx, q.1, give L w (x := .str _) rfl q.2⟩
  | tup xs =>
    obtain ⟨p, vs, e1, h1, r1⟩ := rx
    exact sl_tup pins s σ H a v vl vu lo hi sl Q I ra hs pl pu ⟨p, vs, e1, ext_t w.sub h1, by rw [← r1.length]; exact q.1, fun p hp => give_tup L w hp (cut_rep lo hi r1) q.2⟩
  | _ => exact sq1 q rx
theorem qe_slice {e : Expr} {lo hi : Option Expr} {t : QT} {tl th : QO} {p2 : Pos} (he : QE X W e t) (hl : QPO X W lo tl) (hu : QPO X W hi th) : QE X W (.Subscript e (.Slice lo hi none p2) pos) (qSl t tl th) :=
  (pe_slice slq he hl hu).imp fun σ H Q ⟨env, M, G, Q0, E0, S, q, L, LE⟩ => by
    refine ⟨env, M, G, _, E0, S, q, fun x M1 v H1 G1 e1 w1 r1 q1 => ?_, LE⟩
    refine ⟨env, M1, G1, _, E0, S.to e1 w1, q1, fun l M2 H2 G2 e2 w2 q2 => ?_, LE.mono e1⟩
    refine ⟨env, M2, G2, _, E0, S.to (e1.trans e2) w2, q2, fun u M3 H3 G3 e3 w3 q3 => ?_, LE.mono (e1.trans e2)⟩
    exact ⟨x, M3, G3, Q0, Rep.mono (e2.trans e3) x v r1, w3, q3, L.mono ((e1.trans e2).trans e3)⟩
end

/-! ### built-ins by name -/
abbrev FC := List PV → Mem → PK → Prop
def CallQ (X : Cx) (f : Value) (r : FC) : Prop := CallR X f fun vs H Q => ∃ xs M G Q0, Reps X.K G xs vs ∧ Wf X.K M H G ∧ r xs M Q0 ∧ LiftV X.K G Q0 Q
def qCB (r : FC) (t : QA) : QT := fun env M Q E => t env M (fun xs M1 => r xs M1 Q) E
section
variable {X : Cx} {W : WX} {pos : Pos}
theorem tieCB {r : FC} {t : QA} {σ : L2.St} {H : Hp} {Q : VK} (h : tie X.K W (qCB r t) σ H Q) : tCB (fun vs H Q => ∃ xs M G Q0, Reps X.K G xs vs ∧ Wf X.K M H G ∧ r xs M Q0 ∧ LiftV X.K G Q0 Q) (tieA X.K W t) σ H Q := by
  obtain ⟨env, M, G, Q0, E0, S, q, L, LE⟩ := h
  exact ⟨env, M, G, _, E0, S, q, fun xs M1 vs H1 G1 e1 w1 r1 q1 => ⟨xs, M1, G1, Q0, r1, w1, q1, L.mono e1⟩, LE⟩
theorem qe_callB {id : String} {x : Str} {p : Pos} {e : Expr} {es : List Expr} {r : FC} {t : QA} (hc : CallQ X (.builtin id) r) (hm : X.mg x = none) (ha : QPA X W (e :: es) t) (hg : Gl X x := by rfl) (hv : bootBuiltins x = some (.builtin id) := by decide +kernel) (hn : x ≠ "__name__" := by decide) (hdb : (x == ("__debug__" : Str)) = false := by decide)
    (he : starEach (e :: es) X.env = (false, eval e X.env) :: starEach es X.env := by rfl) (hpl : (backTo pos (starEach es X.env)).any (·.1) = false := by rfl) : QE X W (.Call (.Name x p) (e :: es) [] pos) (qCB r t) :=
  (pe_callB hc hg hm hv ha hn hdb he hpl).imp fun σ H Q h => tieCB h
theorem qe_callT {T : String} {x : Str} {p : Pos} {e : Expr} {es : List Expr} {r : FC} {t : QA} (hc : CallQ X (.type T) r) (hm : X.mg x = none) (ha : QPA X W (e :: es) t) (hg : Gl X x := by rfl) (hv : bootBuiltins x = some (.type T) := by decide +kernel) (hn : x ≠ "__name__" := by decide) (hdb : (x == ("__debug__" : Str)) = false := by decide)
    (he : starEach (e :: es) X.env = (false, eval e X.env) :: starEach es X.env := by rfl) (hpl : (backTo pos (starEach es X.env)).any (·.1) = false := by rfl) : QE X W (.Call (.Name x p) (e :: es) [] pos) (qCB r t) :=
  (pe_callTy hc hg hm hv ha hn hdb he hpl).imp fun σ H Q h => tieCB h
theorem reps1 {K : PySem.W.Frag} {G : Hp} {x : PV} {vs : List V} (r : Reps K G [x] vs) : ∃ v, vs = [v] ∧ Rep K G x v := by
  obtain ⟨v, ws, rfl, h, h2⟩ := r
  cases h2
  exact ⟨v, rfl, h⟩
theorem reps2 {K : PySem.W.Frag} {G : Hp} {x y : PV} {vs : List V} (r : Reps K G [x, y] vs) : ∃ v u, vs = [v, u] ∧ Rep K G x v ∧ Rep K G y u := by
  obtain ⟨v, ws, rfl, h, h2⟩ := r
  obtain ⟨u, rfl, h3⟩ := reps1 h2
  exact ⟨v, u, rfl, h, h3⟩
def len1 (x : PV) (M : Mem) (Q : PK) : Prop := match x with
  | .str z => z.length ≤ sizeLine ∧ Q (.int z.length) M
  | .tup ys => Q (.int ys.length) M
  | x => match sqA M x with
    | some ys => Q (.int ys.length) M
    | none => False
def cLen : FC := fun xs M Q => match xs with
  | [x] => len1 x M Q
  | _ => False
theorem cq_len : CallQ X (.builtin "len") cLen := by
  intro pins s σ H vs us Q I r ⟨xs, M, G, Q0, rx, w, q, L⟩
  unfold cLen at q
  split at q
  · rename_i x
    obtain ⟨v, rfl, rz⟩ := reps1 rx
    clear rx
    have sq1 : ∀ {x : PV}, (match sqA M x with
        | some ys => Q0 (.int ys.length) M
        | none => False) → Rep X.K G x v → wpAny (model X.prog X.w) X.A (call (.builtin "len") us) (EP X pins σ Q) X.xe s := fun {x} q rx => by
      cases hx : sqA M x with
      | none => rw [hx] at q; exact q.elim
      | some ys =>
        rw [hx] at q
        obtain ⟨p, ws, rfl, h1, r1⟩ := sqA_H hx rx w
        exact call_len pins s σ H _ us Q I r ⟨_, ws.length, rfl, .inl ⟨ws, h1, rfl⟩, give L w (x := .int ws.length) rfl (by rw [← r1.length]; exact q)⟩
    unfold len1 at q
    split at q
    · cases rz
      exact call_len pins s σ H _ us Q I r ⟨.str _, _, rfl, ⟨q.1, rfl⟩, give L w (x := .int _) rfl q.2⟩
    · obtain ⟨p, ws, rfl, h1, r1⟩ := rz
      exact call_len pins s σ H _ us Q I r ⟨_, ws.length, rfl, .inr ⟨ws, ext_t w.sub h1, rfl⟩, give L w (x := .int ws.length) rfl (by rw [← r1.length]; exact q)⟩
    · exact sq1 q rz
  · exact q.elim
def cMax : FC := fun xs M Q => match xs with
  | [.int i, .int j] => Q (.int (max i j)) M
  | _ => False
def cMin : FC := fun xs M Q => match xs with
  | [.int i, .int j] => Q (.int (min i j)) M
  | _ => False
def cAbs : FC := fun xs M Q => match xs with
  | [.int i] => Q (.int i.natAbs) M
  | _ => False
def cInt : FC := fun xs M Q => match xs with
  | [.int i] => Q (.int i) M
  | [.bl b] => Q (.int (if b then 1 else 0)) M
  | [.str a] => ∃ n, PySem.intText? a = some n ∧ a.length ≤ 640 ∧ Q (.int n) M
  | _ => False
def cStr : FC := fun xs M Q => match xs with
  | [.int i] => i.natAbs.log2 < 1920 ∧ Q (.str (toString i)) M
  | _ => False
def cDivmod : FC := fun xs M Q => match xs with
  | [.int i, .int j] => CDivP i j ∧ Q (.tup [.int (i / j), .int (i % j)]) M
  | _ => False
theorem cq_max (hc : TC.CoolX X) : CallQ X (.builtin "max") cMax := by
  intro pins s σ H vs us Q I r ⟨xs, M, G, Q0, rx, w, q, L⟩
  unfold cMax at q
  split at q
  · obtain ⟨v, u, rfl, r1, r2⟩ := reps2 rx
    cases r1; cases r2
    exact TC.max2 hc pins s σ H _ us Q I r ⟨_, _, rfl, give L w (x := .int _) (by show V.int _ = V.int _; congr 1; omega) q⟩
  · exact q.elim
theorem cq_min (hc : TC.CoolX X) : CallQ X (.builtin "min") cMin := by
  intro pins s σ H vs us Q I r ⟨xs, M, G, Q0, rx, w, q, L⟩
  unfold cMin at q
  split at q
  · obtain ⟨v, u, rfl, r1, r2⟩ := reps2 rx
    cases r1; cases r2
    exact TC.min2 hc pins s σ H _ us Q I r ⟨_, _, rfl, give L w (x := .int _) (by show V.int _ = V.int _; congr 1; omega) q⟩
  · exact q.elim
theorem cq_abs : CallQ X (.builtin "abs") cAbs := by
  intro pins s σ H vs us Q I r ⟨xs, M, G, Q0, rx, w, q, L⟩
  unfold cAbs at q
  split at q
  · obtain ⟨v, rfl, r1⟩ := reps1 rx
    cases r1
    exact call_abs pins s σ H _ us Q I r ⟨_, rfl, give L w (x := .int _) (by show V.int _ = V.int _; congr 1; omega) q⟩
  · exact q.elim
theorem cq_int : CallQ X (.type "int") cInt := by
  intro pins s σ H vs us Q I r ⟨xs, M, G, Q0, rx, w, q, L⟩
  unfold cInt at q
  split at q
  · obtain ⟨v, rfl, r1⟩ := reps1 rx
    cases r1
    exact call_int1 pins s σ H _ us Q I r (.inl ⟨_, rfl, give L w (x := .int _) rfl q⟩)
  · obtain ⟨v, rfl, r1⟩ := reps1 rx
    cases r1
    exact call_int1 pins s σ H _ us Q I r (.inr ⟨_, rfl, give L w (x := .int _) rfl q⟩)
  · obtain ⟨v, rfl, r1⟩ := reps1 rx
    cases r1
    obtain ⟨n, h1, h2, q⟩ := q
    exact call_int_str pins s σ H _ us Q I r ⟨_, n, rfl, h1, h2, give L w (x := .int _) rfl q⟩
  · exact q.elim
theorem cq_str : CallQ X (.type "str") cStr := by
  intro pins s σ H vs us Q I r ⟨xs, M, G, Q0, rx, w, q, L⟩
  unfold cStr at q
  split at q
  · obtain ⟨v, rfl, r1⟩ := reps1 rx
    cases r1
    exact call_str_int pins s σ H _ us Q I r ⟨_, rfl, q.1, give L w (x := .str _) rfl q.2⟩
  · exact q.elim
theorem cq_divmod : CallQ X (.builtin "divmod") cDivmod := by
  intro pins s σ H vs us Q I r ⟨xs, M, G, Q0, rx, w, q, L⟩
  unfold cDivmod at q
  split at q
  · obtain ⟨v, u, rfl, r1, r2⟩ := reps2 rx
    cases r1; cases r2
    exact call_divmodW pins s σ H _ us Q I r ⟨_, _, rfl, q.1, fun p hp => give_tup L w hp (Reps.cons (x := .int _) rfl (Reps.one (x := .int _) rfl)) q.2⟩
  · exact q.elim
/-- truths -/
def bls : List PV → Option (List Bool)
  | [] => some []
  | .bl b :: xs => (bls xs).map fun bs => b :: bs
  | _ :: _ => none
theorem bls_rep {K : PySem.W.Frag} {G : Hp} : ∀ {xs : List PV} {vs : List V} {bs : List Bool}, bls xs = some bs → Reps K G xs vs → vs = bs.map V.bl
  | [], _, _, h, r => by cases h; cases r; rfl
  | x :: xs, _, bs, h, r => by
    obtain ⟨v, ws, rfl, h2, h3⟩ := r
    cases x with
    | bl b =>
      replace h : (bls xs).map (fun bs => b :: bs) = some bs := h
      cases hb : bls xs with
      | none => rw [hb] at h; cases h
      | some cs =>
        rw [hb] at h
        cases h
        cases h2
        rw [bls_rep hb h3]
        rfl
    | _ => cases h
def cAll : FC := fun xs M Q => match xs with
  | [x] => (match sq M x with
    | some ys => ∃ bs, bls ys = some bs ∧ Q (.bl (bs.all id)) M
    | none => False)
  | _ => False
def cAny : FC := fun xs M Q => match xs with
  | [x] => (match sq M x with
    | some ys => ∃ bs, bls ys = some bs ∧ Q (.bl (bs.any id)) M
    | none => False)
  | _ => False
theorem cq_all (hc : TC.CoolX X) : CallQ X (.builtin "all") cAll := by
  intro pins s σ H vs us Q I r ⟨xs, M, G, Q0, rx, w, q, L⟩
  unfold cAll at q
  split at q
  · obtain ⟨v, rfl, r1⟩ := reps1 rx
    rename_i x
    cases hx : sq M x with
    | none => rw [hx] at q; exact q.elim
    | some ys =>
      rw [hx] at q
      obtain ⟨bs, hb, q⟩ := q
      obtain ⟨p, ws, rfl, h1, r1⟩ := sq_H hx r1 w
      have e := bls_rep hb r1
      subst e
      exact TC.c_all hc pins s σ H _ us Q I r ⟨_, bs, rfl, SqL.of h1, give L w (x := .bl _) rfl q⟩
  · exact q.elim
theorem cq_any (hc : TC.CoolX X) : CallQ X (.builtin "any") cAny := by
  intro pins s σ H vs us Q I r ⟨xs, M, G, Q0, rx, w, q, L⟩
  unfold cAny at q
  split at q
  · obtain ⟨v, rfl, r1⟩ := reps1 rx
    rename_i x
    cases hx : sq M x with
    | none => rw [hx] at q; exact q.elim
    | some ys =>
      rw [hx] at q
      obtain ⟨bs, hb, q⟩ := q
      obtain ⟨p, ws, rfl, h1, r1⟩ := sq_H hx r1 w
      have e := bls_rep hb r1
      subst e
      exact TC.c_any hc pins s σ H _ us Q I r ⟨_, bs, rfl, SqL.of h1, give L w (x := .bl _) rfl q⟩
  · exact q.elim
def qBits (t : QT) : QT := fun env M Q E => t env M (fun x M1 => ∃ i, x = .int i ∧ Q (.int (Builtin.Int.intBits i : Nat)) M1) E
theorem qe_bits {o : Expr} {t : QT} {apos : Pos} (ho : QE X W o t) (hbase : attributeBase o "bit_length" X.env (eval o X.env) = eval o X.env := by rfl) (hline : (apos.endLine == pos.line) = true := by rfl) : QE X W (.Call (.Attribute o "bit_length" apos) [] [] pos) (qBits t) :=
  (pe_bits ho hbase hline).imp fun σ H Q ⟨env, M, G, Q0, E0, S, q, L, LE⟩ => by
    refine ⟨env, M, G, _, E0, S, q, fun x M1 v H1 G1 e1 w1 r1 q1 => ?_, LE⟩
    obtain ⟨i, rfl, q1⟩ := q1
    exact ⟨i, r1, give (L.mono e1) w1 (x := .int _) rfl q1⟩
def qNeg (t : QT) : QT := fun env M Q E => t env M (fun x M1 => ∃ i, x = .int i ∧ Q (.int (-i)) M1) E
theorem qe_neg {a : Expr} {t : QT} (h : QE X W a t) : QE X W (.UnaryOp .USub a pos) (qNeg t) := (pe_un un_neg h).imp fun σ H Q ⟨env, M, G, Q0, E0, S, q, L, LE⟩ => by
  refine ⟨env, M, G, _, E0, S, q, fun x M1 v H1 G1 e1 w1 r1 q1 => ?_, LE⟩
  obtain ⟨i, rfl, q1⟩ := q1
  exact ⟨i, r1, give (L.mono e1) w1 (x := .int _) rfl q1⟩
end
end TQ

namespace TQ
open PySem PySem.Spec PyProof.Rows L2
/-! ### promises -/
abbrev SpQ := List PV → Mem → PK → EK → Prop
def spQ (K : PySem.W.Frag) (s : SpQ) : Sp := fun vs H Q E => ∃ xs M G Q0 E0, Reps K G xs vs ∧ Wf K M H G ∧ s xs M Q0 E0 ∧ LiftV K G Q0 Q ∧ LiftE K G E0 E
/-! a def's promise; at h also where an exception is handled meanwhile (there it lets none out) -/
/-- the state of a call: nothing is handled, or the def is such a one and what is handled stands pinned -/
def CoolE (h : Bool) (A : Around) (outer : List Env) (H : Hp) (s : Shared) (E : XK) : Prop := A.handled = none ∨ (h = true ∧ (∃ p, L2H.Hot1 A p ∧ L2H.PinOk outer H s p) ∧ ∀ c d H', ¬ E c d H')
structure FnX (h : Bool) (P : Program) (w : World) (K : PySem.W.Frag) (mg : Str → Option Value) (base : Heap) (k : Nat) (f : Addr) (fd : FuncData) (ps : List Str) (sp : Sp) : Prop where
  len : ∀ vs H Q E, sp vs H Q E → vs.length = ps.length
  run : ∀ (A : Around) (outer : List Env) (s : Shared) (H : Hp) (args : Args) (us : List Value) (vs : List V) (Q : VK) (E : XK), L2H.RoomH k A → CoolE h A outer H s E → Env0 P w K mg base A outer s H → BindsTo s fd args (ps.zip us) → Vals vs us → sp vs H Q E →
    codeAny (model P w) A (.call (.ref f) args) (CR (L2N.CX P w) outer P w H s Q E) s
abbrev FnQ (P : Program) (w : World) (K : PySem.W.Frag) (mg : Str → Option Value) (base : Heap) (k : Nat) (f : Addr) (fd : FuncData) (ps : List Str) (s : SpQ) : Prop := FnX false P w K mg base k f fd ps (spQ K s)
abbrev FnC (P : Program) (w : World) (K : PySem.W.Frag) (mg : Str → Option Value) (base : Heap) (k : Nat) (f : Addr) (fd : FuncData) (ps : List Str) (s : SpQ) : Prop := FnX true P w K mg base k f fd ps (spQ K s)
theorem FnX.ok {h : Bool} {P : Program} {w : World} {K : PySem.W.Frag} {mg : Str → Option Value} {base : Heap} {k : Nat} {f : Addr} {fd : FuncData} {ps : List Str} {sp : Sp} (F : FnX h P w K mg base k f fd ps sp) : FnOk P w K mg base (L2N.CX P w) k f fd ps sp :=
  ⟨F.len, fun A outer s H args us vs Q E hr e0 hb r q => F.run A outer s H args us vs Q E (L2H.roomH_of hr) (.inl hr.hd) e0 hb r q⟩
theorem FnX.of {P : Program} {w : World} {K : PySem.W.Frag} {mg : Str → Option Value} {base : Heap} {k : Nat} {f : Addr} {fd : FuncData} {ps : List Str} {sp : Sp} (F : FnOk P w K mg base (L2N.CX P w) k f fd ps sp) : FnX false P w K mg base k f fd ps sp :=
  ⟨F.len, fun A outer s H args us vs Q E hr c e0 hb r q => c.elim (fun hd => F.run A outer s H args us vs Q E ⟨hd, hr.dp, hr.un⟩ e0 hb r q) fun z => nomatch z.1⟩
theorem FnX.low {h : Bool} {P : Program} {w : World} {K : PySem.W.Frag} {mg : Str → Option Value} {base : Heap} {k : Nat} {f : Addr} {fd : FuncData} {ps : List Str} {sp : Sp} (F : FnX h P w K mg base k f fd ps sp) : FnX false P w K mg base k f fd ps sp := .of F.ok
theorem _root_.L2H.RoomH.units {k : Nat} {A : Around} (r : L2H.RoomH k A) : A.units + 64 < cLine := by have := r.un; omega
/-- where rules about walks and calls hold: calm, or hot and nothing may be let out -/
def CoolW (h : Bool) (X : Cx) (W : WX) : Prop := X.calm = true ∨ (h = true ∧ L2H.HotC X ∧ ∀ c d σ H, ¬ W c d σ H)
theorem CoolW.cool {h : Bool} {X : Cx} {W : WX} (c : CoolW h X W) : TC.CoolX X := c.imp id fun z => z.2.1
theorem CoolW.blk {h : Bool} {X : Cx} {W : WX} (c : CoolW h X W) {s : Shared} {H : Hp} {scope : Scope} {ce : Env} {fp : List Addr} {xe : Value → Shared → Prop} : CoolW h (TC.blkX X s H scope ce fp xe) (fun _ _ _ _ => False) := c.imp id fun z => ⟨z.1, z.2.1, fun _ _ _ _ q => q⟩
theorem CoolW.blkW {h : Bool} {X : Cx} {W : WX} (c : CoolW h X W) {s : Shared} {H : Hp} {scope : Scope} {ce : Env} {fp : List Addr} {xe : Value → Shared → Prop} : CoolW h (TC.blkX X s H scope ce fp xe) W := c
theorem CoolW.at {h : Bool} {X : Cx} {W : WX} (c : CoolW h X W) {pins : List (Addr × Obj)} {σ : L2.St} {H : Hp} {s : Shared} (I : Inv X pins σ H s) : CoolE h X.A X.stack H s (WE W σ) := by
  rcases c with c | ⟨c, ⟨p, hot, hp⟩, n⟩
  · exact .inl (I.ok.hd c)
  · have P1 := I.pin p (List.mem_append_left _ hp)
    exact .inr ⟨c, ⟨p, hot, P1.1, P1.2.1, fun hm => (List.mem_cons.mp (I.stkSub p.1 hm)).elim P1.2.2.1 P1.2.2.2.1, P1.2.2.2.2⟩, fun c d H' => n c d σ H'⟩
/-- the context of a def's body, calm or not -/
abbrev cxB (P : Program) (w : World) (K : PySem.W.Frag) (mg : Str → Option Value) (base : Heap) (N : List Str) (qual : Str) (scope : Scope) (f : Addr) (cd : Value) (A : Around) (outer : List Env) (s : Shared) (H : Hp) (E : XK) (b : Bool) (pl : List (Addr × Obj)) : Cx :=
  { cxOf (L2N.CX P w) P w K mg base N qual scope f cd A outer s H E with calm := b, pn := pl }
theorem takesN0 {X : Cx} : L2N.Takes X (fun _ _ _ _ => False) := fun _ _ ⟨_, _, _, _, _, _, _, _, _, _, _, _, _, _, _, _, z⟩ => z.elim
/-- an except suite is such a place -/
theorem suite_cool {X : Cx} {a : Addr} {oe : Obj} {cls : Value} {d : Option Addr} {pn : List (Addr × Obj)} (hz : L2N.Zn cls d oe) (hv : ∃ vs, oe.data = .fields vs) : CoolW true (X.suite a ((a, oe) :: pn)) (fun _ _ _ _ => False) := by
  obtain ⟨vs, hv⟩ := hv
  exact .inr ⟨rfl, ⟨(a, oe), ⟨rfl, vs, hv, hz.2.2 vs hv⟩, List.mem_cons_self⟩, fun _ _ _ _ z => z⟩
theorem suite_room {X : Cx} {a : Addr} {pn : List (Addr × Obj)} {k : Nat} (hr : L2H.RoomH k X.A) : L2H.RoomH k (X.suite a pn).A := ⟨hr.dp, hr.un⟩
theorem fnX_of {P : Program} {w : World} {K : PySem.W.Frag} {mg : Str → Option Value} {base : Heap} {k : Nat} {f : Addr} {name qual : Str} {params : Arguments} {body : List Stmt} {scope : Scope} {dV kV doc pm cdv ct oc : Value} {an od : Option Addr} {osl : Array (Option Value)} {N ps : List Str} {sp : Sp}
    (lk : K.lookup f = some ⟨oc, od, .func (PySem.W.fnOf name qual params body scope dV kV doc pm an cdv ct), osl⟩) (hcd : PySem.W.codeIn K cdv qual = true) (S : FnScope N ps scope) (len : ∀ vs H Q E, sp vs H Q E → vs.length = ps.length)
    (hbody : ∀ (A : Around) (outer : List Env) (s : Shared) (H : Hp) (vs : List V) (Q : VK) (E : XK) (b : Bool) (pl : List (Addr × Obj)), L2H.RoomH k (A.deeper (envOfC qual scope s.heap.objs.size f cdv)) → CoolW true (cxB P w K mg base N qual scope f cdv A outer s H E b pl) (fun cls d _ H => E cls d H) → sp vs H Q E →
      ∃ t, PSs (cxB P w K mg base N qual scope f cdv A outer s H E b pl) body t ∧ t { nx := fun _ H' => Q .non H', rt := Q } (L2.start N vs) H) :
    FnX true P w K mg base (k + 1) f (PySem.W.fnOf name qual params body scope dV kV doc pm an cdv ct) ps sp := by
  refine ⟨len, fun A outer s H args us vs Q E hr c e0 hb r q => ?_⟩
  rcases c with hd | ⟨_, ⟨p, hot, pin⟩, n⟩
  · have F : FnOk P w K mg base (L2N.CX P w) (k + 1) f (PySem.W.fnOf name qual params body scope dV kV doc pm an cdv ct) ps sp :=
      fn_of lk hcd S len fun A outer s H vs Q E hr h => hbody A outer s H vs Q E true [] (L2H.roomH_of hr) (.inl rfl) h
    exact F.run A outer s H args us vs Q E ⟨hd, hr.dp, hr.un⟩ e0 hb r q
  · have F : L2H.FnH P w K mg base (L2N.CX P w) (k + 1) f (PySem.W.fnOf name qual params body scope dV kV doc pm an cdv ct) ps (fun vs H Q E => sp vs H Q E ∧ ∀ c d H', ¬ E c d H') :=
      L2H.fn_ofH lk hcd S (fun vs H Q E h => len vs H Q E h.1) fun A outer s H vs Q E p hot hr h => hbody A outer s H vs Q E false [p] hr (.inr ⟨rfl, ⟨p, hot, List.mem_singleton_self p⟩, fun c d _ H' => h.2 c d H'⟩) h.1
    exact F.run A outer s H args us vs Q E p hr hot pin e0 hb r ⟨q, n⟩
def startQ (N : List Str) (xs : List PV) : Sl := xs.map some ++ List.replicate (N.length - xs.length) none
theorem start_env {K : PySem.W.Frag} {G : Hp} {N : List Str} {xs : List PV} {vs : List V} (r : Reps K G xs vs) : EnvR K G (startQ N xs) (L2.start N vs) := by
  unfold startQ L2.start
  refine ⟨by simp [r.length], fun i x e => ?_⟩
  by_cases hi : i < xs.length
  · rw [List.getElem?_append_left (by simpa using hi), List.getElem?_map] at e
    cases hx : xs[i]? with
    | none => rw [hx] at e; cases e
    | some y =>
      rw [hx] at e
      cases e
      obtain ⟨v, h1, h2⟩ := r.get hx
      refine ⟨v, ?_, h2⟩
      rw [List.getElem?_append_left (by simpa [← r.length] using hi), List.getElem?_map, h1]
      rfl
  · rw [List.getElem?_append_right (by simpa using hi)] at e
    rw [List.getElem?_replicate] at e
    split at e
    · cases e
    · cases e
section
variable {P : Program} {w : World} {K : PySem.W.Frag} {mg : Str → Option Value} {base : Heap}
theorem okH {x qual : Str} {st : Stmt} {f : Addr} {fd : FuncData} {N ps : List Str} {k : Nat} {s : SpQ} (F : Fun K x qual st f fd) (S : FnScope N ps (defScope st)) (len : ∀ xs M Q E, s xs M Q E → xs.length = ps.length)
    (hbody : ∀ (cdv : Value) (A : Around) (outer : List Env) (s0 : Shared) (H0 : Hp) (E : XK) (b : Bool) (pl : List (Addr × Obj)), L2H.RoomH k (A.deeper (envOfC qual (defScope st) s0.heap.objs.size f cdv)) → CoolW true (cxB P w K mg base N qual (defScope st) f cdv A outer s0 H0 E b pl) (fun cls d _ H => E cls d H) →
      ∃ t, QPSs (cxB P w K mg base N qual (defScope st) f cdv A outer s0 H0 E b pl) (fun cls d _ H => E cls d H) (defBody st) t ∧
        ∀ xs M Q0 E0, s xs M Q0 E0 → t { nx := fun _ M => Q0 .non M, rt := Q0, ex := fun c pl _ M => E0 c pl M } (startQ N xs) M) : FnC P w K mg base (k + 1) f fd ps s := by
  obtain ⟨oc, od, kV, doc, pm, an, cdv, ct, osl, rfl, lk, hcd⟩ := F.ex
  refine fnX_of lk hcd S (fun vs H Q E h => ?_) (fun A outer s0 H vs Q E b pl hr cw h => ?_)
  · obtain ⟨xs, M, G, Q0, E0, r, _, q, _⟩ := h
    rw [← r.length]
    exact len xs M Q0 E0 q
  · obtain ⟨xs, M, G, Q0, E0, r, w, q, L, LE⟩ := h
    obtain ⟨t, h1, h2⟩ := hbody cdv A outer s0 H E b pl hr cw
    refine ⟨_, h1, startQ N xs, M, G, _, ⟨start_env r, w⟩, h2 xs M Q0 E0 q, ?_⟩
    exact ⟨fun env' M' σ' H' G' e S q => L .non M' .non H' G' e S.wf rfl q, L, fun _ _ _ _ _ _ _ q => q, fun _ _ _ _ _ _ _ q => q, fun c pl env' M' d σ' H' G' e S x q => LE c pl M' d H' G' e S.wf x q⟩
theorem okQ {x qual : Str} {st : Stmt} {f : Addr} {fd : FuncData} {N ps : List Str} {k : Nat} {s : SpQ} (F : Fun K x qual st f fd) (S : FnScope N ps (defScope st)) (len : ∀ xs M Q E, s xs M Q E → xs.length = ps.length)
    (hbody : ∀ (cdv : Value) (A : Around) (outer : List Env) (s0 : Shared) (H0 : Hp) (E : XK), L2H.RoomH k (A.deeper (envOfC qual (defScope st) s0.heap.objs.size f cdv)) →
      ∃ t, QPSs (cxOf (L2N.CX P w) P w K mg base N qual (defScope st) f cdv A outer s0 H0 E) (fun cls d _ H => E cls d H) (defBody st) t ∧
        ∀ xs M Q0 E0, s xs M Q0 E0 → t { nx := fun _ M => Q0 .non M, rt := Q0, ex := fun c pl _ M => E0 c pl M } (startQ N xs) M) : FnQ P w K mg base (k + 1) f fd ps s := by
  obtain ⟨oc, od, kV, doc, pm, an, cdv, ct, osl, rfl, lk, hcd⟩ := F.ex
  refine .of (fn_of lk hcd S (fun vs H Q E h => ?_) (fun A outer s0 H vs Q E hr h => ?_))
  · obtain ⟨xs, M, G, Q0, E0, r, _, q, _⟩ := h
    rw [← r.length]
    exact len xs M Q0 E0 q
  · obtain ⟨xs, M, G, Q0, E0, r, w, q, L, LE⟩ := h
    obtain ⟨t, h1, h2⟩ := hbody cdv A outer s0 H E (L2H.roomH_of hr)
    refine ⟨_, h1, startQ N xs, M, G, _, ⟨start_env r, w⟩, h2 xs M Q0 E0 q, ?_⟩
    exact ⟨fun env' M' σ' H' G' e S q => L .non M' .non H' G' e S.wf rfl q, L, fun _ _ _ _ _ _ _ q => q, fun _ _ _ _ _ _ _ q => q, fun c pl env' M' d σ' H' G' e S x q => LE c pl M' d H' G' e S.wf x q⟩
end

/-! ### calls of defs -/
def qCall (s : SpQ) (t : QA) : QT := fun env M Q E => t env M (fun xs M1 => s xs M1 Q E) E
section
variable {X : Cx} {W : WX} {pos : Pos} {h : Bool} {k : Nat} {f C : Addr} {fd : FuncData} {ps : List Str} {sp : Sp} {s : SpQ} {x m : Str} {p apos : Pos} {e o : Expr} {es : List Expr}
/-- the callee runs, what it raises goes where W says -/
theorem run_q {dvs : List V} {ds : List Value} {pins : List (Addr × Obj)} {σ : L2.St} {H : Hp} {sh : Shared} {Q : VK} {us : List Value} {vs : List V} (F : FnX h X.prog X.w X.K X.mg X.base k f fd ps sp) (hr : L2H.RoomH k X.A) (cw : CoolW h X W)
    (hb : Binds X.K fd ps ds) (hd : Vals dvs ds) (tk : L2N.Takes X W) (I : Inv X pins σ H sh) (r : Vals vs us) (hs : sp (vs ++ dvs) H Q (WE W σ)) : wpAny (model X.prog X.w) X.A (call (.ref f) us) (EP X pins σ Q) X.xe sh := by
  have r2 := r.append hd
  have hl : (us ++ ds).length = ps.length := r2.length ▸ F.len _ _ _ _ hs
  refine wpAny_call (codeAny_mono (F.run _ _ _ _ ⟨us, []⟩ _ _ _ _ hr (cw.at I) I.env0 (hb sh us I.kIn hl) r2 hs) fun r s' hq => ?_)
  match r, hq with
  | .error e, hq => exact L2N.passAt tk σ pins H sh e s' I hq
  | .ok (.ret u), hq => exact I.after hq
  | .ok .next, hq => exact hq.elim
  | .ok .brk, hq => exact hq.elim
  | .ok .cont, hq => exact hq.elim
theorem qe_call {t : QA} (F : FnX h X.prog X.w X.K X.mg X.base k f fd ps (spQ X.K s)) (hr : L2H.RoomH k X.A) (cw : CoolW h X W) (hm : X.mg x = some (.ref f)) (hk : PySem.W.keepIn X.K (.ref f) = true) (hb : Binds X.K fd ps []) (tk : L2N.Takes X W) (ha : QPA X W (e :: es) t) (hg : Gl X x := by rfl)
    (hdb : (x == ("__debug__" : Str)) = false := by decide) (he : starEach (e :: es) X.env = (false, eval e X.env) :: starEach es X.env := by rfl) (hpl : (backTo pos (starEach es X.env)).any (·.1) = false := by rfl) :
    QE X W (.Call (.Name x p) (e :: es) [] pos) (qCall s t) :=
  ⟨fun pins sh σ H Q I ⟨env, M, G, Q0, E0, S, q, L, LE⟩ => wpAny_Call_Name_kw (ld_glob I hg hm (PySem.W.callWith_K (h₀ := X.base) I.ok.mod.kin hk (thn (ha.run pos pins sh σ H (fun vs H1 => spQ X.K s vs H1 Q (WE W σ)) I ⟨env, M, G, _, E0, S, q, fun xs M1 vs H1 G1 e1 w1 r1 q1 => ⟨xs, M1, G1, Q0, E0, r1, w1, q1, L.mono e1, LE.mono e1⟩, LE⟩) fun us s1 ⟨vs, H1, I1, r, q2⟩ =>
    ⟨I1.kIn, run_q (ds := []) (dvs := []) F hr cw hb .nil tk I1 r (by rw [List.append_nil]; exact q2)⟩) he hpl) hdb)⟩
theorem qe_call0 (F : FnX h X.prog X.w X.K X.mg X.base k f fd ps (spQ X.K s)) (hr : L2H.RoomH k X.A) (cw : CoolW h X W) (hm : X.mg x = some (.ref f)) (hk : PySem.W.keepIn X.K (.ref f) = true) (hb : Binds X.K fd ps []) (tk : L2N.Takes X W) (hg : Gl X x := by rfl)
    (hdb : (x == ("__debug__" : Str)) = false := by decide) : QE X W (.Call (.Name x p) [] [] pos) (qCall s qNil) := by
  refine ⟨fun pins sh σ H Q I ⟨env, M, G, Q0, E0, S, q, L, LE⟩ => wpAny_Call_Name_kw (ld_glob I hg hm (PySem.W.callWith_K0 I.kIn hk ?_) hdb)⟩
  exact run_q (us := []) (vs := []) (ds := []) (dvs := []) F hr cw hb .nil tk I .nil ⟨[], M, G, Q0, E0, Reps.nil, S.wf, q, L, LE⟩

/-! ### fields, methods -/
/-- what an instance holds -/
def own (M : Mem) : PV → Option (Addr × List Str × List PV)
  | .obj C ns vs => some (C, ns, vs)
  | .ref a => match M a with
    | some (.ins C ns vs) => some (C, ns, vs)
    | _ => none
  | _ => none
/-- the value of a name -/
def lk (f : Str) : List Str → List PV → Option PV
  | n :: ns, x :: xs => if f = n then some x else lk f ns xs
  | _, _ => none
theorem lk_rep {K : PySem.W.Frag} {G : Hp} {f : Str} : ∀ {ns : List Str} {xs : List PV} {vs : List V} {x : PV}, lk f ns xs = some x → Reps K G xs vs → ∃ v, (ns.zip vs).lookup f = some v ∧ Rep K G x v
  | [], _, _, _, h, _ => by cases h
  | _ :: _, [], _, _, h, _ => by cases h
  | n :: ns, x :: xs, _, y, h, r => by
    obtain ⟨v, ws, rfl, h2, h3⟩ := r
    unfold lk at h
    rw [List.zip_cons_cons, List.lookup_cons]
    by_cases e : f = n
    · rw [if_pos e] at h
      cases h
      subst e
      exact ⟨v, by simp, h2⟩
    · rw [if_neg e] at h
      have hb : (f == n) = false := by simpa using e
      rw [hb]
      exact lk_rep h h3
theorem lk_none {f : Str} : ∀ {ns : List Str} {vs : List V}, f ∉ ns → (ns.zip vs).lookup f = none
  | [], _, _ => rfl
  | _ :: _, [], _ => rfl
  | n :: ns, v :: vs, h => by
    rw [List.zip_cons_cons, List.lookup_cons]
    have hb : (f == n) = false := by
      have : ¬ f = n := fun e => h (by rw [e]; exact List.mem_cons_self)
      simpa using this
    rw [hb]
    exact lk_none fun z => h (List.mem_cons_of_mem _ z)
theorem own_H {K : PySem.W.Frag} {G H : Hp} {M : Mem} {x : PV} {v : V} {ns : List Str} {xs : List PV} (h : own M x = some (C, ns, xs)) (r : Rep K G x v) (w : Wf K M H G) : ∃ p dx vs, v = .ref p ∧ H p = some (.ins C dx (ns.zip vs)) ∧ Reps K G xs vs := by
  cases x with
  | obj C' ns' xs' =>
    cases h
    obtain ⟨a, dx, vs, h1, h2, h3⟩ := r
    exact ⟨a, dx, vs, h1, w.sub _ _ h2, h3⟩
  | ref a =>
    replace h : (match M a with
      | some (.ins C ns vs) => some (C, ns, vs)
      | _ => none) = some (C, ns, xs) := h
    split at h
    · rename_i hm
      cases h
      obtain ⟨_, dx, vs, h1, h2⟩ := w.mem a _ hm
      exact ⟨a, dx, vs, r, h1, h2⟩
    · cases h
  | _ => cases h
def fldP (K : PySem.W.Frag) (f : Str) (x : PV) (M : Mem) (Q : PK) : Prop := ∃ C ns xs y, own M x = some (C, ns, xs) ∧ (Cls K C ∧ NoAttr K C f) ∧ lk f ns xs = some y ∧ Q y M
theorem fldP_own {K : PySem.W.Frag} {f : Str} {x : PV} {M : Mem} {Q : PK} {C : Addr} {ns : List Str} {xs : List PV} {y : PV} (o : own M x = some (C, ns, xs)) (c : Cls K C) (n : NoAttr K C f) (h : lk f ns xs = some y) : fldP K f x M Q = Q y M := propext
  ⟨fun ⟨_, _, _, _, h1, _, h2, q⟩ => by rw [o] at h1; cases h1; rw [h] at h2; cases h2; exact q, fun q => ⟨_, _, _, _, o, ⟨c, n⟩, h, q⟩⟩
def qFld (K : PySem.W.Frag) (f : Str) (t : QT) : QT := fun env M Q E => t env M (fun x M1 => fldP K f x M1 Q) E
theorem qe_fld {f : Str} {t : QT} (he : QE X W e t) (hb : attributeBase e f X.env (eval e X.env) = eval e X.env := by rfl) : QE X W (.Attribute e f pos) (qFld X.K f t) := (pe_fld he hb).imp fun σ H Q ⟨env, M, G, Q0, E0, S, q, L, LE⟩ => by
  refine ⟨env, M, G, _, E0, S, q, fun x M1 v H1 G1 e1 w1 r1 q1 => ?_, LE⟩
  obtain ⟨C, ns, xs, y, h1, ⟨hc, hn⟩, h2, q1⟩ := q1
  obtain ⟨a, dx, vs, h3, h4, h5⟩ := own_H h1 r1 w1
  obtain ⟨v', h6, h7⟩ := lk_rep h2 h5
  exact ⟨a, C, dx, _, v', h3, h4, hc, hn, h6, give (L.mono e1) w1 h7 q1⟩
/-- o.m(..), o an instance of the class at C -/
def mthP (C : Addr) (m : Str) (x : PV) (M : Mem) (R : Prop) : Prop := ∃ ns xs, own M x = some (C, ns, xs) ∧ m ∉ ns ∧ R
theorem mthP_own {C : Addr} {m : Str} {x : PV} {M : Mem} {R : Prop} {ns : List Str} {xs : List PV} (o : own M x = some (C, ns, xs)) (h : m ∉ ns) : mthP C m x M R = R := propext
  ⟨fun ⟨_, _, _, _, q⟩ => q, fun q => ⟨_, _, o, h, q⟩⟩
def qMeth (C : Addr) (m : Str) (s : SpQ) (to : QT) (t : QA) : QT := fun env M Q E => to env M (fun x M1 => mthP C m x M1 (t env M1 (fun ys M2 => s (x :: ys) M2 Q E) E)) E
theorem qe_meth {to : QT} {t : QA} {pl : Sem Bool} (he : QE X W o to) (c : Cls X.K C) (hm : Meth X.K C m f) (F : FnX h X.prog X.w X.K X.mg X.base k f fd ps (spQ X.K s)) (hr : L2H.RoomH k X.A) (cw : CoolW h X W) (hb : Binds X.K fd ps []) (tk : L2N.Takes X W) (ha : QPA X W (e :: es) t)
    (hst : starEach (e :: es) X.env = (false, eval e X.env) :: starEach es X.env := by rfl) (hpl : (backTo pos (starEach es X.env)).any (·.1) = false := by rfl)
    (ht : eval (.Call (.Attribute o m apos) (e :: es) [] pos) X.env = (do
      let recv ← eval o X.env
      standAt apos.atName
      let (g, first) ← holding [recv] (getMethod recv m pl)
      callWith pos g first (backTo pos (starEach (e :: es) X.env)) (backToKw pos (keywordEach [] X.env))) := by rfl) :
    QE X W (.Call (.Attribute o m apos) (e :: es) [] pos) (qMeth C m s to t) := by
  refine ⟨fun pins sh σ H Q I ⟨env, M, G, Q0, E0, S, q, L, LE⟩ => PySem.W.methodCall_KW (pl := pl) (thn (he.run pins sh σ H (fun v H1 => ∃ (a dx : Addr) (fs : List (Str × V)), v = .ref a ∧ H1 a = some (.ins C dx fs) ∧ fs.lookup m = none ∧ tieA X.K W t σ H1 fun vs H2 => spQ X.K s (v :: vs) H2 Q (WE W σ)) I ?_) fun u s1 ⟨v, H1, I1, rv, a, dx, fs, ev, ea, l, q1⟩ => ?_) ht⟩
  · refine ⟨env, M, G, _, E0, S, q, fun x M1 v H1 G1 e1 w1 r1 q1 => ?_, LE⟩
    obtain ⟨ns, xs, h1, hn, q1⟩ := q1
    obtain ⟨a, dx, vs, h3, h4, h5⟩ := own_H h1 r1 w1
    refine ⟨a, dx, _, h3, h4, lk_none hn, env, M1, G1, _, E0, S.to e1 w1, q1, fun ys M2 us H2 G2 e2 w2 r2 q2 => ?_, LE.mono e1⟩
    exact ⟨x :: ys, M2, G2, Q0, E0, Reps.cons (Rep.mono e2 _ _ r1) r2, w2, q2, L.mono (e1.trans e2), LE.mono (e1.trans e2)⟩
  · subst ev
    obtain rfl : u = Value.ref a := rv
    refine getmeth_ok I1 ea c hm l (PySem.W.callWith_K (first := [.ref a]) (h₀ := X.base) I.ok.mod.kin hm.kp (thn (ha.run pos pins s1 σ H1 _ I1 q1) fun us s2 ⟨vs, H2, I2, r, q2⟩ => ⟨I2.kIn, ?_⟩) hst hpl)
    exact run_q (us := .ref a :: us) (vs := .ref a :: vs) (ds := []) (dvs := []) F hr cw hb .nil tk I2 (.cons rfl r) (by rw [List.append_nil]; exact q2)
theorem qe_meth0 {to : QT} {pl : Sem Bool} (he : QE X W o to) (c : Cls X.K C) (hm : Meth X.K C m f) (F : FnX h X.prog X.w X.K X.mg X.base k f fd ps (spQ X.K s)) (hr : L2H.RoomH k X.A) (cw : CoolW h X W) (hb : Binds X.K fd ps []) (tk : L2N.Takes X W)
    (ht : eval (.Call (.Attribute o m apos) [] [] pos) X.env = (do
      let recv ← eval o X.env
      standAt apos.atName
      let (g, first) ← holding [recv] (getMethod recv m pl)
      callWith pos g first (backTo pos (starEach [] X.env)) (backToKw pos (keywordEach [] X.env))) := by rfl) :
    QE X W (.Call (.Attribute o m apos) [] [] pos) (qMeth C m s to qNil) := by
  refine ⟨fun pins sh σ H Q I ⟨env, M, G, Q0, E0, S, q, L, LE⟩ => PySem.W.methodCall_KW (pl := pl) (thn (he.run pins sh σ H (fun v H1 => ∃ (a dx : Addr) (fs : List (Str × V)), v = .ref a ∧ H1 a = some (.ins C dx fs) ∧ fs.lookup m = none ∧ spQ X.K s [v] H1 Q (WE W σ)) I ?_) fun u s1 ⟨v, H1, I1, rv, a, dx, fs, ev, ea, l, q1⟩ => ?_) ht⟩
  · refine ⟨env, M, G, _, E0, S, q, fun x M1 v H1 G1 e1 w1 r1 q1 => ?_, LE⟩
    obtain ⟨ns, xs, h1, hn, q1⟩ := q1
    obtain ⟨a, dx, vs, h3, h4, h5⟩ := own_H h1 r1 w1
    exact ⟨a, dx, _, h3, h4, lk_none hn, [x], M1, G1, Q0, E0, Reps.one r1, w1, q1, L.mono e1, LE.mono e1⟩
  · subst ev
    obtain rfl : u = Value.ref a := rv
    refine getmeth_ok I1 ea c hm l (PySem.W.callWith_K0 (first := [.ref a]) I1.kIn hm.kp ?_)
    exact run_q (us := [.ref a]) (vs := [.ref a]) (ds := []) (dvs := []) F hr cw hb .nil tk I1 (.cons rfl .nil) (by rw [List.append_nil]; exact q1)

/-! ### new instances that nobody writes -/
/-- __init__ stores its arguments -/
def spInit (C : Addr) (ns : List Str) : Sp := fun vs H Q _ => ∃ x dx us, vs = .ref x :: us ∧ us.length = ns.length ∧ H x = some (.ins C dx []) ∧ Q .non (upd H x (.ins C dx (ns.zip us)))
def qMake (C : Addr) (ns : List Str) (dps : List PV) (t : QA) : QT := fun env M Q E => t env M (fun xs M1 => (xs ++ dps).length = ns.length ∧ Q (.obj C ns (xs ++ dps)) M1) E
theorem run_makeQ {dvs : List V} {ds : List Value} {pins : List (Addr × Obj)} {σ : L2.St} {H : Hp} {sh : Shared} {Q : VK} {us : List Value} {vs : List V} (Mk1 : Mk X.K C f) (F : FnX h X.prog X.w X.K X.mg X.base k f fd ps sp)
    (hr : L2H.RoomH (k + 1) X.A) (cw : CoolW h X W) (hb : Binds X.K fd ps ds) (hd : Vals dvs ds) (tk : L2N.Takes X W) (I : Inv X pins σ H sh) (r : Vals vs us)
    (hs : ∀ y dx, H y = none → H dx = none → dx ≠ y → sp (.ref y :: (vs ++ dvs)) (upd (upd H dx (.own y)) y (.ins C dx [])) (fun v H2 => v = .non ∧ Q (.ref y) H2) (WE W σ)) :
    wpAny (model X.prog X.w) X.A (call (.ref C) us) (EP X pins σ Q) X.xe sh := by
  have q0 := hs (sh.heap.objs.size + 1) sh.heap.objs.size (I.hok.fresh (Nat.le_succ _)) (I.hok.fresh (Nat.le_refl _)) (Nat.ne_of_lt (Nat.lt_succ_self _))
  have J := Inv.made (C := C) I
  have r2 : Vals (V.ref (sh.heap.objs.size + 1) :: (vs ++ dvs)) (Value.ref (sh.heap.objs.size + 1) :: (us ++ ds)) := .cons rfl (r.append hd)
  have hl : (Value.ref (sh.heap.objs.size + 1) :: us ++ ds).length = ps.length := (r2.length ▸ F.len _ _ _ _ q0 : _)
  refine wpAny_call (make_map (f := f) I.kIn Mk1.makes Mk1.init (beq_iff_eq.mp Mk1.fn) (codeAny_mono (F.run _ X.stack _ _ ⟨Value.ref (sh.heap.objs.size + 1) :: us, []⟩ _ _ _ _ (hr.make C us []) (cw.at J) (J.env0.make C us []) (hb _ (_ :: us) J.kIn hl) r2 q0) fun r s' hq => ?_))
  match r, hq with
  | .error e, hq => exact L2N.passAt tk σ pins _ _ e s' J hq
  | .ok (.ret u), hq =>
    obtain ⟨v, H', I3, rv, ev, q3⟩ := J.after hq
    subst ev
    exact ⟨rv, V.ref (sh.heap.objs.size + 1), H', I3, rfl, q3⟩
  | .ok .next, hq => exact hq.elim
  | .ok .brk, hq => exact hq.elim
  | .ok .cont, hq => exact hq.elim
theorem qe_make {t : QA} {dvs : List V} {dps : List PV} {ds : List Value} {ns : List Str} (Mk1 : Mk X.K C f) (F : FnX h X.prog X.w X.K X.mg X.base k f fd ps (spInit C ns)) (hr : L2H.RoomH (k + 1) X.A) (cw : CoolW h X W) (hm : X.mg x = some (.ref C)) (hb : Binds X.K fd ps ds) (hd : Vals dvs ds)
    (hp : ∀ G, Reps X.K G dps dvs) (tk : L2N.Takes X W) (ha : QPA X W (e :: es) t) (hg : Gl X x := by rfl)
    (hdb : (x == ("__debug__" : Str)) = false := by decide) (he : starEach (e :: es) X.env = (false, eval e X.env) :: starEach es X.env := by rfl) (hpl : (backTo pos (starEach es X.env)).any (·.1) = false := by rfl) :
    QE X W (.Call (.Name x p) (e :: es) [] pos) (qMake C ns dps t) := by
  refine ⟨fun pins sh σ H Q I ⟨env, M, G, Q0, E0, S, q, L, LE⟩ => wpAny_Call_Name_kw (ld_glob I hg hm (PySem.W.callWith_K (h₀ := X.base) I.ok.mod.kin Mk1.kp (thn (ha.run pos pins sh σ H (fun vs H1 => ∃ xs M1 G1, Ext G G1 ∧ Wf X.K M1 H1 G1 ∧ Reps X.K G1 xs vs ∧ (xs ++ dps).length = ns.length ∧ Q0 (.obj C ns (xs ++ dps)) M1) I ?_) fun us s1 ⟨vs, H1, I1, r, q⟩ => ⟨I1.kIn, ?_⟩) he hpl) hdb)⟩
  · exact ⟨env, M, G, _, E0, S, q, fun xs M1 vs H1 G1 e1 w1 r1 q1 => ⟨xs, M1, G1, e1, w1, r1, q1.1, q1.2⟩, LE⟩
  · obtain ⟨xs, M1, G1, e1, w1, r1, hl, q⟩ := q
    refine run_makeQ Mk1 F hr cw hb hd tk I1 r fun y dx ny nd ne => ⟨y, dx, vs ++ dvs, rfl, ?_, upd_same, rfl, ?_⟩
    · rw [← hl, (r1.append (hp G1)).length]
    · rw [upd_upd]
      have w2 := w1.newH (o := .own y) nd
      have n2 : upd H1 dx (.own y) y = none := by rw [upd_ne ne.symm]; exact ny
      exact L (.obj C ns (xs ++ dps)) M1 _ _ _ (e1.trans (Ext.new (w2.free n2))) (w2.newG n2) ⟨y, dx, vs ++ dvs, rfl, upd_same, Reps.mono (Ext.new (w2.free n2)) _ _ (r1.append (hp G1))⟩ q
end
end TQ

namespace TQ
open PySem PySem.Spec PyProof.Rows L2
theorem liftX_E {K : PySem.W.Frag} {W : WX} {G : Hp} {env : Sl} {σ : L2.St} {E0 : Value → Option PV → Sl → Mem → Prop} (e : EnvR K G env σ) (h : LiftX K G E0 W) : LiftE K G (fun c pl M' => E0 c pl env M') (WE W σ) :=
  fun c pl M' d H' G' e1 w x q => h c pl env M' d σ H' G' e1 ⟨e.mono e1, w⟩ x q
/-! ### targets -/
abbrev QTG := PV → Sl → Mem → (Sl → Mem → Prop) → Prop
def tieG (K : PySem.W.Frag) (g : QTG) : TG := fun v σ H Q => ∃ x env M G Q0, Rep K G x v ∧ Sim K env M G σ H ∧ g x env M Q0 ∧ LiftN K G Q0 Q
abbrev QPG (X : Cx) (tg : Expr) (g : QTG) : Prop := PG X tg (tieG X.K g)
theorem _root_.L2.PG.imp {X : Cx} {e : Expr} {t t' : TG} (h : PG X e t) (f : ∀ v σ H Q, t' v σ H Q → t v σ H Q) : PG X e t' := ⟨fun pins s σ H v u Q I r q => h.run pins s σ H v u Q I r (f v σ H Q q)⟩
def gNm (i : Nat) : QTG := fun x env M Q => Q (env.set i (some x)) M
section
variable {X : Cx} {W : WX} {pos : Pos}
theorem qg_name {i : Nat} {x : Str} (hN : X.N.Nodup) (hi : X.N[i]? = some x := by rfl) (hx : Loc X.env.scope x := by first | exact Or.inl rfl | exact Or.inr rfl) (hf : X.fn x = true ∨ X.env.scope.names.lookup x = some .local := by first | exact .inl rfl | exact .inr rfl | assumption) : QPG X (.Name x pos) (gNm i) :=
  (pg_name hN hi hx hf).imp fun v σ H Q ⟨x, env, M, G, Q0, r, S, q, L⟩ => L _ M _ H G (Ext.refl G) (S.set r) q
abbrev QTGs := List PV → Sl → Mem → (Sl → Mem → Prop) → Prop
def tieGs (K : PySem.W.Frag) (g : QTGs) : TGs := fun vs σ H Q => ∃ xs env M G Q0, Reps K G xs vs ∧ Sim K env M G σ H ∧ g xs env M Q0 ∧ LiftN K G Q0 Q
theorem _root_.L2.PGs.imp {X : Cx} {e : List Expr} {t t' : TGs} (h : PGs X e t) (f : ∀ v σ H Q, t' v σ H Q → t v σ H Q) : PGs X e t' := ⟨fun pins s σ H v u Q I r q => h.run pins s σ H v u Q I r (f v σ H Q q)⟩
abbrev QPGs (X : Cx) (ts : List Expr) (g : QTGs) : Prop := PGs X ts (tieGs X.K g)
def gsNil : QTGs := fun xs env M Q => match xs with
  | [] => Q env M
  | _ => False
def gsCons (g : QTG) (gs : QTGs) : QTGs := fun xs env M Q => match xs with
  | y :: ys => g y env M fun env' M' => gs ys env' M' Q
  | [] => False
theorem qgs_nil : QPGs X [] gsNil := pgs_nil.imp fun vs σ H Q ⟨xs, env, M, G, Q0, r, S, q, L⟩ => by
  unfold gsNil at q
  split at q
  · cases r
    exact ⟨rfl, L env M σ H G (Ext.refl G) S q⟩
  · exact q.elim
theorem qgs_cons {e : Expr} {es : List Expr} {g : QTG} {gs : QTGs} (h : QPG X e g) (k : QPGs X es gs) (hs : (assignEach (e :: es) X.env).map (·.2) = assign e X.env :: (assignEach es X.env).map (·.2) := by rfl) : QPGs X (e :: es) (gsCons g gs) :=
  (pgs_cons h k hs).imp fun vs σ H Q ⟨xs, env, M, G, Q0, r, S, q, L⟩ => by
    unfold gsCons at q
    split at q
    · rename_i y ys
      obtain ⟨v, ws, rfl, r1, r2⟩ := r
      refine ⟨v, ws, rfl, y, env, M, G, _, r1, S, q, fun env' M' σ' H' G' e1 S1 q1 => ?_⟩
      exact ⟨ys, env', M', G', Q0, Reps.mono e1 _ _ r2, S1, q1, L.mono e1⟩
    · exact q.elim
/-- (a, b, ..) = a tuple -/
def gTu (n : Nat) (gs : QTGs) : QTG := fun x env M Q => match x with
  | .tup xs => xs.length = n ∧ gs xs env M Q
  | _ => False
theorem qg_tup {es : List Expr} {k : Nat} {gs : QTGs} {n : Nat} (hc : TC.CoolX X) (h : QPGs X es gs) (hn : (assignEach es X.env).length = n := by rfl) (hst : (assignEach es X.env).findIdx? (·.1) = none := by rfl) : QPG X (.Tuple es k pos) (gTu n gs) :=
  (TC.tg_tup hc h hn hst).imp fun v σ H Q ⟨x, env, M, G, Q0, r, S, q, L⟩ => by
    unfold gTu at q
    split at q
    · rename_i xs
      obtain ⟨hl, q⟩ := q
      obtain ⟨p, vs, rfl, h1, r1⟩ := r
      exact ⟨p, vs, rfl, ext_t S.wf.sub h1, by rw [← r1.length]; exact hl, xs, env, M, G, Q0, r1, S, q, L⟩
    · exact q.elim

/-! ### statements -/
def sNext : QS := fun D env M => D.nx env M
def sSeq (t u : QS) : QS := fun D env M => t { D with nx := u D } env M
theorem _root_.L2.PSs.imp' {st : List Stmt} {t t' : TS} (h : PSs X st t) (f : ∀ D σ H, t' D σ H → t D σ H) : PSs X st t' := h.imp f
theorem qss_nil : QPSs X W [] sNext := pss_nil.imp fun D σ H ⟨env, M, G, D0, S, q, L⟩ => L.nx env M σ H G (Ext.refl G) S q
theorem qss_cons {st : Stmt} {rest : List Stmt} {t u : QS} (h : QPS X W st t) (k : QPSs X W rest u) : QPSs X W (st :: rest) (sSeq t u) := (pss_cons h k).imp fun D σ H ⟨env, M, G, D0, S, q, L⟩ =>
  ⟨env, M, G, _, S, q, ⟨fun env' M' σ' H' G' e S1 q1 => ⟨env', M', G', D0, S1, q1, L.mono e⟩, L.rt, L.bk, L.ct, L.ex⟩⟩
theorem qss_one {st : Stmt} {t : QS} (h : QPS X W st t) : QPSs X W [st] t := pss_one h
theorem qs_pass : QPS X W (.Pass pos) sNext := ps_pass.imp fun D σ H ⟨env, M, G, D0, S, q, L⟩ => L.nx env M σ H G (Ext.refl G) S q
def sBreak : QS := fun D env M => D.bk env M
def sCont : QS := fun D env M => D.ct env M
theorem qs_break : QPS X W (.Break pos) sBreak := ps_break.imp fun D σ H ⟨env, M, G, D0, S, q, L⟩ => L.bk env M σ H G (Ext.refl G) S q
theorem qs_continue : QPS X W (.Continue pos) sCont := ps_continue.imp fun D σ H ⟨env, M, G, D0, S, q, L⟩ => L.ct env M σ H G (Ext.refl G) S q
/-- the wish of a statement, for its expressions -/
abbrev exE (D : QEnds) (env : Sl) : EK := fun c pl M => D.ex c pl env M
def sRet (t : QT) : QS := fun D env M => t env M D.rt (exE D env)
theorem qs_ret {e : Expr} {t : QT} (h : QE X W e t) : QPS X W (.Return (some e) pos) (sRet t) := (ps_ret h).imp fun D σ H ⟨env, M, G, D0, S, q, L⟩ => ⟨env, M, G, _, _, S, q, L.rt, liftX_E S.env L.ex⟩
def sDrop (t : QT) : QS := fun D env M => t env M (fun _ M1 => D.nx env M1) (exE D env)
theorem qs_expr {e : Expr} {t : QT} (h : QE X W e t) (hs : swapsWith e none pos.line X.env = pure false := by rfl) : QPS X W (.Expr e pos) (sDrop t) := (ps_expr h hs).imp fun D σ H ⟨env, M, G, D0, S, q, L⟩ =>
  ⟨env, M, G, _, _, S, q, fun x M' v H' G' e w r q1 => L.nx env M' σ H' G' e ⟨S.env.mono e, w⟩ q1, liftX_E S.env L.ex⟩
def sIf (c : QB) (t u : QS) : QS := fun D env M => c env M (fun b M1 => if b = true then t D env M1 else u D env M1) (exE D env)
theorem qs_if {c : Expr} {a b : List Stmt} {tc : QB} {t u : QS} (hc : QPT X W c tc) (ha : QPSs X W a t) (hb : QPSs X W b u) : QPS X W (.If c a b pos) (sIf tc t u) := (ps_if hc ha hb).imp fun D σ H ⟨env, M, G, D0, S, q, L⟩ => by
  refine ⟨env, M, G, _, _, S, q, fun b M1 H1 G1 e w q1 => ?_, liftX_E S.env L.ex⟩
  cases b with
  | true => exact ⟨env, M1, G1, D0, ⟨S.env.mono e, w⟩, q1, L.mono e⟩
  | false => exact ⟨env, M1, G1, D0, ⟨S.env.mono e, w⟩, q1, L.mono e⟩
def sAsg (t : QT) (g : QTG) : QS := fun D env M => t env M (fun x M1 => g x env M1 D.nx) (exE D env)
theorem tieAsg {t : QT} {g : QTG} {D : Ends} {σ : L2.St} {H : Hp} (h : tieS X.K W (sAsg t g) D σ H) : tAsg (tie X.K W t) (tieG X.K g) D σ H := by
  obtain ⟨env, M, G, D0, S, q, L⟩ := h
  refine ⟨env, M, G, _, _, S, q, fun x M1 v H1 G1 e w r q1 => ?_, liftX_E S.env L.ex⟩
  exact ⟨x, env, M1, G1, D0.nx, r, ⟨S.env.mono e, w⟩, q1, L.nx.mono e⟩
theorem qs_asg {tg e : Expr} {t : QT} {g : QTG} (he : QE X W e t) (hg : QPG X tg g) (hs : swapsWithSole [tg] e pos.line X.env = pure false := by rfl) (hw : swappedStores [tg] e X.env = pure none := by rfl)
    (h1 : (assignEach [tg] X.env).map (·.2) = [assign tg X.env] := by rfl) : QPS X W (.Assign [tg] e pos) (sAsg t g) := (ps_asg he hg hs hw h1).imp fun D σ H h => tieAsg h
theorem tieNm {t : TE} {i : Nat} {D : Ends} {σ : L2.St} {H : Hp} (h : tAsg t (tieG X.K (gNm i)) D σ H) (m : ∀ σ H (Q Q' : VK), (∀ v H, Q v H → Q' v H) → t σ H Q → t σ H Q') : tAsg t (gName i) D σ H := by
  refine m _ _ _ _ (fun v H q => ?_) h
  obtain ⟨x, env, M, G, Q0, r, S, q, L⟩ := q
  exact L _ M _ H G (Ext.refl G) (S.set r) q
theorem tie_mono {K : PySem.W.Frag} {t : QT} {σ : L2.St} {H : Hp} {Q Q' : VK} (k : ∀ v H, Q v H → Q' v H) (h : tie K W t σ H Q) : tie K W t σ H Q' := by
  obtain ⟨env, M, G, Q0, E0, S, q, L, LE⟩ := h
  exact ⟨env, M, G, Q0, E0, S, q, fun x M' v H' G' e w r q => k _ _ (L x M' v H' G' e w r q), LE⟩
theorem qs_set (i : Nat) {x : Str} {e : Expr} {t : QT} {pos' : Pos} (hN : X.N.Nodup) (he : QE X W e t) (hi : X.N[i]? = some x := by rfl) (hx : Loc X.env.scope x := by first | exact Or.inl rfl | exact Or.inr rfl) (hs : swapsWith e (some (.Name x pos')) pos.line X.env = pure false := by rfl)
    (hf : X.fn x = true ∨ X.env.scope.names.lookup x = some .local := by first | exact .inl rfl | exact .inr rfl | assumption) : QPS X W (.Assign [.Name x pos'] e pos) (sAsg t (gNm i)) :=
  (ps_set hN hi hx he hs hf).imp fun D σ H h => tieNm (tieAsg h) fun _ _ _ _ k z => tie_mono k z
/-- x op= e -/
def sAug (i : Nat) (t : QT) (f : F2) : QS := fun D env M => ∃ x, env[i]? = some (some x) ∧ t env M (fun y M1 => f x y M1 fun z M2 => D.nx (env.set i (some z)) M2) (exE D env)
theorem qs_aug (i : Nat) {x : Str} {e : Expr} {t : QT} {f : F2} {op : Operator} {pos' : Pos} (hN : X.N.Nodup) (ho : OpQ X (inplaceOp op) f) (he : QE X W e t) (hi : X.N[i]? = some x := by rfl) (hx : Loc X.env.scope x := by first | exact Or.inl rfl | exact Or.inr rfl)
    (hf : X.fn x = true ∨ X.env.scope.names.lookup x = some .local := by first | exact .inl rfl | exact .inr rfl | assumption) : QPS X W (.AugAssign (.Name x pos') op e pos) (sAug i t f) :=
  (ps_aug hN hi hx he ho hf).imp fun D σ H ⟨env, M, G, D0, S, ⟨x, hx, q⟩, L⟩ => by
    obtain ⟨v, h1, h2⟩ := S.env.get _ _ hx
    refine ⟨v, h1, env, M, G, _, _, S, q, fun y M1 u H1 G1 e1 w1 r1 q1 => ?_, liftX_E S.env L.ex⟩
    refine ⟨x, y, M1, G1, _, Rep.mono e1 _ _ h2, r1, w1, q1, fun z M2 zv H2 G2 e2 w2 r2 q2 => ?_⟩
    exact L.nx _ M2 _ H2 G2 (e1.trans e2) (Sim.set ⟨S.env.mono (e1.trans e2), w2⟩ r2) q2
theorem iop_mulA : OpR X (inplaceOp .Mult) (rI IntMulOk fun i j => .int (i * j)) := opI fun _ _ _ _ _ _ _ hc q => imul_int q hc
def iAdd : F2 := fun x y M Q => match x, y with
  | .int i, .int j => Q (.int (i + j)) M
  | .str a, .str b => a.length + b.length ≤ sizeLine ∧ Q (.str (a ++ b)) M
  | _, _ => False
theorem iq_add : OpQ X (inplaceOp .Add) iAdd := by
  intro pins s σ H a b v u Q I ra rb ⟨x, y, M, G, Q0, rx, ry, w, q, L⟩
  cases x <;> cases y <;> first
    | exact iop_add pins s σ H a b v u Q I ra rb ⟨_, _, rx, ry, give L w (x := .int _) rfl q⟩
    | exact iop_add_str pins s σ H a b v u Q I ra rb ⟨_, _, rx, ry, q.1, give L w (x := .str _) rfl q.2⟩
    | exact q.elim
theorem iq_sub : OpQ X (inplaceOp .Sub) bSub := opq_int0 iop_sub (e' := fun i j => .int (i - j)) (fun _ _ _ _ => rfl) fun x y M Q q => by
  cases x <;> cases y <;> first | exact q.elim | exact ⟨_, _, rfl, rfl, q⟩
def iMul : F2 := fun x y M Q => match x, y with
  | .int i, .int j => IntMulOk i j ∧ Q (.int (i * j)) M
  | _, _ => False
theorem iq_mul : OpQ X (inplaceOp .Mult) iMul := opq_int iop_mulA (e' := fun i j => .int (i * j)) (fun _ _ _ _ => rfl) fun x y M Q q => by
  cases x <;> cases y <;> first | exact q.elim | exact ⟨_, _, rfl, rfl, q⟩

/-! ### loops -/
def sWhile (c : QB) (b : QS) : QS := fun D env M => ∃ I : Nat → Sl → Mem → Prop, (∃ m, I m env M) ∧ ∀ m env M, I m env M → c env M (fun k M1 => if k = true then
    b { D with nx := fun env' M' => ∃ m', m' < m ∧ I m' env' M', bk := D.nx, ct := fun env' M' => ∃ m', m' < m ∧ I m' env' M' } env M1 else D.nx env M1) (exE D env)
theorem qs_while {c : Expr} {body : List Stmt} {tc : QB} {tb : QS} (po : PassesOwn (model X.prog X.w) X.A X.env X.xe) (hc : QPT X W c tc) (hb : QPSs X W body tb) : QPS X W (.While c body [] pos) (sWhile tc tb) := (ps_while po hc hb).imp fun D σ H ⟨env, M, G, D0, S, ⟨I, ⟨m, hm⟩, hI⟩, L⟩ => by
  refine ⟨fun m σ H => ∃ env M G1, Ext G G1 ∧ Sim X.K env M G1 σ H ∧ I m env M, ⟨m, env, M, G, Ext.refl G, S, hm⟩, fun m σ H ⟨env, M, G1, e1, S1, h1⟩ => ?_⟩
  refine ⟨env, M, G1, _, _, S1, hI m env M h1, fun b M2 H2 G2 e2 w2 q2 => ?_, liftX_E S1.env (L.ex.mono e1)⟩
  have S2 := S1.to e2 w2
  cases b with
  | false => exact L.nx env M2 σ H2 G2 (e1.trans e2) S2 q2
  | true =>
    rw [if_pos rfl] at q2
    refine ⟨fun σ' H' => ∃ m', m' < m ∧ ∃ env M G1, Ext G G1 ∧ Sim X.K env M G1 σ' H' ∧ I m' env M, fun σ' H' h => h, ?_⟩
    have nxt : LiftN X.K G2 (fun env' M' => ∃ m', m' < m ∧ I m' env' M') (fun σ' H' => ∃ m', m' < m ∧ ∃ env M G1, Ext G G1 ∧ Sim X.K env M G1 σ' H' ∧ I m' env M) := fun env' M' σ' H' G' e S' ⟨m', hm', q⟩ => ⟨m', hm', env', M', G', (e1.trans e2).trans e, S', q⟩
    exact ⟨env, M2, G2, _, S2, q2, ⟨nxt, L.rt.mono (e1.trans e2), L.nx.mono (e1.trans e2), nxt, L.ex.mono (e1.trans e2)⟩⟩
/-- for target in the items: what holds at the i-th turn -/
def forI (n : Nat) (at' : Nat → PV → Prop) (st : Mem → Prop) (g : QTG) (b : QS) : QS := fun D env M => ∃ I : Nat → Sl → Mem → Prop, I 0 env M ∧ (∀ i env M, i ≤ n → I i env M → st M) ∧
  (∀ i x env M, i < n → at' i x → I i env M → g x env M fun env' M' => b { D with nx := I (i + 1), bk := D.nx, ct := I (i + 1) } env' M') ∧ ∀ env M, I n env M → D.nx env M
def sForR1 (t : QA) (g : QTG) (b : QS) : QS := fun D env M => t env M (fun xs M1 => ∃ hi, xs = [.int hi] ∧ (-(2 ^ 62) ≤ hi ∧ hi < 2 ^ 62) ∧ forI hi.toNat (fun i x => x = .int i) (fun _ => True) g b D env M1) (exE D env)
def sForR2 (t : QA) (g : QTG) (b : QS) : QS := fun D env M => t env M (fun xs M1 => ∃ lo hi, xs = [.int lo, .int hi] ∧ (-(2 ^ 62) ≤ lo ∧ lo < 2 ^ 62 ∧ -(2 ^ 62) ≤ hi ∧ hi < 2 ^ 62) ∧
  forI (hi - lo).toNat (fun i x => x = .int (lo + i)) (fun _ => True) g b D env M1) (exE D env)
def sForL (t : QT) (g : QTG) (b : QS) : QS := fun D env M => t env M (fun x M1 => match x with
  | .lst xs => forI xs.length (fun i x => xs[i]? = some x) (fun _ => True) g b D env M1
  | .scr ns => forI ns.length (fun i x => ∃ n, ns[i]? = some n ∧ x = .int n) (fun _ => True) g b D env M1
  | .ref a => ∃ xs, M1 a = some (.lst xs) ∧ forI xs.length (fun i x => xs[i]? = some x) (fun M => M a = some (.lst xs)) g b D env M1
  | _ => False) (exE D env)
def sForT (t : QT) (g : QTG) (b : QS) : QS := fun D env M => t env M (fun x M1 => match x with
  | .tup xs => forI xs.length (fun i x => xs[i]? = some x) (fun _ => True) g b D env M1
  | _ => False) (exE D env)
/-- what a turn's invariant is, over the heaps -/
def PvQ (K : PySem.W.Frag) (G : Hp) (I : Nat → Sl → Mem → Prop) : Nat → L2.St → Hp → Prop := fun i σ H => ∃ env M G1, Ext G G1 ∧ Sim K env M G1 σ H ∧ I i env M
theorem turnQ {g : QTG} {b : QS} {G G1 : Hp} {D0 : QEnds} {D : Ends} {I : Nat → Sl → Mem → Prop} {i : Nat} {env : Sl} {M : Mem} {x : PV} {v : V} {σ : L2.St} {H : Hp} (L : LiftD X.K W G D0 D) (e1 : Ext G G1) (S : Sim X.K env M G1 σ H) (r : Rep X.K G1 x v)
    (q : g x env M fun env' M' => b { D0 with nx := I (i + 1), bk := D0.nx, ct := I (i + 1) } env' M') :
    tieG X.K g v σ H fun σ2 H2 => tieS X.K W b { nx := PvQ X.K G I (i + 1), rt := D.rt, bk := D.nx, ct := PvQ X.K G I (i + 1) } σ2 H2 := by
  refine ⟨x, env, M, G1, _, r, S, q, fun env' M' σ' H' G' e S' q' => ?_⟩
  have nxt : LiftN X.K G' (I (i + 1)) (PvQ X.K G I (i + 1)) := fun env2 M2 σ2 H2 G2 e2 S2 q2 => ⟨env2, M2, G2, (e1.trans e).trans e2, S2, q2⟩
  exact ⟨env', M', G', _, S', q', ⟨nxt, L.rt.mono (e1.trans e), L.nx.mono (e1.trans e), nxt, L.ex.mono (e1.trans e)⟩⟩
theorem qs_forR1 {tg a : Expr} {body : List Stmt} {t : QA} {g : QTG} {b : QS} {p pos' : Pos} (po : PassesOwn (model X.prog X.w) X.A X.env X.xe) (hc : TC.CoolX X) (hm : X.mg "range" = none) (ha : QPA X W [a] t) (hgt : QPG X tg g) (hb : QPSs X W body b) (hg : Gl X "range" := by rfl)
    (hst : starEach [a] X.env = [(false, eval a X.env)] := by rfl) (hfs : ∀ x, foldedSetIterable (.Call (.Name "range" p) [a] [] pos') X.env x = pure x := by intro _; rfl) : QPS X W (.For tg (.Call (.Name "range" p) [a] [] pos') body [] pos) (sForR1 t g b) :=
  (TC.ps_forC (C := TC.CoolX) po hc (TC.pic_range1 hg hm ha hst) hgt hb hfs).imp fun D σ H ⟨env, M, G, D0, S, q, L⟩ => by
    refine ⟨env, M, G, _, _, S, q, fun xs M1 vs H1 G1 e1 w1 r1 q1 => ?_, liftX_E S.env L.ex⟩
    obtain ⟨hi, rfl, ⟨b1, b2⟩, I, i0, _, hs, hd⟩ := q1
    obtain ⟨v, rfl, rv⟩ := reps1 r1
    cases rv
    refine ⟨hi, rfl, b1, b2, for_range (lo := 0) (n := hi.toNat) (PvQ X.K G I) ⟨env, M1, G1, e1, S.to e1 w1, i0⟩ (fun i σ H hi' ⟨env, M, G2, e2, S2, q2⟩ => ?_) (fun σ H ⟨env, M, G2, e2, S2, q2⟩ => L.nx env M σ H G2 e2 S2 (hd env M q2))⟩
    exact turnQ L e2 S2 (x := .int i) (by show V.int _ = V.int _; rw [Int.zero_add]) (hs i _ env M hi' rfl q2)
theorem qs_forR2 {tg a c : Expr} {body : List Stmt} {t : QA} {g : QTG} {b : QS} {p pos' : Pos} (po : PassesOwn (model X.prog X.w) X.A X.env X.xe) (hc : TC.CoolX X) (hm : X.mg "range" = none) (ha : QPA X W [a, c] t) (hgt : QPG X tg g) (hb : QPSs X W body b) (hg : Gl X "range" := by rfl)
    (hst : starEach [a, c] X.env = [(false, eval a X.env), (false, eval c X.env)] := by rfl) (hst2 : starEach [c] X.env = [(false, eval c X.env)] := by rfl) (hfs : ∀ x, foldedSetIterable (.Call (.Name "range" p) [a, c] [] pos') X.env x = pure x := by intro _; rfl) :
    QPS X W (.For tg (.Call (.Name "range" p) [a, c] [] pos') body [] pos) (sForR2 t g b) :=
  (TC.ps_forC (C := TC.CoolX) po hc (TC.pic_range2 hg hm ha hst hst2) hgt hb hfs).imp fun D σ H ⟨env, M, G, D0, S, q, L⟩ => by
    refine ⟨env, M, G, _, _, S, q, fun xs M1 vs H1 G1 e1 w1 r1 q1 => ?_, liftX_E S.env L.ex⟩
    obtain ⟨lo, hi, rfl, ⟨b1, b2, b3, b4⟩, I, i0, _, hs, hd⟩ := q1
    obtain ⟨v, u, rfl, rv, ru⟩ := reps2 r1
    cases rv; cases ru
    refine ⟨lo, hi, rfl, ⟨b1, b2, b3, b4⟩, for_range (lo := lo) (n := (hi - lo).toNat) (PvQ X.K G I) ⟨env, M1, G1, e1, S.to e1 w1, i0⟩ (fun i σ H hi' ⟨env, M, G2, e2, S2, q2⟩ => ?_) (fun σ H ⟨env, M, G2, e2, S2, q2⟩ => L.nx env M σ H G2 e2 S2 (hd env M q2))⟩
    exact turnQ L e2 S2 (x := .int (lo + i)) rfl (hs i _ env M hi' rfl q2)
theorem qs_forT {tg e : Expr} {body : List Stmt} {t : QT} {g : QTG} {b : QS} (po : PassesOwn (model X.prog X.w) X.A X.env X.xe) (hc : TC.CoolX X) (he : QE X W e t) (hgt : QPG X tg g) (hb : QPSs X W body b) (hfs : ∀ x, foldedSetIterable e X.env x = pure x := by intro _; rfl) :
    QPS X W (.For tg e body [] pos) (sForT t g b) :=
  (TC.ps_forC (C := TC.CoolX) po hc (TC.pic_tup he) hgt hb hfs).imp fun D σ H ⟨env, M, G, D0, S, q, L⟩ => by
    refine ⟨env, M, G, _, _, S, q, fun x M1 v H1 G1 e1 w1 r1 q1 => ?_, liftX_E S.env L.ex⟩
    dsimp only at q1
    split at q1
    · rename_i xs
      obtain ⟨a, vs, rfl, h1, r1⟩ := r1
      obtain ⟨I, i0, _, hs, hd⟩ := q1
      have hT := ext_t w1.sub h1
      refine ⟨a, rfl, ⟨_, hT⟩, for_tup (K := X.K) (a := a) (xs := vs) (PvQ X.K G1 I) ⟨env, M1, G1, Ext.refl _, S.to e1 w1, i0⟩ (fun i σ H _ ⟨env, M, G2, e2, S2, q2⟩ => ext_t S2.wf.sub (ext_t e2 h1)) (fun i v σ H hi' ⟨env, M, G2, e2, S2, q2⟩ => ?_)
        (fun σ H ⟨env, M, G2, e2, S2, q2⟩ => L.nx env M σ H G2 (e1.trans e2) S2 (hd env M (by rw [r1.length]; exact q2)))⟩
      obtain ⟨x, hx, rx⟩ := r1.getV hi'
      exact turnQ (L.mono e1) e2 S2 (Rep.mono e2 _ _ rx) (hs i _ env M (List.getElem?_eq_some_iff.mp hx).1 hx q2)
    · exact q1.elim
theorem qs_forL {tg e : Expr} {body : List Stmt} {t : QT} {g : QTG} {b : QS} (po : PassesOwn (model X.prog X.w) X.A X.env X.xe) (hc : TC.CoolX X) (he : QE X W e t) (hgt : QPG X tg g) (hb : QPSs X W body b) (hfs : ∀ x, foldedSetIterable e X.env x = pure x := by intro _; rfl) :
    QPS X W (.For tg e body [] pos) (sForL t g b) :=
  (TC.ps_forC (C := TC.CoolX) po hc (TC.pic_list he) hgt hb hfs).imp fun D σ H ⟨env, M, G, D0, S, q, L⟩ => by
    refine ⟨env, M, G, _, _, S, q, fun x M1 v H1 G1 e1 w1 r1 q1 => ?_, liftX_E S.env L.ex⟩
    dsimp only at q1
    split at q1
    · rename_i xs
      obtain ⟨a, vs, rfl, h1, r1⟩ := r1
      obtain ⟨I, i0, _, hs, hd⟩ := q1
      refine ⟨a, rfl, ⟨_, SqL.of (w1.sub _ _ h1)⟩, for_list (K := X.K) (a := a) (xs := vs) (PvQ X.K G1 I) ⟨env, M1, G1, Ext.refl _, S.to e1 w1, i0⟩ (fun i σ H _ ⟨env, M, G2, e2, S2, q2⟩ => SqL.of (S2.wf.sub _ _ (e2 _ _ h1))) (fun i v σ H hi' ⟨env, M, G2, e2, S2, q2⟩ => ?_)
        (fun σ H ⟨env, M, G2, e2, S2, q2⟩ => L.nx env M σ H G2 (e1.trans e2) S2 (hd env M (by rw [r1.length]; exact q2)))⟩
      obtain ⟨x, hx, rx⟩ := r1.getV hi'
      exact turnQ (L.mono e1) e2 S2 (Rep.mono e2 _ _ rx) (hs i _ env M (List.getElem?_eq_some_iff.mp hx).1 hx q2)
    · rename_i ns
      obtain ⟨a, rfl, h1⟩ := r1
      obtain ⟨I, i0, _, hs, hd⟩ := q1
      refine ⟨a, rfl, ⟨_, ext_l w1.sub h1⟩, for_list (K := X.K) (a := a) (xs := ns.map V.int) (PvQ X.K G1 I) ⟨env, M1, G1, Ext.refl _, S.to e1 w1, i0⟩ (fun i σ H _ ⟨env, M, G2, e2, S2, q2⟩ => ext_l S2.wf.sub (ext_l e2 h1)) (fun i v σ H hi' ⟨env, M, G2, e2, S2, q2⟩ => ?_)
        (fun σ H ⟨env, M, G2, e2, S2, q2⟩ => L.nx env M σ H G2 (e1.trans e2) S2 (hd env M (by rw [List.length_map] at q2; exact q2)))⟩
      rw [List.getElem?_map] at hi'
      cases hn : ns[i]? with
      | none => rw [hn] at hi'; cases hi'
      | some n =>
        rw [hn] at hi'
        cases hi'
        exact turnQ (L.mono e1) e2 S2 (x := .int n) rfl (hs i _ env M (List.getElem?_eq_some_iff.mp hn).1 ⟨n, hn, rfl⟩ q2)
    · rename_i a
      cases r1
      obtain ⟨xs, hm, I, i0, hst, hs, hd⟩ := q1
      obtain ⟨_, vs, h1, r1⟩ := w1.mem a _ hm
      refine ⟨a, rfl, ⟨_, SqL.of h1⟩, fun i m σ H => m = xs.length - i ∧ i ≤ xs.length ∧ PvQ X.K G1 I i σ H, ⟨xs.length, by omega, Nat.zero_le _, env, M1, G1, Ext.refl _, S.to e1 w1, i0⟩, fun i m σ H ⟨hm', hi, env, M, G2, e2, S2, q2⟩ => ?_⟩
      obtain ⟨_, ws, h2, r2⟩ := S2.wf.mem a _ (hst i env M hi q2)
      by_cases hn : i = xs.length
      · subst hn
        exact .inl ⟨⟨ws, SqL.of h2, by rw [r2.length]; exact Nat.le_refl _⟩, L.nx env M σ H G2 (e1.trans e2) S2 (hd env M q2)⟩
      · have hi2 : i < xs.length := by omega
        obtain ⟨v, hv, rv⟩ := r2.get (List.getElem?_eq_getElem hi2)
        refine .inr ⟨⟨ws, v, SqL.of h2, hv⟩, PvQ X.K G1 I (i + 1), fun σ' H' h => ⟨m - 1, by omega, by omega, by omega, h⟩, fun x H' hy => ?_⟩
        obtain ⟨rfl, hy⟩ := hy
        have e := hy ws (SqL.of h2)
        rw [hv] at e
        cases e
        exact turnQ (L.mono e1) e2 S2 rv (hs i _ env M hi2 (List.getElem?_eq_getElem hi2) q2)
    · exact q1.elim
end
end TQ

namespace TQ
open PySem PySem.Spec PyProof.Rows L2
/-! ### list comprehensions whose elements leave what is written as it is -/
theorem wipe_get (vs : List Nat) : ∀ {α : Type} (f : List (Option α) → List Nat → List (Option α)) (hf0 : ∀ σ, f σ [] = σ) (hf1 : ∀ σ v vs, f σ (v :: vs) = (f σ vs).set v none) (σ : List (Option α)) (i : Nat), (f σ vs)[i]? = if i ∈ vs then σ[i]?.map (fun _ => none) else σ[i]? := by
  intro α f hf0 hf1 σ i
  induction vs with
  | nil => rw [hf0]; simp
  | cons v vs ih =>
    rw [hf1, List.getElem?_set]
    by_cases h : v = i
    · subst h
      have hl : (f σ vs).length = σ.length := by
        clear ih
        induction vs with
        | nil => rw [hf0]
        | cons w vs ih => rw [hf1, List.length_set, ih]
      rw [if_pos rfl, if_pos List.mem_cons_self, hl]
      by_cases hv : v < σ.length
      · rw [if_pos hv, List.getElem?_eq_getElem hv]; rfl
      · rw [if_neg hv, List.getElem?_eq_none (by omega)]; rfl
    · rw [if_neg h, ih]
      by_cases hm : i ∈ vs
      · rw [if_pos hm, if_pos (List.mem_cons_of_mem _ hm)]
      · rw [if_neg hm, if_neg (fun z => by rcases List.mem_cons.mp z with e | e; exact h e.symm; exact hm e)]
def wipeQ (env : Sl) : List Nat → Sl
  | [] => env
  | v :: vs => (wipeQ env vs).set v none
theorem wipeV_get (σ : L2.St) (vs : List Nat) (i : Nat) : (wipe σ vs)[i]? = if i ∈ vs then σ[i]?.map (fun _ => none) else σ[i]? := wipe_get vs (f := wipe) (fun _ => rfl) (fun _ _ _ => rfl) σ i
theorem wipeQ_get (σ : Sl) (vs : List Nat) (i : Nat) : (wipeQ σ vs)[i]? = if i ∈ vs then σ[i]?.map (fun _ => none) else σ[i]? := wipe_get vs (f := wipeQ) (fun _ => rfl) (fun _ _ _ => rfl) σ i
theorem wipe_set {σ : L2.St} {vs : List Nat} {j : Nat} {x : Option V} (h : j ∈ vs) : wipe ((wipe σ vs).set j x) vs = wipe σ vs := by
  apply List.ext_getElem?
  intro i
  rw [wipeV_get, wipeV_get]
  by_cases hi : i ∈ vs
  · rw [if_pos hi, if_pos hi, List.getElem?_set]
    by_cases e : j = i
    · subst e
      rw [if_pos rfl]
      by_cases hl : j < σ.length
      · rw [if_pos (by rw [wipe_length]; exact hl), List.getElem?_eq_getElem hl]; rfl
      · rw [if_neg (by rw [wipe_length]; exact hl), List.getElem?_eq_none (by omega)] <;> rfl
    · rw [if_neg e, wipeV_get, if_pos hi]
      cases σ[i]? <;> rfl
  · rw [if_neg hi, if_neg hi, List.getElem?_set_ne (fun e => hi (by rw [← e]; exact h)), wipeV_get, if_neg hi]
theorem wipe_set2 {σ : L2.St} {vs : List Nat} {j k : Nat} {x y : Option V} (h : j ∈ vs) (h2 : k ∈ vs) : wipe (((wipe σ vs).set j x).set k y) vs = wipe σ vs := by
  apply List.ext_getElem?
  intro i
  rw [wipeV_get]
  by_cases hi : i ∈ vs
  · rw [if_pos hi]
    have e := congrArg (fun l => l[i]?) (wipe_set (σ := σ) (x := x) h)
    simp only [wipeV_get, if_pos hi] at e
    rw [wipeV_get, if_pos hi, ← e, List.getElem?_set]
    by_cases e2 : k = i
    · subst e2
      rw [if_pos rfl]
      by_cases hl : k < σ.length
      · rw [if_pos (by rw [List.length_set, wipe_length]; exact hl), List.getElem?_eq_getElem (by rw [List.length_set, wipe_length]; exact hl)]; rfl
      · rw [if_neg (by rw [List.length_set, wipe_length]; exact hl), List.getElem?_eq_none (by rw [List.length_set, wipe_length]; omega)] <;> rfl
    · rw [if_neg e2]
  · rw [if_neg hi, List.getElem?_set_ne (fun e => hi (by rw [← e]; exact h2)), List.getElem?_set_ne (fun e => hi (by rw [← e]; exact h))]
theorem EnvR.wipe {K : PySem.W.Frag} {G : Hp} {env : Sl} {σ : L2.St} (h : EnvR K G env σ) (vs : List Nat) : EnvR K G (wipeQ env vs) (L2.wipe σ vs) := by
  refine ⟨?_, fun i x e => ?_⟩
  · have q : ∀ (env : Sl) (vs : List Nat), (wipeQ env vs).length = env.length := fun env vs => by
      induction vs with
      | nil => rfl
      | cons v vs ih => show ((wipeQ env vs).set v none).length = _; rw [List.length_set, ih]
    rw [q, wipe_length, h.len]
  · rw [wipeQ_get] at e
    rw [wipeV_get]
    by_cases hi : i ∈ vs
    · rw [if_pos hi] at e
      cases z : env[i]? with
      | none => rw [z] at e; cases e
      | some o => rw [z] at e; cases e
    · rw [if_neg hi] at e ⊢
      exact h.get i x e
abbrev EF : EK := fun _ _ _ => False
abbrev W0 : WX := fun _ _ _ _ => False
theorem EF_lift {K : PySem.W.Frag} {G : Hp} {E : XK} : LiftE K G EF E := fun _ _ _ _ _ _ _ _ _ q => q.elim
theorem mset_mset {M : Mem} {a : Addr} {m n : MO} : mset (mset M a m) a n = mset M a n := by
  funext b; unfold mset; split <;> rfl
/-- what was written is written no more -/
theorem Wf.freeze {K : PySem.W.Frag} {M : Mem} {H G : Hp} {D : Addr} {xs : List PV} (w : Wf K (mset M D (.lst xs)) H G) (hn : M D = none) : ∃ vs, H D = some (.lst vs) ∧ Reps K G xs vs ∧ G D = none ∧ Wf K M H (upd G D (.lst vs)) := by
  obtain ⟨g0, vs, h1, r1⟩ := w.mem D _ mset_same
  refine ⟨vs, h1, r1, g0, fun a o e => ?_, fun a m e => ?_, fun a ps e => ?_⟩
  · by_cases z : a = D
    · subst z; rw [upd_same] at e; cases e; exact h1
    · rw [upd_ne z] at e; exact w.sub a o e
  · have z : a ≠ D := by rintro rfl; rw [hn] at e; cases e
    obtain ⟨g1, q⟩ := w.mem a m (by rw [mset_ne z]; exact e)
    exact ⟨by rw [upd_ne z]; exact g1, q.mono (Ext.new g0) (fun c o u q n => by rw [upd_ne (ne_of q h1 (fun z => by cases z))]; exact n) (fun _ _ q _ => q) rfl⟩
  · by_cases z : a = D
    · subst z; rw [upd_same] at e; cases e
    · rw [upd_ne z] at e; exact w.ntb a ps e
def MExt (M M' : Mem) : Prop := ∀ a o, M a = some o → M' a = some o
theorem MExt.refl (M : Mem) : MExt M M := fun _ _ h => h
/-- one turn: the target's slots, the test, the element -/
def lcEl (tt : QB) (te : QT) (env2 : Sl) (M2 : Mem) (r : Option PV) : Prop := tt env2 M2 (fun b M4 => M4 = M2 ∧ if b = true then te env2 M2 (fun y M5 => M5 = M2 ∧ r = some y) EF else r = none) EF
def qYes : QB := fun _ M Q _ => Q true M
/-- the kit's test of a comprehension's block -/
def tieY (K : PySem.W.Frag) (tt : QB) : TT := fun σ H Q => tieB K W0 tt σ H Q
abbrev QPTs (X : Cx) (ifs : List Expr) (t : QB) : Prop := PTs X ifs (tieB X.K W0 t)
theorem qts_nil {X : Cx} : QPTs X [] qYes := ⟨fun pins s σ H Q I h => pts_nil.run pins s σ H Q I (by
  obtain ⟨env, M, G, Q0, E0, S, q, L, LE⟩ := h
  exact L true M H G (Ext.refl G) S.wf q)⟩
theorem qts_one {X : Cx} {c : Expr} {t : QB} (h : QPT X W0 c t) : QPTs X [c] t := pts_one h
section
variable {K : PySem.W.Frag}
/-- the accumulator's state ahead of turn i -/
def lcP (K : PySem.W.Frag) (G1 : Hp) (M1 : Mem) (D : Addr) (items : List PV) (r : PV → Option PV) (i : Nat) (H : Hp) : Prop := ∃ G', Ext G1 G' ∧ Wf K (mset M1 D (.lst ((items.take i).filterMap r))) H G'
theorem take_next {items : List PV} {r : PV → Option PV} {i : Nat} {x : PV} (h : items[i]? = some x) : (items.take (i + 1)).filterMap r = (items.take i).filterMap r ++ (match r x with
    | some y => [y]
    | none => []) := by
  rw [List.take_add_one, h, List.filterMap_append]
  congr 1
  simp only [Option.toList]
  cases hr : r x <;> simp [hr]
theorem lc_turnQ {G1 G' H : Hp} {M1 : Mem} {D : Addr} {items : List PV} {r : PV → Option PV} {i : Nat} {x : PV} {env2 : Sl} {σ2 : L2.St} {tt : QB} {te : QT} {Nx : Hp → Prop} (hn : items.length ≤ 100000) (hi : items[i]? = some x) (e1 : Ext G1 G') (hD : M1 D = none)
    (S : Sim K env2 (mset M1 D (.lst ((items.take i).filterMap r))) G' σ2 H) (q : ∀ M2, MExt M1 M2 → lcEl tt te env2 M2 (r x)) (hN : ∀ H', lcP K G1 M1 D items r (i + 1) H' → Nx H') :
    tieB K W0 tt σ2 H fun b H3 => if b = true then tie K W0 te σ2 H3 fun y H4 => ∃ acc, H4 D = some (.lst acc) ∧ acc.length < sizeLine ∧ Nx (upd H4 D (.lst (acc ++ [y]))) else Nx H3 := by
  have hx : MExt M1 (mset M1 D (.lst ((items.take i).filterMap r))) := fun a o e => by rw [mset_ne (by rintro rfl; rw [hD] at e; cases e)]; exact e
  have q := q _ hx
  refine ⟨env2, _, G', _, EF, S, q, fun b M4 H3 G3 e3 w3 q3 => ?_, EF_lift⟩
  obtain ⟨rfl, q3⟩ := q3
  cases b with
  | false =>
    rw [if_neg (by simp)] at q3
    rw [if_neg (by simp)]
    refine hN _ ⟨G3, e1.trans e3, ?_⟩
    rw [take_next hi, q3, List.append_nil]
    exact w3
  | true =>
    rw [if_pos rfl] at q3
    rw [if_pos rfl]
    refine ⟨env2, _, G3, _, EF, S.to e3 w3, q3, fun y M5 v H4 G4 e4 w4 ry q4 => ?_, EF_lift⟩
    obtain ⟨rfl, q4⟩ := q4
    obtain ⟨g0, acc, h1, r1⟩ := w4.mem D _ mset_same
    refine ⟨acc, h1, ?_, hN _ ⟨G4, (e1.trans e3).trans e4, ?_⟩⟩
    · rw [← r1.length, sizeLine_eq]
      have h1 := List.length_filterMap_le r (items.take i)
      have h2 := List.length_take_le i items
      have h3 := List.length_take_le' i items
      omega
    · have w5 := w4.put (p := D) (o := .lst (acc ++ [v])) (m := .lst ((items.take i).filterMap r ++ [y])) g0 (mok_lst (r1.append (Reps.one ry)))
      rw [mset_mset] at w5
      rw [take_next hi, q4]
      exact w5
end
def lcQ (items : List PV) (slots : PV → Option Sl) (tt : QB) (te : QT) (M1 : Mem) (Q : PK) : Prop := items.length ≤ 100000 ∧ ∃ r : PV → Option PV,
  (∀ x ∈ items, ∀ M2, MExt M1 M2 → ∃ env2, slots x = some env2 ∧ lcEl tt te env2 M2 (r x)) ∧ Q (.lst (items.filterMap r)) M1
def qLcL (j : Nat) (vs : List Nat) (tl : QT) (tt : QB) (te : QT) : QT := fun env M Q E => tl env M (fun x M1 => match sqA M1 x with
  | some items => lcQ items (fun y => some ((wipeQ env vs).set j (some y))) tt te M1 Q
  | none => False) E
def qLcR1 (j : Nat) (vs : List Nat) (ta : QA) (tt : QB) (te : QT) : QT := fun env M Q E => ta env M (fun xs M1 => ∃ hi, xs = [.int hi] ∧ (-(2 ^ 62) ≤ hi ∧ hi < 2 ^ 62) ∧
  lcQ ((List.range hi.toNat).map fun i => .int (i : Nat)) (fun y => some ((wipeQ env vs).set j (some y))) tt te M1 Q) E
def qLcT (j : Nat) (vs : List Nat) (tl : QT) (tt : QB) (te : QT) : QT := fun env M Q E => tl env M (fun x M1 => ∃ items, x = .tup items ∧ lcQ items (fun y => some ((wipeQ env vs).set j (some y))) tt te M1 Q) E
section
variable {X : Cx} {W : WX} {pos : Pos}
theorem lc_end {G1 H : Hp} {M1 : Mem} {D : Addr} {items : List PV} {r : PV → Option PV} {Q0 : PK} {Q : VK} (L : LiftV X.K G1 Q0 Q) (hD : M1 D = none) (p : lcP X.K G1 M1 D items r items.length H) (q : Q0 (.lst (items.filterMap r)) M1) : Q (.ref D) H := by
  obtain ⟨G', e1, w⟩ := p
  rw [List.take_length] at w
  obtain ⟨vs, h1, r1, g0, w2⟩ := w.freeze hD
  exact L (.lst (items.filterMap r)) M1 _ H _ (e1.trans (Ext.new g0)) w2 ⟨D, vs, rfl, upd_same, Reps.mono (Ext.new g0) _ _ r1⟩ q
theorem lcL_imp {own : List Nat} {j : Nat} {tl : QT} {tt : QB} {te : QT} {σ : L2.St} {H : Hp} {Q : VK} (hj : j ∈ own) (h : tie X.K W (qLcL j own tl tt te) σ H Q) : tLc (iList X.K (tie X.K W tl)) (gName j) (tieB X.K W0 tt) (tie X.K W0 te) own σ H Q := by
    obtain ⟨env, M, G, Q0, E0, S, q, L, LE⟩ := h
    refine ⟨env, M, G, _, E0, S, q, fun y M1 v H1 G1 e1 w1 r1 q1 => ?_, LE⟩
    dsimp only at q1
    cases hs : sqA M1 y with
    | none => rw [hs] at q1; exact q1.elim
    | some items =>
      rw [hs] at q1
      obtain ⟨hn, r, hr, q1⟩ := q1
      obtain ⟨p, vs, rfl, h1, rs⟩ := sqA_H hs r1 w1
      refine ⟨p, rfl, ⟨_, h1⟩, fun D hD => ?_⟩
      have hM := w1.freeM hD
      -- the items as they stand at any turn
      have src : ∀ {H' G' : Hp} {acc : List PV}, Ext G1 G' → Wf X.K (mset M1 D (.lst acc)) H' G' → ∃ ws, SqL X.K H' p ws ∧ Reps X.K G' items ws := fun {H' G' acc} e w => by
        have hs2 : sqA (mset M1 D (.lst acc)) y = some items := by
          cases y with
          | ref a =>
            have ha : M1 a = some (.lst items) := ml_some (show ml (M1 a) = some items from hs)
            show ml (mset M1 D (.lst acc) a) = some items
            rw [mset_ne (by rintro rfl; rw [hM] at ha; cases ha)]
            exact hs
          | _ => exact hs
        obtain ⟨p', ws, ep, h2, r2⟩ := sqA_H hs2 (Rep.mono e _ _ r1) w
        cases ep
        exact ⟨ws, h2, r2⟩
      refine ⟨fun i m H => m = items.length - i ∧ i ≤ items.length ∧ lcP X.K G1 M1 D items r i H, ⟨items.length, by omega, Nat.zero_le _, G1, Ext.refl _, ?_⟩, fun i m H ⟨hm, hi, hp⟩ => ?_⟩
      · exact w1.put (w1.free hD) (mok_lst Reps.nil)
      · obtain ⟨G', e', w'⟩ := _root_.id hp
        obtain ⟨ws, h2, r2⟩ := src e' w'
        by_cases hz : i = items.length
        · subst hz
          exact .inl ⟨⟨ws, h2, by rw [r2.length]; exact Nat.le_refl _⟩, lc_end (L.mono e1) hM hp q1⟩
        · have hlt : i < items.length := by omega
          have hx := List.getElem?_eq_getElem hlt
          obtain ⟨v, hv, rv⟩ := r2.get hx
          refine .inr ⟨⟨ws, v, h2, hv⟩, lcP X.K G1 M1 D items r (i + 1), fun H' h => ⟨m - 1, by omega, by omega, by omega, h⟩, fun z H' hy => ?_⟩
          obtain ⟨rfl, hy⟩ := hy
          have ez := hy ws h2
          rw [hv] at ez
          cases ez
          refine ⟨wipe_set hj, ?_⟩
          have S2 : Sim X.K ((wipeQ env own).set j (some items[i])) _ G' ((L2.wipe σ own).set j (some v)) H' := ⟨((S.env.mono (e1.trans e')).wipe _).set rv, w'⟩
          refine lc_turnQ hn hx e' hM S2 (fun M2 hM2 => ?_) (fun H' h => h)
          obtain ⟨env2, ee, q2⟩ := hr _ (List.getElem_mem hlt) M2 hM2
          cases ee
          exact q2
theorem lcT_imp {own : List Nat} {j : Nat} {tl : QT} {tt : QB} {te : QT} {σ : L2.St} {H : Hp} {Q : VK} (hj : j ∈ own) (h : tie X.K W (qLcT j own tl tt te) σ H Q) : tLc (iTup X.K (tie X.K W tl)) (gName j) (tieB X.K W0 tt) (tie X.K W0 te) own σ H Q := by
    obtain ⟨env, M, G, Q0, E0, S, q, L, LE⟩ := h
    refine ⟨env, M, G, _, E0, S, q, fun y M1 v H1 G1 e1 w1 r1 q1 => ?_, LE⟩
    obtain ⟨items, rfl, hn, r, hr, q1⟩ := q1
    obtain ⟨p, vs, rfl, h1, rs⟩ := r1
    refine ⟨p, rfl, ⟨_, ext_t w1.sub h1⟩, fun D hD => ?_⟩
    have hM := w1.freeM hD
    refine lc_tup (K := X.K) (a := p) (xs := vs) (lcP X.K G1 M1 D items r) ⟨G1, Ext.refl _, w1.put (w1.free hD) (mok_lst Reps.nil)⟩ (fun i H _ ⟨G', e', w'⟩ => ext_t w'.sub (ext_t e' h1)) (fun i v H hv ⟨G', e', w'⟩ => ?_)
      (fun H hp => lc_end (L.mono e1) hM (by rw [rs.length]; exact hp) q1)
    obtain ⟨z, hx, rz⟩ := rs.getV hv
    refine ⟨wipe_set hj, ?_⟩
    have S2 : Sim X.K ((wipeQ env own).set j (some z)) _ G' ((L2.wipe σ own).set j (some v)) H := ⟨((S.env.mono (e1.trans e')).wipe _).set (Rep.mono e' _ _ rz), w'⟩
    refine lc_turnQ hn hx e' hM S2 (fun M2 hM2 => ?_) (fun H' h => h)
    obtain ⟨env2, ee, q2⟩ := hr _ (List.mem_of_getElem? hx) M2 hM2
    cases ee
    exact q2
theorem lcR1_imp {own : List Nat} {j : Nat} {ta : QA} {tt : QB} {te : QT} {σ : L2.St} {H : Hp} {Q : VK} (hj : j ∈ own) (h : tie X.K W (qLcR1 j own ta tt te) σ H Q) : tLc (iRng1 (tieA X.K W ta)) (gName j) (tieB X.K W0 tt) (tie X.K W0 te) own σ H Q := by
    obtain ⟨env, M, G, Q0, E0, S, q, L, LE⟩ := h
    refine ⟨env, M, G, _, E0, S, q, fun xs M1 vs H1 G1 e1 w1 r1 q1 => ?_, LE⟩
    obtain ⟨hi, rfl, ⟨b1, b2⟩, hn, r, hr, q1⟩ := q1
    obtain ⟨v, rfl, rv⟩ := reps1 r1
    cases rv
    refine ⟨hi, rfl, b1, b2, fun D hD => ?_⟩
    have hM := w1.freeM hD
    have hlen : ((List.range hi.toNat).map fun i => PV.int (i : Nat)).length = hi.toNat := by simp
    refine lc_range (lo := 0) (n := hi.toNat) (lcP X.K G1 M1 D ((List.range hi.toNat).map fun i => PV.int (i : Nat)) r) ⟨G1, Ext.refl _, w1.put (w1.free hD) (mok_lst Reps.nil)⟩ (fun i H hlt ⟨G', e', w'⟩ => ?_)
      (fun H hp => lc_end (L.mono e1) hM (by rw [hlen]; exact hp) q1)
    have hx : ((List.range hi.toNat).map fun i => PV.int (i : Nat))[i]? = some (.int (i : Nat)) := by
      rw [List.getElem?_map, List.getElem?_range hlt]; rfl
    refine ⟨wipe_set hj, ?_⟩
    have S2 : Sim X.K ((wipeQ env own).set j (some (.int (i : Nat)))) _ G' ((L2.wipe σ own).set j (some (.int (0 + (i : Int))))) H := ⟨((S.env.mono (e1.trans e')).wipe _).set (show V.int _ = V.int _ by rw [Int.zero_add]), w'⟩
    refine lc_turnQ hn hx e' hM S2 (fun M2 hM2 => ?_) (fun H' h => h)
    obtain ⟨env2, ee, q2⟩ := hr _ (List.mem_of_getElem? hx) M2 hM2
    cases ee
    exact q2
theorem qe_lcL {elt iter : Expr} {x : Str} {px : Pos} {ifs : List Expr} {scope : Scope} {own : List (Str × Nat)} {j : Nat} {tl : QT} {tt : QB} {te : QT} (hc : TC.CoolX X) (hN : X.N.Nodup) (hl : QE X W iter tl) (hj : j ∈ own.map (·.2))
    (ok : BlkOk X.N X.env.scope scope own) (hg : ∀ (s : Shared) (H : Hp) (C : Addr) (cl : List (Str × Addr)) (fp : List Addr) (xe : Value → Shared → Prop), PG (TC.blkX X s H scope (compEnvC scope cl C X.env) fp xe) (.Name x px) (gName j))
    (ht : ∀ (s : Shared) (H : Hp) (C : Addr) (cl : List (Str × Addr)) (fp : List Addr) (xe : Value → Shared → Prop), QPTs (TC.blkX X s H scope (compEnvC scope cl C X.env) fp xe) ifs tt)
    (he : ∀ (s : Shared) (H : Hp) (C : Addr) (cl : List (Str × Addr)) (fp : List Addr) (xe : Value → Shared → Prop), QE (TC.blkX X s H scope (compEnvC scope cl C X.env) fp xe) W0 elt te) (hfs : ∀ v, foldedSetIterable iter X.env v = pure v := by intro _; rfl) :
    QE X W (.ListComp elt [{ target := .Name x px, iter := iter, ifs := ifs, is_async := 0 }] scope pos) (qLcL j (own.map (·.2)) tl tt te) :=
  (TC.pe_lcX (C := TC.CoolX) (Wb := W0) (tt := tieB X.K W0 tt) (te := tie X.K W0 te) hc hN (TC.pic_list hl) ok hg (fun s H c cl fp xe _ => ht s H c cl fp xe) (fun s H c cl fp xe _ => he s H c cl fp xe) (fun _ _ _ _ _ _ => TC.blkTk_none) hfs).imp fun σ H Q h => lcL_imp hj h
theorem qs_lcL (i : Nat) {y : Str} {py spos : Pos} {elt iter : Expr} {x : Str} {px : Pos} {ifs : List Expr} {scope : Scope} {own : List (Str × Nat)} {j : Nat} {tl : QT} {tt : QB} {te : QT} (hc : TC.CoolX X) (hN : X.N.Nodup) (hl : QE X W iter tl) (hj : j ∈ own.map (·.2))
    (ok : BlkOk X.N X.env.scope scope own) (hg : ∀ (s : Shared) (H : Hp) (C : Addr) (cl : List (Str × Addr)) (fp : List Addr) (xe : Value → Shared → Prop), PG (TC.blkX X s H scope (compEnvC scope cl C X.env) fp xe) (.Name x px) (gName j))
    (ht : ∀ (s : Shared) (H : Hp) (C : Addr) (cl : List (Str × Addr)) (fp : List Addr) (xe : Value → Shared → Prop), QPTs (TC.blkX X s H scope (compEnvC scope cl C X.env) fp xe) ifs tt)
    (he : ∀ (s : Shared) (H : Hp) (C : Addr) (cl : List (Str × Addr)) (fp : List Addr) (xe : Value → Shared → Prop), QE (TC.blkX X s H scope (compEnvC scope cl C X.env) fp xe) W0 elt te) (hfs : ∀ v, foldedSetIterable iter X.env v = pure v := by intro _; rfl) (hlo : X.env.scope.names.lookup y = some .local := by rfl) (hi : X.N[i]? = some y := by rfl) (hsw : swapsWith (.ListComp elt [{ target := .Name x px, iter := iter, ifs := ifs, is_async := 0 }] scope pos) (some (.Name y py)) spos.line X.env = pure true := by exact sw_true rfl rfl rfl (by decide +kernel)) :
    QPS X W (.Assign [.Name y py] (.ListComp elt [{ target := .Name x px, iter := iter, ifs := ifs, is_async := 0 }] scope pos) spos) (sAsg (qLcL j (own.map (·.2)) tl tt te) (gNm i)) :=
  (TC.ps_setLcX (C := TC.CoolX) (Wb := W0) (tt := tieB X.K W0 tt) (te := tie X.K W0 te) hc hN hi hlo hsw (TC.pic_list hl) ok hg (fun s H c cl fp xe _ => ht s H c cl fp xe) (fun s H c cl fp xe _ => he s H c cl fp xe) (fun _ _ _ _ _ _ _ => TC.blkTk_none) hfs).imp fun D σ H h => lcL_imp hj (tieNm (tieAsg h) fun _ _ _ _ k z => tie_mono k z)
theorem qe_lcT {elt iter : Expr} {x : Str} {px : Pos} {ifs : List Expr} {scope : Scope} {own : List (Str × Nat)} {j : Nat} {tl : QT} {tt : QB} {te : QT} (hc : TC.CoolX X) (hN : X.N.Nodup) (hl : QE X W iter tl) (hj : j ∈ own.map (·.2))
    (ok : BlkOk X.N X.env.scope scope own) (hg : ∀ (s : Shared) (H : Hp) (C : Addr) (cl : List (Str × Addr)) (fp : List Addr) (xe : Value → Shared → Prop), PG (TC.blkX X s H scope (compEnvC scope cl C X.env) fp xe) (.Name x px) (gName j))
    (ht : ∀ (s : Shared) (H : Hp) (C : Addr) (cl : List (Str × Addr)) (fp : List Addr) (xe : Value → Shared → Prop), QPTs (TC.blkX X s H scope (compEnvC scope cl C X.env) fp xe) ifs tt)
    (he : ∀ (s : Shared) (H : Hp) (C : Addr) (cl : List (Str × Addr)) (fp : List Addr) (xe : Value → Shared → Prop), QE (TC.blkX X s H scope (compEnvC scope cl C X.env) fp xe) W0 elt te) (hfs : ∀ v, foldedSetIterable iter X.env v = pure v := by intro _; rfl) :
    QE X W (.ListComp elt [{ target := .Name x px, iter := iter, ifs := ifs, is_async := 0 }] scope pos) (qLcT j (own.map (·.2)) tl tt te) :=
  (TC.pe_lcX (C := TC.CoolX) (Wb := W0) (tt := tieB X.K W0 tt) (te := tie X.K W0 te) hc hN (TC.pic_tup hl) ok hg (fun s H c cl fp xe _ => ht s H c cl fp xe) (fun s H c cl fp xe _ => he s H c cl fp xe) (fun _ _ _ _ _ _ => TC.blkTk_none) hfs).imp fun σ H Q h => lcT_imp hj h
theorem qs_lcT (i : Nat) {y : Str} {py spos : Pos} {elt iter : Expr} {x : Str} {px : Pos} {ifs : List Expr} {scope : Scope} {own : List (Str × Nat)} {j : Nat} {tl : QT} {tt : QB} {te : QT} (hc : TC.CoolX X) (hN : X.N.Nodup) (hl : QE X W iter tl) (hj : j ∈ own.map (·.2))
    (ok : BlkOk X.N X.env.scope scope own) (hg : ∀ (s : Shared) (H : Hp) (C : Addr) (cl : List (Str × Addr)) (fp : List Addr) (xe : Value → Shared → Prop), PG (TC.blkX X s H scope (compEnvC scope cl C X.env) fp xe) (.Name x px) (gName j))
    (ht : ∀ (s : Shared) (H : Hp) (C : Addr) (cl : List (Str × Addr)) (fp : List Addr) (xe : Value → Shared → Prop), QPTs (TC.blkX X s H scope (compEnvC scope cl C X.env) fp xe) ifs tt)
    (he : ∀ (s : Shared) (H : Hp) (C : Addr) (cl : List (Str × Addr)) (fp : List Addr) (xe : Value → Shared → Prop), QE (TC.blkX X s H scope (compEnvC scope cl C X.env) fp xe) W0 elt te) (hfs : ∀ v, foldedSetIterable iter X.env v = pure v := by intro _; rfl) (hlo : X.env.scope.names.lookup y = some .local := by rfl) (hi : X.N[i]? = some y := by rfl) (hsw : swapsWith (.ListComp elt [{ target := .Name x px, iter := iter, ifs := ifs, is_async := 0 }] scope pos) (some (.Name y py)) spos.line X.env = pure true := by exact sw_true rfl rfl rfl (by decide +kernel)) :
    QPS X W (.Assign [.Name y py] (.ListComp elt [{ target := .Name x px, iter := iter, ifs := ifs, is_async := 0 }] scope pos) spos) (sAsg (qLcT j (own.map (·.2)) tl tt te) (gNm i)) :=
  (TC.ps_setLcX (C := TC.CoolX) (Wb := W0) (tt := tieB X.K W0 tt) (te := tie X.K W0 te) hc hN hi hlo hsw (TC.pic_tup hl) ok hg (fun s H c cl fp xe _ => ht s H c cl fp xe) (fun s H c cl fp xe _ => he s H c cl fp xe) (fun _ _ _ _ _ _ _ => TC.blkTk_none) hfs).imp fun D σ H h => lcT_imp hj (tieNm (tieAsg h) fun _ _ _ _ k z => tie_mono k z)
theorem qe_lcR1 {elt a : Expr} {x : Str} {px p pos' : Pos} {ifs : List Expr} {scope : Scope} {own : List (Str × Nat)} {j : Nat} {ta : QA} {tt : QB} {te : QT} (hc : TC.CoolX X) (hN : X.N.Nodup) (hm : X.mg "range" = none) (hl : QPA X W [a] ta) (hj : j ∈ own.map (·.2))
    (ok : BlkOk X.N X.env.scope scope own) (hg : ∀ (s : Shared) (H : Hp) (C : Addr) (cl : List (Str × Addr)) (fp : List Addr) (xe : Value → Shared → Prop), PG (TC.blkX X s H scope (compEnvC scope cl C X.env) fp xe) (.Name x px) (gName j))
    (ht : ∀ (s : Shared) (H : Hp) (C : Addr) (cl : List (Str × Addr)) (fp : List Addr) (xe : Value → Shared → Prop), QPTs (TC.blkX X s H scope (compEnvC scope cl C X.env) fp xe) ifs tt)
    (he : ∀ (s : Shared) (H : Hp) (C : Addr) (cl : List (Str × Addr)) (fp : List Addr) (xe : Value → Shared → Prop), QE (TC.blkX X s H scope (compEnvC scope cl C X.env) fp xe) W0 elt te) (hgr : Gl X "range" := by rfl)
    (hst : starEach [a] X.env = [(false, eval a X.env)] := by rfl) (hfs : ∀ v, foldedSetIterable (.Call (.Name "range" p) [a] [] pos') X.env v = pure v := by intro _; rfl) :
    QE X W (.ListComp elt [{ target := .Name x px, iter := .Call (.Name "range" p) [a] [] pos', ifs := ifs, is_async := 0 }] scope pos) (qLcR1 j (own.map (·.2)) ta tt te) :=
  (TC.pe_lcX (C := TC.CoolX) (Wb := W0) (tt := tieB X.K W0 tt) (te := tie X.K W0 te) hc hN (TC.pic_range1 hgr hm hl hst) ok hg (fun s H c cl fp xe _ => ht s H c cl fp xe) (fun s H c cl fp xe _ => he s H c cl fp xe) (fun _ _ _ _ _ _ => TC.blkTk_none) hfs).imp fun σ H Q h => lcR1_imp hj h
theorem qs_lcR1 (i : Nat) {y : Str} {py spos : Pos} {elt a : Expr} {x : Str} {px p pos' : Pos} {ifs : List Expr} {scope : Scope} {own : List (Str × Nat)} {j : Nat} {ta : QA} {tt : QB} {te : QT} (hc : TC.CoolX X) (hN : X.N.Nodup) (hm : X.mg "range" = none) (hl : QPA X W [a] ta) (hj : j ∈ own.map (·.2))
    (ok : BlkOk X.N X.env.scope scope own) (hg : ∀ (s : Shared) (H : Hp) (C : Addr) (cl : List (Str × Addr)) (fp : List Addr) (xe : Value → Shared → Prop), PG (TC.blkX X s H scope (compEnvC scope cl C X.env) fp xe) (.Name x px) (gName j))
    (ht : ∀ (s : Shared) (H : Hp) (C : Addr) (cl : List (Str × Addr)) (fp : List Addr) (xe : Value → Shared → Prop), QPTs (TC.blkX X s H scope (compEnvC scope cl C X.env) fp xe) ifs tt)
    (he : ∀ (s : Shared) (H : Hp) (C : Addr) (cl : List (Str × Addr)) (fp : List Addr) (xe : Value → Shared → Prop), QE (TC.blkX X s H scope (compEnvC scope cl C X.env) fp xe) W0 elt te) (hgr : Gl X "range" := by rfl)
    (hst : starEach [a] X.env = [(false, eval a X.env)] := by rfl) (hfs : ∀ v, foldedSetIterable (.Call (.Name "range" p) [a] [] pos') X.env v = pure v := by intro _; rfl) (hlo : X.env.scope.names.lookup y = some .local := by rfl) (hi : X.N[i]? = some y := by rfl) (hsw : swapsWith (.ListComp elt [{ target := .Name x px, iter := .Call (.Name "range" p) [a] [] pos', ifs := ifs, is_async := 0 }] scope pos) (some (.Name y py)) spos.line X.env = pure true := by exact sw_true rfl rfl rfl (by decide +kernel)) :
    QPS X W (.Assign [.Name y py] (.ListComp elt [{ target := .Name x px, iter := .Call (.Name "range" p) [a] [] pos', ifs := ifs, is_async := 0 }] scope pos) spos) (sAsg (qLcR1 j (own.map (·.2)) ta tt te) (gNm i)) :=
  (TC.ps_setLcX (C := TC.CoolX) (Wb := W0) (tt := tieB X.K W0 tt) (te := tie X.K W0 te) hc hN hi hlo hsw (TC.pic_range1 hgr hm hl hst) ok hg (fun s H c cl fp xe _ => ht s H c cl fp xe) (fun s H c cl fp xe _ => he s H c cl fp xe) (fun _ _ _ _ _ _ _ => TC.blkTk_none) hfs).imp fun D σ H h => lcR1_imp hj (tieNm (tieAsg h) fun _ _ _ _ k z => tie_mono k z)
end
end TQ

namespace TQ
open PySem PySem.Spec PyProof.Rows L2
section
variable {X : Cx} {W : WX} {pos : Pos}
/-! ### truth of ints and texts, chains -/
def trP (M : Mem) : PV → Option Bool
  | .non => some false
  | .bl b => some b
  | .int i => some (i != 0)
  | .tup xs => some (!xs.isEmpty)
  | x => (sqA M x).map fun xs => !xs.isEmpty
theorem trP_V {K : PySem.W.Frag} {G H : Hp} {M : Mem} {x : PV} {v : V} {b : Bool} (h : trP M x = some b) (r : Rep K G x v) (w : Wf K M H G) : TruV K v H b := by
  have emp : ∀ {xs : List PV} {vs : List V}, Reps K G xs vs → (!xs.isEmpty) = !vs.isEmpty := fun {xs vs} r => by
    cases xs with
    | nil => cases r; rfl
    | cons x xs => obtain ⟨v, ws, rfl, _⟩ := r; rfl
  have seq : ∀ {x : PV}, (sqA M x).map (fun xs => !xs.isEmpty) = some b → Rep K G x v → TruV K v H b := fun {x} h r => by
    cases hs : sqA M x with
    | none => rw [hs] at h; cases h
    | some xs =>
      rw [hs] at h
      cases h
      obtain ⟨p, vs, rfl, h1, r1⟩ := sqA_H hs r w
      exact .inl ⟨vs, h1, emp r1⟩
  cases x with
  | non => cases r; cases h; rfl
  | bl b => cases r; cases h; rfl
  | int b => cases r; cases h; rfl
  | tup xs =>
    cases h
    obtain ⟨p, vs, rfl, h1, r1⟩ := r
    exact .inr (.inl ⟨vs, ext_t w.sub h1, emp r1⟩)
  | _ => exact seq (by exact h) r
def qOrT (ta tb : QT) : QT := fun env M Q E => ta env M (fun x M1 => ∃ k, trP M1 x = some k ∧ if k = true then Q x M1 else tb env M1 Q E) E
theorem qe_orT {a b : Expr} {rest : List Expr} {t u : QT} (h : QE X W a t) (k : QE X W (.BoolOp .Or (b :: rest) pos) u) : QE X W (.BoolOp .Or (a :: b :: rest) pos) (qOrT t u) :=
  (pe_orT h k).imp fun σ H Q ⟨env, M, G, Q0, E0, S, q, L, LE⟩ => by
    refine ⟨env, M, G, _, E0, S, q, fun x M1 v H1 G1 e1 w1 r1 q1 => ?_, LE⟩
    obtain ⟨c, hc, q1⟩ := q1
    refine ⟨c, trP_V hc r1 w1, ?_⟩
    cases c with
    | true => exact L x M1 v H1 G1 e1 w1 r1 q1
    | false => exact ⟨env, M1, G1, Q0, E0, S.to e1 w1, q1, L.mono e1, LE.mono e1⟩
def qTru (t : QT) : QB := fun env M Q E => t env M (fun x M1 => ∃ b, trP M1 x = some b ∧ Q b M1) E
theorem qt_tru {e : Expr} {t : QT} (h : QE X W e t) (he : ∀ whole, isTrue e X.env whole = (do let v ← whole; standAt e.pos; holding [v] (truthy v)) := by intro _; rfl) : QPT X W e (qTru t) :=
  (pt_truth h he).imp fun σ H Q ⟨env, M, G, Q0, E0, S, q, L, LE⟩ => by
    refine ⟨env, M, G, _, E0, S, q, fun x M1 v H1 G1 e1 w1 r1 q1 => ?_, LE⟩
    obtain ⟨b, hb, q1⟩ := q1
    exact ⟨b, trP_V hb r1 w1, L b M1 H1 G1 e1 w1 q1⟩
def qChain (f f' : F2) (ta tb tc : QT) : QT := fun env M Q E => ta env M (fun x M1 => tb env M1 (fun y M2 => f x y M2 fun z M3 => ∃ k, z = .bl k ∧ if k = true then tc env M3 (fun u M4 => f' y u M4 Q) E else Q (.bl false) M3) E) E
theorem tieChain {f f' : F2} {ta tb tc : QT} {σ : L2.St} {H : Hp} {Q : VK} (h : tie X.K W (qChain f f' ta tb tc) σ H Q) :
    tChain (fun a b H Q => ∃ x y M G Q0, Rep X.K G x a ∧ Rep X.K G y b ∧ Wf X.K M H G ∧ f x y M Q0 ∧ LiftV X.K G Q0 Q) (fun a b H Q => ∃ x y M G Q0, Rep X.K G x a ∧ Rep X.K G y b ∧ Wf X.K M H G ∧ f' x y M Q0 ∧ LiftV X.K G Q0 Q) (tie X.K W ta) (tie X.K W tb) (tie X.K W tc) σ H Q := by
  obtain ⟨env, M, G, Q0, E0, S, q, L, LE⟩ := h
  refine ⟨env, M, G, _, E0, S, q, fun x M1 v H1 G1 e1 w1 r1 q1 => ?_, LE⟩
  refine ⟨env, M1, G1, _, E0, S.to e1 w1, q1, fun y M2 u H2 G2 e2 w2 r2 q2 => ?_, LE.mono e1⟩
  refine ⟨x, y, M2, G2, _, Rep.mono e2 _ _ r1, r2, w2, q2, fun z M3 zv H3 G3 e3 w3 r3 q3 => ?_⟩
  obtain ⟨k, rfl, q3⟩ := q3
  refine ⟨k, r3, ?_⟩
  cases k with
  | true =>
    refine ⟨env, M3, G3, _, E0, S.to ((e1.trans e2).trans e3) w3, q3, fun c M4 cv H4 G4 e4 w4 r4 q4 => ?_, LE.mono ((e1.trans e2).trans e3)⟩
    exact ⟨y, c, M4, G4, Q0, Rep.mono (e3.trans e4) _ _ r2, r4, w4, q4, L.mono (((e1.trans e2).trans e3).trans e4)⟩
  | false => exact L (.bl false) M3 _ H3 G3 ((e1.trans e2).trans e3) w3 rfl q3
theorem qe_chain {op op' : CmpOp} {a b c : Expr} {f f' : F2} {ta tb tc : QT} (ho : OpQ X (compareOp op) f) (ho' : OpQ X (compareOp op') f') (ha : QE X W a ta) (hb : QE X W b tb) (hc : QE X W c tc) (hm : lastMarks [op, op'] [b, c] = false := by with_unfolding_all rfl) :
    QE X W (.Compare a [op, op'] [b, c] pos) (qChain f f' ta tb tc) := (pe_chain ho ho' ha hb hc hm).imp fun σ H Q h => tieChain h
theorem qt_chain {op op' : CmpOp} {a b c : Expr} {f f' : F2} {ta tb tc : QT} (ho : OpQ X (compareOp op) f) (ho' : OpQ X (compareOp op') f') (ha : QE X W a ta) (hb : QE X W b tb) (hc : QE X W c tc) (hm : lastMarks [op, op'] [b, c] = false := by with_unfolding_all rfl) :
    QPT X W (.Compare a [op, op'] [b, c] pos) (qTst (qChain f f' ta tb tc)) := (pt_chain ho ho' ha hb hc hm).imp fun σ H Q h => tieChain (tie_tst h)

/-! ### isinstance -/
structure ClsI (K : PySem.W.Frag) (C : Addr) : Prop where
  cl : Cls K C
  ha : PySem.W.findIn K (.ref C) "__class__" = some (some (.builtin "object.__class__"))
  hn : PySem.W.specialIn K (.builtin "object.__class__") "__get__" = some (some (.builtin "getset_descriptor.__get__"))
  htk : PySem.W.takesIn K (.builtin "object.__class__") = some true
  hm : PySem.W.mroIn K C (.type "object") = some true
/-- the class of a value -/
def tyP (M : Mem) : PV → Option Value
  | .non => some (.type "NoneType")
  | .bl _ => some (.type "bool")
  | .int _ => some (.type "int")
  | .str _ => some (.type "str")
  | .tup _ => some (.type "tuple")
  | .lst _ => some (.type "list")
  | .scr _ => some (.type "list")
  | .obj C _ _ => some (.ref C)
  | .ref a => match M a with
    | some (.lst _) => some (.type "list")
    | some (.dic _ _) => some (.type "dict")
    | some (.ins C _ _) => some (.ref C)
    | _ => none
  | .ty _ => none
  | .exc _ _ _ => none
  | .eo _ _ _ _ => none
def tyC (K : PySem.W.Frag) : Value → Prop
  | .ref C => ClsI K C
  | _ => True
def clsP : PV → Option Value
  | .ty n => some (.type n)
  | .ref C => some (.ref C)
  | _ => none
theorem tyP_X {K : PySem.W.Frag} {G H : Hp} {M : Mem} {x : PV} {v : V} {t : Value} (h : tyP M x = some t) (c : tyC K t) (r : Rep K G x v) (w : Wf K M H G) : TyX K H v t := by
  have tupX : ∀ {a : Addr} {vs : List V}, SqT K H a vs → TyX K H (.ref a) (.type "tuple") := fun {a vs} h => by
    rcases h with (h | ⟨o, h⟩) | ⟨o, its, n, h1, h2, _⟩
    · exact .base (.tup h)
    · exact .fTuple h
    · exact .kTuple h1 h2
  have lstX : ∀ {a : Addr} {vs : List V}, SqL K H a vs → TyX K H (.ref a) (.type "list") := fun {a vs} h => by
    rcases h with (h | ⟨o, h⟩) | ⟨o, its, n, h1, h2, _⟩
    · exact .base (.lst h)
    · exact .base (.frz h)
    · exact .kList h1 h2
  cases x with
  | non => cases r; cases h; exact .base .non
  | bl b => cases r; cases h; exact .base (.bl _)
  | int b => cases r; cases h; exact .base (.int _)
  | str b => cases r; cases h; exact .base (.str _)
  | tup xs => cases h; obtain ⟨p, vs, rfl, h1, _⟩ := r; exact tupX (ext_t w.sub h1)
  | lst xs => cases h; obtain ⟨p, vs, rfl, h1, _⟩ := r; exact lstX (SqL.of (w.sub _ _ h1))
  | scr xs => cases h; obtain ⟨p, rfl, h1⟩ := r; exact lstX (ext_l w.sub h1)
  | obj C ns xs =>
    cases h
    obtain ⟨p, dx, vs, rfl, h1, _⟩ := r
    exact .base (.ins (w.sub _ _ h1) c.cl c.ha c.hn c.htk c.hm)
  | ref a =>
    cases r
    replace h : (match M a with
      | some (.lst _) => some (Value.type "list")
      | some (.dic _ _) => some (.type "dict")
      | some (.ins C _ _) => some (.ref C)
      | _ => none) = some t := h
    split at h
    · rename_i hm
      cases h
      obtain ⟨_, vs, h1, _⟩ := w.mem a _ hm
      exact lstX (SqL.of h1)
    · rename_i hm
      cases h
      obtain ⟨_, vs, h1, _⟩ := w.mem a _ hm
      exact .base (.dK h1)
    · rename_i hm
      cases h
      obtain ⟨_, dx, vs, h1, _⟩ := w.mem a _ hm
      exact .base (.ins h1 c.cl c.ha c.hn c.htk c.hm)
    · cases h
  | ty n => cases h
  | exc a d x => cases h
  | eo a D d x => cases h
def cIsi (K : PySem.W.Frag) : FC := fun xs M Q => match xs with
  | [x, c] => ∃ t u b, tyP M x = some t ∧ tyC K t ∧ clsP c = some u ∧ PySem.W.kitOne K t u = some b ∧ Q (.bl b) M
  | _ => False
theorem isiP {K : PySem.W.Frag} {x c : PV} {M : Mem} {Q : PK} {t u : Value} {b : Bool} (h1 : tyP M x = some t) (h2 : tyC K t) (h3 : clsP c = some u) (h4 : PySem.W.kitOne K t u = some b) : cIsi K [x, c] M Q = Q (.bl b) M := propext
  ⟨fun ⟨_, _, _, g1, _, g3, g4, q⟩ => by rw [h1] at g1; cases g1; rw [h3] at g3; cases g3; rw [h4] at g4; cases g4; exact q, fun q => ⟨_, _, _, h1, h2, h3, h4, q⟩⟩
theorem cq_isi : CallQ X (.builtin "isinstance") (cIsi X.K) := by
  intro pins s σ H vs us Q I r ⟨xs, M, G, Q0, rx, w, q, L⟩
  unfold cIsi at q
  split at q
  · obtain ⟨v, u, rfl, r1, r2⟩ := reps2 rx
    obtain ⟨t, k, b, h1, h2, h3, h4, q⟩ := q
    rename_i x c
    have hk : ClsV u k := by
      cases c with
      | ty n => cases h3; cases r2; exact .ty _
      | ref C => cases h3; cases r2; exact .own _
      | _ => cases h3
    exact call_isi pins s σ H _ us Q I r ⟨v, u, t, k, b, rfl, hk, tyP_X h1 h2 r1 w, h4, give L w (x := .bl _) rfl q⟩
  · exact q.elim

theorem cq_isiK {K : PySem.W.Frag} (h : X.K = K) : CallQ X (.builtin "isinstance") (cIsi K) := by
  subst h; exact cq_isi
theorem qe_fldK {K : PySem.W.Frag} {f : Str} {e : Expr} {t : QT} (h : X.K = K) (he : QE X W e t) (hb : attributeBase e f X.env (eval e X.env) = eval e X.env := by rfl) : QE X W (.Attribute e f pos) (qFld K f t) := by
  subst h; exact qe_fld he hb
/-! ### lists that are written -/
def qApp (to te : QT) : QT := fun env M Q E => to env M (fun x M1 => ∃ a ys, x = .ref a ∧ M1 a = some (.lst ys) ∧ te env M1 (fun y M2 => ∃ zs, M2 a = some (.lst zs) ∧ zs.length < sizeLine ∧ Q .non (mset M2 a (.lst (zs ++ [y])))) E) E
theorem qe_app {o e : Expr} {to te : QT} {apos : Pos} (ho : QE X W o to) (he : QE X W e te) (hb : attributeBase o "append" X.env (eval o X.env) = eval o X.env := by rfl)
    (h2 : (((backTo pos (starEach [e] X.env)).all fun x => !x.fst) && (backToKw pos (keywordEach [] X.env)).all fun x => x.fst.isSome) = true := by rfl) (h3 : (apos.endLine == pos.line) = true := by rfl)
    (h4 : starEach [e] X.env = (false, eval e X.env) :: starEach [] X.env := by rfl) (h5 : (backTo pos (starEach [] X.env)).any (·.1) = false := by rfl) : QE X W (.Call (.Attribute o "append" apos) [e] [] pos) (qApp to te) :=
  (pe_bm PySem.F.plainAttrs_list PySem.F.slot_list_append PySem.F.type_list_append mt_append ho (pa_cons he pa_nil h4) hb (by rw [Bool.and_eq_true]; exact ⟨h2, rfl⟩) h3 h4 h5).imp fun σ H Q ⟨env, M, G, Q0, E0, S, q, L, LE⟩ => by
    refine ⟨env, M, G, _, E0, S, q, fun x M1 v H1 G1 e1 w1 r1 q1 => ?_, LE⟩
    obtain ⟨a, ys, rfl, hm, q1⟩ := q1
    cases r1
    obtain ⟨_, vs, h1, _⟩ := w1.mem a _ hm
    refine ⟨.inl ⟨rfl, _, SqL.of h1⟩, env, M1, G1, _, E0, S.to e1 w1, q1, fun y M2 u H2 G2 e2 w2 r2 q2 => ?_, LE.mono e1⟩
    obtain ⟨zs, hm2, hz, q2⟩ := q2
    obtain ⟨g2, ws, h2, r3⟩ := w2.mem a _ hm2
    refine ⟨a, ws, u, rfl, rfl, h2, by rw [← r3.length]; exact hz, ?_⟩
    exact L .non _ .non _ G2 (e1.trans e2) (w2.put g2 (mok_lst (r3.append (Reps.one r2)))) rfl q2
/-! ### names of the module -/
theorem qe_glob {x : Str} {v : V} {y : PV} {u : Value} (hm : X.mg x = some u) (r : RelV v u) (hr : ∀ G, Rep X.K G y v) (hg : Gl X x := by rfl) (hd : (x == ("__debug__" : Str)) = false := by decide) : QE X W (.Name x pos) (qC y) :=
  (pe_glob hg hm r hd).imp fun σ H Q ⟨env, M, G, Q0, E0, S, q, L, _⟩ => L y M v H G (Ext.refl G) S.wf (hr G) q
/-- a built-in class, a class of the text -/
theorem qe_ty {x : Str} {n : String} (hm : X.mg x = none) (hg : Gl X x := by rfl) (hv : bootBuiltins x = some (.type n) := by decide +kernel) (hn : x ≠ "__name__" := by decide) (hd : (x == ("__debug__" : Str)) = false := by decide) : QE X W (.Name x pos) (qC (.ty n)) :=
  qe_c (pe_bltn (v := .ty n) hg hm hv rfl hn hd) fun _ _ => rfl
theorem qe_cls {x : Str} {C : Addr} (hm : X.mg x = some (.ref C)) (hg : Gl X x := by rfl) (hd : (x == ("__debug__" : Str)) = false := by decide) : QE X W (.Name x pos) (qC (.ref C)) := qe_glob hm (v := .ref C) rfl (fun _ => rfl) hg hd
theorem qe_gint {x : Str} {i : Int} {t : Tok} (hm : X.mg x = some (.int i t)) (hg : Gl X x := by rfl) (hd : (x == ("__debug__" : Str)) = false := by decide) : QE X W (.Name x pos) (qC (.int i)) := qe_glob hm (v := .int i) ⟨_, rfl⟩ (fun _ => rfl) hg hd
end
/-! ### the end -/
def sLaw : SpQ := fun xs M Q _ => ∃ ns, xs = [.scr ns] ∧ ns.length ≤ 63 ∧ ∀ M', Q (.bl true) M'
/-- without the tables -/
def noT (H : Hp) : Hp := fun b => match H b with
  | some (.tbl _) => none
  | o => o
theorem noT_of {H : Hp} {b : Addr} {o : HO} (e : H b = some o) (h : ∀ ps, o ≠ .tbl ps) : noT H b = some o := by
  unfold noT
  rw [e]
  cases o <;> first | rfl | exact absurd rfl (h _)
theorem of_noT {H : Hp} {b : Addr} {o : HO} (e : noT H b = some o) : H b = some o ∧ ∀ ps, o ≠ .tbl ps := by
  unfold noT at e
  split at e
  · cases e
  · rename_i z
    exact ⟨e, fun ps q => z ps (by rw [e, q])⟩
theorem noT_tbl {H : Hp} {b : Addr} {ps : Array Value} (e : H b = some (.tbl ps)) : noT H b = none := by unfold noT; rw [e]
theorem sqL_noT {K : PySem.W.Frag} {H : Hp} {a : Addr} {vs : List V} (h : SqL K H a vs) : SqL K (noT H) a vs := by
  rcases h with (h | ⟨o, h⟩) | h
  · exact .inl (.inl (noT_of h (fun ps z => by cases z)))
  · exact .inl (.inr ⟨o, noT_of h (fun ps z => by cases z)⟩)
  · exact .inr h
theorem law_endT {K : PySem.W.Frag} {H : Hp} {a : Addr} {ns : List Int} (q : Str) (Ps : List Addr) (hT : ∀ P ∈ Ps, H P = some (.tbl #[])) (h : SqL K H a (ns.map V.int)) (sp : SpQ)
    (hsp : sp [.scr ns] (fun b => if b ∈ Ps then some (.tab q) else none) (fun x _ => x = .bl true) EF) : spQ K sp [.ref a] H (fun v _ => v = .bl true) fun _ _ _ => False := by
  have w : Wf K (fun b => if b ∈ Ps then some (.tab q) else none) H (noT H) := by
    refine ⟨fun b o e => (of_noT e).1, fun b m z => ?_, fun b ps e => (of_noT e).2 ps rfl⟩
    by_cases hb : b ∈ Ps
    · have z' : some (MO.tab q) = some m := (if_pos hb).symm.trans z
      cases z'
      exact ⟨noT_tbl (hT b hb), LamX.TabS.nil (hT b hb)⟩
    · have z' : none = some m := (if_neg hb).symm.trans z
      cases z'
  exact ⟨[.scr ns], _, noT H, fun x _ => x = .bl true, EF, Reps.one (x := .scr ns) ⟨a, rfl, sqL_noT h⟩, w, hsp, fun x M' v H' G' e w r q => by subst q; exact r, EF_lift⟩
theorem law_end {K : PySem.W.Frag} {H : Hp} {a : Addr} {ns : List Int} (hl : ns.length ≤ 63) (h : SqL K H a (ns.map V.int)) : spQ K sLaw [.ref a] H (fun v _ => v = .bl true) fun _ _ _ => False :=
  law_endT "" [] (fun _ z => nomatch z) h sLaw ⟨ns, rfl, hl, fun _ => rfl⟩
theorem law_CX {P : Program} {w : World} (H : Hp) (s : Shared) (e : Value) (s' : Shared) (h : L2N.CX P w [] H s (fun _ _ _ => False) e s') : False := by
  obtain ⟨_, _, _, _, _, _, _, _, _, _, _, _, z⟩ := h
  exact z.elim
end TQ

namespace TQ
open PySem PySem.Spec PyProof.Rows L2
section
variable {X : Cx} {W : WX} {pos : Pos} {h : Bool} {k n : Nat} {f C : Addr} {fd : FuncData} {ps ks : List Str} {sp : Sp} {x : Str} {p : Pos} {e : Expr} {es : List Expr} {kws : List Keyword}
theorem qe_makeD {t : QA} {dvs : List V} {dps : List PV} {ns : List Str} (Mk1 : Mk X.K C f) (F : FnX h X.prog X.w X.K X.mg X.base k f fd ps (spInit C ns)) (hr : L2H.RoomH (k + 1) X.A) (cw : CoolW h X W) (hm : X.mg x = some (.ref C)) (hb : ∃ ds, Vals dvs ds ∧ Binds X.K fd ps ds)
    (hp : ∀ G, Reps X.K G dps dvs) (tk : L2N.Takes X W) (ha : QPA X W (e :: es) t) (hg : Gl X x := by rfl)
    (hdb : (x == ("__debug__" : Str)) = false := by decide) (he : starEach (e :: es) X.env = (false, eval e X.env) :: starEach es X.env := by rfl) (hpl : (backTo pos (starEach es X.env)).any (·.1) = false := by rfl) :
    QE X W (.Call (.Name x p) (e :: es) [] pos) (qMake C ns dps t) := by
  obtain ⟨ds, hd, hb⟩ := hb
  exact qe_make Mk1 F hr cw hm hb hd hp tk ha hg hdb he hpl
/-! ### by keywords -/
abbrev QPK (X : Cx) (W : WX) (kws : List Keyword) (t : QA) : Prop := L2.PK X kws (tieA X.K W t)
theorem _root_.L2.PK.imp {X : Cx} {e : List Keyword} {t t' : TA} (h : L2.PK X e t) (f : ∀ σ H Q, t' σ H Q → t σ H Q) : L2.PK X e t' := ⟨fun pos pins s σ H Q I q => h.run pos pins s σ H Q I (f σ H Q q)⟩
theorem qk_nil : QPK X W [] qNil := pk_nil.imp fun σ H Q ⟨env, M, G, Q0, E0, S, q, L, LE⟩ => L [] M [] H G (Ext.refl G) S.wf Reps.nil q
theorem qk_cons {nm : Option Str} {kpos : Pos} {t : QT} {r : QA} (h : QE X W e t) (k : QPK X W kws r) : QPK X W (⟨nm, e, kpos⟩ :: kws) (qCons t r) :=
  (pk_cons h k).imp fun σ H Q ⟨env, M, G, Q0, E0, S, q, L, LE⟩ => by
    refine ⟨env, M, G, _, E0, S, q, fun x M1 v H1 G1 e1 w1 r1 q1 => ?_, LE⟩
    refine ⟨env, M1, G1, _, E0, S.to e1 w1, q1, fun xs M2 vs H2 G2 e2 w2 r2 q2 => ?_, LE.mono e1⟩
    exact L (x :: xs) M2 (v :: vs) H2 G2 (e1.trans e2) w2 (Reps.cons (Rep.mono e2 x v r1) r2) q2
theorem run_makeK {g : List Value → List Value → List Value} {gV : List V → List V → List V} {pins : List (Addr × Obj)} {σ : L2.St} {H : Hp} {sh : Shared} {Q : VK} {us ws : List Value} {vs zs : List V} (Mk1 : Mk X.K C f)
    (F : FnX h X.prog X.w X.K X.mg X.base k f fd ps sp) (hr : L2H.RoomH (k + 1) X.A) (cw : CoolW h X W) (hb : KBn X.K fd ps (n + 1) ks g gV) (tk : L2N.Takes X W) (I : Inv X pins σ H sh) (r : Vals vs us) (rz : Vals zs ws) (l1 : vs.length = n) (l2 : zs.length = ks.length)
    (hs : ∀ y dx, H y = none → H dx = none → dx ≠ y → sp (gV (.ref y :: vs) zs) (upd (upd H dx (.own y)) y (.ins C dx [])) (fun v H2 => v = .non ∧ Q (.ref y) H2) (WE W σ)) :
    wpAny (model X.prog X.w) X.A (call (.ref C) us (ks.zip ws)) (EP X pins σ Q) X.xe sh := by
  have q0 := hs (sh.heap.objs.size + 1) sh.heap.objs.size (I.hok.fresh (Nat.le_succ _)) (I.hok.fresh (Nat.le_refl _)) (Nat.ne_of_lt (Nat.lt_succ_self _))
  have J := Inv.made (C := C) I
  have r1 : Vals (V.ref (sh.heap.objs.size + 1) :: vs) (Value.ref (sh.heap.objs.size + 1) :: us) := .cons rfl r
  have e1 : (Value.ref (sh.heap.objs.size + 1) :: us).length = n + 1 := r1.length ▸ congrArg Nat.succ l1
  have e2 : ws.length = ks.length := rz.length ▸ l2
  refine wpAny_call (make_map (f := f) I.kIn Mk1.makes Mk1.init (beq_iff_eq.mp Mk1.fn) (codeAny_mono (F.run _ X.stack _ _ ⟨Value.ref (sh.heap.objs.size + 1) :: us, ks.zip ws⟩ _ _ _ _ (hr.make C us (ks.zip ws)) (cw.at J) (J.env0.make C us (ks.zip ws))
    (hb.to _ (_ :: us) ws J.kIn e1 e2) (hb.rel r1 rz) q0) fun r s' hq => ?_))
  match r, hq with
  | .error e, hq => exact L2N.passAt tk σ pins _ _ e s' J hq
  | .ok (.ret u), hq =>
    obtain ⟨v, H', I3, rv, ev, q3⟩ := J.after hq
    subst ev
    exact ⟨rv, V.ref (sh.heap.objs.size + 1), H', I3, rfl, q3⟩
  | .ok .next, hq => exact hq.elim
  | .ok .brk, hq => exact hq.elim
  | .ok .cont, hq => exact hq.elim
/-- C(e, .., k = v): the keywords' values put by gP among the positional ones (defaults too) -/
def qMakeK (C : Addr) (ns : List Str) (n m : Nat) (gP : List PV → List PV → List PV) (t tk : QA) : QT := fun env M Q E => t env M (fun xs M1 => tk env M1 (fun zs M2 => xs.length = n ∧ zs.length = m ∧ (gP xs zs).length = ns.length ∧ Q (.obj C ns (gP xs zs)) M2) E) E
theorem qe_makeK {t tk : QA} {ns : List Str} {gP : List PV → List PV → List PV} {gv : List V → List V → List V} (Mk1 : Mk X.K C f) (F : FnX h X.prog X.w X.K X.mg X.base k f fd ps (spInit C ns)) (hr : L2H.RoomH (k + 1) X.A) (cw : CoolW h X W) (hm : X.mg x = some (.ref C))
    (hb : ∃ g, KBn X.K fd ps (n + 1) ks g fun vs zs => vs.take 1 ++ gv (vs.drop 1) zs) (hp : ∀ G xs zs vs us, Reps X.K G xs vs → Reps X.K G zs us → Reps X.K G (gP xs zs) (gv vs us)) (tk' : L2N.Takes X W) (ha : QPA X W (e :: es) t) (hkw : QPK X W kws tk) (hg : Gl X x := by rfl)
    (hall : (backToKw pos (keywordEach kws X.env)).all (·.1.isSome) = true := by rfl) (hks : (backToKw pos (keywordEach kws X.env)).filterMap (·.1) = ks := by rfl)
    (hdb : (x == ("__debug__" : Str)) = false := by decide) (he : starEach (e :: es) X.env = (false, eval e X.env) :: starEach es X.env := by rfl)
    (hpl : ((backTo pos (starEach (e :: es) X.env)).any (·.1) || (backToKw pos (keywordEach kws X.env)).any (·.1.isNone)) = false := by rfl) :
    QE X W (.Call (.Name x p) (e :: es) kws pos) (qMakeK C ns n ks.length gP t tk) := by
  obtain ⟨g, hb⟩ := hb
  refine ⟨fun pins sh σ H Q I ⟨env, M, G, Q0, E0, S, q, L, LE⟩ => wpAny_Call_Name_kw (ld_glob I hg hm (PySem.W.callWith_KW (h₀ := X.base) I.ok.mod.kin Mk1.kp hall (thn (ha.run pos pins sh σ H
    (fun vs H1 => ∃ xs M1 G1, Ext G G1 ∧ Wf X.K M1 H1 G1 ∧ Reps X.K G1 xs vs ∧ tk env M1 (fun zs M2 => xs.length = n ∧ zs.length = ks.length ∧ (gP xs zs).length = ns.length ∧ Q0 (.obj C ns (gP xs zs)) M2) E0) I ?_) fun us s1 ⟨vs, H1, I1, r, q⟩ => ?_) hpl he) hdb)⟩
  · exact ⟨env, M, G, _, E0, S, q, fun xs M1 vs H1 G1 e1 w1 r1 q1 => ⟨xs, M1, G1, e1, w1, r1, q1⟩, LE⟩
  · obtain ⟨xs, M1, G1, e1, w1, r1, q⟩ := q
    refine thn (hkw.run pos pins s1 σ H1 (fun us H2 => ∃ zs M2 G2, Ext G1 G2 ∧ Wf X.K M2 H2 G2 ∧ Reps X.K G2 zs us ∧ xs.length = n ∧ zs.length = ks.length ∧ (gP xs zs).length = ns.length ∧ Q0 (.obj C ns (gP xs zs)) M2) I1 ?_) fun ws s2 ⟨zs', H2, I2, rz, q2⟩ => ⟨I2.kIn, ?_⟩
    · exact ⟨env, M1, G1, _, E0, S.to e1 w1, q, fun zs M2 us H2 G2 e2 w2 r2 q2 => ⟨zs, M2, G2, e2, w2, r2, q2⟩, LE.mono e1⟩
    · obtain ⟨zs, M2, G2, e2, w2, r2, l1, l2, l3, q2⟩ := q2
      rw [hks]
      refine run_makeK Mk1 F hr cw hb tk' I2 r rz (by rw [← r1.length]; exact l1) (by rw [← r2.length]; exact l2) fun y dx ny nd ne => ⟨y, dx, gv vs zs', rfl, ?_, upd_same, rfl, ?_⟩
      · rw [← l3, (hp G2 _ _ _ _ (Reps.mono e2 _ _ r1) r2).length]
      · rw [upd_upd]
        have w3 := w2.newH (o := .own y) nd
        have n2 : upd H2 dx (.own y) y = none := by rw [upd_ne ne.symm]; exact ny
        exact L (.obj C ns (gP xs zs)) M2 _ _ _ ((e1.trans e2).trans (Ext.new (w3.free n2))) (w3.newG n2) ⟨y, dx, gv vs zs', rfl, upd_same, Reps.mono (Ext.new (w3.free n2)) _ _ (hp G2 _ _ _ _ (Reps.mono e2 _ _ r1) r2)⟩ q2
end
/-! ### __init__ that stores -/
section
variable {X : Cx}
/-- self.f = a parameter, from the left -/
theorem putF_zip {ns : List Str} {us : List V} {f : Str} {v : V} (hf : f ∉ ns) (hl : ns.length = us.length) : putF f v (ns.zip us) = (ns ++ [f]).zip (us ++ [v]) := by
  induction ns generalizing us with
  | nil => cases us with
    | nil => rfl
    | cons _ _ => cases hl
  | cons n ns ih => cases us with
    | nil => cases hl
    | cons u us =>
      have h1 : ¬ n = f := fun e => hf (by rw [e]; exact List.mem_cons_self)
      have h2 : f ∉ ns := fun z => hf (List.mem_cons_of_mem _ z)
      rw [List.zip_cons_cons]
      show (if n = f then (n, v) :: ns.zip us else (n, u) :: putF f v (ns.zip us)) = _
      rw [if_neg h1, ih h2 (by simpa using hl)]
      rfl
end
/-! ### isinstance of own classes -/
theorem kit_own {K : PySem.W.Frag} {C D : Addr} {b : Bool} (hs : PySem.W.subIn K (.ref C) (.ref D) = some b) (hc : PySem.W.isClsIn K D = true) (ht : PySem.W.typeIn K (.ref D) = some (.type "type")) (hn : b = true ∨ C ≠ D) : PySem.W.kitOne K (.ref C) (.ref D) = some b := by
  unfold PySem.W.kitOne PySem.W.kitCls
  have hc' : (PySem.W.clsIn K D).isSome = true := hc
  by_cases e : C = D
  · subst e
    rcases hn with rfl | hn
    · rw [if_pos (by simp)]
    · exact absurd rfl hn
  · rw [if_neg (by simpa using e)]
    simp only [hc', ht, Bool.true_and, beq_self_eq_true, if_true]
    exact hs
theorem kit_ownT {K : PySem.W.Frag} {C : Addr} {T : String} {b : Bool} (hs : PySem.W.subIn K (.ref C) (.type T) = some b) (hm : PySem.W.kitMeta T = true := by decide +kernel) : PySem.W.kitOne K (.ref C) (.type T) = some b := by
  unfold PySem.W.kitOne PySem.W.kitCls
  rw [if_neg (by intro h; cases (beq_iff_eq.mp h))]
  simp only [hm, if_true]
  exact hs
theorem kit_tyO {K : PySem.W.Frag} {D : Addr} {T : String} {l : List Value} (hl : PySem.fastBuiltinMro T = some l) (hn : l.contains (.ref D) = false) (hc : PySem.W.isClsIn K D = true) (ht : PySem.W.typeIn K (.ref D) = some (.type "type")) : PySem.W.kitOne K (.type T) (.ref D) = some false := by
  unfold PySem.W.kitOne PySem.W.kitCls
  have hc' : (PySem.W.clsIn K D).isSome = true := hc
  rw [if_neg (by intro h; cases (beq_iff_eq.mp h))]
  simp only [hc', ht, Bool.true_and, beq_self_eq_true, if_true]
  show (PySem.fastBuiltinMro T).map _ = _
  rw [hl]
  show some (l.contains (.ref D)) = some false
  rw [hn]
end TQ

/-! Whole numbers, powers of ten, texts of figures. -/
namespace TM
open PySem PySem.Spec PyProof.Rows L2 TQ
theorem bEq_int (i j : Int) (M : Mem) (Q : PK) : bEqP false (.int i) (.int j) M Q = Q (.bl (decide (i = j))) M := rfl
theorem bNe_int (i j : Int) (M : Mem) (Q : PK) : bEqP true (.int i) (.int j) M Q = Q (.bl (!decide (i = j))) M := rfl
theorem bEq_str (i j : Str) (M : Mem) (Q : PK) : bEqP false (.str i) (.str j) M Q = Q (.bl (decide (i = j))) M := rfl
theorem bNe_str (i j : Str) (M : Mem) (Q : PK) : bEqP true (.str i) (.str j) M Q = Q (.bl (!decide (i = j))) M := rfl
theorem bEq_bl (i j : Bool) (M : Mem) (Q : PK) : bEqP false (.bl i) (.bl j) M Q = Q (.bl (decide (i = j))) M := rfl
theorem bNe_bl (i j : Bool) (M : Mem) (Q : PK) : bEqP true (.bl i) (.bl j) M Q = Q (.bl (!decide (i = j))) M := rfl
section
variable {K : PySem.W.Frag} {M : Mem} {Q : PK}
theorem isi_ii {i : Int} : cIsi K [.int i, .ty "int"] M Q = Q (.bl true) M := isiP rfl trivial rfl rfl
theorem isi_ib {i : Int} : cIsi K [.int i, .ty "bool"] M Q = Q (.bl false) M := isiP rfl trivial rfl rfl
theorem isi_is {i : Int} : cIsi K [.int i, .ty "str"] M Q = Q (.bl false) M := isiP rfl trivial rfl rfl
theorem isi_it {i : Int} : cIsi K [.int i, .ty "tuple"] M Q = Q (.bl false) M := isiP rfl trivial rfl rfl
theorem isi_bi {i : Bool} : cIsi K [.bl i, .ty "int"] M Q = Q (.bl true) M := isiP rfl trivial rfl rfl
theorem isi_bb {i : Bool} : cIsi K [.bl i, .ty "bool"] M Q = Q (.bl true) M := isiP rfl trivial rfl rfl
theorem isi_ss {i : Str} : cIsi K [.str i, .ty "str"] M Q = Q (.bl true) M := isiP rfl trivial rfl rfl
theorem isi_st {i : Str} : cIsi K [.str i, .ty "tuple"] M Q = Q (.bl false) M := isiP rfl trivial rfl rfl
theorem isi_tt {i : List PV} : cIsi K [.tup i, .ty "tuple"] M Q = Q (.bl true) M := isiP rfl trivial rfl rfl
theorem isi_nt : cIsi K [.non, .ty "tuple"] M Q = Q (.bl false) M := isiP rfl trivial rfl rfl
end
theorem atI_in {α : Type} {xs : List α} {i : Int} (h0 : 0 ≤ i) (h1 : i < xs.length) : atI xs i = xs[i.toNat]? := by
  unfold atI ixN
  rw [if_pos h0, if_pos h1]
  rfl
theorem atI_mem {α : Type} {xs : List α} {i : Int} (h0 : 0 ≤ i) (h1 : i < xs.length) : ∃ v, v ∈ xs ∧ atI xs i = some v := by
  have h : i.toNat < xs.length := by omega
  exact ⟨xs[i.toNat], List.getElem_mem h, by rw [atI_in h0 h1, List.getElem?_eq_getElem h]⟩
theorem bIx_lst {xs : List PV} {i : Int} {M : Mem} {Q : PK} : bIx (.lst xs) (.int i) M Q = ∃ v, atI xs i = some v ∧ Q v M := rfl
theorem bIx_scr {xs : List Int} {i : Int} {M : Mem} {Q : PK} : bIx (.scr xs) (.int i) M Q = ∃ v, atI (xs.map PV.int) i = some v ∧ Q v M := rfl
theorem bIx_tup {xs : List PV} {i : Int} {M : Mem} {Q : PK} : bIx (.tup xs) (.int i) M Q = ∃ v, atI xs i = some v ∧ Q v M := rfl
theorem bIx_mset {a : Addr} {xs : List PV} {i : Int} {M : Mem} {Q : PK} : bIx (.ref a) (.int i) (mset M a (.lst xs)) Q = ∃ v, atI xs i = some v ∧ Q v (mset M a (.lst xs)) := by
  show (match ml (mset M a (.lst xs) a) with
    | some xs => ∃ v, atI xs i = some v ∧ Q v _
    | none => False) = _
  rw [mset_same]
  rfl
theorem sqA_scr {M : Mem} {ns : List Int} : sqA M (.scr ns) = some (ns.map PV.int) := rfl
theorem sqA_lst {M : Mem} {xs : List PV} : sqA M (.lst xs) = some xs := rfl
theorem sqA_mset {M : Mem} {a : Addr} {xs : List PV} : sqA (mset M a (.lst xs)) (.ref a) = some xs := by
  show ml (mset M a (.lst xs) a) = _
  rw [mset_same]
  rfl
theorem len_scr {ns : List Int} {M : Mem} {Q : PK} : len1 (.scr ns) M Q = Q (.int (ns.map PV.int).length) M := rfl
theorem len_lst {xs : List PV} {M : Mem} {Q : PK} : len1 (.lst xs) M Q = Q (.int xs.length) M := rfl
theorem len_tup {xs : List PV} {M : Mem} {Q : PK} : len1 (.tup xs) M Q = Q (.int xs.length) M := rfl
theorem len_mset {a : Addr} {xs : List PV} {M : Mem} {Q : PK} : len1 (.ref a) (mset M a (.lst xs)) Q = Q (.int xs.length) (mset M a (.lst xs)) := by
  show (match sqA (mset M a (.lst xs)) (.ref a) with
    | some ys => Q (.int ys.length) (mset M a (.lst xs))
    | none => False) = _
  rw [sqA_mset]
theorem ten_pos (n : Nat) : 0 < 10 ^ n := Nat.pow_pos (by decide)
theorem pow10_le {m n : Nat} (h : m ≤ n) : 10 ^ m ≤ 10 ^ n := Nat.pow_le_pow_right (by decide) h
theorem pow10_lt {m n : Nat} (h : m < n) : 10 ^ m < 10 ^ n := Nat.pow_lt_pow_right (by decide) h
theorem pow10_lt_inv {m n : Nat} (h : 10 ^ m < 10 ^ n) : m < n := by
  rcases Nat.lt_or_ge m n with z | z
  · exact z
  · exact absurd (pow10_le z) (by omega)
theorem pow10_16 (n : Nat) : 10 ^ n < 2 ^ (4 * n + 1) := by
  have h1 : 10 ^ n ≤ (2 ^ 4) ^ n := Nat.pow_le_pow_left (by decide) n
  rw [← Nat.pow_mul] at h1
  exact Nat.lt_of_le_of_lt h1 (Nat.pow_lt_pow_right (by decide) (by omega))
theorem pow10_lt_2 {a n : Nat} (h : a < 10 ^ n) : a < 2 ^ (4 * n + 1) := Nat.lt_trans h (pow10_16 n)
theorem two_le {m n : Nat} (h : m ≤ n) : 2 ^ m ≤ 2 ^ n := Nat.pow_le_pow_right (by decide) h
theorem cast10 (n : Nat) : ((10 ^ n : Nat) : Int) = (10 : Int) ^ n := Int.natCast_pow 10 n
theorem mul_ok {a b : Int} {m n : Nat} (ha : a.natAbs < 2 ^ m) (hb : b.natAbs < 2 ^ n) (h : m + n ≤ 134217728) : IntMulOk a b := mulOk_of_bits (intBits_le ha) (intBits_le hb) h
theorem mul_ok_nat {a b m n : Nat} (ha : a < 2 ^ m) (hb : b < 2 ^ n) (h : m + n ≤ 134217728) : IntMulOk (a : Int) (b : Int) := mul_ok (by simpa using ha) (by simpa using hb) h
theorem mul_ok_l {a b : Int} (h1 : -(2 ^ 64) < a) (h2 : a < 2 ^ 64) : IntMulOk a b := .of_left (intBits_le_64 h1 h2)
theorem mul_ok_r {a b : Int} (h1 : -(2 ^ 64) < b) (h2 : b < 2 ^ 64) : IntMulOk a b := .of_right (intBits_le_64 h1 h2)
theorem log2_lt_of {j n : Nat} (h : j < 2 ^ n) (hn : n ≤ 8000) : j.log2 < 9000 := by
  rcases Nat.eq_zero_or_pos j with z | z
  · subst z; decide
  · have := (Nat.log2_lt (by omega : j ≠ 0) (k := n)).mpr h
    omega
theorem divw {i j : Int} {n : Nat} (hj : 0 < j) (h : j.natAbs < 2 ^ n) (hn : n ≤ 8000 := by decide) : CDivW i j := ⟨hj, log2_lt_of h hn⟩
theorem divp {i j : Int} {n : Nat} (hj : 0 < j) (h : j.natAbs < 2 ^ n) (hn : n ≤ 8000 := by decide) : CDivP i j := ⟨hj, PyProof.noPylong_of_log2 (log2_lt_of h hn)⟩
theorem nat_abs_lt {n : Nat} {a : Int} (h1 : -(2 : Int) ^ n < a) (h2 : a < (2 : Int) ^ n) : a.natAbs < 2 ^ n := by
  have : ((2 ^ n : Nat) : Int) = (2 : Int) ^ n := Int.natCast_pow 2 n
  omega

/-! ### how many figures -/
def ndF : Nat → Nat → Nat
  | 0, _ => 1
  | k + 1, n => if n < 10 then 1 else 1 + ndF k (n / 10)
def nd (n : Nat) : Nat := ndF n n
theorem ndF_pos : ∀ k n, 1 ≤ ndF k n
  | 0, _ => Nat.le_refl _
  | k + 1, n => by unfold ndF; split <;> omega
theorem ndF_lt : ∀ k n, n ≤ k → n < 10 ^ ndF k n
  | 0, n, h => by have : n = 0 := by omega
                  subst this; decide
  | k + 1, n, h => by
    unfold ndF
    split
    · simpa using ‹n < 10›
    · have ih := ndF_lt k (n / 10) (by omega)
      rw [Nat.add_comm, Nat.pow_succ]
      omega
theorem ndF_le : ∀ k n, n ≤ k → 1 ≤ n → 10 ^ (ndF k n - 1) ≤ n
  | 0, n, h, h1 => by omega
  | k + 1, n, h, h1 => by
    unfold ndF
    split
    · simpa using h1
    · have ih := ndF_le k (n / 10) (by omega) (by omega)
      have hp := ndF_pos k (n / 10)
      have e : 1 + ndF k (n / 10) - 1 = (ndF k (n / 10) - 1) + 1 := by omega
      rw [e, Nat.pow_succ]
      omega
theorem nd_pos (n : Nat) : 1 ≤ nd n := ndF_pos n n
theorem nd_lt (n : Nat) : n < 10 ^ nd n := ndF_lt n n (Nat.le_refl _)
theorem nd_le {n : Nat} (h : 1 ≤ n) : 10 ^ (nd n - 1) ≤ n := ndF_le n n (Nat.le_refl _) h
theorem nd_of {n c : Nat} (h0 : 1 ≤ c) (h1 : 10 ^ (c - 1) ≤ n) (h2 : n < 10 ^ c) : nd n = c := by
  have hp : 1 ≤ n := Nat.le_trans (ten_pos _) h1
  have a := pow10_lt_inv (Nat.lt_of_le_of_lt (nd_le hp) h2)
  have b := pow10_lt_inv (Nat.lt_of_le_of_lt h1 (nd_lt n))
  have := nd_pos n
  omega
theorem nd_zero : nd 0 = 1 := rfl
theorem nd_le_of {n c : Nat} (h0 : 1 ≤ c) (h : n < 10 ^ c) : nd n ≤ c := by
  rcases Nat.eq_zero_or_pos n with z | z
  · subst z; rw [nd_zero]; exact h0
  · have := pow10_lt_inv (Nat.lt_of_le_of_lt (nd_le z) h)
    omega
theorem nd_ge_of {n c : Nat} (h : 10 ^ c ≤ n) : c + 1 ≤ nd n := by
  have := pow10_lt_inv (Nat.lt_of_le_of_lt h (nd_lt n))
  omega
theorem guess {m b : Nat} (h : m * 100000 ≤ b * 30102) : 10 ^ m ≤ 2 ^ b := by
  have key : 10 ^ 30102 ≤ 2 ^ 100000 := by decide +kernel
  rcases Nat.lt_or_ge (2 ^ b) (10 ^ m) with z | z
  · exfalso
    have h1 : (2 ^ b) ^ 30102 < (10 ^ m) ^ 30102 := Nat.pow_lt_pow_left z (by decide)
    have h2 : (10 ^ m) ^ 30102 = (10 ^ 30102) ^ m := by rw [← Nat.pow_mul, ← Nat.pow_mul, Nat.mul_comm]
    have h4 : (2 ^ 100000) ^ m ≤ (2 ^ b) ^ 30102 := by
      rw [← Nat.pow_mul, ← Nat.pow_mul]
      exact two_le (by omega)
    rw [h2] at h1
    revert key h1 h4
    generalize 10 ^ 30102 = A
    generalize 2 ^ 100000 = B
    intro key h1 h4
    have h3 : A ^ m ≤ B ^ m := Nat.pow_le_pow_left key m
    exact absurd (Nat.lt_of_lt_of_le h1 (Nat.le_trans h3 h4)) (Nat.lt_irrefl _)
  · exact z

/-! ### texts of figures -/
theorem fold_app : ∀ (l : List (Array Nat)) (acc : Array Nat), (l.foldl (· ++ ·) acc).toList = acc.toList ++ (l.map Array.toList).flatten
  | [], acc => by simp
  | x :: l, acc => by rw [List.foldl_cons, fold_app l]; simp [List.append_assoc]
theorem rep_flat {α : Type} (a : α) : ∀ n : Nat, (List.replicate n [a]).flatten = List.replicate n a
  | 0 => rfl
  | n + 1 => by rw [List.replicate_succ, List.flatten_cons, rep_flat a n]; rfl
theorem repS_list (x : Str) (n : Int) : (repS x n).cps.toList = (List.replicate n.toNat x.cps.toList).flatten := by
  unfold repS
  rw [fold_app]
  simp
theorem repS_zeros (n : Int) : (repS ("0" : Str) n).cps.toList = List.replicate n.toNat 48 := by
  rw [repS_list]
  exact rep_flat 48 _
theorem dv_app : ∀ (l : List Nat) (acc : Nat), l.foldl (fun acc c => acc * 10 + (c - 48)) acc = acc * 10 ^ l.length + NumText.digitsVal l
  | [], acc => by simp [NumText.digitsVal]
  | c :: l, acc => by
    unfold NumText.digitsVal
    rw [List.foldl_cons, List.foldl_cons, dv_app l, dv_app l (0 * 10 + (c - 48)), List.length_cons, Nat.pow_succ, Nat.add_mul, Nat.mul_assoc, Nat.mul_comm 10]
    simp [Nat.add_assoc]
theorem dv_zeros : ∀ (n acc : Nat), (List.replicate n 48).foldl (fun acc c => acc * 10 + (c - 48)) acc = acc * 10 ^ n
  | 0, acc => by simp
  | n + 1, acc => by rw [List.replicate_succ, List.foldl_cons, dv_zeros n, Nat.pow_succ]; simp [Nat.mul_assoc, Nat.mul_comm 10]
theorem one_zero_list (n : Int) : (("1" : Str) ++ repS ("0" : Str) n).cps.toList = 49 :: List.replicate n.toNat 48 := by
  show ((("1" : Str).cps ++ (repS ("0" : Str) n).cps).toList = _)
  rw [Array.toList_append, repS_zeros]
  rfl
theorem one_zero_len (n : Int) : (("1" : Str) ++ repS ("0" : Str) n).length = n.toNat + 1 := by
  have := congrArg List.length (one_zero_list n)
  rw [Array.length_toList, List.length_cons, List.length_replicate] at this
  exact this
theorem ten_text {n : Int} (h : n ≤ 4000) : PySem.intText? (("1" : Str) ++ repS ("0" : Str) n) = some ((10 ^ n.toNat : Nat) : Int) := by
  rw [PySem.intText_digits (x := ("1" : Str) ++ repS ("0" : Str) n)]
  · rw [one_zero_list]
    unfold NumText.digitsVal
    rw [List.foldl_cons, dv_zeros]
    simp
  · rw [one_zero_list]
    intro c hc
    rcases List.mem_cons.mp hc with rfl | hc
    · decide
    · have := (List.mem_replicate.mp hc).2
      omega
  · rw [one_zero_list]
    exact List.cons_ne_nil _ _
  · rw [one_zero_len]
    omega
end TM

/-! Readings run from the head on; what comes behind lies in boxes, so that nothing looks at it too early. -/
namespace TN
open PySem PySem.Spec PyProof.Rows L2 TQ TM
class Box (α : Sort u) where
  v : α
theorem box_v {α : Sort u} (a : α) : (Box.mk a).v = a := rfl
def iteP (c : Prop) [Decidable c] [A : Box Prop] [B : Box Prop] : Prop := if c then A.v else B.v
def iteB (b : Bool) [A : Box Prop] [B : Box Prop] : Prop := if b = true then A.v else B.v
def blP (x : PV) (A : Bool → Prop) : Prop := ∃ k, x = .bl k ∧ A k
def vP (o : Option (Option PV)) (M : Mem) [Q : Box PK] : Prop := ∃ x, o = some (some x) ∧ Q.v x M
def ixP (o : Option PV) (M : Mem) [Q : Box PK] : Prop := ∃ x, o = some x ∧ Q.v x M
def nxP (env : Sl) (M : Mem) [Q : Box (Sl → Mem → Prop)] : Prop := Q.v env M
def callP (s : SpQ) (xs : List PV) (M : Mem) [Q : Box PK] [E : Box EK] : Prop := s xs M Q.v E.v
def fldB (K : PySem.W.Frag) (f : Str) (x : PV) (M : Mem) [Q : Box PK] : Prop := fldP K f x M Q.v
def mthB (C : Addr) (m : Str) (x : PV) (M : Mem) [R : Box Prop] : Prop := mthP C m x M R.v
def isiB (K : PySem.W.Frag) (x c : PV) (M : Mem) [Q : Box PK] : Prop := cIsi K [x, c] M Q.v
def app1 (x : PV) (M : Mem) [R : Box Prop] : Prop := ∃ a ys, x = .ref a ∧ M a = some (.lst ys) ∧ R.v
def app2 (x y : PV) (M : Mem) [Q : Box PK] : Prop := ∃ a zs, x = .ref a ∧ M a = some (.lst zs) ∧ zs.length < sizeLine ∧ Q.v .non (mset M a (.lst (zs ++ [y])))
def txtP (a : Str) (M : Mem) [Q : Box PK] : Prop := ∃ n, PySem.intText? a = some n ∧ a.length ≤ 640 ∧ Q.v (.int n) M
def truP (x : PV) (M : Mem) [A : Box (Bool → Prop)] : Prop := ∃ b, trP M x = some b ∧ A.v b
def lstP (xs : List PV) (M : Mem) [Q : Box PK] : Prop := ∀ p, M p = none → Q.v (.ref p) (mset M p (.lst xs))
section
variable {c p : Prop} [Decidable c] [Decidable p] {A B : Prop}
theorem iteP_of {A B : Box Prop} (h1 : c → A.v) (h2 : ¬ c → B.v) : @iteP c _ A B := ite2 h1 h2
theorem iteP_t {A B : Box Prop} (h : c) (h1 : A.v) : @iteP c _ A B := iteP_of (fun _ => h1) fun z => absurd h z
theorem iteP_f {A B : Box Prop} (h : ¬ c) (h1 : B.v) : @iteP c _ A B := iteP_of (fun z => absurd z h) fun _ => h1
theorem iteP_true {d : Decidable True} {A B : Box Prop} : @iteP True d A B = A.v := if_pos trivial
theorem iteP_false {d : Decidable False} {A B : Box Prop} : @iteP False d A B = B.v := if_neg id
theorem iteB_dec {A B : Box Prop} : @iteB (decide p) A B = @iteP p _ A B := by
  unfold iteB iteP
  by_cases h : p <;> simp [h]
theorem iteB_t {A B : Box Prop} : @iteB true A B = A.v := if_pos rfl
theorem iteB_f {A B : Box Prop} : @iteB false A B = B.v := if_neg (by decide)
theorem iteB_not {b : Bool} {A B : Box Prop} : @iteB (!b) A B = @iteB b B A := by cases b <;> rfl
theorem iteB_and {a b : Bool} {A B : Box Prop} : @iteB (a && b) A B = @iteB a ⟨@iteB b A B⟩ B := by cases a <;> rfl
theorem iteB_or {a b : Bool} {A B : Box Prop} : @iteB (a || b) A B = @iteB a A ⟨@iteB b A B⟩ := by cases a <;> rfl
theorem iteB_beq {α : Type} [DecidableEq α] {x y : α} {A B : Box Prop} : @iteB (x == y) A B = @iteP (x = y) _ A B := by
  unfold iteB iteP
  by_cases h : x = y <;> simp [h]
theorem iteB_bne {α : Type} [DecidableEq α] {x y : α} {A B : Box Prop} : @iteB (x != y) A B = @iteP (x = y) _ B A := by
  unfold iteB iteP
  by_cases h : x = y <;> simp [h]
theorem iteB_of {b : Bool} {A B : Box Prop} (h1 : b = true → A.v) (h2 : b = false → B.v) : @iteB b A B := by cases b; exact h2 rfl; exact h1 rfl
theorem iteB_pos {b : Bool} {A B : Box Prop} (h : b = true) (h1 : A.v) : @iteB b A B := by subst h; exact h1
theorem iteB_neg {b : Bool} {A B : Box Prop} (h : b = false) (h1 : B.v) : @iteB b A B := by subst h; exact h1
theorem blP_bl {k : Bool} {A : Bool → Prop} : blP (.bl k) A = A k := propext ⟨fun ⟨_, h, q⟩ => by cases h; exact q, fun q => ⟨_, rfl, q⟩⟩
end
section
variable {K : PySem.W.Frag} {env : Sl} {M : Mem} {Q : PK} {E : EK} {D : QEnds} {x y : PV} {xs : List PV}
theorem vP_some {Q : Box PK} : @vP (some (some x)) M Q = Q.v x M := propext ⟨fun ⟨_, h, q⟩ => by cases h; exact q, fun q => ⟨_, rfl, q⟩⟩
theorem ixP_some {Q : Box PK} : @ixP (some x) M Q = Q.v x M := propext ⟨fun ⟨_, h, q⟩ => by cases h; exact q, fun q => ⟨_, rfl, q⟩⟩
theorem nxP_eq {Q : Box (Sl → Mem → Prop)} : @nxP env M Q = Q.v env M := rfl
theorem dec_t {d : Decidable True} : @decide True d = true := decide_eq_true trivial
theorem dec_f {d : Decidable False} : @decide False d = false := decide_eq_false id
theorem c_0 : ((0 : Nat) : Int) = 0 := rfl
theorem c_1 : ((1 : Nat) : Int) = 1 := rfl
theorem c_2 : ((2 : Nat) : Int) = 2 := rfl
theorem c_3 : ((3 : Nat) : Int) = 3 := rfl
theorem c_4 : ((4 : Nat) : Int) = 4 := rfl
/-! values -/
theorem e_qVar {i : Nat} : qVar i env M Q E = @vP env[i]? M ⟨Q⟩ := rfl
theorem e_qC : qC x env M Q E = Q x M := rfl
theorem e_q2 {f : F2} {a b : QT} : q2 f a b env M Q E = a env M (fun x M1 => b env M1 (fun y M2 => f x y M2 Q) E) E := rfl
theorem e_qTst {t : QT} {Q : Bool → Mem → Prop} : qTst t env M Q E = t env M (fun x M1 => blP x fun b => Q b M1) E := rfl
theorem e_qAnd {t u : QB} {Q : Bool → Mem → Prop} : qAnd t u env M Q E = t env M (fun c M1 => @iteB c ⟨u env M1 Q E⟩ ⟨Q false M1⟩) E := rfl
theorem e_qOr {t u : QB} {Q : Bool → Mem → Prop} : qOr t u env M Q E = t env M (fun c M1 => @iteB c ⟨Q true M1⟩ ⟨u env M1 Q E⟩) E := rfl
theorem e_qNot {t : QB} {Q : Bool → Mem → Prop} : qNot t env M Q E = t env M (fun c M1 => Q (!c) M1) E := rfl
theorem e_qAndV {t u : QT} : qAndV t u env M Q E = t env M (fun x M1 => blP x fun c => @iteB c ⟨u env M1 Q E⟩ ⟨Q (.bl false) M1⟩) E := rfl
theorem e_qOrV {t u : QT} : qOrV t u env M Q E = t env M (fun x M1 => blP x fun c => @iteB c ⟨Q (.bl true) M1⟩ ⟨u env M1 Q E⟩) E := rfl
theorem e_qNotV {t : QT} : qNotV t env M Q E = t env M (fun x M1 => blP x fun c => Q (.bl (!c)) M1) E := rfl
theorem e_qIf {c : QB} {t u : QT} : qIf c t u env M Q E = c env M (fun b M1 => @iteB b ⟨t env M1 Q E⟩ ⟨u env M1 Q E⟩) E := rfl
theorem e_qNil {Q : List PV → Mem → Prop} : qNil env M Q E = Q [] M := rfl
theorem e_qCons {t : QT} {r : QA} {Q : List PV → Mem → Prop} : qCons t r env M Q E = t env M (fun x M1 => r env M1 (fun xs M2 => Q (x :: xs) M2) E) E := rfl
def tupP (xs : List PV) (M : Mem) (Q : PK) : Prop := xs.length ≤ sizeLine ∧ Q (.tup xs) M
def lisP (xs : List PV) (M : Mem) (Q : PK) : Prop := xs.length ≤ sizeLine ∧ Q (.lst xs) M
def lsmP (xs : List PV) (M : Mem) (Q : PK) : Prop := xs.length ≤ sizeLine ∧ ∀ p, M p = none → Q (.ref p) (mset M p (.lst xs))
theorem e_qTup {t : QA} : qTup t env M Q E = t env M (fun xs M1 => tupP xs M1 Q) E := rfl
theorem e_qLst {t : QA} : qLst t env M Q E = t env M (fun xs M1 => lisP xs M1 Q) E := rfl
theorem e_qLstM {t : QA} : qLstM t env M Q E = t env M (fun xs M1 => lsmP xs M1 Q) E := rfl
theorem len_ok {n : Nat} (h : n ≤ 1000) : n ≤ sizeLine := by rw [sizeLine_eq]; omega
theorem len_lt {n : Nat} (h : n < 1000) : n < sizeLine := by rw [sizeLine_eq]; omega
theorem len_lt' {n : Nat} (h : n ≤ 1000) : n < sizeLine := by rw [sizeLine_eq]; omega
theorem tup_0 : tupP [] M Q = Q (.tup []) M := propext ⟨fun h => h.2, fun h => ⟨len_ok (by decide), h⟩⟩
variable {a b c d e f g h i : PV}
theorem tup_1 : tupP [a] M Q = Q (.tup [a]) M := propext ⟨fun h => h.2, fun h => ⟨len_ok (by decide : 1 ≤ 1000), h⟩⟩
theorem tup_2 : tupP [a, b] M Q = Q (.tup [a, b]) M := propext ⟨fun h => h.2, fun h => ⟨len_ok (by decide : 2 ≤ 1000), h⟩⟩
theorem tup_3 : tupP [a, b, c] M Q = Q (.tup [a, b, c]) M := propext ⟨fun h => h.2, fun h => ⟨len_ok (by decide : 3 ≤ 1000), h⟩⟩
theorem tup_4 : tupP [a, b, c, d] M Q = Q (.tup [a, b, c, d]) M := propext ⟨fun h => h.2, fun h => ⟨len_ok (by decide : 4 ≤ 1000), h⟩⟩
theorem tup_5 : tupP [a, b, c, d, e] M Q = Q (.tup [a, b, c, d, e]) M := propext ⟨fun h => h.2, fun h => ⟨len_ok (by decide : 5 ≤ 1000), h⟩⟩
theorem lis_0 : lisP [] M Q = Q (.lst []) M := propext ⟨fun h => h.2, fun h => ⟨len_ok (by decide), h⟩⟩
theorem lis_1 : lisP [a] M Q = Q (.lst [a]) M := propext ⟨fun h => h.2, fun h => ⟨len_ok (by decide : 1 ≤ 1000), h⟩⟩
theorem lis_2 : lisP [a, b] M Q = Q (.lst [a, b]) M := propext ⟨fun h => h.2, fun h => ⟨len_ok (by decide : 2 ≤ 1000), h⟩⟩
theorem lis_3 : lisP [a, b, c] M Q = Q (.lst [a, b, c]) M := propext ⟨fun h => h.2, fun h => ⟨len_ok (by decide : 3 ≤ 1000), h⟩⟩
theorem lis_4 : lisP [a, b, c, d] M Q = Q (.lst [a, b, c, d]) M := propext ⟨fun h => h.2, fun h => ⟨len_ok (by decide : 4 ≤ 1000), h⟩⟩
theorem lis_5 : lisP [a, b, c, d, e] M Q = Q (.lst [a, b, c, d, e]) M := propext ⟨fun h => h.2, fun h => ⟨len_ok (by decide : 5 ≤ 1000), h⟩⟩
theorem lis_6 : lisP [a, b, c, d, e, f] M Q = Q (.lst [a, b, c, d, e, f]) M := propext ⟨fun h => h.2, fun h => ⟨len_ok (by decide : 6 ≤ 1000), h⟩⟩
theorem lis_7 : lisP [a, b, c, d, e, f, g] M Q = Q (.lst [a, b, c, d, e, f, g]) M := propext ⟨fun h => h.2, fun h => ⟨len_ok (by decide : 7 ≤ 1000), h⟩⟩
theorem lis_8 : lisP [a, b, c, d, e, f, g, h] M Q = Q (.lst [a, b, c, d, e, f, g, h]) M := propext ⟨fun h => h.2, fun h => ⟨len_ok (by decide : 8 ≤ 1000), h⟩⟩
theorem lsm_eq : lsmP xs M Q = (xs.length ≤ sizeLine ∧ @lstP xs M ⟨Q⟩) := rfl
theorem lstP_of {Q : Box PK} (h : ∀ p, M p = none → Q.v (.ref p) (mset M p (.lst xs))) : @lstP xs M Q := h
/-! built-ins -/
theorem e_qCB {r : FC} {t : QA} : qCB r t env M Q E = t env M (fun xs M1 => r xs M1 Q) E := rfl
theorem e_cLen : cLen [x] M Q = len1 x M Q := rfl
theorem e_cMax {i j : Int} : cMax [.int i, .int j] M Q = Q (.int (max i j)) M := rfl
theorem e_cMin {i j : Int} : cMin [.int i, .int j] M Q = Q (.int (min i j)) M := rfl
theorem e_cAbs {i : Int} : cAbs [.int i] M Q = Q (.int i.natAbs) M := rfl
theorem e_cInt_i {i : Int} : cInt [.int i] M Q = Q (.int i) M := rfl
theorem e_cInt_d {p : Prop} [Decidable p] : cInt [.bl (decide p)] M Q = Q (.int (if p then 1 else 0)) M := by
  show Q (.int (if decide p = true then 1 else 0)) M = _
  simp only [decide_eq_true_eq]
theorem e_cInt_nd {p : Prop} [Decidable p] : cInt [.bl (!decide p)] M Q = Q (.int (if p then 0 else 1)) M := by
  show Q (.int (if (!decide p) = true then 1 else 0)) M = _
  by_cases h : p <;> simp [h]
theorem e_cInt_b {b : Bool} : cInt [.bl b] M Q = Q (.int (if b then 1 else 0)) M := rfl
theorem e_cInt_s {a : Str} : cInt [.str a] M Q = @txtP a M ⟨Q⟩ := rfl
theorem e_cStr {i : Int} : cStr [.int i] M Q = (i.natAbs.log2 < 1920 ∧ Q (.str (toString i)) M) := rfl
theorem e_cDivmod {i j : Int} : cDivmod [.int i, .int j] M Q = (CDivP i j ∧ Q (.tup [.int (i / j), .int (i % j)]) M) := rfl
theorem e_cIsi : cIsi K [x, y] M Q = @isiB K x y M ⟨Q⟩ := rfl
theorem e_qBits {t : QT} : qBits t env M Q E = t env M (fun x M1 => ∃ i, x = .int i ∧ Q (.int (Builtin.Int.intBits i : Nat)) M1) E := rfl
def intP (x : PV) (A : Int → Prop) : Prop := ∃ i, x = .int i ∧ A i
theorem intP_int {i : Int} {A : Int → Prop} : intP (.int i) A = A i := propext ⟨fun ⟨_, h, q⟩ => by cases h; exact q, fun q => ⟨_, rfl, q⟩⟩
theorem e_qBits2 {t : QT} : qBits t env M Q E = t env M (fun x M1 => intP x fun i => Q (.int (Builtin.Int.intBits i : Nat)) M1) E := rfl
theorem e_qNeg {t : QT} : qNeg t env M Q E = t env M (fun x M1 => intP x fun i => Q (.int (-i)) M1) E := rfl
theorem e_qSl {t : QT} {lo hi : QO} : qSl t lo hi env M Q E = t env M (fun x M1 => lo env M1 (fun l M2 => hi env M2 (fun u M3 => bSl l u x M3 Q) E) E) E := rfl
theorem e_qoNone {Q : Option Int → Mem → Prop} : qoNone env M Q E = Q none M := rfl
theorem e_qoSome {t : QT} {Q : Option Int → Mem → Prop} : qoSome t env M Q E = t env M (fun x M1 => intP x fun i => Q (some i) M1) E := rfl
/-! calls, fields, instances -/
theorem e_qCall {s : SpQ} {t : QA} : qCall s t env M Q E = t env M (fun xs M1 => @callP s xs M1 ⟨Q⟩ ⟨E⟩) E := rfl
theorem e_qFld {f : Str} {t : QT} : qFld K f t env M Q E = t env M (fun x M1 => @fldB K f x M1 ⟨Q⟩) E := rfl
theorem e_qMeth {C : Addr} {m : Str} {s : SpQ} {to : QT} {t : QA} : qMeth C m s to t env M Q E = to env M (fun x M1 => @mthB C m x M1 ⟨t env M1 (fun ys M2 => @callP s (x :: ys) M2 ⟨Q⟩ ⟨E⟩) E⟩) E := rfl
def makP (C : Addr) (ns : List Str) (xs : List PV) (M : Mem) (Q : PK) : Prop := xs.length = ns.length ∧ Q (.obj C ns xs) M
theorem e_qMake {C : Addr} {ns : List Str} {dps : List PV} {t : QA} : qMake C ns dps t env M Q E = t env M (fun xs M1 => makP C ns (xs ++ dps) M1 Q) E := rfl
theorem makP_of {C : Addr} {ns : List Str} (h : xs.length = ns.length) : makP C ns xs M Q = Q (.obj C ns xs) M := propext ⟨fun z => z.2, fun z => ⟨h, z⟩⟩
theorem makP_2 {C : Addr} {n1 n2 : Str} {a b : PV} : makP C [n1, n2] [a, b] M Q = Q (.obj C [n1, n2] [a, b]) M := makP_of rfl
theorem makP_3 {C : Addr} {n1 n2 n3 : Str} {a b c : PV} : makP C [n1, n2, n3] [a, b, c] M Q = Q (.obj C [n1, n2, n3] [a, b, c]) M := makP_of rfl
theorem makP_4 {C : Addr} {n1 n2 n3 n4 : Str} {a b c d : PV} : makP C [n1, n2, n3, n4] [a, b, c, d] M Q = Q (.obj C [n1, n2, n3, n4] [a, b, c, d]) M := makP_of rfl
theorem e_qMakeK {C : Addr} {ns : List Str} {n m : Nat} {gP : List PV → List PV → List PV} {t tk : QA} : qMakeK C ns n m gP t tk env M Q E = t env M (fun xs M1 => tk env M1 (fun zs M2 => xs.length = n ∧ zs.length = m ∧ makP C ns (gP xs zs) M2 Q) E) E := rfl
/-! the rest -/
theorem e_qOrT {ta tb : QT} : qOrT ta tb env M Q E = ta env M (fun x M1 => @truP x M1 ⟨fun k => @iteB k ⟨Q x M1⟩ ⟨tb env M1 Q E⟩⟩) E := rfl
theorem e_qOrC {ta : QT} : qOrT ta (qC y) env M Q E = ta env M (fun x M1 => @truP x M1 ⟨fun k => Q (if k = true then x else y) M1⟩) E := by
  show ta env M (fun x M1 => ∃ k, trP M1 x = some k ∧ if k = true then Q x M1 else Q y M1) E = ta env M (fun x M1 => ∃ k, trP M1 x = some k ∧ Q (if k = true then x else y) M1) E
  congr 1
  funext x M1
  congr 1
  funext k
  cases k <;> rfl
theorem truP_some {b : Bool} {A : Box (Bool → Prop)} (h : trP M x = some b) : @truP x M A = A.v b := propext ⟨fun ⟨_, h', q⟩ => by rw [h] at h'; cases h'; exact q, fun q => ⟨_, h, q⟩⟩
theorem truP_int {i : Int} {A : Box (Bool → Prop)} : @truP (.int i) M A = A.v (i != 0) := truP_some rfl
theorem truP_bl {i : Bool} {A : Box (Bool → Prop)} : @truP (.bl i) M A = A.v i := truP_some rfl
theorem truP_non {A : Box (Bool → Prop)} : @truP .non M A = A.v false := truP_some rfl
theorem if_int {k : Bool} {i j : Int} : (if k = true then PV.int i else PV.int j) = PV.int (if k = true then i else j) := by cases k <;> rfl
theorem e_qTru {t : QT} {Q : Bool → Mem → Prop} : qTru t env M Q E = t env M (fun x M1 => @truP x M1 ⟨fun b => Q b M1⟩) E := rfl
theorem e_qChain {f f' : F2} {ta tb tc : QT} : qChain f f' ta tb tc env M Q E = ta env M (fun x M1 => tb env M1 (fun y M2 => f x y M2 fun z M3 => blP z fun k => @iteB k ⟨tc env M3 (fun u M4 => f' y u M4 Q) E⟩ ⟨Q (.bl false) M3⟩) E) E := rfl
theorem e_qApp {to te : QT} : qApp to te env M Q E = to env M (fun x M1 => @app1 x M1 ⟨te env M1 (fun y M2 => @app2 x y M2 ⟨Q⟩) E⟩) E := by
  show to env M (fun x M1 => ∃ a ys, x = .ref a ∧ M1 a = some (.lst ys) ∧ te env M1 (fun y M2 => ∃ zs, M2 a = some (.lst zs) ∧ zs.length < sizeLine ∧ Q .non (mset M2 a (.lst (zs ++ [y])))) E) E =
    to env M (fun x M1 => ∃ a ys, x = .ref a ∧ M1 a = some (.lst ys) ∧ te env M1 (fun y M2 => ∃ a zs, x = .ref a ∧ M2 a = some (.lst zs) ∧ zs.length < sizeLine ∧ Q .non (mset M2 a (.lst (zs ++ [y])))) E) E
  congr 1
  funext x M1
  apply propext
  refine exists_congr fun a => exists_congr fun ys => and_congr_right fun hx => ?_
  subst hx
  have e : (fun (y : PV) (M2 : Mem) => ∃ zs, M2 a = some (.lst zs) ∧ zs.length < sizeLine ∧ Q .non (mset M2 a (.lst (zs ++ [y])))) = fun y M2 => ∃ b zs, PV.ref a = .ref b ∧ M2 b = some (.lst zs) ∧ zs.length < sizeLine ∧ Q .non (mset M2 b (.lst (zs ++ [y]))) := by
    funext y M2
    apply propext
    exact ⟨fun ⟨zs, h⟩ => ⟨a, zs, rfl, h⟩, fun ⟨b, zs, h1, h⟩ => by cases h1; exact ⟨zs, h⟩⟩
  rw [e]
theorem app1_mset {p : Addr} {ys : List PV} {R : Box Prop} : @app1 (.ref p) (mset M p (.lst ys)) R = R.v := propext ⟨fun ⟨_, _, _, _, q⟩ => q, fun q => ⟨_, _, rfl, mset_same, q⟩⟩
theorem app2_mset {p : Addr} {ys : List PV} {Q : Box PK} : @app2 (.ref p) y (mset M p (.lst ys)) Q = (ys.length < sizeLine ∧ Q.v .non (mset M p (.lst (ys ++ [y])))) := propext
  ⟨fun ⟨_, _, h, h1, q⟩ => by cases h; rw [mset_same] at h1; cases h1; rw [mset_mset] at q; exact q, fun q => ⟨_, _, rfl, mset_same, by rw [mset_mset]; exact q⟩⟩
/-! values of two -/
theorem b_add_i {i j : Int} : bAdd (.int i) (.int j) M Q = Q (.int (i + j)) M := rfl
theorem b_add_s {i j : Str} : bAdd (.str i) (.str j) M Q = (i.length + j.length ≤ sizeLine ∧ Q (.str (i ++ j)) M) := rfl
theorem b_add_l {i j : List PV} : bAdd (.lst i) (.lst j) M Q = (i.length + j.length ≤ sizeLine ∧ Q (.lst (i ++ j)) M) := rfl
theorem b_sub {i j : Int} : bSub (.int i) (.int j) M Q = Q (.int (i - j)) M := rfl
theorem b_mul_i {i j : Int} : bMul (.int i) (.int j) M Q = (IntMulOk i j ∧ Q (.int (i * j)) M) := rfl
theorem b_mul_s {a : Str} {n : Int} : bMul (.str a) (.int n) M Q = ((0 ≤ n ∧ n ≤ 100000 ∧ a.length ≤ 100) ∧ Q (.str (repS a n)) M) := rfl
theorem b_div {i j : Int} : bDiv (.int i) (.int j) M Q = (CDivW i j ∧ Q (.int (i / j)) M) := rfl
theorem b_mod {i j : Int} : bMod (.int i) (.int j) M Q = (0 < j ∧ Q (.int (i % j)) M) := rfl
theorem b_pow {i j : Int} : bPow (.int i) (.int j) M Q = (CPow i j ∧ Q (.int (i ^ j.toNat)) M) := rfl
theorem b_lt {i j : Int} : bLt (.int i) (.int j) M Q = Q (.bl (decide (i < j))) M := rfl
theorem b_le {i j : Int} : bLe (.int i) (.int j) M Q = Q (.bl (decide (i ≤ j))) M := rfl
theorem b_gt {i j : Int} : bGt (.int i) (.int j) M Q = Q (.bl (decide (j < i))) M := rfl
theorem b_ge {i j : Int} : bGe (.int i) (.int j) M Q = Q (.bl (decide (j ≤ i))) M := rfl
theorem i_add_i {i j : Int} : iAdd (.int i) (.int j) M Q = Q (.int (i + j)) M := rfl
theorem i_add_s {i j : Str} : iAdd (.str i) (.str j) M Q = (i.length + j.length ≤ sizeLine ∧ Q (.str (i ++ j)) M) := rfl
theorem i_mul_i {i j : Int} : iMul (.int i) (.int j) M Q = (IntMulOk i j ∧ Q (.int (i * j)) M) := rfl
def eqP (neg : Bool) (o o' : Option PyData) (M : Mem) [Q : Box PK] : Prop := match o, o' with
  | some d, some e => min d.depth e.depth ≤ 64 ∧ Q.v (.bl (if neg then !PyData.eqv d e else PyData.eqv d e)) M
  | _, _ => False
theorem xi_lst {i : Int} : bIx (.lst xs) (.int i) M Q = @ixP (atI xs i) M ⟨Q⟩ := rfl
theorem xi_scr {ns : List Int} {i : Int} : bIx (.scr ns) (.int i) M Q = @ixP (atI (ns.map PV.int) i) M ⟨Q⟩ := rfl
theorem xi_tup {i : Int} : bIx (.tup xs) (.int i) M Q = @ixP (atI xs i) M ⟨Q⟩ := rfl
theorem xi_mset {a : Addr} {i : Int} : bIx (.ref a) (.int i) (mset M a (.lst xs)) Q = @ixP (atI xs i) (mset M a (.lst xs)) ⟨Q⟩ := bIx_mset
theorem at_0 {α : Type} {a : α} {l : List α} : atI (a :: l) 0 = some a := by rw [atI_in (by decide) (by simp)]; rfl
theorem at_1 {α : Type} {a b : α} {l : List α} : atI (a :: b :: l) 1 = some b := by rw [atI_in (by decide) (by simp; omega)]; rfl
theorem at_2 {α : Type} {a b c : α} {l : List α} : atI (a :: b :: c :: l) 2 = some c := by rw [atI_in (by decide) (by simp; omega)]; rfl
theorem at_3 {α : Type} {a b c d : α} {l : List α} : atI (a :: b :: c :: d :: l) 3 = some d := by rw [atI_in (by decide) (by simp; omega)]; rfl
theorem sqA_ref {a : Addr} (h : M a = some (.lst xs)) : sqA M (.ref a) = some xs := by
  show ml (M a) = _
  rw [h]
  rfl
theorem dat2 {a b : Int} : dat M (.tup [.int a, .int b]) = some (.tuple [.int a, .int b]) := rfl
theorem bNe_pair {a b : Int} : bEqP true (.tup [.int a, .int b]) (.tup [.int a, .int b]) M Q = Q (.bl false) M := by
  have e : PyData.eqv (.tuple [.int a, .int b]) (.tuple [.int a, .int b]) = true := by simp [PyData.eqv, PyData.eqvAll]
  show (min _ _ ≤ 64 ∧ Q (.bl (if true = true then !PyData.eqv (.tuple [.int a, .int b]) (.tuple [.int a, .int b]) else _)) M) = _
  rw [e]
  exact propext ⟨fun h => h.2, fun h => ⟨by simp [PyData.depth, PyData.depthAll], h⟩⟩
theorem mext_set {p : Addr} {o : MO} (h : M p = none) : MExt M (mset M p o) := fun a u e => by rw [mset_ne (by rintro rfl; rw [h] at e; cases e)]; exact e
theorem mext_trans {M1 M2 M3 : Mem} (h : MExt M1 M2) (k : MExt M2 M3) : MExt M1 M3 := fun a u e => k a u (h a u e)
theorem app1_ref {a : Addr} {ys : List PV} {R : Box Prop} (h : M a = some (.lst ys)) (q : R.v) : @app1 (.ref a) M R := ⟨a, ys, rfl, h, q⟩
theorem app2_ref {a : Addr} {ys : List PV} {Q : Box PK} (h : M a = some (.lst ys)) (l : ys.length < sizeLine) (q : Q.v .non (mset M a (.lst (ys ++ [y])))) : @app2 (.ref a) y M Q := ⟨a, ys, rfl, h, l, q⟩
theorem bEq_nil : bEqP false (.lst []) (.lst []) M Q = Q (.bl true) M := propext ⟨fun h => h.2, fun h => ⟨by decide, h⟩⟩
/-! statements -/
theorem e_sNext : sNext D env M = D.nx env M := rfl
theorem e_sSeq {t u : QS} : sSeq t u D env M = t { D with nx := u D } env M := rfl
theorem e_sRet {t : QT} : sRet t D env M = t env M D.rt (exE D env) := rfl
theorem e_sDrop {t : QT} : sDrop t D env M = t env M (fun _ M1 => D.nx env M1) (exE D env) := rfl
theorem e_sIf {c : QB} {t u : QS} : sIf c t u D env M = c env M (fun b M1 => @iteB b ⟨t D env M1⟩ ⟨u D env M1⟩) (exE D env) := rfl
theorem e_sAsg {t : QT} {g : QTG} : sAsg t g D env M = t env M (fun x M1 => g x env M1 D.nx) (exE D env) := rfl
theorem e_sAug {i : Nat} {t : QT} {f : F2} : sAug i t f D env M = @vP env[i]? M ⟨fun x _ => t env M (fun y M1 => f x y M1 fun z M2 => @nxP (env.set i (some z)) M2 ⟨D.nx⟩) (exE D env)⟩ := rfl
theorem e_sBreak : sBreak D env M = D.bk env M := rfl
theorem e_sCont : sCont D env M = D.ct env M := rfl
theorem e_gNm {i : Nat} {Q : Sl → Mem → Prop} : gNm i x env M Q = @nxP (env.set i (some x)) M ⟨Q⟩ := rfl
theorem e_gTu {n : Nat} {gs : QTGs} {Q : Sl → Mem → Prop} : gTu n gs (.tup xs) env M Q = (xs.length = n ∧ gs xs env M Q) := rfl
theorem e_gsNil {Q : Sl → Mem → Prop} : gsNil [] env M Q = Q env M := rfl
theorem e_gsCons {g : QTG} {gs : QTGs} {Q : Sl → Mem → Prop} : gsCons g gs (x :: xs) env M Q = g x env M fun env' M' => gs xs env' M' Q := rfl
theorem seq_cut {t u : QS} (P : Sl → Mem → Prop) (h1 : ∀ R : Sl → Mem → Prop, (∀ env M, P env M → R env M) → t { D with nx := R } env M) (h2 : ∀ env M, P env M → u D env M) : sSeq t u D env M := h1 (u D) h2
theorem seq_go {t u : QS} (h : t { D with nx := u D } env M) : sSeq t u D env M := h
theorem s_asg {t : QT} {g : QTG} {u : QS} : sSeq (sAsg t g) u D env M = sAsg t g { D with nx := u D } env M := rfl
theorem s_aug {i : Nat} {t : QT} {f : F2} {u : QS} : sSeq (sAug i t f) u D env M = sAug i t f { D with nx := u D } env M := rfl
theorem s_drop {t : QT} {u : QS} : sSeq (sDrop t) u D env M = sDrop t { D with nx := u D } env M := rfl
theorem sWhile_of {c : QB} {b : QS} (I : Nat → Sl → Mem → Prop) (h0 : ∃ m, I m env M) (h : ∀ m env M, I m env M → c env M (fun k M1 => @iteB k
    ⟨b { D with nx := fun env' M' => ∃ m', m' < m ∧ I m' env' M', bk := D.nx, ct := fun env' M' => ∃ m', m' < m ∧ I m' env' M' } env M1⟩ ⟨D.nx env M1⟩) (exE D env)) : sWhile c b D env M := ⟨I, h0, h⟩
theorem forI_of {n : Nat} {at' : Nat → PV → Prop} {st : Mem → Prop} {g : QTG} {b : QS} (I : Nat → Sl → Mem → Prop) (h0 : I 0 env M) (hs : ∀ i env M, i ≤ n → I i env M → st M)
    (h : ∀ i x env M, i < n → at' i x → I i env M → g x env M fun env' M' => b { D with nx := I (i + 1), bk := D.nx, ct := I (i + 1) } env' M') (hn : ∀ env M, I n env M → D.nx env M) : forI n at' st g b D env M := ⟨I, h0, hs, h, hn⟩
def rngP (hi : Int) (g : QTG) (b : QS) (D : QEnds) (env : Sl) (M : Mem) : Prop := (-(2 ^ 62) ≤ hi ∧ hi < 2 ^ 62) ∧ forI hi.toNat (fun i x => x = .int i) (fun _ => True) g b D env M
def rng2P (lo hi : Int) (g : QTG) (b : QS) (D : QEnds) (env : Sl) (M : Mem) : Prop := (-(2 ^ 62) ≤ lo ∧ lo < 2 ^ 62 ∧ -(2 ^ 62) ≤ hi ∧ hi < 2 ^ 62) ∧ forI (hi - lo).toNat (fun i x => x = .int (lo + i)) (fun _ => True) g b D env M
def isR1 (xs : List PV) (A : Int → Prop) : Prop := ∃ hi, xs = [.int hi] ∧ A hi
def isR2 (xs : List PV) (A : Int → Int → Prop) : Prop := ∃ lo hi, xs = [.int lo, .int hi] ∧ A lo hi
theorem isR1_eq {i : Int} {A : Int → Prop} : isR1 [.int i] A = A i := propext ⟨fun ⟨_, h, q⟩ => by cases h; exact q, fun q => ⟨_, rfl, q⟩⟩
theorem isR2_eq {i j : Int} {A : Int → Int → Prop} : isR2 [.int i, .int j] A = A i j := propext ⟨fun ⟨_, _, h, q⟩ => by cases h; exact q, fun q => ⟨_, _, rfl, q⟩⟩
theorem e_sForR1 {t : QA} {g : QTG} {b : QS} : sForR1 t g b D env M = t env M (fun xs M1 => isR1 xs fun hi => rngP hi g b D env M1) (exE D env) := rfl
theorem e_sForR2 {t : QA} {g : QTG} {b : QS} : sForR2 t g b D env M = t env M (fun xs M1 => isR2 xs fun lo hi => rng2P lo hi g b D env M1) (exE D env) := rfl
theorem rngP_of {hi : Int} {g : QTG} {b : QS} (h : -(2 ^ 62) ≤ hi ∧ hi < 2 ^ 62) (I : Nat → Sl → Mem → Prop) (h0 : I 0 env M)
    (hs : ∀ (i : Nat) env M, (i : Int) < hi → I i env M → g (.int i) env M fun env' M' => b { D with nx := I (i + 1), bk := D.nx, ct := I (i + 1) } env' M') (hn : ∀ env M, I hi.toNat env M → D.nx env M) : rngP hi g b D env M :=
  ⟨h, I, h0, fun _ _ _ _ _ => trivial, fun i x env M hi' hx q => by subst hx; exact hs i env M (by omega) q, hn⟩
theorem rng2P_of {lo hi : Int} {g : QTG} {b : QS} (h : -(2 ^ 62) ≤ lo ∧ lo < 2 ^ 62 ∧ -(2 ^ 62) ≤ hi ∧ hi < 2 ^ 62) (I : Nat → Sl → Mem → Prop) (h0 : I 0 env M)
    (hs : ∀ (i : Nat) env M, lo + (i : Int) < hi → I i env M → g (.int (lo + i)) env M fun env' M' => b { D with nx := I (i + 1), bk := D.nx, ct := I (i + 1) } env' M') (hn : ∀ env M, I (hi - lo).toNat env M → D.nx env M) : rng2P lo hi g b D env M :=
  ⟨h, I, h0, fun _ _ _ _ _ => trivial, fun i x env M hi' hx q => by subst hx; exact hs i env M (by omega) q, hn⟩
def forP (x : PV) (g : QTG) (b : QS) (D : QEnds) (env : Sl) (M : Mem) : Prop := match x with
  | .tup xs => forI xs.length (fun i x => xs[i]? = some x) (fun _ => True) g b D env M
  | _ => False
theorem e_sForT {t : QT} {g : QTG} {b : QS} : sForT t g b D env M = t env M (fun x M1 => forP x g b D env M1) (exE D env) := rfl
theorem forP_tup {g : QTG} {b : QS} : forP (.tup xs) g b D env M = forI xs.length (fun i x => xs[i]? = some x) (fun _ => True) g b D env M := rfl
def forLP (x : PV) (g : QTG) (b : QS) (D : QEnds) (env : Sl) (M1 : Mem) : Prop := match x with
  | .lst xs => forI xs.length (fun i x => xs[i]? = some x) (fun _ => True) g b D env M1
  | .scr ns => forI ns.length (fun i x => ∃ n, ns[i]? = some n ∧ x = .int n) (fun _ => True) g b D env M1
  | .ref a => ∃ xs, M1 a = some (.lst xs) ∧ forI xs.length (fun i x => xs[i]? = some x) (fun M => M a = some (.lst xs)) g b D env M1
  | _ => False
theorem e_sForL {t : QT} {g : QTG} {b : QS} : sForL t g b D env M = t env M (fun x M1 => forLP x g b D env M1) (exE D env) := rfl
theorem forLP_ref {a : Addr} {g : QTG} {b : QS} (h : M a = some (.lst xs)) (z : forI xs.length (fun i x => xs[i]? = some x) (fun M => M a = some (.lst xs)) g b D env M) : forLP (.ref a) g b D env M := ⟨xs, h, z⟩
theorem forLP_lst {g : QTG} {b : QS} : forLP (.lst xs) g b D env M = forI xs.length (fun i x => xs[i]? = some x) (fun _ => True) g b D env M := rfl
/-! comprehensions -/
theorem e_qYes {Q : Bool → Mem → Prop} : qYes env M Q E = Q true M := rfl
theorem e_lcEl {tt : QB} {te : QT} {r : Option PV} : lcEl tt te env M r = tt env M (fun b M4 => M4 = M ∧ @iteB b ⟨te env M (fun y M5 => M5 = M ∧ r = some y) EF⟩ ⟨r = none⟩) EF := rfl
theorem e_qLcT {j : Nat} {vs : List Nat} {tl : QT} {tt : QB} {te : QT} : qLcT j vs tl tt te env M Q E = tl env M (fun x M1 => ∃ items, x = .tup items ∧ lcQ items (fun y => some ((wipeQ env vs).set j (some y))) tt te M1 Q) E := rfl
def lcT (x : PV) (vs : List Nat) (j : Nat) (tt : QB) (te : QT) (env : Sl) (M1 : Mem) [Q : Box PK] : Prop := ∃ items, x = .tup items ∧ lcQ items (fun y => some ((wipeQ env vs).set j (some y))) tt te M1 Q.v
def lcL (o : Option (List PV)) (vs : List Nat) (j : Nat) (tt : QB) (te : QT) (env : Sl) (M1 : Mem) [Q : Box PK] : Prop := match o with
  | some items => lcQ items (fun y => some ((wipeQ env vs).set j (some y))) tt te M1 Q.v
  | none => False
theorem e_lcT {j : Nat} {vs : List Nat} {tl : QT} {tt : QB} {te : QT} : qLcT j vs tl tt te env M Q E = tl env M (fun x M1 => @lcT x vs j tt te env M1 ⟨Q⟩) E := rfl
theorem e_lcL {j : Nat} {vs : List Nat} {tl : QT} {tt : QB} {te : QT} : qLcL j vs tl tt te env M Q E = tl env M (fun x M1 => @lcL (sqA M1 x) vs j tt te env M1 ⟨Q⟩) E := rfl
theorem e_lcR1 {j : Nat} {vs : List Nat} {ta : QA} {tt : QB} {te : QT} : qLcR1 j vs ta tt te env M Q E = ta env M (fun xs M1 => isR1 xs fun hi => (-(2 ^ 62) ≤ hi ∧ hi < 2 ^ 62) ∧ @lcL (some ((List.range hi.toNat).map fun i => .int (i : Nat))) vs j tt te env M1 ⟨Q⟩) E := rfl
theorem lcT_of {vs : List Nat} {j : Nat} {tt : QB} {te : QT} {Q : Box PK} (r : PV → Option PV) (hn : xs.length ≤ 100000) (h : ∀ x ∈ xs, ∀ M2, MExt M M2 → lcEl tt te ((wipeQ env vs).set j (some x)) M2 (r x)) (q : Q.v (.lst (xs.filterMap r)) M) : @lcT (.tup xs) vs j tt te env M Q :=
  ⟨xs, rfl, hn, r, fun x hx M2 hM => ⟨_, rfl, h x hx M2 hM⟩, q⟩
theorem lcL_of {vs : List Nat} {j : Nat} {tt : QB} {te : QT} {Q : Box PK} (r : PV → Option PV) (hn : xs.length ≤ 100000) (h : ∀ x ∈ xs, ∀ M2, MExt M M2 → lcEl tt te ((wipeQ env vs).set j (some x)) M2 (r x)) (q : Q.v (.lst (xs.filterMap r)) M) : @lcL (some xs) vs j tt te env M Q :=
  ⟨hn, r, fun x hx M2 hM => ⟨_, rfl, h x hx M2 hM⟩, q⟩
theorem wipe_0 : wipeQ env [] = env := rfl
theorem wipe_1 {v : Nat} {vs : List Nat} : wipeQ env (v :: vs) = (wipeQ env vs).set v none := rfl
/-! kinds -/
theorem isiB_eq {Q : Box PK} {b : Bool} (h : ∀ Q', cIsi K [x, y] M Q' = Q' (.bl b) M) : @isiB K x y M Q = Q.v (.bl b) M := h Q.v
theorem isB_ii {i : Int} {Q : Box PK} : @isiB K (.int i) (.ty "int") M Q = Q.v (.bl true) M := isi_ii
theorem isB_ib {i : Int} {Q : Box PK} : @isiB K (.int i) (.ty "bool") M Q = Q.v (.bl false) M := isi_ib
theorem isB_is {i : Int} {Q : Box PK} : @isiB K (.int i) (.ty "str") M Q = Q.v (.bl false) M := isi_is
theorem isB_it {i : Int} {Q : Box PK} : @isiB K (.int i) (.ty "tuple") M Q = Q.v (.bl false) M := isi_it
theorem isB_bi {i : Bool} {Q : Box PK} : @isiB K (.bl i) (.ty "int") M Q = Q.v (.bl true) M := isi_bi
theorem isB_bb {i : Bool} {Q : Box PK} : @isiB K (.bl i) (.ty "bool") M Q = Q.v (.bl true) M := isi_bb
theorem isB_ss {i : Str} {Q : Box PK} : @isiB K (.str i) (.ty "str") M Q = Q.v (.bl true) M := isi_ss
theorem isB_st {i : Str} {Q : Box PK} : @isiB K (.str i) (.ty "tuple") M Q = Q.v (.bl false) M := isi_st
theorem isB_tt {i : List PV} {Q : Box PK} : @isiB K (.tup i) (.ty "tuple") M Q = Q.v (.bl true) M := isi_tt
theorem isB_nt {Q : Box PK} : @isiB K .non (.ty "tuple") M Q = Q.v (.bl false) M := isi_nt
theorem fldB_own {f : Str} {C : Addr} {ns : List Str} {os : List PV} {Q : Box PK} (o : own M x = some (C, ns, os)) (c : Cls K C) (n : NoAttr K C f) (h : lk f ns os = some y) : @fldB K f x M Q = Q.v y M := fldP_own o c n h
theorem mthB_own {C : Addr} {m : Str} {ns : List Str} {os : List PV} {R : Box Prop} (o : own M x = some (C, ns, os)) (h : m ∉ ns) : @mthB C m x M R = R.v := mthP_own o h
theorem start_eq {N : List Str} : startQ N xs = xs.map some ++ List.replicate (N.length - xs.length) none := rfl
end
end TN

namespace TQ
open PySem PySem.Spec PyProof.Rows L2
/-! ### tables: names or keys, and values -/
section
variable {κ : Type} [DecidableEq κ]
def memK (f : κ) (ns : List κ) : Bool := decide (f ∈ ns)
def putN (f : κ) (ns : List κ) : List κ := if f ∈ ns then ns else ns ++ [f]
def putX {α : Type} (f : κ) (v : α) : List κ → List α → List α
  | n :: ns, x :: xs => if n = f then v :: xs else x :: putX f v ns xs
  | _, _ => [v]
def getX {α : Type} (f : κ) : List κ → List α → Option α
  | n :: ns, x :: xs => if n = f then some x else getX f ns xs
  | _, _ => none
theorem putN_length (f : κ) (ns : List κ) : (putN f ns).length = if f ∈ ns then ns.length else ns.length + 1 := by
  unfold putN; split <;> simp
theorem putX_length {α : Type} (f : κ) (v : α) : ∀ (ns : List κ) (xs : List α), ns.length = xs.length → (putX f v ns xs).length = (putN f ns).length
  | [], [], _ => rfl
  | n :: ns, x :: xs, h => by
    have ih := putX_length f v ns xs (by simpa using h)
    unfold putX
    rw [putN_length] at ih ⊢
    by_cases e : n = f
    · subst e
      rw [if_pos rfl, if_pos List.mem_cons_self]
      simpa using h.symm
    · rw [if_neg e, List.length_cons, ih]
      by_cases m : f ∈ ns
      · rw [if_pos m, if_pos (List.mem_cons_of_mem _ m)]; rfl
      · rw [if_neg m, if_neg (fun z => (List.mem_cons.mp z).elim (fun z => e z.symm) m)]; rfl
theorem putX_reps {K : PySem.W.Frag} {G : Hp} {f : κ} {x : PV} {v : V} (r : Rep K G x v) : ∀ {ns : List κ} {xs : List PV} {vs : List V}, ns.length = xs.length → Reps K G xs vs → Reps K G (putX f x ns xs) (putX f v ns vs)
  | [], [], _, _, q => by cases q; exact Reps.one r
  | n :: ns, y :: xs, _, h, q => by
    obtain ⟨u, ws, rfl, q1, q2⟩ := q
    unfold putX
    by_cases e : n = f
    · rw [if_pos e, if_pos e]; exact Reps.cons r q2
    · rw [if_neg e, if_neg e]; exact Reps.cons q1 (putX_reps r (by simpa using h) q2)
theorem getX_rep {K : PySem.W.Frag} {G : Hp} {f : κ} : ∀ {ns : List κ} {xs : List PV} {vs : List V} {x : PV}, getX f ns xs = some x → Reps K G xs vs → ∃ v, getX f ns vs = some v ∧ Rep K G x v
  | [], _, _, _, h, _ => by cases h
  | _ :: _, [], _, _, h, _ => by cases h
  | n :: ns, y :: xs, _, x, h, q => by
    obtain ⟨u, ws, rfl, q1, q2⟩ := q
    unfold getX at h ⊢
    by_cases e : n = f
    · rw [if_pos e] at h ⊢; cases h; exact ⟨u, rfl, q1⟩
    · rw [if_neg e] at h ⊢; exact getX_rep h q2
theorem putN_cons_ne {f n : κ} {ns : List κ} (e : ¬ n = f) : putN f (n :: ns) = n :: putN f ns := by
  unfold putN
  by_cases m : f ∈ ns
  · rw [if_pos m, if_pos (List.mem_cons_of_mem _ m)]
  · rw [if_neg m, if_neg (fun z => (List.mem_cons.mp z).elim (fun z => e z.symm) m)]; rfl
theorem putK_zip {f : κ} {v : V} : ∀ {ns : List κ} {vs : List V}, ns.Nodup → ns.length = vs.length → putK (ns.zip vs) f v = (putN f ns).zip (putX f v ns vs)
  | [], [], _, _ => rfl
  | n :: ns, u :: vs, nd, h => by
    have nd' := List.nodup_cons.mp nd
    have ih := putK_zip (f := f) (v := v) (vs := vs) nd'.2 (by simpa using h)
    have ka : ∀ (ms : List κ) (ws : List V), ms.length = ws.length → ((ms.zip ws).any fun kv => decide (kv.1 = f)) = decide (f ∈ ms) := fun ms ws hl => by
      rw [Bool.eq_iff_iff]
      simp only [List.any_eq_true, decide_eq_true_eq]
      constructor
      · rintro ⟨p, hp, rfl⟩
        exact (List.of_mem_zip hp).1
      · intro hm
        obtain ⟨j, hj, e⟩ := List.getElem_of_mem hm
        refine ⟨(ms[j], ws[j]), ?_, e⟩
        exact List.mem_iff_getElem.mpr ⟨j, by simp; omega, by simp⟩
    have nomap : ∀ (ms : List κ) (ws : List V), f ∉ ms → (ms.zip ws).map (fun kv => if kv.1 = f then (kv.1, v) else kv) = ms.zip ws := fun ms ws hm => by
      have : ∀ kv ∈ ms.zip ws, (if kv.1 = f then (kv.1, v) else kv) = kv := fun kv hk => if_neg fun (z : kv.1 = f) => hm (z ▸ (List.of_mem_zip hk).1)
      rw [List.map_congr_left this, List.map_id']
    unfold putK at ih ⊢
    rw [ka _ _ h]
    rw [ka _ _ (by simpa using h)] at ih
    unfold putX
    by_cases e : n = f
    · subst e
      rw [if_pos rfl, if_pos (by simp), List.zip_cons_cons, List.map_cons, if_pos rfl]
      have hn : putN n (n :: ns) = n :: ns := if_pos List.mem_cons_self
      rw [hn, nomap ns vs nd'.1]
      rfl
    · rw [if_neg e, putN_cons_ne e, List.zip_cons_cons, List.zip_cons_cons, ← ih]
      by_cases m : f ∈ ns
      · rw [if_pos (by simp [m]), if_pos (by simp [m]), List.map_cons, if_neg e]
      · have hm2 : f ∉ n :: ns := fun z => (List.mem_cons.mp z).elim (fun z => e z.symm) m
        rw [if_neg (by simpa using hm2), if_neg (by simpa using m)]
        rfl
theorem valV_zip {f : κ} : ∀ {ns : List κ} {vs : List V}, valV (ns.zip vs) f = getX f ns vs
  | [], _ => rfl
  | _ :: _, [] => rfl
  | n :: ns, u :: vs => by
    rw [List.zip_cons_cons]
    unfold getX
    by_cases e : n = f
    · rw [if_pos e, valV_pos (p := (n, u)) e]
    · rw [if_neg e, valV_neg (p := (n, u)) e]; exact valV_zip
theorem getX_isSome {α : Type} {f : κ} : ∀ {ns : List κ} {vs : List α}, ns.length = vs.length → (getX f ns vs).isSome = memK f ns
  | [], [], _ => by simp [getX, memK]
  | n :: ns, u :: vs, h => by
    unfold getX
    by_cases e : n = f
    · rw [if_pos e]; simp [e, memK]
    · rw [if_neg e, getX_isSome (by simpa using h)]
      have : (f ∈ n :: ns) ↔ f ∈ ns := ⟨fun z => (List.mem_cons.mp z).elim (fun z => absurd z.symm e) id, List.mem_cons_of_mem _⟩
      simp only [memK, this]
theorem nodup_putN {f : κ} {ns : List κ} (h : ns.Nodup) : (putN f ns).Nodup := by
  unfold putN
  split
  · exact h
  · rename_i m
    rw [List.nodup_append]
    exact ⟨h, by simp, fun a ha b hb => by simp at hb; subst hb; rintro rfl; exact m ha⟩
end
theorem putF_zipX {f : Str} {v : V} : ∀ {ns : List Str} {vs : List V}, ns.length = vs.length → putF f v (ns.zip vs) = (putN f ns).zip (putX f v ns vs)
  | [], [], _ => rfl
  | n :: ns, u :: vs, h => by
    rw [List.zip_cons_cons]
    show (if n = f then (n, v) :: ns.zip vs else (n, u) :: putF f v (ns.zip vs)) = _
    unfold putX
    by_cases e : n = f
    · rw [if_pos e, if_pos e]
      subst e
      rw [show putN n (n :: ns) = n :: ns from if_pos List.mem_cons_self]
      rfl
    · rw [if_neg e, if_neg e, putN_cons_ne e, putF_zipX (by simpa using h)]
      rfl

/-! ### stores into written instances -/
section
variable {X : Cx} {W : WX} {pos : Pos}
def stoP (K : PySem.W.Frag) (f : Str) (y x : PV) (M : Mem) (Q : Mem → Prop) : Prop := ∃ a C ns xs, x = .ref a ∧ M a = some (.ins C ns xs) ∧ (Cls K C ∧ NoAttr K C f) ∧ ns.length = xs.length ∧ ns.length < 1000 ∧ Q (mset M a (.ins C (putN f ns) (putX f y ns xs)))
def sFldQ (K : PySem.W.Frag) (to tv : QT) (f : Str) : QS := fun D env M => tv env M (fun y M1 => to env M1 (fun x M2 => stoP K f y x M2 fun M3 => D.nx env M3) (exE D env)) (exE D env)
theorem qs_fld {K : PySem.W.Frag} {o value : Expr} {f : Str} {pos' : Pos} {to tv : QT} (hK : X.K = K) (ho : QE X W o to) (hv : QE X W value tv) (hs : swapsWith value (some (.Attribute o f pos')) pos.line X.env = pure false := by rfl) :
    QPS X W (.Assign [.Attribute o f pos'] value pos) (sFldQ K to tv f) := by
  subst hK
  refine (ps_fld ho hv hs).imp fun D σ H ⟨env, M, G, D0, S, q, L⟩ => ?_
  refine ⟨env, M, G, _, _, S, q, fun y M1 v H1 G1 e1 w1 r1 q1 => ?_, liftX_E S.env L.ex⟩
  refine ⟨env, M1, G1, _, _, S.to e1 w1, q1, fun x M2 u H2 G2 e2 w2 r2 q2 => ?_, (liftX_E S.env L.ex).mono e1⟩
  obtain ⟨a, C, ns, xs, rfl, hm, ⟨hc, hn⟩, hl, hk, q2⟩ := q2
  cases r2
  obtain ⟨g, dx, vs, h1, h2⟩ := w2.mem a _ hm
  have hl2 : ns.length = vs.length := hl.trans h2.length
  refine ⟨a, C, dx, _, rfl, h1, hc, hn, by rw [List.length_zip]; omega, ?_⟩
  rw [putF_zipX hl2]
  have w3 : Wf X.K (mset M2 a (.ins C (putN f ns) (putX f y ns xs))) (upd H2 a (.ins C dx ((putN f ns).zip (putX f v ns vs)))) G2 :=
    w2.put g ⟨dx, _, upd_same, putX_reps (Rep.mono e2 _ _ r1) hl h2⟩
  exact L.nx env _ σ _ G2 (e1.trans e2) ⟨S.env.mono (e1.trans e2), w3⟩ q2

/-! ### dicts -/
def qDict0 : QT := fun _ M Q _ => ∀ p, M p = none → Q (.ref p) (mset M p (.dic [] []))
theorem qe_dict0 : QE X W (.Dict [] [] pos) qDict0 := pe_dnewK.imp fun σ H Q ⟨env, M, G, Q0, E0, S, q, L, _⟩ => fun p hp => give_ref (m := .dic [] []) L S.wf (S.wf.free hp) ⟨[], upd_same, rfl, Reps.nil⟩ (q p (S.wf.freeM hp))
def keyP : PV → Option Key
  | .int i => some (.inl i)
  | .str s => some (.inr s)
  | _ => none
theorem keyP_V {K : PySem.W.Frag} {G : Hp} {x : PV} {v : V} {k : Key} (h : keyP x = some k) (r : Rep K G x v) : v = kV k := by
  cases x with
  | int i => cases h; cases r; rfl
  | str i => cases h; cases r; rfl
  | _ => cases h
def putP (k v x : PV) (M : Mem) (Q : Mem → Prop) : Prop := ∃ a ks xs kk, x = .ref a ∧ M a = some (.dic ks xs) ∧ keyP k = some kk ∧ ks.Nodup ∧ ks.length < sizeLine ∧ Q (mset M a (.dic (putN kk ks) (putX kk v ks xs)))
def sDPutQ (td ty tv : QT) : QS := fun D env M => tv env M (fun v M1 => td env M1 (fun x M2 => ty env M2 (fun k M3 => putP k v x M3 fun M4 => D.nx env M4) (exE D env)) (exE D env)) (exE D env)
theorem qs_dput {o i value : Expr} {pos' : Pos} {td ty tv : QT} (hu : X.A.units + 1 < cLine) (ho : QE X W o td) (hi : QE X W i ty) (hv : QE X W value tv) (hs : swapsWith value (some (.Subscript o i pos')) pos.line X.env = pure false := by rfl) :
    QPS X W (.Assign [.Subscript o i pos'] value pos) (sDPutQ td ty tv) := (ps_dput hu ho hi hv hs).imp fun D σ H ⟨env, M, G, D0, S, q, L⟩ => by
  refine ⟨env, M, G, _, _, S, q, fun v M1 vv H1 G1 e1 w1 r1 q1 => ?_, liftX_E S.env L.ex⟩
  refine ⟨env, M1, G1, _, _, S.to e1 w1, q1, fun x M2 u H2 G2 e2 w2 r2 q2 => ?_, (liftX_E S.env L.ex).mono e1⟩
  refine ⟨env, M2, G2, _, _, S.to (e1.trans e2) w2, q2, fun k M3 kv H3 G3 e3 w3 r3 q3 => ?_, (liftX_E S.env L.ex).mono (e1.trans e2)⟩
  obtain ⟨a, ks, xs, kk, rfl, hm, hk, nd, hl, q3⟩ := q3
  cases r2
  obtain ⟨g, vs, h1, h2, h3⟩ := w3.mem a _ hm
  have ek := keyP_V hk r3
  subst ek
  refine ⟨a, _, rfl, DPut.k h1 (by rw [List.length_zip]; omega), ?_⟩
  rw [putK_zip nd h2]
  have hl2 : ks.length = xs.length := h2.trans h3.length.symm
  have r := putX_reps (f := kk) (Rep.mono (e2.trans e3) _ _ r1) hl2 h3
  have w4 : Wf X.K (mset M3 a (.dic (putN kk ks) (putX kk v ks xs))) (upd H3 a (.dK ((putN kk ks).zip (putX kk vv ks vs)))) G3 := w3.put g ⟨_, upd_same, (putX_length kk vv ks vs h2).symm, r⟩
  exact L.nx env _ σ _ G3 ((e1.trans e2).trans e3) ⟨S.env.mono ((e1.trans e2).trans e3), w4⟩ q3

/-! ### in -/
def flatP : PV → Bool
  | .non => true
  | .bl _ => true
  | .int _ => true
  | .str _ => true
  | _ => false
def vOf : PV → V
  | .non => .non
  | .bl b => .bl b
  | .int i => .int i
  | .str s => .str s
  | _ => .non
theorem flat_V {K : PySem.W.Frag} {G : Hp} {x : PV} {v : V} (h : flatP x = true) (r : Rep K G x v) : v = vOf x ∧ flatV v = true := by
  cases x <;> first | (cases r; exact ⟨rfl, rfl⟩) | cases h
theorem flats_V {K : PySem.W.Frag} {G : Hp} : ∀ {xs : List PV} {vs : List V}, xs.all flatP = true → Reps K G xs vs → vs = xs.map vOf ∧ vs.all flatV = true
  | [], _, _, r => by cases r; exact ⟨rfl, rfl⟩
  | x :: xs, _, h, r => by
    obtain ⟨v, ws, rfl, r1, r2⟩ := r
    rw [List.all_cons, Bool.and_eq_true] at h
    obtain ⟨e1, f1⟩ := flat_V h.1 r1
    obtain ⟨e2, f2⟩ := flats_V h.2 r2
    exact ⟨by rw [e1, e2]; rfl, by rw [List.all_cons, f1, f2]; rfl⟩
def inPs (x : PV) (ys : List PV) : Option Bool := if (flatP x && ys.all flatP) = true then some (inV (vOf x) (ys.map vOf)) else none
def inP (M : Mem) (x : PV) : PV → Option Bool
  | .tup ys => inPs x ys
  | .lst ys => inPs x ys
  | .ref a => match M a with
    | some (.lst ys) => inPs x ys
    | some (.dic ks _) => (keyP x).map fun k => memK k ks
    | _ => none
  | _ => none
def bIn (neg : Bool) : F2 := fun x y M Q => ∃ b, inP M x y = some b ∧ Q (.bl (if neg then !b else b)) M
theorem oq_inG (hu : X.A.units + 64 < cLine) (neg : Bool) : OpQ X (compareOp (if neg then .NotIn else .In)) (bIn neg) := by
  intro pins s σ H a b v u Q I ra rb ⟨x, y, M, G, Q0, rx, ry, w, ⟨k, hk, q⟩, L⟩
  have sq : ∀ {p : Addr} {ys : List PV} {vs : List V}, b = .ref p → (SqL X.K H p vs ∨ SqT X.K H p vs) → Reps X.K G ys vs → inPs x ys = some k → wpAny (model X.prog X.w) X.A (compareOp (if neg then .NotIn else .In) v u) (EP X pins σ Q) X.xe s := fun {p ys vs} e hs r h => by
    unfold inPs at h
    split at h
    · rename_i hf
      rw [Bool.and_eq_true] at hf
      cases h
      obtain ⟨e1, f1⟩ := flat_V hf.1 rx
      obtain ⟨e2, f2⟩ := flats_V hf.2 r
      subst e1 e2
      cases neg with
      | false => exact op_in_seq pins s σ H _ _ v u Q I ra rb ⟨p, _, e, hs, f1, f2, give L w (x := .bl _) rfl q⟩
      | true => exact op_notIn_seq pins s σ H _ _ v u Q I ra rb ⟨p, _, e, hs, f1, f2, give L w (x := .bl _) rfl q⟩
    · cases h
  cases y with
  | tup ys =>
    obtain ⟨p, vs, e, h1, r1⟩ := ry
    exact sq e (.inr (ext_t w.sub h1)) r1 hk
  | lst ys =>
    obtain ⟨p, vs, e, h1, r1⟩ := ry
    exact sq e (.inl (SqL.of (w.sub _ _ h1))) r1 hk
  | ref p =>
    replace hk : (match M p with
      | some (.lst ys) => inPs x ys
      | some (.dic ks _) => (keyP x).map fun k => memK k ks
      | _ => none) = some k := hk
    split at hk
    · rename_i ys hm
      obtain ⟨_, vs, h1, r1⟩ := w.mem p _ hm
      exact sq ry (.inl (SqL.of h1)) r1 hk
    · rename_i ks xs hm
      obtain ⟨_, vs, h1, h2, r1⟩ := w.mem p _ hm
      cases hx : keyP x with
      | none => rw [hx] at hk; cases hk
      | some kk =>
        rw [hx] at hk
        cases hk
        have ek := keyP_V hx rx
        subst ek
        cases ry
        have hs : (valV (ks.zip vs) kk).isSome = memK kk ks := by rw [valV_zip, getX_isSome h2]
        obtain rfl : u = Value.ref p := rb
        have hu1 : X.A.units + 1 < cLine := by omega
        cases neg with
        | false => exact d_in hu1 I (DGet.k h1) ra fun s3 I3 => ⟨.bl _, H, I3, rfl, by rw [hs]; exact give L w (x := .bl _) rfl q⟩
        | true => exact d_notIn hu1 I (DGet.k h1) ra fun s3 I3 => ⟨.bl _, H, I3, rfl, by rw [hs]; exact give L w (x := .bl _) rfl q⟩
    · cases hk
  | _ => cases hk
theorem oq_in (hu : X.A.units + 64 < cLine) : OpQ X (compareOp .In) (bIn false) := oq_inG hu false
theorem oq_notIn (hu : X.A.units + 64 < cLine) : OpQ X (compareOp .NotIn) (bIn true) := oq_inG hu true

/-! ### bits -/
def bAnd : F2 := fun x y M Q => match x, y with
  | .int i, .int j => Q (.int (Builtin.bitAnd i j)) M
  | _, _ => False
def bXor : F2 := fun x y M Q => match x, y with
  | .int i, .int j => Q (.int (Builtin.bitXor i j)) M
  | _, _ => False
def bShl : F2 := fun x y M Q => match x, y with
  | .int i, .int j => CShl i j ∧ Q (.int (i * 2 ^ j.toNat)) M
  | _, _ => False
theorem oq_and : OpQ X (binaryOp .BitAnd) bAnd := opq_int0 op_and (e' := fun i j => .int (Builtin.bitAnd i j)) (fun _ _ _ _ => rfl) fun x y M Q q => by
  cases x <;> cases y <;> first | exact q.elim | exact ⟨_, _, rfl, rfl, q⟩
theorem oq_xor : OpQ X (binaryOp .BitXor) bXor := opq_int0 op_xor (e' := fun i j => .int (Builtin.bitXor i j)) (fun _ _ _ _ => rfl) fun x y M Q q => by
  cases x <;> cases y <;> first | exact q.elim | exact ⟨_, _, rfl, rfl, q⟩
theorem oq_shl : OpQ X (binaryOp .LShift) bShl := opq_int op_shlW (e' := fun i j => .int (i * 2 ^ j.toNat)) (fun _ _ _ _ => rfl) fun x y M Q q => by
  cases x <;> cases y <;> first | exact q.elim | exact ⟨_, _, rfl, rfl, q⟩
/-! ### xs += ys -/
def iAddG : F2 := fun x y M Q => match x with
  | .ref a => ∃ xs zs, M a = some (.lst xs) ∧ sq M y = some zs ∧ xs.length + zs.length ≤ sizeLine ∧ Q (.ref a) (mset M a (.lst (xs ++ zs)))
  | x => iAdd x y M Q
theorem iq_addG : OpQ X (inplaceOp .Add) iAddG := by
  intro pins s σ H a b v u Q I ra rb ⟨x, y, M, G, Q0, rx, ry, w, q, L⟩
  cases x with
  | ref p =>
    obtain ⟨xs, zs, hm, hz, hl, q⟩ := q
    cases rx
    obtain ⟨g, vs, h1, r1⟩ := w.mem p _ hm
    obtain ⟨p2, ws, e2, h2, r2⟩ := sq_H hz ry w
    exact iop_ext pins s σ H _ _ v u Q I ra rb ⟨p, p2, vs, ws, rfl, e2, h1, h2, by rw [← r1.length, ← r2.length]; exact hl, give_ref (m := .lst (xs ++ zs)) L w g ⟨_, upd_same, r1.append r2⟩ q⟩
  | _ => exact iq_add pins s σ H a b v u Q I ra rb ⟨_, y, M, G, Q0, rx, ry, w, q, L⟩

/-! ### an own class without __init__ -/
structure Mk0 (K : PySem.W.Frag) (C : Addr) : Prop where
  makes : PySem.W.makesIn K C = true
  init : PySem.W.findIn K (.ref C) "__init__" = some (some (.builtin "object.__init__"))
  kp : PySem.W.keepIn K (.ref C) = true
  top : PySem.W.mroIn K C (.type "object") = some true
def qMake0 (C : Addr) : QT := fun _ M Q _ => Q (.obj C [] []) M
theorem qe_make00 {x : Str} {C : Addr} {p : Pos} (m : Mk0 X.K C) (hm : X.mg x = some (.ref C)) (hg : Gl X x := by rfl) (hdb : (x == ("__debug__" : Str)) = false := by decide) : QE X W (.Call (.Name x p) [] [] pos) (qMake0 C) := by
  refine ⟨fun pins sh σ H Q I ⟨env, M, G, Q0, E0, S, q, L, LE⟩ => wpAny_Call_Name_kw (ld_glob I hg hm (PySem.W.callWith_K0 I.kIn m.kp ?_) hdb)⟩
  have I1 := Inv.made (C := C) I
  have hx : ((sh.heap.push PySem.W.emptyDict).push (PySem.W.instObj C sh.heap.objs.size)).get? (sh.heap.objs.size + 1) = some (PySem.W.instObj C sh.heap.objs.size) := by
    have := Heap.get?_push_size (sh.heap.push PySem.W.emptyDict) (o := PySem.W.instObj C sh.heap.objs.size) rfl
    rwa [Heap.size_push] at this
  have t1 : PySem.W.Looks (model X.prog X.w) ((sh.heap.push PySem.W.emptyDict).push (PySem.W.instObj C sh.heap.objs.size)) (typeOf (.ref (sh.heap.objs.size + 1))) (.ref C) := (PySem.W.Looks.ld hx).andThen .now
  have t2 : PySem.W.Looks (model X.prog X.w) ((sh.heap.push PySem.W.emptyDict).push (PySem.W.instObj C sh.heap.objs.size)) (isInstance (.ref (sh.heap.objs.size + 1)) (.type "object")) true := t1.andThen (PySem.W.looks_mroIn I1.kIn m.top)
  refine wpAny_call (make_map0 I.kIn m.makes m.init (fun self => PySem.W.Looks.of_pure (PySem.W.oi_bind self)) ?_)
  refine PySem.codeAny_call_builtin PySem.W.oi_plain PySem.W.entry_oi (@PySem.W.check_slot (model X.prog X.w) _ _ _ "object.__init__" "object" "__init__" (.ref (sh.heap.objs.size + 1)) [] [] _ PySem.W.oi_kind PySem.W.oi_split t2 (PySem.W.oi_args (.ref (sh.heap.objs.size + 1))) ?_)
  rw [PySem.W.oi_run]
  refine wpAny_pure (And.intro rfl ?_)
  have nd : H sh.heap.objs.size = none := I.hok.fresh (Nat.le_refl _)
  have ny : H (sh.heap.objs.size + 1) = none := I.hok.fresh (Nat.le_succ _)
  have w2 := S.wf.newH (o := .own (sh.heap.objs.size + 1)) nd
  have n2 : upd H sh.heap.objs.size (.own (sh.heap.objs.size + 1)) (sh.heap.objs.size + 1) = none := by rw [upd_ne (Nat.ne_of_gt (Nat.lt_succ_self _))]; exact ny
  exact ⟨V.ref (sh.heap.objs.size + 1), _, I1, rfl, L (.obj C [] []) M _ _ _ (Ext.new (w2.free n2)) (w2.newG n2) ⟨_, _, [], rfl, upd_same, Reps.nil⟩ q⟩
end
end TQ

namespace TQ
open PySem PySem.Spec PyProof.Rows L2
section
variable {X : Cx} {W : WX} {pos : Pos} {h : Bool} {k : Nat} {f C : Addr} {fd : FuncData} {ps : List Str} {s : SpQ} {x m : Str} {p apos : Pos} {e o : Expr} {es : List Expr}
/-! ### o.m(..), by the class that o has -/
def MethOk (X : Cx) (W : WX) (m : Str) (C : Addr) (s : SpQ) : Prop := ∃ h k f fd ps, Cls X.K C ∧ Meth X.K C m f ∧ FnX h X.prog X.w X.K X.mg X.base k f fd ps (spQ X.K s) ∧ L2H.RoomH k X.A ∧ CoolW h X W ∧ Binds X.K fd ps []
def MethsOk (X : Cx) (W : WX) (m : Str) : List (Addr × SpQ) → Prop
  | [] => True
  | (C, s) :: r => MethOk X W m C s ∧ MethsOk X W m r
theorem mok_nil : MethsOk X W m [] := trivial
theorem mok_cons {r : List (Addr × SpQ)} (c : Cls X.K C) (hm : Meth X.K C m f) (F : FnX h X.prog X.w X.K X.mg X.base k f fd ps (spQ X.K s)) (hr : L2H.RoomH k X.A) (cw : CoolW h X W) (hb : Binds X.K fd ps []) (t : MethsOk X W m r) : MethsOk X W m ((C, s) :: r) := ⟨⟨h, k, f, fd, ps, c, hm, F, hr, cw, hb⟩, t⟩
theorem mok_mem : ∀ {r : List (Addr × SpQ)}, MethsOk X W m r → (C, s) ∈ r → MethOk X W m C s
  | [], _, h => by cases h
  | (D, u) :: r, t, h => by
    rcases List.mem_cons.mp h with h | h
    · cases h; exact t.1
    · exact mok_mem t.2 h
def mthD (tbl : List (Addr × SpQ)) (m : Str) (x : PV) (M : Mem) (R : SpQ → Prop) : Prop := ∃ C s ns xs, (C, s) ∈ tbl ∧ own M x = some (C, ns, xs) ∧ m ∉ ns ∧ R s
def qMethD (tbl : List (Addr × SpQ)) (m : Str) (to : QT) (t : QA) : QT := fun env M Q E => to env M (fun x M1 => mthD tbl m x M1 fun s => t env M1 (fun ys M2 => s (x :: ys) M2 Q E) E) E
theorem qe_methD {tbl : List (Addr × SpQ)} {to : QT} {t : QA} {pl : Sem Bool} (he : QE X W o to) (hT : MethsOk X W m tbl) (tk : L2N.Takes X W) (ha : QPA X W (e :: es) t)
    (hst : starEach (e :: es) X.env = (false, eval e X.env) :: starEach es X.env := by rfl) (hpl : (backTo pos (starEach es X.env)).any (·.1) = false := by rfl)
    (ht : eval (.Call (.Attribute o m apos) (e :: es) [] pos) X.env = (do
      let recv ← eval o X.env
      standAt apos.atName
      let (g, first) ← holding [recv] (getMethod recv m pl)
      callWith pos g first (backTo pos (starEach (e :: es) X.env)) (backToKw pos (keywordEach [] X.env))) := by rfl) :
    QE X W (.Call (.Attribute o m apos) (e :: es) [] pos) (qMethD tbl m to t) := by
  refine ⟨fun pins sh σ H Q I ⟨env, M, G, Q0, E0, S, q, L, LE⟩ => PySem.W.methodCall_KW (pl := pl) (thn (he.run pins sh σ H (fun v H1 => ∃ (C : Addr) (s : SpQ) (a dx : Addr) (fs : List (Str × V)), (C, s) ∈ tbl ∧ v = .ref a ∧ H1 a = some (.ins C dx fs) ∧ fs.lookup m = none ∧ tieA X.K W t σ H1 fun vs H2 => spQ X.K s (v :: vs) H2 Q (WE W σ)) I ?_) fun u s1 ⟨v, H1, I1, rv, C, s, a, dx, fs, hC, ev, ea, l, q1⟩ => ?_) ht⟩
  · refine ⟨env, M, G, _, E0, S, q, fun x M1 v H1 G1 e1 w1 r1 q1 => ?_, LE⟩
    obtain ⟨C, s, ns, xs, hC, h1, hn, q1⟩ := q1
    obtain ⟨a, dx, vs, h3, h4, h5⟩ := own_H h1 r1 w1
    refine ⟨C, s, a, dx, _, hC, h3, h4, lk_none hn, env, M1, G1, _, E0, S.to e1 w1, q1, fun ys M2 us H2 G2 e2 w2 r2 q2 => ?_, LE.mono e1⟩
    exact ⟨x :: ys, M2, G2, Q0, E0, Reps.cons (Rep.mono e2 _ _ r1) r2, w2, q2, L.mono (e1.trans e2), LE.mono (e1.trans e2)⟩
  · subst ev
    obtain rfl : u = Value.ref a := rv
    obtain ⟨h, k, f, fd, ps, c, hm, F, hr, cw, hb⟩ := mok_mem hT hC
    refine getmeth_ok I1 ea c hm l (PySem.W.callWith_K (first := [.ref a]) (h₀ := X.base) I.ok.mod.kin hm.kp (thn (ha.run pos pins s1 σ H1 _ I1 q1) fun us s2 ⟨vs, H2, I2, r, q2⟩ => ⟨I2.kIn, ?_⟩) hst hpl)
    exact run_q (us := .ref a :: us) (vs := .ref a :: vs) (ds := []) (dvs := []) F hr cw hb .nil tk I2 (.cons rfl r) (by rw [List.append_nil]; exact q2)
theorem qe_methD0 {tbl : List (Addr × SpQ)} {to : QT} {pl : Sem Bool} (he : QE X W o to) (hT : MethsOk X W m tbl) (tk : L2N.Takes X W)
    (ht : eval (.Call (.Attribute o m apos) [] [] pos) X.env = (do
      let recv ← eval o X.env
      standAt apos.atName
      let (g, first) ← holding [recv] (getMethod recv m pl)
      callWith pos g first (backTo pos (starEach [] X.env)) (backToKw pos (keywordEach [] X.env))) := by rfl) :
    QE X W (.Call (.Attribute o m apos) [] [] pos) (qMethD tbl m to qNil) := by
  refine ⟨fun pins sh σ H Q I ⟨env, M, G, Q0, E0, S, q, L, LE⟩ => PySem.W.methodCall_KW (pl := pl) (thn (he.run pins sh σ H (fun v H1 => ∃ (C : Addr) (s : SpQ) (a dx : Addr) (fs : List (Str × V)), (C, s) ∈ tbl ∧ v = .ref a ∧ H1 a = some (.ins C dx fs) ∧ fs.lookup m = none ∧ spQ X.K s [v] H1 Q (WE W σ)) I ?_) fun u s1 ⟨v, H1, I1, rv, C, s, a, dx, fs, hC, ev, ea, l, q1⟩ => ?_) ht⟩
  · refine ⟨env, M, G, _, E0, S, q, fun x M1 v H1 G1 e1 w1 r1 q1 => ?_, LE⟩
    obtain ⟨C, s, ns, xs, hC, h1, hn, q1⟩ := q1
    obtain ⟨a, dx, vs, h3, h4, h5⟩ := own_H h1 r1 w1
    exact ⟨C, s, a, dx, _, hC, h3, h4, lk_none hn, [x], M1, G1, Q0, E0, Reps.one r1, w1, q1, L.mono e1, LE.mono e1⟩
  · subst ev
    obtain rfl : u = Value.ref a := rv
    obtain ⟨h, k, f, fd, ps, c, hm, F, hr, cw, hb⟩ := mok_mem hT hC
    refine getmeth_ok I1 ea c hm l (PySem.W.callWith_K0 (first := [.ref a]) I1.kIn hm.kp ?_)
    exact run_q (us := [.ref a]) (vs := [.ref a]) (ds := []) (dvs := []) F hr cw hb .nil tk I1 (.cons rfl .nil) (by rw [List.append_nil]; exact q1)
/-! ### new instances that are written -/
def qMakeW (C : Addr) (s : SpQ) (dps : List PV) (t : QA) : QT := fun env M Q E => t env M (fun xs M1 => ∀ x, M1 x = none → s (.ref x :: (xs ++ dps)) (mset M1 x (.ins C [] [])) (fun v M2 => v = .non ∧ Q (.ref x) M2) E) E
theorem qe_makeW {t : QA} {dvs : List V} {dps : List PV} (Mk1 : Mk X.K C f) (F : FnX h X.prog X.w X.K X.mg X.base k f fd ps (spQ X.K s)) (hr : L2H.RoomH (k + 1) X.A) (cw : CoolW h X W) (hm : X.mg x = some (.ref C)) (hb : ∃ ds, Vals dvs ds ∧ Binds X.K fd ps ds)
    (hp : ∀ G, Reps X.K G dps dvs) (tk : L2N.Takes X W) (ha : QPA X W (e :: es) t) (hg : Gl X x := by rfl)
    (hdb : (x == ("__debug__" : Str)) = false := by decide) (he : starEach (e :: es) X.env = (false, eval e X.env) :: starEach es X.env := by rfl) (hpl : (backTo pos (starEach es X.env)).any (·.1) = false := by rfl) :
    QE X W (.Call (.Name x p) (e :: es) [] pos) (qMakeW C s dps t) := by
  obtain ⟨ds, hd, hb⟩ := hb
  refine ⟨fun pins sh σ H Q I ⟨env, M, G, Q0, E0, S, q, L, LE⟩ => wpAny_Call_Name_kw (ld_glob I hg hm (PySem.W.callWith_K (h₀ := X.base) I.ok.mod.kin Mk1.kp (thn (ha.run pos pins sh σ H (fun vs H1 => ∃ xs M1 G1, Ext G G1 ∧ Wf X.K M1 H1 G1 ∧ Reps X.K G1 xs vs ∧ ∀ x, M1 x = none → s (.ref x :: (xs ++ dps)) (mset M1 x (.ins C [] [])) (fun v M2 => v = .non ∧ Q0 (.ref x) M2) E0) I ?_) fun us s1 ⟨vs, H1, I1, r, q⟩ => ⟨I1.kIn, ?_⟩) he hpl) hdb)⟩
  · exact ⟨env, M, G, _, E0, S, q, fun xs M1 vs H1 G1 e1 w1 r1 q1 => ⟨xs, M1, G1, e1, w1, r1, q1⟩, LE⟩
  · obtain ⟨xs, M1, G1, e1, w1, r1, q⟩ := q
    refine run_makeQ Mk1 F hr cw hb hd tk I1 r fun y dx ny nd ne => ?_
    have w2 := w1.newH (o := .own y) nd
    have n2 : upd H1 dx (.own y) y = none := by rw [upd_ne ne.symm]; exact ny
    have w3 : Wf X.K (mset M1 y (.ins C [] [])) (upd (upd H1 dx (.own y)) y (.ins C dx [])) G1 := w2.put (w2.free n2) ⟨dx, [], upd_same, Reps.nil⟩
    refine ⟨.ref y :: (xs ++ dps), _, G1, _, E0, Reps.cons (x := .ref y) rfl (r1.append (hp G1)), w3, q y (w1.freeM ny), fun z M' v H' G' e w r q => ?_, LE.mono e1⟩
    obtain ⟨rfl, q⟩ := q
    exact ⟨r, L (.ref y) M' _ H' G' (e1.trans e) w rfl q⟩
/-! ### raise C('..') -/
def sRaise (C : Addr) : QS := fun D env M => D.ex (.ref C) none env M
structure ExcX (K : PySem.W.Frag) (C : Addr) : Prop where
  x : PySem.W.excIn K C [.type "ValueError", .type "Exception", .type "BaseException", .type "object"] "ValueError.__new__" = true
  kp : PySem.W.keepIn K (.ref C) = true
  b : PySem.W.subIn K (.ref C) (.type "BaseException") = some true
  t : PySem.W.typeIn K (.ref C) = some (.type "type")
  i : PySem.W.isClsIn K C = true
/-- raise, hot or not -/
theorem ps_raiseX {e : Expr} {t : L2.St → Hp → XK → Prop} {rpos : Pos} (cw : CoolW h X W) (tk : L2N.Takes X W) (he : L2N.PMk X e t) (hm : ∀ σ H Q Q', (∀ c d H', Q c d H' → Q' c d H') → t σ H Q → t σ H Q') : PS X (.Raise (some e) none rpos) (fun _ σ H => t σ H fun cls d H' => W cls d σ H') := by
  rcases cw with hc | ⟨_, hot, n⟩
  · exact L2N.ps_raise hc tk he
  · exact (L2H.ps_raiseH (W := fun _ _ _ _ => False) hot takes_none5 he).imp fun D σ H q => hm _ _ _ _ (fun c d H' z => n _ _ _ _ z) q
theorem qs_raise {msg : Str} {j : Nat} {p2 rpos : Pos} (c : ExcX X.K C) (cw : CoolW h X W) (tk : L2N.Takes X W) (hm : X.mg x = some (.ref C)) (hg : Gl X x := by rfl) (hdb : (x == ("__debug__" : Str)) = false := by decide) :
    QPS X W (.Raise (some (.Call (.Name x p) [.Constant (.str msg) j p2] [] rpos)) none pos) (sRaise C) :=
  (ps_raiseX cw tk (L2N.pmk_own PySem.F.excBase_ValueError c.x hm c.kp (raises_own c.b c.t) hg hdb) fun _ _ _ _ f q => f _ _ _ q).imp fun D σ H ⟨env, M, G, D0, S, q, L⟩ => L.ex _ none env M none σ H G (Ext.refl G) S rfl q
def sNever : QS := fun _ _ _ => False
theorem qs_never {st : Stmt} : QPS X W st sNever := ps_never.imp fun D σ H ⟨env, M, G, D0, S, q, L⟩ => q.elim
/-! ### a tuple of the module's top; the rest -/
theorem qe_gtup {a : Addr} {ys : List PV} (hm : X.mg x = some (.ref a)) (hk : ∀ G, ∃ vs, SqT X.K G a vs ∧ Reps X.K G ys vs) (hg : Gl X x := by rfl) (hd : (x == ("__debug__" : Str)) = false := by decide) : QE X W (.Name x pos) (qC (.tup ys)) :=
  qe_glob hm (v := .ref a) rfl (fun G => by obtain ⟨vs, h1, h2⟩ := hk G; exact ⟨a, vs, rfl, h1, h2⟩) hg hd
end
end TQ

namespace TQ
open PySem PySem.Spec PyProof.Rows L2 TN
section
variable {X : Cx} {W : WX} {pos : Pos}
theorem hu1 {k : Nat} {A : Around} (hr : L2H.RoomH k A) : A.units + 1 < cLine := by have := hr.units; omega
/-! ### texts by their methods -/
def swP (x y : PV) (M : Mem) (Q : PK) : Prop := ∃ a b, x = .str a ∧ y = .str b ∧ Q (.bl (Txt.startswith a b)) M
def qSw (to te : QT) : QT := fun env M Q E => to env M (fun x M1 => (∃ a, x = .str a) ∧ te env M1 (fun y M2 => swP x y M2 Q) E) E
theorem qe_startswith {o e : Expr} {to te : QT} {apos : Pos} (ho : QE X W o to) (he : QE X W e te) (hs : starEach [e] X.env = [(false, eval e X.env)] := by rfl) (hbase : attributeBase o "startswith" X.env (eval o X.env) = eval o X.env := by rfl) (hline : (apos.endLine == pos.line) = true := by rfl) :
    QE X W (.Call (.Attribute o "startswith" apos) [e] [] pos) (qSw to te) :=
  (pe_m1 PySem.F.slot_str_startswith PySem.F.type_str_startswith mt_startswith ho he hs hbase hline).imp fun σ H Q ⟨env, M, G, Q0, E0, S, q, L, LE⟩ => by
    refine ⟨env, M, G, _, E0, S, q, fun x M1 v H1 G1 e1 w1 r1 q1 => ?_, LE⟩
    obtain ⟨⟨a, rfl⟩, q1⟩ := q1
    cases r1
    refine ⟨⟨a, rfl⟩, env, M1, G1, _, E0, S.to e1 w1, q1, fun y M2 u H2 G2 e2 w2 r2 q2 => ?_, LE.mono e1⟩
    obtain ⟨a', b, ea, rfl, q2⟩ := q2
    cases ea
    cases r2
    exact ⟨_, _, rfl, rfl, give (L.mono (e1.trans e2)) w2 (x := .bl _) rfl q2⟩
/-! ### xs[i] = e -/
def lsetP (v x i : PV) (M : Mem) (Q : Mem → Prop) : Prop := ∃ a xs k j, x = .ref a ∧ i = .int k ∧ M a = some (.lst xs) ∧ ixN xs.length k = some j ∧ Q (mset M a (.lst (xs.set j v)))
def sLSet (td ty tv : QT) : QS := fun D env M => tv env M (fun v M1 => td env M1 (fun x M2 => ty env M2 (fun k M3 => lsetP v x k M3 fun M4 => D.nx env M4) (exE D env)) (exE D env)) (exE D env)
theorem qs_lset {o i value : Expr} {pos' : Pos} {td ty tv : QT} (ho : QE X W o td) (hi : QE X W i ty) (hv : QE X W value tv) (hs : swapsWithSole [.Subscript o i pos'] value pos.line X.env = pure false := by rfl) (hw : swappedStores [.Subscript o i pos'] value X.env = pure none := by rfl)
    (h1 : (assignEach [.Subscript o i pos'] X.env).map (·.2) = [assign (.Subscript o i pos') X.env] := by rfl)
    (ha : ∀ v, assign (.Subscript o i pos') X.env v = (do
      let tv1 ← holding [v] (eval o X.env)
      let tv2 ← holding [v, tv1] (eval i X.env)
      standAt pos'
      holding [v, tv1, tv2] (setItem tv1 tv2 v)
      release [v, tv1, tv2] []) := by intro _; rfl) : QPS X W (.Assign [.Subscript o i pos'] value pos) (sLSet td ty tv) :=
  (ps_asg hv (pg_sub ho hi set_list ha) hs hw h1).imp fun D σ H ⟨env, M, G, D0, S, q, L⟩ => by
    refine ⟨env, M, G, _, _, S, q, fun v M1 vv H1 G1 e1 w1 r1 q1 => ?_, liftX_E S.env L.ex⟩
    refine ⟨env, M1, G1, _, _, S.to e1 w1, q1, fun x M2 u H2 G2 e2 w2 r2 q2 => ?_, (liftX_E S.env L.ex).mono e1⟩
    refine ⟨env, M2, G2, _, _, S.to (e1.trans e2) w2, q2, fun k M3 kv H3 G3 e3 w3 r3 q3 => ?_, (liftX_E S.env L.ex).mono (e1.trans e2)⟩
    obtain ⟨a, xs, k, j, rfl, rfl, hm, hj, q3⟩ := q3
    cases r2; cases r3
    obtain ⟨g, vs, h1, r⟩ := w3.mem a _ hm
    refine ⟨a, vs, k, j, rfl, rfl, h1, by rw [← r.length]; exact hj, ?_⟩
    have w4 := w3.put (p := a) (o := .lst (vs.set j vv)) (m := .lst (xs.set j v)) g (mok_lst (r.set j (Rep.mono (e2.trans e3) _ _ r1)))
    exact L.nx env _ σ _ G3 ((e1.trans e2).trans e3) ⟨S.env.mono ((e1.trans e2).trans e3), w4⟩ q3
def cDict : FC := fun xs M Q => match xs with
  | [x] => ∃ (ys : List PV) (kvs : List (Key × PV)), sqA M x = some ys ∧ ys = kvs.map (fun kv => PV.tup [match kv.1 with
    | .inl i => .int i
    | .inr s => .str s, kv.2]) ∧ (kvs.map (·.1)).Nodup ∧ ∀ p, M p = none → Q (.ref p) (mset M p (.dic (kvs.map (·.1)) (kvs.map (·.2))))
  | _ => False
def cList : FC := fun xs M Q => match xs with
  | [.tup ys] => Q (.lst ys) M
  | [x] => match sqA M x with
    | some ys => Q (.lst ys) M
    | none => False
  | _ => False
theorem cq_list : CallQ X (.type "list") cList := by
  intro pins s σ H vs us Q I r ⟨xs, M, G, Q0, rx, w, q, L⟩
  unfold cList at q
  split at q
  · obtain ⟨v, rfl, r1⟩ := reps1 rx
    obtain ⟨p, ws, rfl, h1, r2⟩ := r1
    exact call_list_of pins s σ H _ us Q I r ⟨p, ws, rfl, .inr (ext_t w.sub h1), fun l hl => give_lst L w hl r2 q⟩
  · rename_i x _
    obtain ⟨v, rfl, r1⟩ := reps1 rx
    cases hx : sqA M x with
    | none => rw [hx] at q; exact q.elim
    | some ys =>
      rw [hx] at q
      obtain ⟨p, ws, rfl, h1, r2⟩ := sqA_H hx r1 w
      exact call_list_of pins s σ H _ us Q I r ⟨p, ws, rfl, .inl h1, fun l hl => give_lst L w hl r2 q⟩
  · exact q.elim
end
end TQ
namespace TN
open PySem PySem.Spec PyProof.Rows L2 TQ TM
section
variable {K : PySem.W.Frag} {env : Sl} {M : Mem} {Q : PK} {E : EK} {D : QEnds} {x y : PV} {xs : List PV}
/-! ### written texts -/
theorem ofS {a b : String} : (Str.ofString a = Str.ofString b) = (a = b) := propext ⟨fun h => by
  rw [Str.ofString_eq_toList, Str.ofString_eq_toList] at h
  have h2 : a.toList.map Char.toNat = b.toList.map Char.toNat := by
    have := congrArg (fun s : Str => s.cps.toList) h
    simpa using this
  have inj : ∀ (l m : List Char), l.map Char.toNat = m.map Char.toNat → l = m := fun l => by
    induction l with
    | nil => intro m hm; cases m with
      | nil => rfl
      | cons _ _ => cases hm
    | cons c l ih => intro m hm; cases m with
      | nil => cases hm
      | cons d m =>
        rw [List.map_cons, List.map_cons, List.cons.injEq] at hm
        have hc : c = d := Char.ext (UInt32.toNat_inj.mp hm.1)
        rw [hc, ih m hm.2]
  exact String.toList_inj.mp (inj _ _ h2), fun h => by rw [h]⟩
/-! ### the same, run from the head -/
def stoB (K : PySem.W.Frag) (f : Str) (y x : PV) (M : Mem) [Q : Box (Mem → Prop)] : Prop := stoP K f y x M Q.v
def putB (k v x : PV) (M : Mem) [Q : Box (Mem → Prop)] : Prop := putP k v x M Q.v
def lsetB (v x i : PV) (M : Mem) [Q : Box (Mem → Prop)] : Prop := lsetP v x i M Q.v
def dicB (M : Mem) [Q : Box PK] : Prop := ∀ p, M p = none → Q.v (.ref p) (mset M p (.dic [] []))
def inB (neg : Bool) (o : Option Bool) (M : Mem) [Q : Box PK] : Prop := ∃ b, o = some b ∧ Q.v (.bl (if neg then !b else b)) M
def mdB (tbl : List (Addr × SpQ)) (m : Str) (x : PV) (M : Mem) [R : Box (SpQ → Prop)] : Prop := mthD tbl m x M R.v
def makW (C : Addr) (s : SpQ) (xs : List PV) (M : Mem) [Q : Box PK] [E : Box EK] : Prop := ∀ x, M x = none → s (.ref x :: xs) (mset M x (.ins C [] [])) (fun v M2 => v = .non ∧ Q.v (.ref x) M2) E.v
def raiP (C : Addr) (D : QEnds) (env : Sl) (M : Mem) : Prop := D.ex (.ref C) none env M
def iaddB (x y : PV) (M : Mem) [Q : Box PK] : Prop := iAddG x y M Q.v
theorem own_ref {a C : Addr} {ns : List Str} {os : List PV} (h : M a = some (.ins C ns os)) : own M (.ref a) = some (C, ns, os) := by
  show (match M a with
    | some (.ins C ns vs) => some (C, ns, vs)
    | _ => none) = _
  rw [h]
theorem e_sFldQ {to tv : QT} {f : Str} : sFldQ K to tv f D env M = tv env M (fun y M1 => to env M1 (fun x M2 => @stoB K f y x M2 ⟨fun M3 => D.nx env M3⟩) (exE D env)) (exE D env) := rfl
theorem e_sDPutQ {td ty tv : QT} : sDPutQ td ty tv D env M = tv env M (fun v M1 => td env M1 (fun x M2 => ty env M2 (fun k M3 => @putB k v x M3 ⟨fun M4 => D.nx env M4⟩) (exE D env)) (exE D env)) (exE D env) := rfl
theorem e_sLSet {td ty tv : QT} : sLSet td ty tv D env M = tv env M (fun v M1 => td env M1 (fun x M2 => ty env M2 (fun k M3 => @lsetB v x k M3 ⟨fun M4 => D.nx env M4⟩) (exE D env)) (exE D env)) (exE D env) := rfl
theorem e_qDict0 : qDict0 env M Q E = @dicB M ⟨Q⟩ := rfl
theorem dicB_of {Q : Box PK} (h : ∀ p, M p = none → Q.v (.ref p) (mset M p (.dic [] []))) : @dicB M Q := h
theorem e_bIn {neg : Bool} : bIn neg x y M Q = @inB neg (inP M x y) M ⟨Q⟩ := rfl
theorem inB_some {neg b : Bool} {Q : Box PK} : @inB neg (some b) M Q = Q.v (.bl (if neg then !b else b)) M := propext ⟨fun ⟨_, h, q⟩ => by cases h; exact q, fun q => ⟨_, rfl, q⟩⟩
theorem inB_f {b : Bool} {Q : Box PK} : @inB false (some b) M Q = Q.v (.bl b) M := inB_some
theorem inB_t {b : Bool} {Q : Box PK} : @inB true (some b) M Q = Q.v (.bl (!b)) M := inB_some
theorem inP_tup : inP M x (.tup xs) = inPs x xs := rfl
theorem inP_lst : inP M x (.lst xs) = inPs x xs := rfl
theorem inP_rl {a : Addr} (h : M a = some (.lst xs)) : inP M x (.ref a) = inPs x xs := by
  show (match M a with
    | some (.lst ys) => inPs x ys
    | some (.dic ks _) => (keyP x).map fun k => memK k ks
    | _ => none) = _
  rw [h]
theorem inP_rd {a : Addr} {ks : List Key} {vs : List PV} (h : M a = some (.dic ks vs)) : inP M x (.ref a) = (keyP x).map fun k => memK k ks := by
  show (match M a with
    | some (.lst ys) => inPs x ys
    | some (.dic ks _) => (keyP x).map fun k => memK k ks
    | _ => none) = _
  rw [h]
theorem inPs_nil_s {s : Str} : inPs (.str s) [] = some false := rfl
theorem inPs_nil_i {s : Int} : inPs (.int s) [] = some false := rfl
theorem all_flat_s : ∀ {ss : List Str}, (ss.map PV.str).all flatP = true
  | [] => rfl
  | s :: ss => all_flat_s (ss := ss)
theorem all_flat_i : ∀ {ss : List Int}, (ss.map PV.int).all flatP = true
  | [] => rfl
  | s :: ss => all_flat_i (ss := ss)
theorem inPs_s {s : Str} {ss : List Str} : inPs (.str s) (ss.map PV.str) = some (decide (s ∈ ss)) := by
  unfold inPs
  rw [if_pos (by rw [all_flat_s]; rfl)]
  congr 1
  show ((ss.map PV.str).map vOf).any (fun y => eqV y (.str s)) = _
  induction ss with
  | nil => rfl
  | cons a ss ih =>
    rw [List.map_cons, List.map_cons, List.any_cons, ih]
    show ((a == s) || _) = _
    by_cases h : a = s
    · subst h; simp
    · have : (a == s) = false := by simpa using h
      rw [this, Bool.false_or]
      have h2 : ¬ s = a := fun z => h z.symm
      simp [h2]
theorem inPs_i {s : Int} {ss : List Int} : inPs (.int s) (ss.map PV.int) = some (decide (s ∈ ss)) := by
  unfold inPs
  rw [if_pos (by rw [all_flat_i]; rfl)]
  congr 1
  show ((ss.map PV.int).map vOf).any (fun y => eqV y (.int s)) = _
  induction ss with
  | nil => rfl
  | cons a ss ih =>
    rw [List.map_cons, List.map_cons, List.any_cons, ih]
    show ((a == s) || _) = _
    by_cases h : a = s
    · subst h; simp
    · have : (a == s) = false := by simpa using h
      rw [this, Bool.false_or]
      have h2 : ¬ s = a := fun z => h z.symm
      simp [h2]
theorem e_bAnd {i j : Int} : bAnd (.int i) (.int j) M Q = Q (.int (Builtin.bitAnd i j)) M := rfl
theorem e_bXor {i j : Int} : bXor (.int i) (.int j) M Q = Q (.int (Builtin.bitXor i j)) M := rfl
theorem e_bShl {i j : Int} : bShl (.int i) (.int j) M Q = (CShl i j ∧ Q (.int (i * 2 ^ j.toNat)) M) := rfl
theorem e_iAddG : iAddG x y M Q = @iaddB x y M ⟨Q⟩ := rfl
theorem iadd_i {i j : Int} {Q : Box PK} : @iaddB (.int i) (.int j) M Q = Q.v (.int (i + j)) M := rfl
theorem iadd_s {i j : Str} {Q : Box PK} : @iaddB (.str i) (.str j) M Q = (i.length + j.length ≤ sizeLine ∧ Q.v (.str (i ++ j)) M) := rfl
theorem iadd_ref {a : Addr} {zs : List PV} {Q : Box PK} (h : M a = some (.lst xs)) (hz : sq M y = some zs) (hl : xs.length + zs.length ≤ sizeLine) (q : Q.v (.ref a) (mset M a (.lst (xs ++ zs)))) : @iaddB (.ref a) y M Q := ⟨xs, zs, h, hz, hl, q⟩
theorem iadd_mset {a : Addr} {zs : List PV} {Q : Box PK} : @iaddB (.ref a) (.lst zs) (mset M a (.lst xs)) Q = (xs.length + zs.length ≤ sizeLine ∧ Q.v (.ref a) (mset M a (.lst (xs ++ zs)))) := propext
  ⟨fun ⟨_, _, h, hz, hl, q⟩ => by rw [mset_same] at h; cases h; cases hz; rw [mset_mset] at q; exact ⟨hl, q⟩, fun ⟨hl, q⟩ => ⟨_, _, mset_same, rfl, hl, by rw [mset_mset]; exact q⟩⟩
theorem isN_i {i : Int} : bIsN false (.int i) .non M Q = Q (.bl false) M := rfl
theorem notN_i {i : Int} : bIsN true (.int i) .non M Q = Q (.bl true) M := rfl
theorem isN_s {i : Str} : bIsN false (.str i) .non M Q = Q (.bl false) M := rfl
theorem notN_s {i : Str} : bIsN true (.str i) .non M Q = Q (.bl true) M := rfl
theorem isN_b {i : Bool} : bIsN false (.bl i) .non M Q = Q (.bl false) M := rfl
theorem notN_b {i : Bool} : bIsN true (.bl i) .non M Q = Q (.bl true) M := rfl
theorem isN_o {C : Addr} {ns : List Str} {os : List PV} : bIsN false (.obj C ns os) .non M Q = Q (.bl false) M := rfl
theorem notN_o {C : Addr} {ns : List Str} {os : List PV} : bIsN true (.obj C ns os) .non M Q = Q (.bl true) M := rfl
theorem isN_r {a : Addr} : bIsN false (.ref a) .non M Q = Q (.bl false) M := rfl
theorem notN_r {a : Addr} : bIsN true (.ref a) .non M Q = Q (.bl true) M := rfl
theorem isN_t {os : List PV} : bIsN false (.tup os) .non M Q = Q (.bl false) M := rfl
theorem notN_t {os : List PV} : bIsN true (.tup os) .non M Q = Q (.bl true) M := rfl
theorem isN_l {os : List PV} : bIsN false (.lst os) .non M Q = Q (.bl false) M := rfl
theorem notN_l {os : List PV} : bIsN true (.lst os) .non M Q = Q (.bl true) M := rfl
theorem isN_n : bIsN false .non .non M Q = Q (.bl true) M := rfl
theorem notN_n : bIsN true .non .non M Q = Q (.bl false) M := rfl
theorem sl_lst {lo hi : Option Int} : bSl lo hi (.lst xs) M Q = Q (.lst ((xs.drop (HT.sIx xs.length 0 lo)).take (HT.sIx xs.length xs.length hi - HT.sIx xs.length 0 lo))) M := rfl
theorem e_qMake0 {C : Addr} : qMake0 C env M Q E = Q (.obj C [] []) M := rfl
theorem e_qMethD {tbl : List (Addr × SpQ)} {m : Str} {to : QT} {t : QA} : qMethD tbl m to t env M Q E = to env M (fun x M1 => @mdB tbl m x M1 ⟨fun s => t env M1 (fun ys M2 => @callP s (x :: ys) M2 ⟨Q⟩ ⟨E⟩) E⟩) E := rfl
theorem mdB_of {tbl : List (Addr × SpQ)} {m : Str} {C : Addr} {s : SpQ} {ns : List Str} {os : List PV} {R : Box (SpQ → Prop)} (h : (C, s) ∈ tbl) (o : own M x = some (C, ns, os)) (hm : m ∉ ns) (q : R.v s) : @mdB tbl m x M R := ⟨C, s, ns, os, h, o, hm, q⟩
theorem e_qMakeW {C : Addr} {s : SpQ} {dps : List PV} {t : QA} : qMakeW C s dps t env M Q E = t env M (fun xs M1 => @makW C s (xs ++ dps) M1 ⟨Q⟩ ⟨E⟩) E := rfl
theorem makW_of {C : Addr} {s : SpQ} {Q : Box PK} {E : Box EK} (h : ∀ x, M x = none → s (.ref x :: xs) (mset M x (.ins C [] [])) (fun v M2 => v = .non ∧ Q.v (.ref x) M2) E.v) : @makW C s xs M Q E := h
theorem e_sRaise {C : Addr} : sRaise C D env M = D.ex (.ref C) none env M := rfl
theorem e_qSw {to te : QT} : qSw to te env M Q E = to env M (fun x M1 => (∃ a, x = .str a) ∧ te env M1 (fun y M2 => swP x y M2 Q) E) E := rfl
def strP (x : PV) (R : Prop) : Prop := (∃ a, x = .str a) ∧ R
theorem e_qSw2 {to te : QT} : qSw to te env M Q E = to env M (fun x M1 => strP x (te env M1 (fun y M2 => swP x y M2 Q) E)) E := rfl
theorem strP_s {a : Str} {R : Prop} : strP (.str a) R = R := propext ⟨fun h => h.2, fun h => ⟨⟨_, rfl⟩, h⟩⟩
theorem swP_s {a b : Str} : swP (.str a) (.str b) M Q = Q (.bl (Txt.startswith a b)) M := propext ⟨fun ⟨_, _, h1, h2, q⟩ => by cases h1; cases h2; exact q, fun q => ⟨_, _, rfl, rfl, q⟩⟩
theorem sto_ins {f : Str} {a C : Addr} {ns : List Str} {os : List PV} {Q : Box (Mem → Prop)} (h : M a = some (.ins C ns os)) (c : Cls K C) (n : NoAttr K C f) (l1 : ns.length = os.length) (l2 : ns.length < 1000) (q : Q.v (mset M a (.ins C (putN f ns) (putX f y ns os)))) : @stoB K f y (.ref a) M Q :=
  ⟨a, C, ns, os, rfl, h, ⟨c, n⟩, l1, l2, q⟩
theorem put_dic {k : PV} {kk : Key} {a : Addr} {ks : List Key} {vs : List PV} {Q : Box (Mem → Prop)} (h : M a = some (.dic ks vs)) (hk : keyP k = some kk) (nd : ks.Nodup) (l : ks.length < sizeLine) (q : Q.v (mset M a (.dic (putN kk ks) (putX kk y ks vs)))) : @putB k y (.ref a) M Q := ⟨a, ks, vs, kk, rfl, h, hk, nd, l, q⟩
theorem lset_lst {a : Addr} {k : Int} {j : Nat} {Q : Box (Mem → Prop)} (h : M a = some (.lst xs)) (hk : ixN xs.length k = some j) (q : Q.v (mset M a (.lst (xs.set j y)))) : @lsetB y (.ref a) (.int k) M Q := ⟨a, xs, k, j, rfl, rfl, h, hk, q⟩
theorem s_fldq {to tv : QT} {f : Str} {u : QS} : sSeq (sFldQ K to tv f) u D env M = sFldQ K to tv f { D with nx := u D } env M := rfl
theorem s_dput {td ty tv : QT} {u : QS} : sSeq (sDPutQ td ty tv) u D env M = sDPutQ td ty tv { D with nx := u D } env M := rfl
theorem s_lset {td ty tv : QT} {u : QS} : sSeq (sLSet td ty tv) u D env M = sLSet td ty tv { D with nx := u D } env M := rfl
end
end TN

namespace TQ
open PySem PySem.Spec PyProof.Rows L2
/-! comprehensions whose list is written later -/
def lcQM (items : List PV) (slots : PV → Option Sl) (tt : QB) (te : QT) (M1 : Mem) (Q : PK) : Prop := items.length ≤ 100000 ∧ ∃ r : PV → Option PV,
  (∀ x ∈ items, ∀ M2, MExt M1 M2 → ∃ env2, slots x = some env2 ∧ lcEl tt te env2 M2 (r x)) ∧ ∀ D, M1 D = none → Q (.ref D) (mset M1 D (.lst (items.filterMap r)))
def qLcLM (j : Nat) (vs : List Nat) (tl : QT) (tt : QB) (te : QT) : QT := fun env M Q E => tl env M (fun x M1 => match sqA M1 x with
  | some items => lcQM items (fun y => some ((wipeQ env vs).set j (some y))) tt te M1 Q
  | none => False) E
def qLcR1M (j : Nat) (vs : List Nat) (ta : QA) (tt : QB) (te : QT) : QT := fun env M Q E => ta env M (fun xs M1 => ∃ hi, xs = [.int hi] ∧ (-(2 ^ 62) ≤ hi ∧ hi < 2 ^ 62) ∧
  lcQM ((List.range hi.toNat).map fun i => .int (i : Nat)) (fun y => some ((wipeQ env vs).set j (some y))) tt te M1 Q) E
section
variable {X : Cx} {W : WX} {pos : Pos}
theorem lc_endM {G1 H : Hp} {M1 : Mem} {D : Addr} {items : List PV} {r : PV → Option PV} {Q0 : PK} {Q : VK} (L : LiftV X.K G1 Q0 Q) (p : lcP X.K G1 M1 D items r items.length H) (q : Q0 (.ref D) (mset M1 D (.lst (items.filterMap r)))) : Q (.ref D) H := by
  obtain ⟨G', e1, w⟩ := p
  rw [List.take_length] at w
  exact L (.ref D) _ _ H _ e1 w rfl q
theorem lcLM_imp {own : List Nat} {j : Nat} {tl : QT} {tt : QB} {te : QT} {σ : L2.St} {H : Hp} {Q : VK} (hj : j ∈ own) (h : tie X.K W (qLcLM j own tl tt te) σ H Q) : tLc (iList X.K (tie X.K W tl)) (gName j) (tieB X.K W0 tt) (tie X.K W0 te) own σ H Q := by
    obtain ⟨env, M, G, Q0, E0, S, q, L, LE⟩ := h
    refine ⟨env, M, G, _, E0, S, q, fun y M1 v H1 G1 e1 w1 r1 q1 => ?_, LE⟩
    dsimp only at q1
    cases hs : sqA M1 y with
    | none => rw [hs] at q1; exact q1.elim
    | some items =>
      rw [hs] at q1
      obtain ⟨hn, r, hr, q1⟩ := q1
      obtain ⟨p, vs, rfl, h1, rs⟩ := sqA_H hs r1 w1
      refine ⟨p, rfl, ⟨_, h1⟩, fun D hD => ?_⟩
      have hM := w1.freeM hD
      -- the items as they stand at any turn
      have src : ∀ {H' G' : Hp} {acc : List PV}, Ext G1 G' → Wf X.K (mset M1 D (.lst acc)) H' G' → ∃ ws, SqL X.K H' p ws ∧ Reps X.K G' items ws := fun {H' G' acc} e w => by
        have hs2 : sqA (mset M1 D (.lst acc)) y = some items := by
          cases y with
          | ref a =>
            have ha : M1 a = some (.lst items) := ml_some (show ml (M1 a) = some items from hs)
            show ml (mset M1 D (.lst acc) a) = some items
            rw [mset_ne (by rintro rfl; rw [hM] at ha; cases ha)]
            exact hs
          | _ => exact hs
        obtain ⟨p', ws, ep, h2, r2⟩ := sqA_H hs2 (Rep.mono e _ _ r1) w
        cases ep
        exact ⟨ws, h2, r2⟩
      refine ⟨fun i m H => m = items.length - i ∧ i ≤ items.length ∧ lcP X.K G1 M1 D items r i H, ⟨items.length, by omega, Nat.zero_le _, G1, Ext.refl _, ?_⟩, fun i m H ⟨hm, hi, hp⟩ => ?_⟩
      · exact w1.put (w1.free hD) (mok_lst Reps.nil)
      · obtain ⟨G', e', w'⟩ := _root_.id hp
        obtain ⟨ws, h2, r2⟩ := src e' w'
        by_cases hz : i = items.length
        · subst hz
          exact .inl ⟨⟨ws, h2, by rw [r2.length]; exact Nat.le_refl _⟩, lc_endM (L.mono e1) hp (q1 D hM)⟩
        · have hlt : i < items.length := by omega
          have hx := List.getElem?_eq_getElem hlt
          obtain ⟨v, hv, rv⟩ := r2.get hx
          refine .inr ⟨⟨ws, v, h2, hv⟩, lcP X.K G1 M1 D items r (i + 1), fun H' h => ⟨m - 1, by omega, by omega, by omega, h⟩, fun z H' hy => ?_⟩
          obtain ⟨rfl, hy⟩ := hy
          have ez := hy ws h2
          rw [hv] at ez
          cases ez
          refine ⟨wipe_set hj, ?_⟩
          have S2 : Sim X.K ((wipeQ env own).set j (some items[i])) _ G' ((L2.wipe σ own).set j (some v)) H' := ⟨((S.env.mono (e1.trans e')).wipe _).set rv, w'⟩
          refine lc_turnQ hn hx e' hM S2 (fun M2 hM2 => ?_) (fun H' h => h)
          obtain ⟨env2, ee, q2⟩ := hr _ (List.getElem_mem hlt) M2 hM2
          cases ee
          exact q2
theorem lcR1M_imp {own : List Nat} {j : Nat} {ta : QA} {tt : QB} {te : QT} {σ : L2.St} {H : Hp} {Q : VK} (hj : j ∈ own) (h : tie X.K W (qLcR1M j own ta tt te) σ H Q) : tLc (iRng1 (tieA X.K W ta)) (gName j) (tieB X.K W0 tt) (tie X.K W0 te) own σ H Q := by
    obtain ⟨env, M, G, Q0, E0, S, q, L, LE⟩ := h
    refine ⟨env, M, G, _, E0, S, q, fun xs M1 vs H1 G1 e1 w1 r1 q1 => ?_, LE⟩
    obtain ⟨hi, rfl, ⟨b1, b2⟩, hn, r, hr, q1⟩ := q1
    obtain ⟨v, rfl, rv⟩ := reps1 r1
    cases rv
    refine ⟨hi, rfl, b1, b2, fun D hD => ?_⟩
    have hM := w1.freeM hD
    have hlen : ((List.range hi.toNat).map fun i => PV.int (i : Nat)).length = hi.toNat := by simp
    refine lc_range (lo := 0) (n := hi.toNat) (lcP X.K G1 M1 D ((List.range hi.toNat).map fun i => PV.int (i : Nat)) r) ⟨G1, Ext.refl _, w1.put (w1.free hD) (mok_lst Reps.nil)⟩ (fun i H hlt ⟨G', e', w'⟩ => ?_)
      (fun H hp => lc_endM (L.mono e1) (by rw [hlen]; exact hp) (q1 D hM))
    have hx : ((List.range hi.toNat).map fun i => PV.int (i : Nat))[i]? = some (.int (i : Nat)) := by
      rw [List.getElem?_map, List.getElem?_range hlt]; rfl
    refine ⟨wipe_set hj, ?_⟩
    have S2 : Sim X.K ((wipeQ env own).set j (some (.int (i : Nat)))) _ G' ((L2.wipe σ own).set j (some (.int (0 + (i : Int))))) H := ⟨((S.env.mono (e1.trans e')).wipe _).set (show V.int _ = V.int _ by rw [Int.zero_add]), w'⟩
    refine lc_turnQ hn hx e' hM S2 (fun M2 hM2 => ?_) (fun H' h => h)
    obtain ⟨env2, ee, q2⟩ := hr _ (List.mem_of_getElem? hx) M2 hM2
    cases ee
    exact q2
theorem qe_lcLM {elt iter : Expr} {x : Str} {px : Pos} {ifs : List Expr} {scope : Scope} {own : List (Str × Nat)} {j : Nat} {tl : QT} {tt : QB} {te : QT} (hc : TC.CoolX X) (hN : X.N.Nodup) (hl : QE X W iter tl) (hj : j ∈ own.map (·.2))
    (ok : BlkOk X.N X.env.scope scope own) (hg : ∀ (s : Shared) (H : Hp) (C : Addr) (cl : List (Str × Addr)) (fp : List Addr) (xe : Value → Shared → Prop), PG (TC.blkX X s H scope (compEnvC scope cl C X.env) fp xe) (.Name x px) (gName j))
    (ht : ∀ (s : Shared) (H : Hp) (C : Addr) (cl : List (Str × Addr)) (fp : List Addr) (xe : Value → Shared → Prop), QPTs (TC.blkX X s H scope (compEnvC scope cl C X.env) fp xe) ifs tt)
    (he : ∀ (s : Shared) (H : Hp) (C : Addr) (cl : List (Str × Addr)) (fp : List Addr) (xe : Value → Shared → Prop), QE (TC.blkX X s H scope (compEnvC scope cl C X.env) fp xe) W0 elt te) (hfs : ∀ v, foldedSetIterable iter X.env v = pure v := by intro _; rfl) :
    QE X W (.ListComp elt [{ target := .Name x px, iter := iter, ifs := ifs, is_async := 0 }] scope pos) (qLcLM j (own.map (·.2)) tl tt te) :=
  (TC.pe_lcX (C := TC.CoolX) (Wb := W0) (tt := tieB X.K W0 tt) (te := tie X.K W0 te) hc hN (TC.pic_list hl) ok hg (fun s H c cl fp xe _ => ht s H c cl fp xe) (fun s H c cl fp xe _ => he s H c cl fp xe) (fun _ _ _ _ _ _ => TC.blkTk_none) hfs).imp fun σ H Q h => lcLM_imp hj h
theorem qs_lcLM (i : Nat) {y : Str} {py spos : Pos} {elt iter : Expr} {x : Str} {px : Pos} {ifs : List Expr} {scope : Scope} {own : List (Str × Nat)} {j : Nat} {tl : QT} {tt : QB} {te : QT} (hc : TC.CoolX X) (hN : X.N.Nodup) (hl : QE X W iter tl) (hj : j ∈ own.map (·.2))
    (ok : BlkOk X.N X.env.scope scope own) (hg : ∀ (s : Shared) (H : Hp) (C : Addr) (cl : List (Str × Addr)) (fp : List Addr) (xe : Value → Shared → Prop), PG (TC.blkX X s H scope (compEnvC scope cl C X.env) fp xe) (.Name x px) (gName j))
    (ht : ∀ (s : Shared) (H : Hp) (C : Addr) (cl : List (Str × Addr)) (fp : List Addr) (xe : Value → Shared → Prop), QPTs (TC.blkX X s H scope (compEnvC scope cl C X.env) fp xe) ifs tt)
    (he : ∀ (s : Shared) (H : Hp) (C : Addr) (cl : List (Str × Addr)) (fp : List Addr) (xe : Value → Shared → Prop), QE (TC.blkX X s H scope (compEnvC scope cl C X.env) fp xe) W0 elt te) (hfs : ∀ v, foldedSetIterable iter X.env v = pure v := by intro _; rfl) (hlo : X.env.scope.names.lookup y = some .local := by rfl) (hi : X.N[i]? = some y := by rfl) (hsw : swapsWith (.ListComp elt [{ target := .Name x px, iter := iter, ifs := ifs, is_async := 0 }] scope pos) (some (.Name y py)) spos.line X.env = pure true := by exact sw_true rfl rfl rfl (by decide +kernel)) :
    QPS X W (.Assign [.Name y py] (.ListComp elt [{ target := .Name x px, iter := iter, ifs := ifs, is_async := 0 }] scope pos) spos) (sAsg (qLcLM j (own.map (·.2)) tl tt te) (gNm i)) :=
  (TC.ps_setLcX (C := TC.CoolX) (Wb := W0) (tt := tieB X.K W0 tt) (te := tie X.K W0 te) hc hN hi hlo hsw (TC.pic_list hl) ok hg (fun s H c cl fp xe _ => ht s H c cl fp xe) (fun s H c cl fp xe _ => he s H c cl fp xe) (fun _ _ _ _ _ _ _ => TC.blkTk_none) hfs).imp fun D σ H h => lcLM_imp hj (tieNm (tieAsg h) fun _ _ _ _ k z => tie_mono k z)
theorem qe_lcR1M {elt a : Expr} {x : Str} {px p pos' : Pos} {ifs : List Expr} {scope : Scope} {own : List (Str × Nat)} {j : Nat} {ta : QA} {tt : QB} {te : QT} (hc : TC.CoolX X) (hN : X.N.Nodup) (hm : X.mg "range" = none) (hl : QPA X W [a] ta) (hj : j ∈ own.map (·.2))
    (ok : BlkOk X.N X.env.scope scope own) (hg : ∀ (s : Shared) (H : Hp) (C : Addr) (cl : List (Str × Addr)) (fp : List Addr) (xe : Value → Shared → Prop), PG (TC.blkX X s H scope (compEnvC scope cl C X.env) fp xe) (.Name x px) (gName j))
    (ht : ∀ (s : Shared) (H : Hp) (C : Addr) (cl : List (Str × Addr)) (fp : List Addr) (xe : Value → Shared → Prop), QPTs (TC.blkX X s H scope (compEnvC scope cl C X.env) fp xe) ifs tt)
    (he : ∀ (s : Shared) (H : Hp) (C : Addr) (cl : List (Str × Addr)) (fp : List Addr) (xe : Value → Shared → Prop), QE (TC.blkX X s H scope (compEnvC scope cl C X.env) fp xe) W0 elt te) (hgr : Gl X "range" := by rfl)
    (hst : starEach [a] X.env = [(false, eval a X.env)] := by rfl) (hfs : ∀ v, foldedSetIterable (.Call (.Name "range" p) [a] [] pos') X.env v = pure v := by intro _; rfl) :
    QE X W (.ListComp elt [{ target := .Name x px, iter := .Call (.Name "range" p) [a] [] pos', ifs := ifs, is_async := 0 }] scope pos) (qLcR1M j (own.map (·.2)) ta tt te) :=
  (TC.pe_lcX (C := TC.CoolX) (Wb := W0) (tt := tieB X.K W0 tt) (te := tie X.K W0 te) hc hN (TC.pic_range1 hgr hm hl hst) ok hg (fun s H c cl fp xe _ => ht s H c cl fp xe) (fun s H c cl fp xe _ => he s H c cl fp xe) (fun _ _ _ _ _ _ => TC.blkTk_none) hfs).imp fun σ H Q h => lcR1M_imp hj h
theorem qs_lcR1M (i : Nat) {y : Str} {py spos : Pos} {elt a : Expr} {x : Str} {px p pos' : Pos} {ifs : List Expr} {scope : Scope} {own : List (Str × Nat)} {j : Nat} {ta : QA} {tt : QB} {te : QT} (hc : TC.CoolX X) (hN : X.N.Nodup) (hm : X.mg "range" = none) (hl : QPA X W [a] ta) (hj : j ∈ own.map (·.2))
    (ok : BlkOk X.N X.env.scope scope own) (hg : ∀ (s : Shared) (H : Hp) (C : Addr) (cl : List (Str × Addr)) (fp : List Addr) (xe : Value → Shared → Prop), PG (TC.blkX X s H scope (compEnvC scope cl C X.env) fp xe) (.Name x px) (gName j))
    (ht : ∀ (s : Shared) (H : Hp) (C : Addr) (cl : List (Str × Addr)) (fp : List Addr) (xe : Value → Shared → Prop), QPTs (TC.blkX X s H scope (compEnvC scope cl C X.env) fp xe) ifs tt)
    (he : ∀ (s : Shared) (H : Hp) (C : Addr) (cl : List (Str × Addr)) (fp : List Addr) (xe : Value → Shared → Prop), QE (TC.blkX X s H scope (compEnvC scope cl C X.env) fp xe) W0 elt te) (hgr : Gl X "range" := by rfl)
    (hst : starEach [a] X.env = [(false, eval a X.env)] := by rfl) (hfs : ∀ v, foldedSetIterable (.Call (.Name "range" p) [a] [] pos') X.env v = pure v := by intro _; rfl) (hlo : X.env.scope.names.lookup y = some .local := by rfl) (hi : X.N[i]? = some y := by rfl) (hsw : swapsWith (.ListComp elt [{ target := .Name x px, iter := .Call (.Name "range" p) [a] [] pos', ifs := ifs, is_async := 0 }] scope pos) (some (.Name y py)) spos.line X.env = pure true := by exact sw_true rfl rfl rfl (by decide +kernel)) :
    QPS X W (.Assign [.Name y py] (.ListComp elt [{ target := .Name x px, iter := .Call (.Name "range" p) [a] [] pos', ifs := ifs, is_async := 0 }] scope pos) spos) (sAsg (qLcR1M j (own.map (·.2)) ta tt te) (gNm i)) :=
  (TC.ps_setLcX (C := TC.CoolX) (Wb := W0) (tt := tieB X.K W0 tt) (te := tie X.K W0 te) hc hN hi hlo hsw (TC.pic_range1 hgr hm hl hst) ok hg (fun s H c cl fp xe _ => ht s H c cl fp xe) (fun s H c cl fp xe _ => he s H c cl fp xe) (fun _ _ _ _ _ _ _ => TC.blkTk_none) hfs).imp fun D σ H h => lcR1M_imp hj (tieNm (tieAsg h) fun _ _ _ _ k z => tie_mono k z)
def gLu (n : Nat) (gs : QTGs) : QTG := fun x env M Q => ∃ xs, sq M x = some xs ∧ xs.length = n ∧ gs xs env M Q
theorem qg_lst {es : List Expr} {k : Nat} {gs : QTGs} {n : Nat} (hc : X.calm = true) (h : QPGs X es gs) (hn : (assignEach es X.env).length = n := by rfl) (hst : (assignEach es X.env).findIdx? (·.1) = none := by rfl) : QPG X (.Tuple es k pos) (gLu n gs) :=
  (pg_lst hc h hn hst).imp fun v σ H Q ⟨x, env, M, G, Q0, r, S, ⟨xs, hx, hl, q⟩, L⟩ => by
    obtain ⟨p, vs, rfl, h1, r1⟩ := sq_H hx r S.wf
    exact ⟨p, vs, rfl, SqL.of h1, by rw [← r1.length]; exact hl, xs, env, M, G, Q0, r1, S, q, L⟩
end
section
variable {P : Program} {w : World} {K : PySem.W.Frag} {mg : Str → Option Value} {base : Heap}
/-- a stored __init__ -/
theorem fnX_D {x qual : Str} {st : Stmt} {f : Addr} {fd : FuncData} {N ps : List Str} {k : Nat} {sp : Sp} {dvs : List V} {kws : List (Str × V)} (F : FunD K x qual (defArgs st) (defBody st) (defScope st) dvs kws f fd) (S : FnScope N ps (defScope st)) (len : ∀ vs H Q E, sp vs H Q E → vs.length = ps.length)
    (hbody : ∀ (cdv : Value) (A : Around) (outer : List Env) (s : Shared) (H : Hp) (vs : List V) (Q : VK) (E : XK) (b : Bool) (pl : List (Addr × Obj)), sp vs H Q E → ∃ t, PSs (cxB P w K mg base N qual (defScope st) f cdv A outer s H E b pl) (defBody st) t ∧ t { nx := fun _ H' => Q .non H', rt := Q } (L2.start N vs) H) : FnX true P w K mg base (k + 1) f fd ps sp := by
  obtain ⟨oc, od, dV, kV, doc, pm, an, cdv, ct, osl, rfl, lk, hcd, _⟩ := F.ex
  exact fnX_of lk hcd S len fun A outer s H vs Q E b pl _ _ h => hbody cdv A outer s H vs Q E b pl h
theorem okQD {x qual : Str} {st : Stmt} {f : Addr} {fd : FuncData} {N ps : List Str} {k : Nat} {s : SpQ} {dvs : List V} {kws : List (Str × V)} (F : FunD K x qual (defArgs st) (defBody st) (defScope st) dvs kws f fd) (S : FnScope N ps (defScope st)) (len : ∀ xs M Q E, s xs M Q E → xs.length = ps.length)
    (hbody : ∀ (cdv : Value) (A : Around) (outer : List Env) (s0 : Shared) (H0 : Hp) (E : XK), L2H.RoomH k (A.deeper (envOfC qual (defScope st) s0.heap.objs.size f cdv)) →
      ∃ t, QPSs (cxOf (L2N.CX P w) P w K mg base N qual (defScope st) f cdv A outer s0 H0 E) (fun cls d _ H => E cls d H) (defBody st) t ∧
        ∀ xs M Q0 E0, s xs M Q0 E0 → t { nx := fun _ M => Q0 .non M, rt := Q0, ex := fun c pl _ M => E0 c pl M } (startQ N xs) M) : FnQ P w K mg base (k + 1) f fd ps s := by
  refine .of (F.ok S (fun vs H Q E h => ?_) (fun cdv A outer s0 H vs Q E hr h => ?_))
  · obtain ⟨xs, M, G, Q0, E0, r, _, q, _⟩ := h
    rw [← r.length]
    exact len xs M Q0 E0 q
  · obtain ⟨xs, M, G, Q0, E0, r, w, q, L, LE⟩ := h
    obtain ⟨t, h1, h2⟩ := hbody cdv A outer s0 H E (L2H.roomH_of hr)
    refine ⟨_, h1, startQ N xs, M, G, _, ⟨start_env r, w⟩, h2 xs M Q0 E0 q, ?_⟩
    exact ⟨fun env' M' σ' H' G' e S q => L .non M' .non H' G' e S.wf rfl q, L, fun _ _ _ _ _ _ _ q => q, fun _ _ _ _ _ _ _ q => q, fun c pl env' M' d σ' H' G' e S x q => LE c pl M' d H' G' e S.wf x q⟩
end
end TQ
namespace TN
open PySem PySem.Spec PyProof.Rows L2 TQ TM
section
variable {K : PySem.W.Frag} {env : Sl} {M : Mem} {Q : PK} {E : EK} {xs : List PV}
def lcM (o : Option (List PV)) (vs : List Nat) (j : Nat) (tt : QB) (te : QT) (env : Sl) (M1 : Mem) [Q : Box PK] : Prop := match o with
  | some items => lcQM items (fun y => some ((wipeQ env vs).set j (some y))) tt te M1 Q.v
  | none => False
theorem e_gLu {n : Nat} {gs : QTGs} {x : PV} {Q : Sl → Mem → Prop} : gLu n gs x env M Q = ∃ xs, sq M x = some xs ∧ xs.length = n ∧ gs xs env M Q := rfl
def sqB (o : Option (List PV)) (n : Nat) (gs : QTGs) (env : Sl) (M : Mem) [Q : Box (Sl → Mem → Prop)] : Prop := ∃ xs, o = some xs ∧ xs.length = n ∧ gs xs env M Q.v
theorem e_gLu2 {n : Nat} {gs : QTGs} {x : PV} {Q : Sl → Mem → Prop} : gLu n gs x env M Q = @sqB (sq M x) n gs env M ⟨Q⟩ := rfl
theorem sqB_some {n : Nat} {gs : QTGs} {Q : Box (Sl → Mem → Prop)} : @sqB (some xs) n gs env M Q = (xs.length = n ∧ gs xs env M Q.v) := propext ⟨fun ⟨_, h, q⟩ => by cases h; exact q, fun q => ⟨_, rfl, q⟩⟩
theorem sq_lst : sq M (.lst xs) = some xs := rfl
theorem sq_ref {a : Addr} (h : M a = some (.lst xs)) : sq M (.ref a) = some xs := by
  show ml (M a) = _
  rw [h]
  rfl
theorem b_mul_l {n : Int} : bMul (.lst xs) (.int n) M Q = ((0 ≤ n ∧ n ≤ 1000 ∧ xs.length ≤ 1000) ∧ Q (.lst (List.replicate n.toNat xs).flatten) M) := rfl
theorem e_cInt_tt : cInt [.bl true] M Q = Q (.int 1) M := rfl
theorem e_cInt_ff : cInt [.bl false] M Q = Q (.int 0) M := rfl
theorem xi_ref0 {a : Addr} {i : Int} : bIx (.ref a) (.int i) M Q = bIx (.ref a) (.int i) M Q := rfl
def ixRB (a : Addr) (i : Int) (M : Mem) [Q : Box PK] : Prop := bIx (.ref a) (.int i) M Q.v
theorem e_ixR {a : Addr} {i : Int} : bIx (.ref a) (.int i) M Q = @ixRB a i M ⟨Q⟩ := rfl
theorem ixR_of {a : Addr} {i : Int} {Q : Box PK} (h : M a = some (.lst xs)) : @ixRB a i M Q = @ixP (atI xs i) M Q := by
  show (match ml (M a) with
    | some xs => ∃ v, atI xs i = some v ∧ Q.v v M
    | none => False) = _
  rw [h]
  rfl
theorem ixR_mset {a : Addr} {i : Int} {Q : Box PK} : @ixRB a i (mset M a (.lst xs)) Q = @ixP (atI xs i) (mset M a (.lst xs)) Q := ixR_of mset_same
mutual
def pdep : PV → Nat
  | .tup xs => pdeps xs + 1
  | .lst xs => pdeps xs + 1
  | _ => 0
def pdeps : List PV → Nat
  | [] => 0
  | x :: xs => max (pdep x) (pdeps xs)
end
mutual
theorem dat0_dep : ∀ (x : PV) (d : PyData), dat0 x = some d → d.depth ≤ pdep x
  | .non, _, h => by cases h; simp [PyData.depth, pdep]
  | .bl b, _, h => by cases h; simp [PyData.depth, pdep]
  | .int b, _, h => by cases h; simp [PyData.depth, pdep]
  | .str b, _, h => by cases h; simp [PyData.depth, pdep]
  | .tup xs, _, h => by
    unfold dat0 at h
    cases hd : dat0s xs with
    | none => rw [hd] at h; cases h
    | some ds => rw [hd] at h; cases h; have := dat0s_dep xs ds hd; simp [PyData.depth, pdep]; exact this
  | .lst xs, _, h => by
    unfold dat0 at h
    cases hd : dat0s xs with
    | none => rw [hd] at h; cases h
    | some ds => rw [hd] at h; cases h; have := dat0s_dep xs ds hd; simp [PyData.depth, pdep]; exact this
  | .scr _, _, h => by cases h
  | .obj _ _ _, _, h => by cases h
  | .ref _, _, h => by cases h
  | .ty _, _, h => by cases h
theorem dat0s_dep : ∀ (xs : List PV) (ds : List PyData), dat0s xs = some ds → PyData.depthAll ds ≤ pdeps xs
  | [], _, h => by cases h; simp [PyData.depthAll, pdeps]
  | x :: xs, _, h => by
    unfold dat0s at h
    cases hd : dat0 x with
    | none => rw [hd] at h; cases h
    | some d =>
      rw [hd] at h
      cases hs : dat0s xs with
      | none => rw [hs] at h; cases h
      | some ds =>
        rw [hs] at h
        cases h
        have a := dat0_dep x d hd
        have b := dat0s_dep xs ds hs
        simp [PyData.depthAll, pdeps]
        omega
end
theorem same_l {neg : Bool} {ds : List PyData} (h : dat0s xs = some ds) (hd : pdeps xs ≤ 60) : bEqP neg (.lst xs) (.lst xs) M Q = Q (.bl (!neg)) M := by
  have e : dat M (.lst xs) = some (.list ds) := by show (dat0s xs).map PyData.list = _; rw [h]; rfl
  have hp := SeqAt.eqv_refl_plain _ (dat_plain e)
  have hde := dat0_dep (.lst xs) (.list ds) e
  show (match dat M (.lst xs), dat M (.lst xs) with
    | some d, some e => min d.depth e.depth ≤ 64 ∧ Q (.bl (if neg then !PyData.eqv d e else PyData.eqv d e)) M
    | _, _ => False) = _
  rw [e]
  dsimp only
  rw [hp]
  have : pdep (.lst xs) = pdeps xs + 1 := rfl
  exact propext ⟨fun z => by cases neg <;> exact z.2, fun z => ⟨by omega, by cases neg <;> exact z⟩⟩
theorem same_t {neg : Bool} {ds : List PyData} (h : dat0s xs = some ds) (hd : pdeps xs ≤ 60) : bEqP neg (.tup xs) (.tup xs) M Q = Q (.bl (!neg)) M := by
  have e : dat M (.tup xs) = some (.tuple ds) := by show (dat0s xs).map PyData.tuple = _; rw [h]; rfl
  have hp := SeqAt.eqv_refl_plain _ (dat_plain e)
  have hde := dat0_dep (.tup xs) (.tuple ds) e
  show (match dat M (.tup xs), dat M (.tup xs) with
    | some d, some e => min d.depth e.depth ≤ 64 ∧ Q (.bl (if neg then !PyData.eqv d e else PyData.eqv d e)) M
    | _, _ => False) = _
  rw [e]
  dsimp only
  rw [hp]
  have : pdep (.tup xs) = pdeps xs + 1 := rfl
  exact propext ⟨fun z => by cases neg <;> exact z.2, fun z => ⟨by omega, by cases neg <;> exact z⟩⟩
theorem ne_l {ds : List PyData} (h : dat0s xs = some ds) (hd : pdeps xs ≤ 60) : bNe (.lst xs) (.lst xs) M Q = Q (.bl false) M := same_l h hd
theorem ne_t {ds : List PyData} (h : dat0s xs = some ds) (hd : pdeps xs ≤ 60) : bNe (.tup xs) (.tup xs) M Q = Q (.bl false) M := same_t h hd
theorem eq_l {ds : List PyData} (h : dat0s xs = some ds) (hd : pdeps xs ≤ 60) : bEq (.lst xs) (.lst xs) M Q = Q (.bl true) M := same_l h hd
theorem eq_t {ds : List PyData} (h : dat0s xs = some ds) (hd : pdeps xs ≤ 60) : bEq (.tup xs) (.tup xs) M Q = Q (.bl true) M := same_t h hd
theorem dat0s_str : ∀ ss : List Str, dat0s (ss.map PV.str) = some (ss.map PyData.str) ∧ pdeps (ss.map PV.str) = 0
  | [] => ⟨rfl, rfl⟩
  | s :: ss => by
    obtain ⟨a, b⟩ := dat0s_str ss
    refine ⟨?_, ?_⟩
    · show ((dat0 (.str s)).bind fun d => (dat0s (ss.map PV.str)).map fun ds => d :: ds) = _
      rw [a]
      rfl
    · show max 0 (pdeps (ss.map PV.str)) = 0
      rw [b]
      rfl
theorem e_lcLM {j : Nat} {vs : List Nat} {tl : QT} {tt : QB} {te : QT} : qLcLM j vs tl tt te env M Q E = tl env M (fun x M1 => @lcM (sqA M1 x) vs j tt te env M1 ⟨Q⟩) E := rfl
theorem e_lcR1M {j : Nat} {vs : List Nat} {ta : QA} {tt : QB} {te : QT} : qLcR1M j vs ta tt te env M Q E = ta env M (fun xs M1 => isR1 xs fun hi => (-(2 ^ 62) ≤ hi ∧ hi < 2 ^ 62) ∧ @lcM (some ((List.range hi.toNat).map fun i => .int (i : Nat))) vs j tt te env M1 ⟨Q⟩) E := rfl
theorem lcM_of {vs : List Nat} {j : Nat} {tt : QB} {te : QT} {Q : Box PK} (r : PV → Option PV) (hn : xs.length ≤ 100000) (h : ∀ x ∈ xs, ∀ M2, MExt M M2 → lcEl tt te ((wipeQ env vs).set j (some x)) M2 (r x)) (q : ∀ D, M D = none → Q.v (.ref D) (mset M D (.lst (xs.filterMap r)))) : @lcM (some xs) vs j tt te env M Q :=
  ⟨hn, r, fun x hx M2 hM => ⟨_, rfl, h x hx M2 hM⟩, q⟩
end
end TN

namespace TQ
open PySem PySem.Spec PyProof.Rows L2
/-! ### what the top has written, def by def -/
set_option genSizeOf false
set_option genInjectivity false
structure TopF (K : PySem.W.Frag) (mg : Str → Option Value) (gn py qual : Str) (st : Stmt) (ps : List Str) where
  a : Addr
  d : FuncData
  m : mg gn = some (.ref a)
  F : Fun K py qual st a d
  b : Binds K d ps []
structure TopM (K : PySem.W.Frag) (py qual : Str) (st : Stmt) (ps : List Str) where
  a : Addr
  d : FuncData
  F : Fun K py qual st a d
  b : Binds K d ps []
structure TopD (K : PySem.W.Frag) (py qual : Str) (st : Stmt) (dvs : List V) where
  a : Addr
  d : FuncData
  F : FunD K py qual (defArgs st) (defBody st) (defScope st) dvs [] a d
structure TopG (K : PySem.W.Frag) (mg : Str → Option Value) (gn py qual : Str) (st : Stmt) (dvs : List V) where
  a : Addr
  d : FuncData
  m : mg gn = some (.ref a)
  F : FunD K py qual (defArgs st) (defBody st) (defScope st) dvs [] a d
/-! a, b = x, y -/
section
variable {X : Cx} {W : WX} {pos : Pos}
def sPar (i j : Nat) (t : QA) : QS := fun D env M => t env M (fun xs M1 => ∃ x y, xs = [x, y] ∧ D.nx ((env.set i (some x)).set j (some y)) M1) (exE D env)
theorem qs_par {i j : Nat} {x y : Str} {a b : Expr} {t : QA} {px py pt : Pos} {kt k2 pt2} (hc : X.calm = true) (hN : X.N.Nodup) (hi : X.N[i]? = some x) (hj : X.N[j]? = some y) (hij : i ≠ j)
    (hx : X.env.scope.names.lookup x = some .local) (hy : X.env.scope.names.lookup y = some .local) (ha : QPA X W [a, b] t)
    (hw : swappedStores [.Tuple [.Name x px, .Name y py] kt pt] (.Tuple [a, b] k2 pt2) X.env = pure (some [x, y]) := by rfl)
    (hs : swapsWithSole [.Tuple [.Name x px, .Name y py] kt pt] (.Tuple [a, b] k2 pt2) pos.line X.env = pure false := by rfl) :
    QPS X W (.Assign [.Tuple [.Name x px, .Name y py] kt pt] (.Tuple [a, b] k2 pt2) pos) (sPar i j t) := (ps_par hc hN hi hj hij hx hy ha hw hs).imp fun D σ H ⟨env, M, G, D0, S, q, L⟩ => by
  refine ⟨env, M, G, _, _, S, q, fun xs M1 vs H1 G1 e1 w1 r1 q1 => ?_, liftX_E S.env L.ex⟩
  obtain ⟨u, v, rfl, q1⟩ := q1
  obtain ⟨_, _, rfl, ru, _, _, rfl, rv, rfl⟩ := r1
  exact ⟨_, _, rfl, L.nx _ M1 _ H1 G1 e1 (((S.to e1 w1).set ru).set rv) q1⟩
/-! comprehensions over a range whose elements make things -/
def lcIQ (n : Nat) (slots : Nat → Sl) (tt : QB) (te : QT) (M1 : Mem) (Q : PK) : Prop := ∀ D, M1 D = none → ∃ I : Nat → Mem → Prop, I 0 (mset M1 D (.lst [])) ∧
  (∀ i, i < n → ∀ M2, I i M2 → tt (slots i) M2 (fun b M3 => if b = true then te (slots i) M3 (fun y M4 => ∃ acc, M4 D = some (.lst acc) ∧ acc.length < sizeLine ∧ I (i + 1) (mset M4 D (.lst (acc ++ [y])))) EF else I (i + 1) M3) EF) ∧ ∀ M2, I n M2 → Q (.ref D) M2
def qLcR1I (j : Nat) (vs : List Nat) (ta : QA) (tt : QB) (te : QT) : QT := fun env M Q E => ta env M (fun xs M1 => ∃ hi, xs = [.int hi] ∧ (-(2 ^ 62) ≤ hi ∧ hi < 2 ^ 62) ∧
  lcIQ hi.toNat (fun i => (wipeQ env vs).set j (some (.int (i : Nat)))) tt te M1 Q) E
theorem lcR1I_imp {own : List Nat} {j : Nat} {ta : QA} {tt : QB} {te : QT} {σ : L2.St} {H : Hp} {Q : VK} (hj : j ∈ own) (h : tie X.K W (qLcR1I j own ta tt te) σ H Q) : tLc (iRng1 (tieA X.K W ta)) (gName j) (tieB X.K W0 tt) (tie X.K W0 te) own σ H Q := by
    obtain ⟨env, M, G, Q0, E0, S, q, L, LE⟩ := h
    refine ⟨env, M, G, _, E0, S, q, fun xs M1 vs H1 G1 e1 w1 r1 q1 => ?_, LE⟩
    obtain ⟨hi, rfl, ⟨b1, b2⟩, q1⟩ := q1
    obtain ⟨v, rfl, rv⟩ := reps1 r1
    cases rv
    refine ⟨hi, rfl, b1, b2, fun D hD => ?_⟩
    have hM := w1.freeM hD
    obtain ⟨I, h0, hI, hE⟩ := q1 D hM
    refine lc_range (lo := 0) (n := hi.toNat) (fun i H => ∃ G' M2, Ext G1 G' ∧ Wf X.K M2 H G' ∧ I i M2) ⟨G1, _, Ext.refl _, w1.put (w1.free hD) (mok_lst Reps.nil), h0⟩ (fun i H hlt ⟨G', M2, e', w', i1⟩ => ?_)
      (fun H ⟨G', M2, e', w', i1⟩ => (L.mono e1) (.ref D) M2 _ H G' e' w' rfl (hE M2 i1))
    refine ⟨wipe_set hj, ?_⟩
    have S2 : Sim X.K ((wipeQ env own).set j (some (.int (i : Nat)))) _ G' ((L2.wipe σ own).set j (some (.int (0 + (i : Int))))) H := ⟨((S.env.mono (e1.trans e')).wipe _).set (show V.int _ = V.int _ by rw [Int.zero_add]), w'⟩
    refine ⟨_, _, G', _, EF, S2, hI i hlt M2 i1, fun b M4 H3 G3 e3 w3 q3 => ?_, EF_lift⟩
    cases b with
    | false =>
      rw [if_neg (by simp)] at q3
      rw [if_neg (by simp)]
      exact ⟨G3, M4, e'.trans e3, w3, q3⟩
    | true =>
      rw [if_pos rfl] at q3
      rw [if_pos rfl]
      refine ⟨_, _, G3, _, EF, S2.to e3 w3, q3, fun y M5 v H4 G4 e4 w4 ry q4 => ?_, EF_lift⟩
      obtain ⟨acc, h5, hl, q4⟩ := q4
      obtain ⟨g0, vs, h1, r1⟩ := w4.mem D _ h5
      refine ⟨vs, h1, by rw [← r1.length]; exact hl, G4, _, (e'.trans e3).trans e4, w4.put (p := D) (o := .lst (vs ++ [v])) g0 (mok_lst (r1.append (Reps.one ry))), q4⟩
theorem qe_lcR1I {elt a : Expr} {x : Str} {px p pos' : Pos} {ifs : List Expr} {scope : Scope} {own : List (Str × Nat)} {j : Nat} {ta : QA} {tt : QB} {te : QT} (hc : TC.CoolX X) (hN : X.N.Nodup) (hm : X.mg "range" = none) (hl : QPA X W [a] ta) (hj : j ∈ own.map (·.2))
    (ok : BlkOk X.N X.env.scope scope own) (hg : ∀ (s : Shared) (H : Hp) (C : Addr) (cl : List (Str × Addr)) (fp : List Addr) (xe : Value → Shared → Prop), PG (TC.blkX X s H scope (compEnvC scope cl C X.env) fp xe) (.Name x px) (gName j))
    (ht : ∀ (s : Shared) (H : Hp) (C : Addr) (cl : List (Str × Addr)) (fp : List Addr) (xe : Value → Shared → Prop), QPTs (TC.blkX X s H scope (compEnvC scope cl C X.env) fp xe) ifs tt)
    (he : ∀ (s : Shared) (H : Hp) (C : Addr) (cl : List (Str × Addr)) (fp : List Addr) (xe : Value → Shared → Prop), QE (TC.blkX X s H scope (compEnvC scope cl C X.env) fp xe) W0 elt te) (hgr : Gl X "range" := by rfl)
    (hst : starEach [a] X.env = [(false, eval a X.env)] := by rfl) (hfs : ∀ v, foldedSetIterable (.Call (.Name "range" p) [a] [] pos') X.env v = pure v := by intro _; rfl) :
    QE X W (.ListComp elt [{ target := .Name x px, iter := .Call (.Name "range" p) [a] [] pos', ifs := ifs, is_async := 0 }] scope pos) (qLcR1I j (own.map (·.2)) ta tt te) :=
  (TC.pe_lcX (C := TC.CoolX) (Wb := W0) (tt := tieB X.K W0 tt) (te := tie X.K W0 te) hc hN (TC.pic_range1 hgr hm hl hst) ok hg (fun s H c cl fp xe _ => ht s H c cl fp xe) (fun s H c cl fp xe _ => he s H c cl fp xe) (fun _ _ _ _ _ _ => TC.blkTk_none) hfs).imp fun σ H Q h => lcR1I_imp hj h
theorem qs_lcR1I (i : Nat) {y : Str} {py spos : Pos} {elt a : Expr} {x : Str} {px p pos' : Pos} {ifs : List Expr} {scope : Scope} {own : List (Str × Nat)} {j : Nat} {ta : QA} {tt : QB} {te : QT} (hc : TC.CoolX X) (hN : X.N.Nodup) (hm : X.mg "range" = none) (hl : QPA X W [a] ta) (hj : j ∈ own.map (·.2))
    (ok : BlkOk X.N X.env.scope scope own) (hg : ∀ (s : Shared) (H : Hp) (C : Addr) (cl : List (Str × Addr)) (fp : List Addr) (xe : Value → Shared → Prop), PG (TC.blkX X s H scope (compEnvC scope cl C X.env) fp xe) (.Name x px) (gName j))
    (ht : ∀ (s : Shared) (H : Hp) (C : Addr) (cl : List (Str × Addr)) (fp : List Addr) (xe : Value → Shared → Prop), QPTs (TC.blkX X s H scope (compEnvC scope cl C X.env) fp xe) ifs tt)
    (he : ∀ (s : Shared) (H : Hp) (C : Addr) (cl : List (Str × Addr)) (fp : List Addr) (xe : Value → Shared → Prop), QE (TC.blkX X s H scope (compEnvC scope cl C X.env) fp xe) W0 elt te) (hgr : Gl X "range" := by rfl)
    (hst : starEach [a] X.env = [(false, eval a X.env)] := by rfl) (hfs : ∀ v, foldedSetIterable (.Call (.Name "range" p) [a] [] pos') X.env v = pure v := by intro _; rfl) (hlo : X.env.scope.names.lookup y = some .local := by rfl) (hi : X.N[i]? = some y := by rfl) (hsw : swapsWith (.ListComp elt [{ target := .Name x px, iter := .Call (.Name "range" p) [a] [] pos', ifs := ifs, is_async := 0 }] scope pos) (some (.Name y py)) spos.line X.env = pure true := by exact sw_true rfl rfl rfl (by decide +kernel)) :
    QPS X W (.Assign [.Name y py] (.ListComp elt [{ target := .Name x px, iter := .Call (.Name "range" p) [a] [] pos', ifs := ifs, is_async := 0 }] scope pos) spos) (sAsg (qLcR1I j (own.map (·.2)) ta tt te) (gNm i)) :=
  (TC.ps_setLcX (C := TC.CoolX) (Wb := W0) (tt := tieB X.K W0 tt) (te := tie X.K W0 te) hc hN hi hlo hsw (TC.pic_range1 hgr hm hl hst) ok hg (fun s H c cl fp xe _ => ht s H c cl fp xe) (fun s H c cl fp xe _ => he s H c cl fp xe) (fun _ _ _ _ _ _ _ => TC.blkTk_none) hfs).imp fun D σ H h => lcR1I_imp hj (tieNm (tieAsg h) fun _ _ _ _ k z => tie_mono k z)
end
end TQ
namespace TN
open PySem PySem.Spec PyProof.Rows L2 TQ TM
def parP (i j : Nat) (xs : List PV) (env : Sl) (M : Mem) [Q : Box (Sl → Mem → Prop)] : Prop := ∃ x y, xs = [x, y] ∧ Q.v ((env.set i (some x)).set j (some y)) M
section
variable {x y : PV} {env : Sl} {M : Mem} {D : QEnds} {i j : Nat} {t : QA} {u : QS}
theorem e_sPar : sPar i j t D env M = t env M (fun xs M1 => @parP i j xs env M1 ⟨D.nx⟩) (exE D env) := rfl
theorem s_par : sSeq (sPar i j t) u D env M = sPar i j t { D with nx := u D } env M := rfl
theorem parP_2 {Q : Box (Sl → Mem → Prop)} : @parP i j [x, y] env M Q = @nxP ((env.set i (some x)).set j (some y)) M Q := propext ⟨fun ⟨_, _, h, q⟩ => by cases h; exact q, fun q => ⟨_, _, rfl, q⟩⟩
def lcI (n : Nat) (vs : List Nat) (j : Nat) (tt : QB) (te : QT) (env : Sl) (M : Mem) [Q : Box PK] : Prop := lcIQ n (fun i => (wipeQ env vs).set j (some (.int (i : Nat)))) tt te M Q.v
theorem e_lcR1I {vs : List Nat} {ta : QA} {tt : QB} {te : QT} {Q : PK} {E : EK} : qLcR1I j vs ta tt te env M Q E = ta env M (fun xs M1 => isR1 xs fun hi => (-(2 ^ 62) ≤ hi ∧ hi < 2 ^ 62) ∧ @lcI hi.toNat vs j tt te env M1 ⟨Q⟩) E := rfl
theorem lcI_of {n : Nat} {vs : List Nat} {tt : QB} {te : QT} {Q : Box PK} (h : ∀ D, M D = none → ∃ I : Nat → Mem → Prop, I 0 (mset M D (.lst [])) ∧
  (∀ i : Nat, i < n → ∀ M2, I i M2 → tt ((wipeQ env vs).set j (some (.int (i : Nat)))) M2 (fun b M3 => if b = true then te ((wipeQ env vs).set j (some (.int (i : Nat)))) M3 (fun y M4 => ∃ acc, M4 D = some (.lst acc) ∧ acc.length < sizeLine ∧ I (i + 1) (mset M4 D (.lst (acc ++ [y])))) EF else I (i + 1) M3) EF) ∧ ∀ M2, I n M2 → Q.v (.ref D) M2) : @lcI n vs j tt te env M Q := h
end
end TN

/-! The law's head: the top run in the kernel, more than once; each run is asked for some of the facts. -/
namespace TW
open PySem PySem.Spec PyProof.Rows L2
/-! ### what is looked at -/
def refsC (o : Obj) : List Addr := match o.data with
  | .cls cd => cd.ns :: cd.mro.flatMap He.refV
  | .dict es _ => es.toList.flatMap fun e => He.refV e.val
  | .func fd => He.refV fd.code ++ He.refV fd.defaults
  | _ => []
def stepC (g : Addr → Option Obj) (as : List Addr) : List Addr := as.flatMap fun a => match g a with
  | some o => refsC o
  | none => []
def asC (g : Addr → Option Obj) : List Addr := mainGlobals :: cStatics :: sysModules :: (stepC g [mainGlobals] ++ (stepC g (stepC g [mainGlobals]) ++ (stepC g (stepC g (stepC g [mainGlobals])) ++ stepC g (stepC g (stepC g (stepC g [mainGlobals]))))))
def frC (g : Addr → Option Obj) : PySem.W.Frag := He.frG g (asC g)
/-- what the end leans on -/
structure SaysC (fx : PySem.W.Frag → List Bool) (fn : List He.DefD) (K : PySem.W.Frag) : Prop where
  f : (fx K).all (fun b => b) = true
  d : (fn.all fun d => d.ok K) = true
  v : fn.map (fun d => He.fnW K d.at_) = fn.map He.DefD.val
abbrev AlC : Type := Bool × Bool × List He.FnW
def obsC (fx : PySem.W.Frag → List Bool) (fn : List He.DefD) (K : PySem.W.Frag) : AlC := ((fx K).all fun b => b, fn.all fun d => d.ok K, fn.map fun d => He.fnW K d.at_)
def valC (fn : List He.DefD) : AlC := (true, true, fn.map He.DefD.val)
def hookC (fx : PySem.W.Frag → List Bool) (fn : List He.DefD) : PySem.W.Hook where
  α := AlC
  obs := fun s => obsC fx fn (frC s.heap.get?)
  val := fun _ => valC fn
  says := fun _ h => ∃ K : PySem.W.Frag, K.In h ∧ SaysC fx fn K
  of := fun _ _ e => ⟨_, He.frG_in, ⟨congrArg (fun z : AlC => z.1) e, congrArg (fun z : AlC => z.2.1) e, congrArg (fun z : AlC => z.2.2) e⟩⟩
  keeps := fun _ _ _ ⟨K, hK, c⟩ k => ⟨K, PySem.W.Frag.In.keeps hK k, c⟩
def obC (fx : PySem.W.Frag → List Bool) (fn : List He.DefD) (s : PySem.W.SharedT) : AlC := obsC fx fn (frC (HandSHeadRun.getT s))
theorem obC_eq {fx : PySem.W.Frag → List Bool} {fn : List He.DefD} (s : PySem.W.SharedT) : obC fx fn s = (hookC fx fn).obs s.abs := by
  have e : HandSHeadRun.getT s = s.abs.heap.get? := funext fun a => HandSHeadRun.getT_eq s a
  unfold obC
  rw [e]
  rfl
theorem SaysC.fact {fx : PySem.W.Frag → List Bool} {fn : List He.DefD} {K : PySem.W.Frag} (c : SaysC fx fn K) (i : Nat) {b : Bool} (h : (fx K)[i]? = some b) : b = true := List.all_eq_true.mp c.f b (List.mem_of_getElem? h)
theorem SaysC.dec {fx : PySem.W.Frag → List Bool} {fn : List He.DefD} {K : PySem.W.Frag} (c : SaysC fx fn K) (i : Nat) {p : Prop} [Decidable p] (h : (fx K)[i]? = some (decide p)) : p := of_decide_eq_true (c.fact i h)
theorem SaysC.def_ {fx : PySem.W.Frag → List Bool} {fn : List He.DefD} {K : PySem.W.Frag} (c : SaysC fx fn K) (i : Nat) {d : He.DefD} (h : fn[i]? = some d) : ∃ fd, FunD K d.name d.qual d.params d.body d.scope (d.dvs K) (d.kws K) (He.fAd K d.at_) fd := by
  have e2 : (fn.map fun d => He.fnW K d.at_)[i]? = (fn.map He.DefD.val)[i]? := by rw [c.v]
  rw [List.getElem?_map, List.getElem?_map, h] at e2
  exact He.DefD.funD (Option.some.inj e2) (List.all_eq_true.mp c.d d (List.mem_of_getElem? h))
/-! ### the runs -/
section
open PySem.W PySem.Calls HandSHeadRun
/-- the state behind the top -/
noncomputable abbrev endC (p : Program) (M : Nat) (w : World) (os : OsState) : Option SharedT := endF (stepQ (denQ tabQ) p w) M p w os
/-- some of the facts at one run -/
def Asks {α : Type} (p : Program) (M : Nat) (f : SharedT → α) (v : α) (w : World) : Prop := ∀ os : OsState, (endC p M w os).map f = some v
theorem Asks.at_ {α : Type} {p : Program} {M : Nat} {f : SharedT → α} {v : α} {w : World} (h : Asks p M f v w) {os : OsState} {s : SharedT} (e : endC p M w os = some s) : f s = v := by
  have z := h os
  rw [e] at z
  exact Option.some.inj z
theorem run_of {r : OpenRow} {q : Program} {M : Nat} {loose : List PySem.Str} {w : World} {fx : PySem.W.Frag → List Bool} {fn : List He.DefD}
    (h1 : Asks r.prog M (fun s => looksF r.prog (boot_heap w.params) s.abs) true w)
    (h2 : Asks r.prog M (fun s => seenQ q loose (importedModules r.prog.main.body) (fun s => xlAt q [] s && recOk r.toRowW.records s) s.abs) (openGood q loose) w)
    (h3 : ∀ (os : OsState) (s : SharedT), endC r.prog M w os = some s → SaysC fx fn (frC (getT s))) : RunEq r q (hookC fx fn) (obC fx fn) M loose w := fun os => by
  have z := h1 os
  cases e : endC r.prog M w os with
  | none => rw [e] at z; cases z
  | some s =>
    have e' : endF (stepQ (denQ tabQ) r.prog w) M r.prog w os = some s := e
    rw [e']
    have c := h3 os s e
    have e3 : obC fx fn s = valC fn := by
      show ((fx (frC (getT s))).all (fun b => b), (fn.all fun d => d.ok (frC (getT s))), fn.map fun d => He.fnW (frC (getT s)) d.at_) = (true, true, fn.map He.DefD.val)
      rw [c.f, c.d, c.v]
    show some (looksF r.prog (boot_heap w.params) s.abs, _, obC fx fn s) = some (true, openGood q loose, valC fn)
    rw [h1.at_ e, h2.at_ e, e3]
end
/-! ### a law's end -/
theorem walk_ofC {l : PySem.W.OpenLaw} {n k : Nat} {q : Program} {loose : List Str} {XP : (Str → Option Value) → Heap → Prop} {YP : World → Heap → Prop} {d : DefRec} {CX : World → CXT} {x : Str}
    (hn : l.most = some n) (hn2 : n ≤ sizeLine) (hdf : d.params.defaults = []) (hr : Room k callerA)
    (F : ∀ (w : World) (mg : Str → Option Value) (fa : Addr) (h : Heap), YP w h → h.Ns mainGlobals mg → mg d.name = some (.ref fa) →
      ∃ (K : PySem.W.Frag) (fd : FuncData) (sp : Sp), K.In h ∧ (∀ (s : Shared) (u : Value), BindsTo s fd ⟨[u], []⟩ [(x, u)]) ∧
        (∀ (H : Hp) (a : Addr) (ns : List Int), ns.length ≤ n → Only H → SqL K H a (ns.map V.int) → sp [.ref a] H (fun v _ => v = .bl true) fun _ _ _ => False) ∧
        ∀ base : Heap, K.In base → base.Ns mainGlobals mg → FnOk l.prog w K mg base (CX w) k fa fd [x] sp)
    (hCX : ∀ (w : World) (H : Hp) (s : Shared) (e : Value) (s' : Shared), CX w [] H s (fun _ _ _ => False) e s' → False) :
    PySem.W.WalkO q loose XP YP l.row.toRowW d [] (fun f vs => PySem.call f vs) := by
  refine Att.attach_call hn hdf fun w s₀ s₁ mg mb fa o pm cd doc a vs ns G Y ho hd hcd hmg hobj hints hlen hg => ?_
  obtain ⟨K, fd, sp, KX, hb, hsp, hF⟩ := F w mg fa _ Y G.T.g hmg
  exact law_call KX G.T.g G.T.b G.T.builtins G.T.nolimit hg hobj hints (Nat.le_trans hlen hn2) hr hF hb (fun H hO hS => hsp H a ns hlen hO hS) fun H e s' => hCX w H s₁ e s'
end TW

/-! an own error with a field of its own, whose __init__ calls its base's by name -/
namespace PySem
namespace TrapX
open PySem.W PySem.Calls PyProof.Rows PySem.HandSPX
/-! ### the text of __init__ -/
def iA (p1 p2 : Pos) : Arguments := { posonlyargs := [], args := [{ arg := "self", annotation := none, pos := p1 }, { arg := "signal", annotation := none, pos := p2 }], vararg := none, kwonlyargs := [], kw_defaults := [], kwarg := none, defaults := [] }
def iB (n1 n2 n3 n4 n5 n6 q1 q2 q3 q4 : Pos) : List Stmt := [.Expr (.Call (.Attribute (.Name "ReckonError" n1) "__init__" n2) [.Name "self" n3, .Name "signal" n4] [] n5) n6, .Assign [.Attribute (.Name "self" q1) "signal" q2] (.Name "signal" q3) q4]
def iS : Scope := { kind := .function, names := [(PySem.Str.ofString "self", .local), (PySem.Str.ofString "signal", .local), (PySem.Str.ofString "ReckonError", .globalImplicit)], isGenerator := false, isCoroutine := false, more := [] }
/-- what the written part says of Trapped, at C, of its __init__, at fI, and of its base, at B -/
structure TrapTxt (K : Frag) (mg : Str → Option Value) (C fI B : Addr) : Prop where
  gC : mg "Trapped" = some (.ref C)
  gB : mg "ReckonError" = some (.ref B)
  cls : ∃ nm q N bs bm sn sub ab col dd k0 k1 k2 k3 k5, K.lookup C = some (excClassObj nm q C N bs bm true sn sub ab col dd k0 k1 k2 k3 k5 "ValueError.__new__") ∧ refsVE bm = true
  sa : findIn K (.ref C) "__setattr__" = some (some (.builtin "object.__setattr__"))
  ga : findIn K (.ref C) "__getattribute__" = some (some (.builtin "BaseException.__getattribute__"))
  gg : findIn K (.ref C) "__getattr__" = some none
  noN : findIn K (.ref C) "signal" = some none
  iC : findIn K (.ref C) "__init__" = some (some (.ref fI))
  tC : typeIn K (.ref fI) = some (.type "function")
  kC : keepIn K (.ref C) = true
  exC : subIn K (.ref C) (.type "BaseException") = some true
  tyC : typeIn K (.ref C) = some (.type "type")
  hdC : hasDictIn K C = true
  gaB : specialIn K (.ref B) "__getattribute__" = some (some (.builtin "type.__getattribute__"))
  rdB : readsIn K B (.type "type") = true
  inB : findCls K (.ref B) (.type "type") "__init__" = some (.val (.builtin "ValueError.__init__"))
  fn : ∃ (oc : Value) (od : Option Addr) (kV doc pm : Value) (an : Option Addr) (cdv ct : Value) (osl : Array (Option Value)) (p1 p2 n1 n2 n3 n4 n5 n6 q1 q2 q3 q4 : Pos),
    K.lookup fI = some ⟨oc, od, .func (fnOf "__init__" "Trapped.__init__" (iA p1 p2) (iB n1 n2 n3 n4 n5 n6 q1 q2 q3 q4) iS .none kV doc pm an cdv ct), osl⟩ ∧ codeIn K cdv "Trapped.__init__" = true ∧ (n2.endLine == n5.line) = true
/-- an own error class, its chain of own classes ahead of ValueError's -/
def excOwnB (K : Frag) (C : Addr) : Bool := match K.lookup C with
  | some ⟨.type "type", _, .cls cd, sl⟩ => (match cd.mro, sl.toList with
    | .ref C' :: bm, [_, _, _, _, some (.builtin n), _] => C' == C && n == "ValueError.__new__" && !cd.hasDel && cd.hasDict && refsVE bm
    | _, _ => false)
  | _ => false
theorem excOwnB_ok {K : Frag} {C : Addr} (h : excOwnB K C = true) : ∃ nm q N bs bm sn sub ab col dd k0 k1 k2 k3 k5, K.lookup C = some (excClassObj nm q C N bs bm true sn sub ab col dd k0 k1 k2 k3 k5 "ValueError.__new__") ∧ refsVE bm = true := by
  unfold excOwnB at h
  split at h
  · rename_i dd cd sl ho
    split at h
    · rename_i C' bm k0 k1 k2 k3 n k5 hm hs
      simp only [Bool.and_eq_true, beq_iff_eq, Bool.not_eq_true'] at h
      obtain ⟨⟨⟨⟨rfl, rfl⟩, hdel⟩, hdi⟩, hr⟩ := h
      obtain ⟨nm, bs, mro, ns, qn, hd, sn, sub, ab, col, del⟩ := cd
      dsimp only at hm hdel hdi
      subst hm hdel hdi
      have hsl : sl = #[k0, k1, k2, k3, some (.builtin "ValueError.__new__"), k5] := by
        obtain ⟨l⟩ := sl
        simp only at hs
        rw [hs]
      subst hsl
      exact ⟨nm, qn, ns, bs, bm, sn, sub, ab, col, dd, k0, k1, k2, k3, k5, ho, hr⟩
    · cases h
  · cases h
theorem one_size (v : Value) : [v].length ≤ sizeLine := by
  rw [sizeLine_eq]
  exact (by decide : 1 ≤ 16777216)
theorem kept_but {K : Frag} {h h' : Heap} {x : Addr} (X : K.In h) (hx : K.lookup x = none) (k : ∀ b o, b ≠ x → h.get? b = some o → h'.get? b = some o) : K.In h' := fun a o e =>
  k a o (fun z => by rw [z, hx] at e; cases e) (X a o e)
theorem ns_but {h h' : Heap} {x L : Addr} {m : Str → Option Value} (hn : h.Ns L m) (hne : L ≠ x) (k : ∀ b o, b ≠ x → h.get? b = some o → h'.get? b = some o) : h'.Ns L m := by
  obtain ⟨o, es, ep, ho, rest⟩ := hn
  exact ⟨o, es, ep, k _ _ hne ho, rest⟩
theorem ldC {M : Model} {s : Shared} {name : Str} {scope : Scope} {L a : Addr} {cd : Value} {m : Str → Option Value} {x : Str} {pos : Pos} {v : Value} {Q : Value → Shared → Prop} {A : Around} {E : Value → Shared → Prop} (hn : s.heap.Ns L m) (hv : m x = some v) (h : Q v s)
    (hk : scope.kind = .function := by rfl) (hl : (envOfC name scope L a cd).kindOf x = some .local := by rfl) (hd : (x == ("__debug__" : Str)) = false := by decide) :
    wpAny M A (eval (.Name x pos) (envOfC name scope L a cd)) Q E s := wpAny_Name (wpAny_loadName_local hk hl hn hv h) hd
theorem ldGC {M : Model} {s : Shared} {name : Str} {scope : Scope} {L a : Addr} {cd : Value} {mg : Str → Option Value} {x : Str} {pos : Pos} {v : Value} {Q : Value → Shared → Prop} {A : Around} {E : Value → Shared → Prop} (hn : s.heap.Ns mainGlobals mg) (hv : mg x = some v) (h : Q v s)
    (hk : scope.kind = .function := by rfl) (hl : (envOfC name scope L a cd).kindOf x = some .globalImplicit := by rfl) (hd : (x == ("__debug__" : Str)) = false := by decide) :
    wpAny M A (eval (.Name x pos) (envOfC name scope L a cd)) Q E s := Calls.Name_function_global hk hl (Calls.loadGlobal_global (env := envOfC name scope L a cd) hn hv h) hd
theorem he_of {o : Expr} {m : Str} {apos pos : Pos} {env : Env} {args : List Expr} (hf : methodCallForm (args.length + ([] : List Keyword).length) (backTo pos (starEach args env)) (backToKw pos (keywordEach [] env)) = true) (hl : (apos.endLine == pos.line) = true) (hb : attributeBase o m env (eval o env) = eval o env) :
    eval (.Call (.Attribute o m apos) args [] pos) env = (do
      let ov ← eval o env
      standAt apos.atName
      let (f, first) ← holding [ov] (getMethod ov m (L2.plainOf o env))
      callWith pos f first (backTo pos (starEach args env)) (backToKw pos (keywordEach [] env))) := by
  have e1 : eval (.Call (.Attribute o m apos) args [] pos) env = (do
      let ov ← attributeBase o m env (eval o env)
      standAt apos.atName
      methodCall o m apos pos env ov (args.length + ([] : List Keyword).length) (backTo pos (starEach args env)) (backToKw pos (keywordEach [] env))) := rfl
  rw [e1, hb]
  simp only [L2.mcall_line hf hl]
/-- a made one -/
structure OwnMade (h h' : Heap) (e C d : Addr) (v : Value) : Prop where
  keep : ∀ b o, h.get? b = some o → h'.get? b = some o
  new : h.objs.size ≤ e
  obj : ∃ oe vs, h'.get? e = some oe ∧ oe.cls = .ref C ∧ oe.dict = some d ∧ oe.data = .fields vs ∧ vs[1]? = some .none ∧ vs[2]? = some .none
  dbig : h.objs.size ≤ d
  dne : d ≠ e
  ns : h'.Ns1 d (fun y => if y = "signal" then some v else none)
/-- what __init__ leaves of a fresh exception at x -/
structure InitEnd (h h' : Heap) (x C dx t1 : Addr) (v : Value) : Prop where
  keep : ∀ b o, b ≠ x → h.get? b = some o → h'.get? b = some o
  obj : h'.get? x = some { cls := .ref C, dict := some dx, data := .fields #[.ref t1, .none, .none, .none, .bool false, .none] }
  dbig : h.objs.size ≤ dx
  dne : dx ≠ x
  ns : h'.Ns1 dx (fun y => if y = "signal" then some v else none)
section
variable {prog : Program} {w : World} {A : Around} {E : Value → Shared → Prop} {R : Result → Shared → Prop} {s : Shared} {K : Frag} {mg : Str → Option Value} {C fI B : Addr}
theorem trap_init (T : TrapTxt K mg C fI B) {x t0 : Addr} {v : Value} (X : K.In s.heap) (G : s.heap.Ns mainGlobals mg) (hlim : s.heap.NoLimit) (hx : s.heap.get? x = some (excO C t0)) (hnx : K.lookup x = none) (hroom : A.depth < recursionLimit)
    (hq : ∀ h' tk dx t1, InitEnd s.heap h' x C dx t1 v → R (.ok (.ret .none)) { s with heap := h', toks := tk }) :
    codeAny (model prog w) A (.call (.ref fI) ⟨[.ref x, v], []⟩) R s := by
  obtain ⟨oc, od, kV, doc, pm, an, cdv, ct, osl, p1, p2, n1, n2, n3, n4, n5, n6, q1, q2, q3, q4, ho, hcd, hln⟩ := T.fn
  obtain ⟨nm, q, N, bs, bm, sn, sub, ab, col, dd, k0, k1, k2, k3, k5, hC, hbm⟩ := T.cls
  have hcl : clsIn K C = some { name := nm, bases := bs, mro := .ref C :: bm, ns := N, qualname := q, hasDict := true, slotNames := sn, subclasses := sub, abstract := ab, collection := col, hasDel := false } := by unfold clsIn; rw [hC] <;> rfl
  refine Att.call_fn (binds := [("self", .ref x), ("signal", v)]) X hlim ho hcd hroom (BindsTo.of_eq (by first | rfl | with_unfolding_all rfl)) (by first | rfl | decide | with_unfolding_all rfl) (fun s₁ IC => ?_) rfl rfl rfl
  obtain ⟨h₁, tk₁, rfl⟩ := IC.toInCall.same
  have k : ∀ b o, s.heap.get? b = some o → h₁.get? b = some o := IC.toInCall.keep
  have hn := IC.toInCall.ns
  have hxL : s.heap.objs.size ≠ x := Nat.ne_of_gt (Heap.lt_size hx)
  have X₁ : K.In h₁ := X.keeps k
  have G₁ : h₁.Ns mainGlobals mg := G.keeps k
  have hx₁ := k _ _ hx
  have z : s.heap.objs.size < h₁.objs.size := hn.lt
  show wpAny _ _ (execs _ _) _ _ _
  refine wpAny_execs_cons (wpAny_Expr_any ?_)
  refine methodCall_KW ?_ (he_of (by rfl) hln (by rfl))
  refine ldGC G₁ T.gB ?_
  refine method_cls X₁ T.gaB ?_
  refine cls_value X₁ T.rdB T.inB (by rfl) ?_
  refine PyProof.Rows.callWith_builtin1 (e := .Name "self" n3) (rest := [.Name "signal" n4]) ?_
  refine Calls.spliced_cons ?_
  refine ldC (v := .ref x) hn (by first | rfl | with_unfolding_all rfl | kernel_rfl) ?_
  refine Calls.spliced_cons ?_
  refine ldC (v := v) hn (by first | rfl | with_unfolding_all rfl | kernel_rfl) ?_
  refine Calls.spliced_nil ?_
  have EF := F.excBase_ValueError
  refine wpAny_call (codeAny_call_builtin EF.init.plain EF.initEntry (check_init_own EF (fun X => refsVE_contains X bm hbm) (X₁ _ _ hC) hx₁ rfl ?_))
  refine exc_init_tree (cls := .ref C) (t0 := t0) (dv := none) (c2 := .none) (c3 := .none) (b4 := .bool false) hx₁ (one_size v) fun h₂ k₂ e₂ t₂ => ?_
  have hn₂ := ns_but hn hxL k₂
  have X₂ : K.In h₂ := kept_but X₁ hnx k₂
  show wpAny _ _ (execs _ _) _ _ _
  refine wpAny_execs_cons (plainObj_wpAny_Assign_Attribute ?_)
  refine ldC (v := v) hn₂ (by first | rfl | with_unfolding_all rfl | kernel_rfl) (ldC (v := .ref x) hn₂ (by first | rfl | with_unfolding_all rfl | kernel_rfl) ?_)
  refine set_plain X₂ (ox := excO C h₁.objs.size) (od := none) ⟨e₂, rfl, rfl, trivial⟩ T.sa ?_
  refine exc_osa X₂ e₂ hcl (show refsVE (.ref C :: bm) = true from hbm) rfl T.noN (fun h₃ tk₃ dx k₃ dn dne hx₃ hn₃ => ?_)
  show wpAny _ _ (execs _ _) _ _ _
  have sz : h₁.objs.size < h₂.objs.size := Heap.lt_size t₂
  have dn' : h₂.objs.size ≤ dx := dn
  exact wpAny_execs_nil (hq h₃ tk₃ dx _ ⟨fun b o hb e => k₃ b o hb (k₂ b o hb (k b o e)), hx₃, by omega, dne, hn₃⟩)
theorem trap_made (T : TrapTxt K mg C fI B) {v : Value} (X : K.In s.heap) (G : s.heap.Ns mainGlobals mg) (hlim : s.heap.NoLimit) (hroom : A.depth + 1 < recursionLimit)
    (hq : ∀ h' tk e d, OwnMade s.heap h' e C d v → R (.ok (.ret (.ref e))) { s with heap := h', toks := tk }) :
    codeAny (model prog w) A (.call (.ref C) ⟨[v], []⟩) R s := by
  obtain ⟨nm, q, N, bs, bm, sn, sub, ab, col, dd, k0, k1, k2, k3, k5, hC, hbm⟩ := T.cls
  obtain ⟨hp, g, dr, tk, os⟩ := s
  have k : ∀ b o, hp.get? b = some o → ((hp.push (kdv_tup [v])).push (excO C hp.objs.size)).get? b = some o := fun b o e => Heap.get?_push_of_some _ (Heap.get?_push_of_some _ e)
  have hget : ((hp.push (kdv_tup [v])).push (excO C hp.objs.size)).get? (hp.objs.size + 1) = some (excO C hp.objs.size) := by heap_get
  have hnx : K.lookup (hp.objs.size + 1) = none := by
    cases e : K.lookup (hp.objs.size + 1) with
    | none => rfl
    | some o =>
      have z : hp.get? (hp.objs.size + 1) = some o := X _ _ e
      exact absurd (Nat.lt_of_succ_lt (Heap.lt_size z)) (Nat.lt_irrefl _)
  refine call_own F.excBase_ValueError (fun X => refsVE_contains X bm hbm) (X _ _ hC) (looks_findIn X T.iC) (fun self => bind_fn X self T.tC) (one_size v) ?_
  refine trap_init (s := ⟨(hp.push (kdv_tup [v])).push (excO C hp.objs.size), g, dr, tk, os⟩) T (X.keeps k) (G.keeps k) (hlim.keeps k) hget hnx ?_ fun h' tk' dx t1 ⟨k', hx, dn, dne, hns⟩ => ?_
  · show A.depth + 1 < recursionLimit
    exact hroom
  · have old : ∀ b o, hp.get? b = some o → h'.get? b = some o := fun b o e => k' b o (Nat.ne_of_lt (Nat.lt_succ_of_lt (Heap.lt_size e))) (k b o e)
    have z : hp.objs.size + 1 + 1 ≤ dx := by
      first
        | (simpa only [Heap.size_push] using dn)
        | exact dn
        | (have q := dn; rw [Heap.size_push, Heap.size_push] at q; exact q)
    exact ⟨rfl, hq h' tk' (hp.objs.size + 1) dx ⟨old, Nat.le_succ _, ⟨_, _, hx, rfl, rfl, rfl, rfl, rfl⟩, Nat.le_trans (Nat.le_trans (Nat.le_succ _) (Nat.le_succ _)) z, dne, hns⟩⟩
end
end TrapX
end PySem
namespace TQ
open PySem PySem.Spec PyProof.Rows L2
theorem relO_sig {v : V} {v' : Value} (r : RelV v v') (f : Str) : RelO (List.lookup f [(("signal" : Str), v)]) (if f = "signal" then some v' else none) := by
  by_cases hw : f = "signal"
  · subst hw
    rw [if_pos rfl]
    have q : List.lookup ("signal" : Str) [(("signal" : Str), v)] = some v := by simp [List.lookup]
    rw [q]
    exact r
  · rw [if_neg hw]
    have qw : (f == ("signal" : Str)) = false := by simpa using hw
    have q2 : List.lookup f [(("signal" : Str), v)] = none := by simp [List.lookup, qw]
    rw [q2]
    trivial
section
variable {X : Cx} {C fI B : Addr}
/-- Trapped(e) -/
def tMkTrap (C : Addr) (ta : TA) : L2.St → Hp → XK → Prop := fun σ H Q => ta σ H fun vs H1 => ∃ v, vs = [v] ∧ ∀ d, H1 d = none → Q (.ref C) (some d) (upd H1 d (.xd [(("signal" : Str), v)]))
theorem pmk_trap {a : Expr} {ta : TA} {p pos : Pos} {k : Nat} (T : PySem.TrapX.TrapTxt X.K X.mg C fI B) (hr : L2H.RoomH k X.A) (ha : PA X [a] ta) (hg : Gl X "Trapped" := by rfl)
    (he : starEach (a :: []) X.env = (false, eval a X.env) :: starEach [] X.env := by rfl) (hpl : (backTo pos (starEach [] X.env)).any (·.1) = false := by rfl) :
    L2N.PMk X (.Call (.Name "Trapped" p) [a] [] pos) (tMkTrap C ta) := by
  intro pins s σ H Q I h
  refine wpAny_Call_Name_kw (ld_glob I hg T.gC ?_)
  refine PySem.W.callWith_K (h₀ := X.base) I.ok.mod.kin T.kC (thn (ha.run pos pins s σ H _ I h) fun us s1 hh => ?_) he hpl
  obtain ⟨vs, H1, I1, r1, v, ev, q1⟩ := hh
  subst ev
  refine ⟨I1.kIn, ?_⟩
  cases r1 with
  | cons rv rn =>
    rename_i v' us'
    cases rn
    show wpAny _ _ (call (.ref C) [v']) _ _ _
    have hlim := I1.nolimit
    have hG : s1.heap.Ns mainGlobals X.mg := I1.mod.glob.keeps I1.bk
    obtain ⟨hp, g, dr, tk, os⟩ := s1
    refine wpAny_call (PySem.TrapX.trap_made T I1.kIn hG hlim (by have := hr.dp; omega) fun h' tk' e d M => ?_)
    show L2N.MkP X pins σ Q (.ref e) ⟨h', g, dr, tk', os⟩
    obtain ⟨oe, fv, hoe, hc, hd, hdat, h1, h2⟩ := M.obj
    have hns := M.ns
    obtain ⟨G', g1, g2⟩ := restrict h' fun b => decide (b ≠ e)
    have gk : ∀ b, b ≠ e → G'.get? b = h'.get? b := fun b hb => g1 b (decide_eq_true hb)
    have ge : G'.get? e = none := g2 e (by simp)
    have old : ∀ b o, hp.get? b = some o → G'.get? b = some o := fun b o q => (gk b (Nat.ne_of_lt (Nat.lt_of_lt_of_le (Heap.lt_size q) M.new))).trans (M.keep b o q)
    have ob : ObjOk X.prog X.w (upd H1 d (.xd [(("signal" : Str), v)])) G' d (.xd [(("signal" : Str), v)]) :=
      ⟨_, hns.at (fun o q => (gk d M.dne).trans q), fun f => relO_sig rv f⟩
    have J : Inv X pins σ (upd H1 d (.xd [(("signal" : Str), v)])) ⟨G', g, dr, tk', os⟩ := I1.laid (t' := tk') old M.dbig ob
    refine ⟨e, oe, fv, ⟨G', g, dr, tk', os⟩, _, .ref C, some d, rfl, J, fun b o q => ?_, ge, hoe, ⟨hc, hd, fun vs e => by rw [hdat] at e; cases e; exact h2⟩, hdat, h1, ?_, rfl, I1.bare, raises_own T.exC T.tyC, q1 d (I1.hok.fresh M.dbig)⟩
    · by_cases hb : b = e
      · have q' : G'.get? b = some o := q
        rw [hb, ge] at q'; cases q'
      · exact (gk b hb).symm.trans q
    · rw [upd_ne (Ne.symm M.dne)]
      exact I1.hok.fresh M.new
theorem qs_trapK {e : Expr} {C : Addr} {t : QA} {W : WX} {pos : Pos} {h : Bool} (cw : CoolW h X W) (tk : L2N.Takes X W) (he : L2N.PMk X e (tMkTrap C (tieA X.K W t))) : PS X (.Raise (some e) none pos) (fun _ σ H => tMkTrap C (tieA X.K W t) σ H fun cls d H' => W cls d σ H') :=
  ps_raiseX cw tk he fun σ H Q Q' f ⟨env, M, G, Q0, E0, S, q, L, LE⟩ => ⟨env, M, G, Q0, E0, S, q, fun xs M' vs H' G' e w r z => by
    obtain ⟨v, ev, z⟩ := L xs M' vs H' G' e w r z
    exact ⟨v, ev, fun d hd => f _ _ _ (z d hd)⟩, LE⟩
/-- raise Trapped(e) -/
def sTrap (C : Addr) (t : QA) : QS := fun D env M => t env M (fun xs M1 => ∃ x, xs = [x] ∧ D.ex (.ref C) (some x) env M1) (exE D env)
theorem qs_trap {a : Expr} {t : QA} {W : WX} {p pos pos2 : Pos} {h : Bool} {k : Nat} (cw : CoolW h X W) (T : PySem.TrapX.TrapTxt X.K X.mg C fI B) (hr : L2H.RoomH k X.A) (tk : L2N.Takes X W) (ha : QPA X W [a] t) (hg : Gl X "Trapped" := by rfl)
    (he : starEach (a :: []) X.env = (false, eval a X.env) :: starEach [] X.env := by rfl) (hpl : (backTo pos (starEach [] X.env)).any (·.1) = false := by rfl) :
    QPS X W (.Raise (some (.Call (.Name "Trapped" p) [a] [] pos)) none pos2) (sTrap C t) :=
  (qs_trapK cw tk (pmk_trap T hr ha hg he hpl)).imp fun D σ H ⟨env, M, G, D0, S, q, L⟩ => by
    refine ⟨env, M, G, _, _, S, q, fun xs M1 vs H1 G1 e1 w1 r1 q1 => ?_, liftX_E S.env L.ex⟩
    obtain ⟨x, rfl, q1⟩ := q1
    obtain ⟨v, rfl, rv⟩ := reps1 r1
    refine ⟨v, rfl, fun d hd => ?_⟩
    have hG := Ext.new (o := HO.xd [(("signal" : Str), v)]) (w1.free hd)
    exact L.ex (.ref C) (some x) env M1 (some d) σ _ _ (e1.trans hG) ⟨S.env.mono (e1.trans hG), w1.newG hd⟩ ⟨d, v, rfl, upd_same, Rep.mono hG _ _ rv⟩ q1
/-! ### try: .. except C as n: .., where only instances of D come -/
def sTryAs (K : PySem.W.Frag) (D : Addr) (i : Nat) (c : Value) (tb : QS) (ts : Addr → Addr → QS) : QS := fun De env M =>
  tb { De with ex := fun cls pl env' M' => ∃ b, PySem.W.exmOne K cls c = some b ∧
    (b = true → cls = .ref D ∧ ∃ x, pl = some x ∧ ∀ a d, M' a = none → ts a d { nx := fun e m => De.nx (e.set i none) m, rt := De.rt, bk := fun e m => De.bk (e.set i none) m, ct := fun e m => De.ct (e.set i none) m } (env'.set i (some (.exc a d x))) M') ∧
    (b = false → De.ex cls pl env' M') } env M
theorem Sim.unset {K : PySem.W.Frag} {env : Sl} {M : Mem} {G : Hp} {σ : L2.St} {H : Hp} (i : Nat) (S : Sim K env M G σ H) : Sim K (env.set i none) M G (σ.set i none) H := by
  refine ⟨⟨by simp [S.env.len], fun j x e => ?_⟩, S.wf⟩
  by_cases hj : i = j
  · subst hj
    rw [List.getElem?_set] at e
    rw [if_pos rfl] at e
    split at e <;> cases e
  · rw [List.getElem?_set_ne hj] at e ⊢
    exact S.env.get j x e
theorem qs_tryAs {x n : Str} {c : Value} {i : Nat} {body suite : List Stmt} {b₀ : Stmt} {np pos pos' : Pos} {tb : QS} {ts : Addr → Addr → QS} {W : WX} {D : Addr} (hs : X.stack = X.env :: X.outer) (hf : X.env.frame = some X.env.locals) (hN : X.N.Nodup) (hi : X.N[i]? = some n) (hln : X.env.kindOf n = some .local) (hc : Names X x c) (tk : L2N.Takes X W)
    (hb : ∀ (W : WX) (pn : List (Addr × Obj)) (xe : Value → Shared → Prop), L2N.Takes (X.tr pn xe) W → PassesOwn (model X.prog X.w) X.A X.env xe → QPSs (X.tr pn xe) W body tb)
    (hsu : ∀ (a : Addr) (oe : Obj) (d : Addr) (pn : List (Addr × Obj)), L2N.Zn (.ref D) (some d) oe → (∃ vs, oe.data = .fields vs) → QPSs (X.suite a ((a, oe) :: pn)) W0 (b₀ :: suite) (ts a d)) :
    QPS X W (.Try body [.ExceptHandler (some (.Name x np)) (some n) (b₀ :: suite) pos'] [] [] pos) (sTryAs X.K D i c tb ts) :=
  (L2N.ps_try_as (tb := fun W => tieS X.K W tb) (ts := fun a cls d => fun De σ H => cls = .ref D ∧ ∃ dd, d = some dd ∧ tieS X.K W0 (ts a dd) De σ H) hs hf hN hi hln hc tk (fun W pn xe tk po => hb W pn xe tk po) (fun a oe cls d pn hz hv => by
    by_cases h1 : cls = .ref D
    · subst h1
      cases d with
      | none => exact ⟨fun pins s σ H De I ⟨_, dd, e, _⟩ => nomatch e⟩
      | some dd => exact (hsu a oe dd pn hz hv).imp fun De σ H ⟨_, dd', e, h⟩ => by cases e; exact h
    · exact ⟨fun pins s σ H De I ⟨e, _⟩ => absurd e h1⟩)).imp fun De σ H ⟨env, M, G, D0, S, q, L⟩ => by
    refine ⟨env, M, G, _, S, q, ⟨L.nx, L.rt, L.bk, L.ct, fun cls pl env' M' d σ' H' G' e1 S1 xr q1 => ?_⟩⟩
    obtain ⟨b, hb1, h1, h2⟩ := q1
    refine ⟨b, hb1, fun hb2 a ha => ?_, fun hb2 => L.ex cls pl env' M' d σ' H' G' e1 S1 xr (h2 hb2)⟩
    obtain ⟨hcls, x, rfl, h3⟩ := h1 hb2
    obtain ⟨dd, v, rfl, hg, rv⟩ := xr
    refine ⟨hcls, dd, rfl, _, M', G', _, S1.set (i := i) (x := .exc a dd x) (v := .ref a) ⟨rfl, v, hg, rv⟩, h3 a dd (S1.wf.freeM ha), ⟨?_, L.rt.mono e1, ?_, ?_, fun _ _ _ _ _ _ _ _ _ _ _ z => z.elim⟩⟩
    · exact fun env2 M2 σ2 H2 G2 e2 S2 q2 => L.nx _ M2 _ H2 G2 (e1.trans e2) (S2.unset i) q2
    · exact fun env2 M2 σ2 H2 G2 e2 S2 q2 => L.bk _ M2 _ H2 G2 (e1.trans e2) (S2.unset i) q2
    · exact fun env2 M2 σ2 H2 G2 e2 S2 q2 => L.ct _ M2 _ H2 G2 (e1.trans e2) (S2.unset i) q2
/-- e.signal, e the error that the suite holds -/
def qSig (a d : Addr) (te : QT) : QT := fun env M Q E => te env M (fun x M1 => ∃ y, x = .exc a d y ∧ Q y M1) E
theorem qe_sig {a d : Addr} {oe : Obj} {pn : List (Addr × Obj)} {e : Expr} {te : QT} {pos : Pos} {W : WX} (T : PySem.TrapX.TrapTxt X.K X.mg C fI B) (hz : L2N.Zn (.ref C) (some d) oe) (hf : ∃ vs, oe.data = .fields vs) (he : QE (X.suite a ((a, oe) :: pn)) W e te)
    (hb : attributeBase e "signal" X.env (eval e X.env) = eval e X.env := by rfl) :
    QE (X.suite a ((a, oe) :: pn)) W (.Attribute e "signal" pos) (qSig a d te) := by
  refine ⟨fun pins s σ H Q I ⟨env, M, G, Q0, E0, S, q, L, LE⟩ => ?_⟩
  refine attr_of hb (thn (he.run pins s σ H (fun v H1 => ∃ G1 M1 y u, Ext G G1 ∧ Wf X.K M1 H1 G1 ∧ v = .ref a ∧ G1 d = some (.xd [(("signal" : Str), u)]) ∧ Rep X.K G1 y u ∧ Q0 y M1) I ⟨env, M, G, _, E0, S, q, fun x M1 v H1 G1 e1 w1 r1 q1 => ?_, LE⟩) fun u s1 hh => ?_)
  · obtain ⟨y, rfl, q1⟩ := q1
    obtain ⟨rfl, u, hg, ru⟩ := r1
    exact ⟨G1, M1, y, u, e1, w1, rfl, hg, ru, q1⟩
  · obtain ⟨x, H1, I1, rx, G1, M1, y, v, e1, w1, rfl, hg, ry, q1⟩ := hh
    obtain rfl : u = Value.ref a := rx
    have ea := w1.sub _ _ hg
    obtain ⟨ha, _⟩ := I1.pin (a, oe) (List.mem_append_left _ List.mem_cons_self)
    obtain ⟨vs, hd⟩ := hf
    have hx : ObjOk X.prog X.w H1 s1.heap d (.xd [(("signal" : Str), v)]) := I1.hok d _ ea
    obtain ⟨mA, hns, hr⟩ := hx
    obtain ⟨od, ho, hl⟩ := lookIn_ns hns
    have l : List.lookup ("signal" : Str) [(("signal" : Str), v)] = some v := by simp [List.lookup]
    obtain ⟨u, hu, ru⟩ := RelO.some_of (v := v) (o := mA "signal") (by rw [← l]; exact hr "signal")
    have J : PySem.W.InstAt s1.heap a oe C (some od) := ⟨ha, hz.1, by unfold PySem.W.notCls; rw [hd] <;> rfl, by rw [hz.2.1]; exact ho⟩
    exact HandSPX.exc_get I1.kIn J T.ga T.gg T.exC (PySem.W.findObj_own T.hdC T.noN rfl (by rw [hl, hu])) (handed_of ru) ⟨v, H1, I1.tok _, ru, L y M1 v H1 G1 e1 w1 ry q1⟩
/-- isinstance(e, c), e the error that the suite holds -/
def cIsE (K : PySem.W.Frag) (D a d : Addr) : FC := fun xs M Q => ∃ y c u b, xs = [.exc a d y, c] ∧ clsP c = some u ∧ PySem.W.kitOne K (.ref D) u = some b ∧ Q (.bl b) M
theorem cq_isE {a d D : Addr} {oe : Obj} {pn : List (Addr × Obj)} (Z : ExcC X.K D) (hz : L2N.Zn (.ref D) (some d) oe) (hf : ∃ vs, oe.data = .fields vs) : CallQ (X.suite a ((a, oe) :: pn)) (.builtin "isinstance") (cIsE X.K D a d) := by
  intro pins s σ H vs us Q I r ⟨xs, M, G, Q0, rx, w, q, L⟩
  obtain ⟨y, c, k, b, rfl, h3, h4, q⟩ := q
  obtain ⟨v, u, rfl, r1, r2⟩ := reps2 rx
  obtain ⟨rfl, z, hg, _⟩ := r1
  cases r with
  | cons rv rr => cases rr with
    | cons ru rr =>
      cases rr
      cases rv
      have hk : ∀ x, RelV u x → x = k := fun x hx => by
        cases c with
        | ty n => cases h3; cases r2; exact hx
        | ref C => cases h3; cases r2; exact hx
        | _ => cases h3
      have ec := hk _ ru
      subst ec
      obtain ⟨hget, _⟩ := I.pin (a, oe) (List.mem_append.mpr (.inl List.mem_cons_self))
      obtain ⟨vs, hv⟩ := hf
      have hx : ObjOk X.prog X.w H s.heap d (.xd [(("signal" : Str), z)]) := I.hok d _ (w.sub _ _ hg)
      obtain ⟨mA, hns, hr⟩ := hx
      obtain ⟨od, ho, _⟩ := lookIn_ns hns
      have J : PySem.W.InstAt s.heap a oe D (some od) := ⟨hget, hz.1, by unfold PySem.W.notCls; rw [hv] <;> rfl, by rw [hz.2.1]; exact ho⟩
      have hcl : (PySem.W.clsIn X.K D).isSome = true := by
        have h := Z.hd
        unfold PySem.W.hasDictIn at h
        cases e : PySem.W.clsIn X.K D with
        | none => rw [e] at h; cases h
        | some cd => rfl
      exact PySem.W.kia_one (PySem.W.kitx_exc hcl Z.hg Z.hk Z.hs Z.ha Z.hn Z.ht Z.hm) I.kIn J h4 (fun z => nomatch z) fun tk => ⟨.bl b, H, I.kept (t' := tk) fun _ _ z => z, rfl, L (.bl b) M _ H G (Ext.refl G) w rfl q⟩
theorem trap_of {K : PySem.W.Frag} {mg : Str → Option Value} {C fI B : Addr} {fd : FuncData} {p1 p2 n1 n2 n3 n4 n5 n6 q1 q2 q3 q4 : Pos} (F : FunD K "__init__" "Trapped.__init__" (PySem.TrapX.iA p1 p2) (PySem.TrapX.iB n1 n2 n3 n4 n5 n6 q1 q2 q3 q4) PySem.TrapX.iS [] [] fI fd)
    (gC : mg "Trapped" = some (.ref C)) (gB : mg "ReckonError" = some (.ref B)) (cls : PySem.TrapX.excOwnB K C = true) (sa : PySem.W.findIn K (.ref C) "__setattr__" = some (some (.builtin "object.__setattr__")))
    (ga : PySem.W.findIn K (.ref C) "__getattribute__" = some (some (.builtin "BaseException.__getattribute__"))) (gg : PySem.W.findIn K (.ref C) "__getattr__" = some none) (noN : PySem.W.findIn K (.ref C) "signal" = some none)
    (iC : PySem.W.findIn K (.ref C) "__init__" = some (some (.ref fI))) (tC : PySem.W.typeIn K (.ref fI) = some (.type "function")) (kC : PySem.W.keepIn K (.ref C) = true) (exC : PySem.W.subIn K (.ref C) (.type "BaseException") = some true)
    (tyC : PySem.W.typeIn K (.ref C) = some (.type "type")) (hdC : PySem.W.hasDictIn K C = true) (gaB : PySem.W.specialIn K (.ref B) "__getattribute__" = some (some (.builtin "type.__getattribute__"))) (rdB : PySem.W.readsIn K B (.type "type") = true)
    (inB : PySem.W.findIn K (.ref B) "__init__" = some (some (.builtin "ValueError.__init__"))) (hB : PySem.W.findCls K (.ref B) (.type "type") "__init__" = some (.val (.builtin "ValueError.__init__"))) (hl : (n2.endLine == n5.line) = true) : PySem.TrapX.TrapTxt K mg C fI B := by
  obtain ⟨oc, od, dV, kV, doc, pm, an, cdv, ct, osl, rfl, lk, hcd, hD, _⟩ := F.ex
  rcases hD with ⟨_, rfl⟩ | ⟨e, _⟩
  · exact ⟨gC, gB, PySem.TrapX.excOwnB_ok cls, sa, ga, gg, noN, iC, tC, kC, exC, tyC, hdC, gaB, rdB, hB, ⟨oc, od, kV, doc, pm, an, cdv, ct, osl, p1, p2, n1, n2, n3, n4, n5, n6, q1, q2, q3, q4, lk, hcd, hl⟩⟩
  · exact absurd rfl e
theorem findCls_val {K : PySem.W.Frag} {B : Addr} (h : (match PySem.W.findCls K (.ref B) (.type "type") "__init__" with | some (.val (.builtin z)) => decide (z = "ValueError.__init__") | _ => false) = true) : PySem.W.findCls K (.ref B) (.type "type") "__init__" = some (.val (.builtin "ValueError.__init__")) := by
  split at h
  · rename_i z e
    rw [e, of_decide_eq_true h]
  · cases h
end
end TQ
namespace TN
open PySem PySem.Spec PyProof.Rows L2 TQ TM
section
variable {x y : PV} {env : Sl} {M : Mem} {D : QEnds} {t : QA} {C a d : Addr}
def trapP (C : Addr) (xs : List PV) (M : Mem) [E : Box EK] : Prop := ∃ x, xs = [x] ∧ E.v (.ref C) (some x) M
theorem e_sTrap : sTrap C t D env M = t env M (fun xs M1 => @trapP C xs M1 ⟨exE D env⟩) (exE D env) := rfl
theorem trapP_1 {E : Box EK} : @trapP C [x] M E = E.v (.ref C) (some x) M := propext ⟨fun ⟨_, h, q⟩ => by cases h; exact q, fun q => ⟨_, rfl, q⟩⟩
def sigP (a d : Addr) (x : PV) (M : Mem) [Q : Box PK] : Prop := ∃ y, x = .exc a d y ∧ Q.v y M
theorem e_qSig {te : QT} {Q : PK} {E : EK} : qSig a d te env M Q E = te env M (fun x M1 => @sigP a d x M1 ⟨Q⟩) E := rfl
theorem sigP_exc {Q : Box PK} : @sigP a d (.exc a d y) M Q = Q.v y M := propext ⟨fun ⟨_, h, q⟩ => by cases h; exact q, fun q => ⟨_, rfl, q⟩⟩
def isEB (K : PySem.W.Frag) (C a d : Addr) (xs : List PV) (M : Mem) [Q : Box PK] : Prop := cIsE K C a d xs M Q.v
theorem e_cIsE {K : PySem.W.Frag} {xs : List PV} {Q : PK} : cIsE K C a d xs M Q = @isEB K C a d xs M ⟨Q⟩ := rfl
theorem isEB_of {K : PySem.W.Frag} {c : PV} {u : Value} {b : Bool} {Q : Box PK} (h1 : clsP c = some u) (h2 : PySem.W.kitOne K (.ref C) u = some b) : @isEB K C a d [.exc a d y, c] M Q = Q.v (.bl b) M := propext
  ⟨fun ⟨_, _, _, _, h, g1, g2, q⟩ => by cases h; rw [h1] at g1; cases g1; rw [h2] at g2; cases g2; exact q, fun q => ⟨_, _, _, _, rfl, h1, h2, q⟩⟩
def tryX (K : PySem.W.Frag) (D : Addr) (i : Nat) (c : Value) (ts : Addr → Addr → QS) (De : QEnds) : Value → Option PV → Sl → Mem → Prop := fun cls pl env' M' => ∃ b, PySem.W.exmOne K cls c = some b ∧
    (b = true → cls = .ref D ∧ ∃ x, pl = some x ∧ ∀ a d, M' a = none → ts a d { nx := fun e m => De.nx (e.set i none) m, rt := De.rt, bk := fun e m => De.bk (e.set i none) m, ct := fun e m => De.ct (e.set i none) m } (env'.set i (some (.exc a d x))) M') ∧
    (b = false → De.ex cls pl env' M')
theorem e_sTryAs {K : PySem.W.Frag} {C : Addr} {i : Nat} {c : Value} {tb : QS} {ts : Addr → Addr → QS} : sTryAs K C i c tb ts D env M = tb { D with ex := tryX K C i c ts D } env M := rfl
theorem tryX_own {K : PySem.W.Frag} {C : Addr} {i : Nat} {c : Value} {ts : Addr → Addr → QS} (h : PySem.W.exmOne K (.ref C) c = some true)
    (q : ∀ a d, M a = none → ts a d { nx := fun e m => D.nx (e.set i none) m, rt := D.rt, bk := fun e m => D.bk (e.set i none) m, ct := fun e m => D.ct (e.set i none) m } (env.set i (some (.exc a d x))) M) : tryX K C i c ts D (.ref C) (some x) env M :=
  ⟨true, h, fun _ => ⟨rfl, x, rfl, q⟩, fun z => nomatch z⟩
end
end TN

/-! ### enumerate(tuple) -/
namespace PySem
open Sem (wp)
open AutoSeq1 (wpAny_loadPart')
set_option maxHeartbeats 1000000 in
theorem meets_enumerate_new1 {v : Value} {o : Obj} {H : Heap → Prop} (B : Begins v o H) :
    Meets (Builtin.«enumerate.__new__» ⟨[.type "enumerate", v], []⟩) (fun _ R s => H s.heap ∧
      R (.ok (.ret (.ref (s.heap.push o).objs.size))) { s with heap := (s.heap.push o).push { cls := .type "enumerate", data := .fields #[.none, .bool false, .ref s.heap.objs.size, rawInt 0, .none, .none] } }) :=
  .of_wp fun prog w A R s h => by
    obtain ⟨hp, g, d, tk, os⟩ := s; obtain ⟨h1, h⟩ := h
    have hsub := sub_enumerate
    have q1 : ∀ {A' : Around} {E : Value → Shared → Prop} {Q : Value → Shared → Prop}, Q (.ref hp.objs.size) ⟨hp.push o, g, d, tk, os⟩ → wpAny (model prog w) A' (pyIter v) Q E ⟨hp, g, d, tk, os⟩ :=
      fun q => B.iter prog w _ _ ⟨hp, g, d, tk, os⟩ _ h1 q
    wp_walk using q1
    refine wpAny_stack_any fun st => wpAny_pure ?_
    split
    · rename_i c _ _ _ _ _
      cases (c == Value.type "enumerate")
      · wp_walk using q1
        exact ⟨_, rfl, h⟩
      · wp_walk using q1
        exact ⟨_, rfl, h⟩
    · wp_walk using q1
      exact ⟨_, rfl, h⟩
theorem enum_begins1 {prog : Program} {w : World} {A : Around} {E : Value → Shared → Prop} {s : Shared} {v : Value} {o : Obj} {H : Heap → Prop} {Q : Value → Shared → Prop} (B : Begins v o H) (h1 : H s.heap)
    (h : ∀ h', IsEnum h' (s.heap.objs.size + 1) s.heap.objs.size 0 .none → h'.get? s.heap.objs.size = some o → h'.objs.size = s.heap.objs.size + 2 →
      (∀ b o, s.heap.get? b = some o → h'.get? b = some o) → Q (.ref (s.heap.objs.size + 1)) { s with heap := h' }) :
    wpAny (model prog w) A (call (.type "enumerate") [v]) Q E s := by
  refine callType_new F.called_enumerate (by decide) (F.typeCall_enumerate_1 _) (F.newCall_enumerate_1 _) (fun obj => F.args_object_init_2 obj _) F.entry_enumerate_new
    (meets_enumerate_new1 B) ⟨h1, ?_⟩
  have hz : (s.heap.push o).objs.size = s.heap.objs.size + 1 := Heap.size_push ..
  show _ ∧ _
  rw [hz]
  have he : IsEnum ((s.heap.push o).push { cls := .type "enumerate", data := .fields #[.none, .bool false, .ref s.heap.objs.size, rawInt 0, .none, .none] }) (s.heap.objs.size + 1) s.heap.objs.size 0 .none := by
    have := Heap.get?_push_size (s.heap.push o) (o := { cls := .type "enumerate", data := .fields #[.none, .bool false, .ref s.heap.objs.size, rawInt 0, .none, .none] }) rfl
    rw [hz] at this; exact this
  refine ⟨⟨_, he, rfl⟩, h _ he (Heap.get?_push_of_some _ (Heap.get?_push_size _ B.free)) (by rw [Heap.size_push, hz]) fun b o x => Heap.get?_push_of_some _ (Heap.get?_push_of_some _ x)⟩
end PySem
namespace L2
open PySem PySem.Spec PyProof.Rows
/-- the tuple at a, each item in a new pair -/
def IteT (K : PySem.W.Frag) (a : Addr) : It :=
  ⟨fun i H => ∃ (xs : List V) (x : V), SqT K H a xs ∧ xs[i]? = some x, fun i H v H' => ∃ T x, v = .ref T ∧ H T = none ∧ H' = upd H T (.tup [.int (i : Nat), x]) ∧ ∀ xs, SqT K H a xs → xs[i]? = some x, fun i H => ∃ xs : List V, SqT K H a xs ∧ xs.length = i⟩
theorem turn_enumT {P : Program} {w : World} {K : PySem.W.Frag} {elts : List Expr} {kk : Nat} {tpos : Pos} (a e it : Addr) :
    Turn P w K (.Tuple elts kk tpos) (IteT K a) [e, it] e (fun i h => (∃ old, IsEnum h e it ((i : Nat) : Int) old) ∧ h.IsTupleIter it a i ∧ e ≠ it ∧ a ≠ it) where
  mem := by simp
  obj := fun i h st b hb => by
    obtain ⟨⟨old, he⟩, ⟨o, ho, hc, hd⟩, _⟩ := st
    have e' : b = e ∨ b = it := by simpa using hb
    rcases e' with z | z
    · rw [z]; exact ⟨_, he, fun v q => nomatch q⟩
    · rw [z]; exact ⟨o, ho, fun v q => by rw [hd] at q; cases q⟩
  keep := fun i h h' st k => let ⟨⟨old, he⟩, hi, hne, hna⟩ := st; ⟨⟨old, k e (by simp) _ he⟩, hi.at fun o q => k it (by simp) o q, hne, hna⟩
  item := by
    intro X hP hw hK hc i pins s σ H E I hf st hg
    subst hP hw hK
    obtain ⟨⟨old, he⟩, hit, hne, hna⟩ := st
    obtain ⟨xs, x, hq, hx⟩ := hg
    obtain ⟨its, rv, p, hz⟩ := I.tuple hq
    obtain ⟨u, hu, ru⟩ := rv.get hx
    have hel : e < s.heap.objs.size := Heap.lt_size he
    have hil : it < s.heap.objs.size := by obtain ⟨_, q, _⟩ := hit; exact Heap.lt_size q
    have hlt : i < its.toArray.size := by
      have := rv.length
      have := (List.getElem?_eq_some_iff.mp hu).1
      simpa using this
    have hea : e ≠ a := by
      rintro rfl
      obtain ⟨o, ho, hcl, _⟩ := p
      rw [he] at ho
      cases ho
      exact absurd (show (Value.type "enumerate") = .type "tuple" from hcl) (by decide)
    have D := Draws.tuple (prog := X.prog) (w := X.w) (A := X.A.in1) (I.ok.hd hc) it a hna its.toArray
    refine wpAny_pyNext_enum_itemD D he ⟨hit, show s.heap.IsTuple a its.toArray from p⟩ hlt hne (by simp [hne, hea]) fun x' h' tk hP ho hSt hT hsz hk => ?_
    have ex : x' = u := by
      have z : its.toArray[i]? = some x' := hP
      rw [show its.toArray[i]? = some u by simpa using hu] at z
      exact (Option.some.inj z).symm
    subst ex
    refine ⟨_, rfl, wpAny_letOwnedTupleGo_enum (s := { s with heap := h', toks := tk + 1 }) ho fun h'' he' sb => ?_⟩
    have hT2 : h''.get? s.heap.objs.size = some { cls := .type "tuple", data := .seq #[.int i tk, x'] } := (sb.2 _ (Nat.ne_of_gt hel)).trans hT
    have new : ObjOk X.prog X.w (upd H s.heap.objs.size (.tup [.int (i : Nat), x])) h'' s.heap.objs.size (.tup [.int (i : Nat), x]) :=
      ⟨by show 2 ≤ sizeLine; decide, [.int i tk, x'], .cons ⟨_, rfl⟩ (.cons ru .nil), ⟨_, hT2, rfl, _, rfl⟩⟩
    have I1 : Inv X pins σ (upd H s.heap.objs.size (.tup [.int (i : Nat), x])) { s with heap := h'', toks := tk + 1 } :=
      I.turnedNew (ch := [e, it]) (fun b ob hb q => (sb.2 b (fun z => hb (by simp [z]))).trans (hk b ob (fun z => hb (by simp [z])) (fun z => hb (by simp [z])) q)) hf (Nat.le_refl _) new
    refine ⟨.ref s.heap.objs.size, _, I1, rfl, ⟨_, x, rfl, I.hok.fresh (Nat.le_refl _), rfl, fun ys hy => by rw [I.tuple_inj hy hq]; exact hx⟩, ⟨⟨x', ?_⟩, hSt.1.at fun o q => (sb.2 it (Ne.symm hne)).trans q, hne, hna⟩, fun b hb => ?_⟩
    · have e1 : ((i + 1 : Nat) : Int) = (i : Int) + 1 := by omega
      rw [e1]; exact he'
    · have hb' : b < s.heap.objs.size := by
        have e' : b = e ∨ b = it := by simpa using hb
        rcases e' with z | z
        · rw [z]; exact hel
        · rw [z]; exact hil
      rw [upd_ne (Nat.ne_of_lt hb')]
      exact (hf b hb).1
  done := by
    intro X hP hw hK hc i pins s σ H E I hf st hg
    subst hP hw hK
    obtain ⟨⟨old, he⟩, hit, hne, hna⟩ := st
    obtain ⟨xs, hq, hx⟩ := hg
    obtain ⟨its, rv, p, hz⟩ := I.tuple hq
    obtain ⟨f0, f1, f2, f3, f4, f5⟩ := hf it (by simp)
    have hl := rv.length
    have D := Draws.tuple (prog := X.prog) (w := X.w) (A := X.A.in1) (I.ok.hd hc) it a hna its.toArray
    have hi : i = its.toArray.size := by simp; omega
    subst hi
    exact wpAny_pyNext_enum_endD D he ⟨hit, show s.heap.IsTuple a its.toArray from p⟩ fun h' eb => ⟨rfl, I.turned (t' := s.toks) (fun b o hb q => eb b o hb q) f0 f1 f3 f4 f5⟩
  self := fun A i s Q E st h => let ⟨⟨_, he⟩, _⟩ := st; wpAny_pyIter_enum he h
def iEnumT (K : PySem.W.Frag) (ta : TA) : TI := fun σ H R => ta σ H fun vs H1 => ∃ a xs, vs = [.ref a] ∧ SqT K H1 a xs ∧ R (IteT K a) H1
theorem pi_enumT {X : Cx} {e : Expr} {ta : TA} {p pos tpos : Pos} {elts : List Expr} {kk : Nat} (hg : Gl X "enumerate") (hm : X.mg "enumerate" = none) (ha : PA X [e] ta) (hs : starEach [e] X.env = [(false, eval e X.env)] := by rfl) :
    PI X (.Tuple elts kk tpos) (.Call (.Name "enumerate" p) [e] [] pos) (iEnumT X.K ta) := by
  refine ⟨fun pins s σ H R I h => ?_⟩
  refine Call_ (ld_blt I hg hm boot_enumerate (PyProof.Rows.callWith_type1 (thn (ha.run pos pins s σ H _ I h) fun us s1 ⟨vs, H1, I1, r1, q1⟩ => ?_) hs rfl))
  obtain ⟨a, xs, ex, hq, q⟩ := q1
  subst ex
  cases r1 with
  | cons r rr =>
    cases rr
    cases r
    obtain ⟨its, rv, p', hz⟩ := I1.tuple hq
    refine enum_begins1 (begins_tuple a its.toArray) (show s1.heap.IsTuple a its.toArray from p') fun h' he hit hsz hk => wpAny_pyIter_enum he ?_
    have I2 : Inv X pins σ H1 { s1 with heap := h' } := I1.kept (t' := s1.toks) hk
    refine ⟨s1.heap.objs.size + 1, [s1.heap.objs.size + 1, s1.heap.objs.size], _, _, H1, rfl, I2, turn_enumT a (s1.heap.objs.size + 1) s1.heap.objs.size, ⟨⟨.none, he⟩, ⟨_, hit, rfl, rfl⟩, Nat.succ_ne_self _, Nat.ne_of_lt p'.lt⟩, fun b hb => ?_, q⟩
    have e' : b = s1.heap.objs.size + 1 ∨ b = s1.heap.objs.size := by simpa using hb
    have hle : s1.heap.objs.size ≤ b := by
      rcases e' with z | z
      · rw [z]; exact Nat.le_add_right _ _
      · rw [z]; exact Nat.le_refl _
    exact I1.fpOk hle (I1.hok.fresh hle)
end L2

/-! comprehensions over enumerate(tuple); dicts read, displayed, made of pairs; lists cleared -/
namespace TQ
open PySem PySem.Spec PyProof.Rows L2
def enumF : Nat → List PV → List PV
  | _, [] => []
  | i, x :: xs => .tup [.int (i : Nat), x] :: enumF (i + 1) xs
theorem enumF_length : ∀ (xs : List PV) (k : Nat), (enumF k xs).length = xs.length
  | [], _ => rfl
  | x :: xs, k => by show (enumF (k + 1) xs).length + 1 = xs.length + 1; rw [enumF_length xs]
theorem enumF_get : ∀ (xs : List PV) (k i : Nat) {x : PV}, xs[i]? = some x → (enumF k xs)[i]? = some (.tup [.int ((k + i : Nat) : Int), x])
  | [], _, _, _, h => by simp at h
  | y :: xs, k, 0, x, h => by simp at h; subst h; rfl
  | y :: xs, k, i + 1, x, h => by
    have := enumF_get xs (k + 1) i (x := x) (by simpa using h)
    show (enumF (k + 1) xs)[i]? = _
    rw [this, show k + 1 + i = k + (i + 1) by omega]
def slEn (env : Sl) (vs : List Nat) (j1 j2 : Nat) : PV → Option Sl
  | .tup [a, b] => some (((wipeQ env vs).set j1 (some a)).set j2 (some b))
  | _ => none
def qLcEn (j1 j2 : Nat) (vs : List Nat) (tl : QT) (tt : QB) (te : QT) : QT := fun env M Q E => tl env M (fun x M1 => ∃ items, x = .tup items ∧ lcQ (enumF 0 items) (slEn env vs j1 j2) tt te M1 Q) E
/-- comprehensions over tuples whose list is written later -/
def qLcTM (j : Nat) (vs : List Nat) (tl : QT) (tt : QB) (te : QT) : QT := fun env M Q E => tl env M (fun x M1 => ∃ items, x = .tup items ∧ lcQM items (fun y => some ((wipeQ env vs).set j (some y))) tt te M1 Q) E
section
variable {X : Cx} {W : WX} {pos : Pos}
theorem lcEn_imp {own : List Nat} {j1 j2 : Nat} {tl : QT} {tt : QB} {te : QT} {σ : L2.St} {H : Hp} {Q : VK} (hj1 : j1 ∈ own) (hj2 : j2 ∈ own) (h : tie X.K W (qLcEn j1 j2 own tl tt te) σ H Q) :
    tLc (iEnumT X.K (tieA X.K W (qCons tl qNil))) (gTup X.K 2 (gCons (gName j1) (gCons (gName j2) gNil))) (tieB X.K W0 tt) (tie X.K W0 te) own σ H Q := by
  obtain ⟨env, M, G, Q0, E0, S, q, L, LE⟩ := h
  refine ⟨env, M, G, fun xs M1 => match xs with
    | [x] => ∃ items, x = .tup items ∧ lcQ (enumF 0 items) (slEn env own j1 j2) tt te M1 Q0
    | _ => False, E0, S, q, fun ys M1 vs H1 G1 e1 w1 r1 q1 => ?_, LE⟩
  dsimp only at q1
  split at q1
  · obtain ⟨v, rfl, rv⟩ := reps1 r1
    obtain ⟨items, rfl, hn, r, hr, q1⟩ := q1
    obtain ⟨p, vs, rfl, h1, rs⟩ := rv
    refine ⟨p, vs, rfl, ext_t w1.sub h1, fun D hD => ?_⟩
    have hM := w1.freeM hD
    have hle := enumF_length items 0
    refine ⟨fun i m H => m = items.length - i ∧ i ≤ items.length ∧ lcP X.K G1 M1 D (enumF 0 items) r i H, ⟨items.length, by omega, Nat.zero_le _, G1, Ext.refl _, w1.put (w1.free hD) (mok_lst Reps.nil)⟩, fun i m H ⟨hm, hi, hp⟩ => ?_⟩
    obtain ⟨G', e', w'⟩ := _root_.id hp
    have hT := ext_t w'.sub (ext_t e' h1)
    by_cases hz : i = items.length
    · subst hz
      exact .inl ⟨⟨vs, hT, rs.length.symm⟩, lc_end (L.mono e1) hM (by rw [hle]; exact hp) q1⟩
    · have hlt : i < items.length := by omega
      have hx := List.getElem?_eq_getElem hlt
      obtain ⟨v, hv, rv⟩ := rs.get hx
      refine .inr ⟨⟨vs, v, hT, hv⟩, lcP X.K G1 M1 D (enumF 0 items) r (i + 1), fun H' h => ⟨m - 1, by omega, by omega, by omega, h⟩, fun z H' hy => ?_⟩
      obtain ⟨T, x0, rfl, hTn, rfl, hy⟩ := hy
      have ez := hy vs hT
      rw [hv] at ez
      cases ez
      have hG := w'.free hTn
      have w2 := w'.newG (o := HO.tup [.int (i : Nat), v]) hTn
      have e2 : Ext G1 (upd G' T (.tup [.int (i : Nat), v])) := e'.trans (Ext.new hG)
      refine ⟨T, _, rfl, SqT.of upd_same, rfl, _, _, rfl, _, _, rfl, rfl, wipe_set2 hj1 hj2, ?_⟩
      have hx2 := enumF_get items 0 i hx
      rw [Nat.zero_add] at hx2
      have S2 : Sim X.K (((wipeQ env own).set j1 (some (.int (i : Nat)))).set j2 (some items[i])) _ (upd G' T (.tup [.int (i : Nat), v])) (((L2.wipe σ own).set j1 (some (.int (i : Nat)))).set j2 (some v)) (upd H T (.tup [.int (i : Nat), v])) :=
        ⟨(((S.env.mono (e1.trans e2)).wipe _).set (show Rep X.K _ (.int (i : Nat)) (.int (i : Nat)) from rfl)).set (Rep.mono (e'.trans (Ext.new hG)) _ _ rv), w2⟩
      refine lc_turnQ (by rw [hle]; rw [hle] at hn; exact hn) hx2 e2 hM S2 (fun M2 hM2 => ?_) (fun H' h => h)
      obtain ⟨env2, ee, q2⟩ := hr _ (List.mem_of_getElem? hx2) M2 hM2
      cases ee
      exact q2
  · exact q1.elim
theorem qe_lcEn {elt a : Expr} {x y : Str} {px py pt p pos' : Pos} {kt} {ifs : List Expr} {scope : Scope} {own : List (Str × Nat)} {j1 j2 : Nat} {tl : QT} {tt : QB} {te : QT} (hc : X.calm = true) (hN : X.N.Nodup) (hm : X.mg "enumerate" = none) (hl : QE X W a tl) (hj1 : j1 ∈ own.map (·.2)) (hj2 : j2 ∈ own.map (·.2))
    (ok : BlkOk X.N X.env.scope scope own) (hg : ∀ (s : Shared) (H : Hp) (C : Addr) (cl : List (Str × Addr)) (fp : List Addr) (xe : Value → Shared → Prop), PG (TC.blkX X s H scope (compEnvC scope cl C X.env) fp xe) (.Tuple [.Name x px, .Name y py] kt pt) (gTup X.K 2 (gCons (gName j1) (gCons (gName j2) gNil))))
    (ht : ∀ (s : Shared) (H : Hp) (C : Addr) (cl : List (Str × Addr)) (fp : List Addr) (xe : Value → Shared → Prop), QPTs (TC.blkX X s H scope (compEnvC scope cl C X.env) fp xe) ifs tt)
    (he : ∀ (s : Shared) (H : Hp) (C : Addr) (cl : List (Str × Addr)) (fp : List Addr) (xe : Value → Shared → Prop), QE (TC.blkX X s H scope (compEnvC scope cl C X.env) fp xe) W0 elt te) (hgr : Gl X "enumerate" := by rfl)
    (hst : starEach [a] X.env = [(false, eval a X.env)] := by rfl) (hfs : ∀ v, foldedSetIterable (.Call (.Name "enumerate" p) [a] [] pos') X.env v = pure v := by intro _; rfl) :
    QE X W (.ListComp elt [{ target := .Tuple [.Name x px, .Name y py] kt pt, iter := .Call (.Name "enumerate" p) [a] [] pos', ifs := ifs, is_async := 0 }] scope pos) (qLcEn j1 j2 (own.map (·.2)) tl tt te) :=
  (TC.pe_lcX (C := TC.Calm) (Wb := W0) (tt := tieB X.K W0 tt) (te := tie X.K W0 te) hc hN (TC.pic_of (pi_enumT hgr hm (qa_cons hl qa_nil hst) hst)) ok hg (fun s H c cl fp xe _ => ht s H c cl fp xe) (fun s H c cl fp xe _ => he s H c cl fp xe) (fun _ _ _ _ _ _ => TC.blkTk_none) hfs).imp fun σ H Q h => lcEn_imp hj1 hj2 h
theorem qs_lcEn (i : Nat) {z : Str} {pz spos : Pos} {elt a : Expr} {x y : Str} {px py pt p pos' : Pos} {kt} {ifs : List Expr} {scope : Scope} {own : List (Str × Nat)} {j1 j2 : Nat} {tl : QT} {tt : QB} {te : QT} (hc : X.calm = true) (hN : X.N.Nodup) (hm : X.mg "enumerate" = none) (hl : QE X W a tl) (hj1 : j1 ∈ own.map (·.2)) (hj2 : j2 ∈ own.map (·.2))
    (ok : BlkOk X.N X.env.scope scope own) (hg : ∀ (s : Shared) (H : Hp) (C : Addr) (cl : List (Str × Addr)) (fp : List Addr) (xe : Value → Shared → Prop), PG (TC.blkX X s H scope (compEnvC scope cl C X.env) fp xe) (.Tuple [.Name x px, .Name y py] kt pt) (gTup X.K 2 (gCons (gName j1) (gCons (gName j2) gNil))))
    (ht : ∀ (s : Shared) (H : Hp) (C : Addr) (cl : List (Str × Addr)) (fp : List Addr) (xe : Value → Shared → Prop), QPTs (TC.blkX X s H scope (compEnvC scope cl C X.env) fp xe) ifs tt)
    (he : ∀ (s : Shared) (H : Hp) (C : Addr) (cl : List (Str × Addr)) (fp : List Addr) (xe : Value → Shared → Prop), QE (TC.blkX X s H scope (compEnvC scope cl C X.env) fp xe) W0 elt te) (hgr : Gl X "enumerate" := by rfl)
    (hst : starEach [a] X.env = [(false, eval a X.env)] := by rfl) (hfs : ∀ v, foldedSetIterable (.Call (.Name "enumerate" p) [a] [] pos') X.env v = pure v := by intro _; rfl) (hlo : X.env.scope.names.lookup z = some .local := by rfl) (hi : X.N[i]? = some z := by rfl)
    (hsw : swapsWith (.ListComp elt [{ target := .Tuple [.Name x px, .Name y py] kt pt, iter := .Call (.Name "enumerate" p) [a] [] pos', ifs := ifs, is_async := 0 }] scope pos) (some (.Name z pz)) spos.line X.env = pure true := by exact sw_true rfl rfl rfl (by decide +kernel)) :
    QPS X W (.Assign [.Name z pz] (.ListComp elt [{ target := .Tuple [.Name x px, .Name y py] kt pt, iter := .Call (.Name "enumerate" p) [a] [] pos', ifs := ifs, is_async := 0 }] scope pos) spos) (sAsg (qLcEn j1 j2 (own.map (·.2)) tl tt te) (gNm i)) :=
  (TC.ps_setLcX (C := TC.Calm) (Wb := W0) (tt := tieB X.K W0 tt) (te := tie X.K W0 te) hc hN hi hlo hsw (TC.pic_of (pi_enumT hgr hm (qa_cons hl qa_nil hst) hst)) ok hg (fun s H c cl fp xe _ => ht s H c cl fp xe) (fun s H c cl fp xe _ => he s H c cl fp xe) (fun _ _ _ _ _ _ _ => TC.blkTk_none) hfs).imp fun D σ H h => lcEn_imp hj1 hj2 (tieNm (tieAsg h) fun _ _ _ _ k z => tie_mono k z)
theorem lcTM_imp {own : List Nat} {j : Nat} {tl : QT} {tt : QB} {te : QT} {σ : L2.St} {H : Hp} {Q : VK} (hj : j ∈ own) (h : tie X.K W (qLcTM j own tl tt te) σ H Q) : tLc (iTup X.K (tie X.K W tl)) (gName j) (tieB X.K W0 tt) (tie X.K W0 te) own σ H Q := by
  obtain ⟨env, M, G, Q0, E0, S, q, L, LE⟩ := h
  refine ⟨env, M, G, _, E0, S, q, fun y M1 v H1 G1 e1 w1 r1 q1 => ?_, LE⟩
  obtain ⟨items, rfl, hn, r, hr, q1⟩ := q1
  obtain ⟨p, vs, rfl, h1, rs⟩ := r1
  refine ⟨p, rfl, ⟨_, ext_t w1.sub h1⟩, fun D hD => ?_⟩
  have hM := w1.freeM hD
  refine lc_tup (K := X.K) (a := p) (xs := vs) (lcP X.K G1 M1 D items r) ⟨G1, Ext.refl _, w1.put (w1.free hD) (mok_lst Reps.nil)⟩ (fun i H _ ⟨G', e', w'⟩ => ext_t w'.sub (ext_t e' h1)) (fun i v H hv ⟨G', e', w'⟩ => ?_)
    (fun H hp => lc_endM (L.mono e1) (by rw [rs.length]; exact hp) (q1 D hM))
  obtain ⟨z, hx, rz⟩ := rs.getV hv
  refine ⟨wipe_set hj, ?_⟩
  have S2 : Sim X.K ((wipeQ env own).set j (some z)) _ G' ((L2.wipe σ own).set j (some v)) H := ⟨((S.env.mono (e1.trans e')).wipe _).set (Rep.mono e' _ _ rz), w'⟩
  refine lc_turnQ hn hx e' hM S2 (fun M2 hM2 => ?_) (fun H' h => h)
  obtain ⟨env2, ee, q2⟩ := hr _ (List.mem_of_getElem? hx) M2 hM2
  cases ee
  exact q2
theorem qe_lcTM {elt iter : Expr} {x : Str} {px : Pos} {ifs : List Expr} {scope : Scope} {own : List (Str × Nat)} {j : Nat} {tl : QT} {tt : QB} {te : QT} (hc : TC.CoolX X) (hN : X.N.Nodup) (hl : QE X W iter tl) (hj : j ∈ own.map (·.2))
    (ok : BlkOk X.N X.env.scope scope own) (hg : ∀ (s : Shared) (H : Hp) (C : Addr) (cl : List (Str × Addr)) (fp : List Addr) (xe : Value → Shared → Prop), PG (TC.blkX X s H scope (compEnvC scope cl C X.env) fp xe) (.Name x px) (gName j))
    (ht : ∀ (s : Shared) (H : Hp) (C : Addr) (cl : List (Str × Addr)) (fp : List Addr) (xe : Value → Shared → Prop), QPTs (TC.blkX X s H scope (compEnvC scope cl C X.env) fp xe) ifs tt)
    (he : ∀ (s : Shared) (H : Hp) (C : Addr) (cl : List (Str × Addr)) (fp : List Addr) (xe : Value → Shared → Prop), QE (TC.blkX X s H scope (compEnvC scope cl C X.env) fp xe) W0 elt te) (hfs : ∀ v, foldedSetIterable iter X.env v = pure v := by intro _; rfl) :
    QE X W (.ListComp elt [{ target := .Name x px, iter := iter, ifs := ifs, is_async := 0 }] scope pos) (qLcTM j (own.map (·.2)) tl tt te) :=
  (TC.pe_lcX (C := TC.CoolX) (Wb := W0) (tt := tieB X.K W0 tt) (te := tie X.K W0 te) hc hN (TC.pic_tup hl) ok hg (fun s H c cl fp xe _ => ht s H c cl fp xe) (fun s H c cl fp xe _ => he s H c cl fp xe) (fun _ _ _ _ _ _ => TC.blkTk_none) hfs).imp fun σ H Q h => lcTM_imp hj h
/-! ### d[k] -/
def dgetP (x k : PV) (M : Mem) (Q : PK) : Prop := ∃ a ks xs kk v, x = .ref a ∧ M a = some (.dic ks xs) ∧ keyP k = some kk ∧ getX kk ks xs = some v ∧ Q v M
def qDGet (td ty : QT) : QT := fun env M Q E => td env M (fun x M1 => ty env M1 (fun k M2 => dgetP x k M2 Q) E) E
theorem qe_dget {o i : Expr} {td ty : QT} (hu : X.A.units + 1 < cLine) (ho : QE X W o td) (hi : QE X W i ty) (hs : NoSl i := by exact fun _ _ => rfl) : QE X W (.Subscript o i pos) (qDGet td ty) := (pe_dget hu ho hi hs).imp fun σ H Q ⟨env, M, G, Q0, E0, S, q, L, LE⟩ => by
  refine ⟨env, M, G, _, E0, S, q, fun x M1 u H1 G1 e1 w1 r1 q1 => ?_, LE⟩
  refine ⟨env, M1, G1, _, E0, S.to e1 w1, q1, fun k M2 kv H2 G2 e2 w2 r2 q2 => ?_, LE.mono e1⟩
  obtain ⟨a, ks, xs, kk, v, rfl, hm, hk, hg, q2⟩ := q2
  cases r1
  obtain ⟨g, vs, h1, h2, h3⟩ := w2.mem a _ hm
  have ek := keyP_V hk r2
  subst ek
  obtain ⟨u, hu', ru⟩ := getX_rep hg h3
  refine ⟨a, u, rfl, ?_, give (L.mono (e1.trans e2)) w2 ru q2⟩
  have := DGet.k (k := kk) h1
  rw [valV_zip, hu'] at this
  exact this
/-! ### dicts of pairs -/
def mgP {κ α : Type} [DecidableEq κ] : List κ → List α → List (κ × α) → List κ × List α
  | ns, us, [] => (ns, us)
  | ns, us, (k, v) :: r => mgP (putN k ns) (putX k v ns us) r
theorem mgP_zip : ∀ (kvs : List (Key × V)) (ns : List Key) (us : List V), ns.Nodup → ns.length = us.length → mergeK (ns.zip us) kvs = (mgP ns us kvs).1.zip (mgP ns us kvs).2 ∧ (mgP ns us kvs).1.length = (mgP ns us kvs).2.length
  | [], ns, us, _, h => ⟨rfl, h⟩
  | (k, v) :: r, ns, us, nd, h => by
    have e : mergeK (ns.zip us) ((k, v) :: r) = mergeK (putK (ns.zip us) k v) r := rfl
    rw [e, putK_zip nd h]
    exact mgP_zip r _ _ (nodup_putN nd) (putX_length k v ns us h).symm
theorem mgP_reps {K : PySem.W.Frag} {G : Hp} : ∀ (ks : List Key) (xs : List PV) (vs : List V) (ns : List Key) (ys : List PV) (us : List V), ks.length = xs.length → Reps K G xs vs → ns.length = ys.length → Reps K G ys us → (mgP ns ys (ks.zip xs)).1 = (mgP ns us (ks.zip vs)).1 ∧ Reps K G (mgP ns ys (ks.zip xs)).2 (mgP ns us (ks.zip vs)).2
  | [], _, _, ns, ys, us, _, _, _, r => ⟨rfl, r⟩
  | k :: ks, [], _, _, _, _, h, _, _, _ => by cases h
  | k :: ks, x :: xs, _, ns, ys, us, h, r, h2, r2 => by
    obtain ⟨v, ws, rfl, r1, r3⟩ := r
    exact mgP_reps ks xs ws (putN k ns) _ _ (by simpa using h) r3 (by rw [putX_length k x ns ys h2]) (putX_reps r1 h2 r2)
theorem putX_new {κ α : Type} [DecidableEq κ] {k : κ} {v : α} : ∀ {ns : List κ} {us : List α}, ns.length = us.length → k ∉ ns → putX k v ns us = us ++ [v]
  | [], [], _, _ => rfl
  | n :: ns, u :: us, h, hk => by
    have h1 : ¬ n = k := fun z => hk (by rw [z]; exact List.mem_cons_self)
    show (if n = k then v :: us else u :: putX k v ns us) = _
    rw [if_neg h1, putX_new (by simpa using h) (fun z => hk (List.mem_cons_of_mem _ z))]
    rfl
theorem mgP_new {κ α : Type} [DecidableEq κ] : ∀ (ks : List κ) (vs : List α) (ns : List κ) (us : List α), ks.length = vs.length → ns.length = us.length → (ns ++ ks).Nodup → mgP ns us (ks.zip vs) = (ns ++ ks, us ++ vs)
  | [], [], ns, us, _, _, _ => by simp [mgP]
  | k :: ks, v :: vs, ns, us, h, h2, nd => by
    have hk : k ∉ ns := fun z => by
      rw [List.nodup_append] at nd
      exact nd.2.2 k z k List.mem_cons_self rfl
    rw [List.zip_cons_cons]
    show mgP (putN k ns) (putX k v ns us) (ks.zip vs) = _
    rw [putX_new h2 hk, show putN k ns = ns ++ [k] from if_neg hk, mgP_new ks vs _ _ (by simpa using h) (by simp [h2]) (by rw [List.append_assoc]; exact nd), List.append_assoc, List.append_assoc]
    rfl
def keyV : Key → PV
  | .inl i => .int i
  | .inr s => .str s
theorem keyV_rep {K : PySem.W.Frag} {G : Hp} {k : Key} {v : V} (r : Rep K G (keyV k) v) : v = kV k := by cases k <;> exact r
def pairP (kv : Key × PV) : PV := .tup [keyV kv.1, kv.2]
def cDictP : FC := fun xs M Q => match xs with
  | [x] => ∃ kvs : List (Key × PV), sqA M x = some (kvs.map pairP) ∧ ∀ p, M p = none → Q (.ref p) (mset M p (.dic (mgP [] [] kvs).1 (mgP [] [] kvs).2))
  | _ => False
theorem pairs_reps {K : PySem.W.Frag} {G H : Hp} (e : Ext G H) : ∀ {kvs : List (Key × PV)} {ws : List V}, Reps K G (kvs.map pairP) ws → ∃ (ps : List Addr) (vs : List V), ws = ps.map V.ref ∧ Reps K G (kvs.map (·.2)) vs ∧ Paired (fun p kv => SqT K H p [kV kv.1, kv.2]) ps ((kvs.map (·.1)).zip vs)
  | [], _, r => by cases r; exact ⟨[], [], rfl, Reps.nil, .nil⟩
  | (k, x) :: kvs, _, r => by
    obtain ⟨v, ws, rfl, r1, r2⟩ := r
    obtain ⟨ps, vs, rfl, r3, pp⟩ := pairs_reps e r2
    obtain ⟨a, us, rfl, h1, r4⟩ := r1
    obtain ⟨v1, v2, rfl, q1, q2⟩ := reps2 r4
    have := keyV_rep q1
    subst this
    exact ⟨a :: ps, v2 :: vs, rfl, Reps.cons q2 r3, .cons (ext_t e h1) pp⟩
theorem zip_fst {α β : Type} : ∀ (kvs : List (α × β)), (kvs.map (·.1)).zip (kvs.map (·.2)) = kvs
  | [] => rfl
  | (a, b) :: r => by rw [List.map_cons, List.map_cons, List.zip_cons_cons, zip_fst r]
theorem cq_dict (hc : TC.CoolX X) : CallQ X (.type "dict") cDictP := by
  intro pins s σ H vs us Q I r ⟨xs, M, G, Q0, rx, w, q, L⟩
  unfold cDictP at q
  split at q
  · rename_i x
    obtain ⟨v, rfl, r1⟩ := reps1 rx
    obtain ⟨kvs, hs, q⟩ := q
    obtain ⟨p, ws, rfl, h1, r2⟩ := sqA_H hs r1 w
    obtain ⟨ps, vs2, rfl, r3, pp⟩ := pairs_reps w.sub r2
    refine TC.dictP hc pins s σ H _ us Q I r ⟨p, ps, _, rfl, h1, pp, fun d hd => ?_⟩
    have hl : (kvs.map (·.1)).length = (kvs.map (·.2)).length := by simp
    have hz := mgP_zip ((kvs.map (·.1)).zip vs2) [] [] List.nodup_nil rfl
    have hr := mgP_reps (K := X.K) (G := G) (kvs.map (·.1)) (kvs.map (·.2)) vs2 [] [] [] hl r3 rfl Reps.nil
    rw [zip_fst] at hr
    rw [show mergeK [] ((kvs.map (·.1)).zip vs2) = mergeK (([] : List Key).zip ([] : List V)) ((kvs.map (·.1)).zip vs2) from rfl, hz.1]
    exact give_ref (m := .dic _ _) L w (w.free hd) ⟨_, by rw [upd_same, hr.1], by rw [hr.1]; exact hz.2, hr.2⟩ (q d (w.freeM hd))
  · exact q.elim
/-! ### {k: v, ..} -/
theorem zip_keys : ∀ (kts : List (Str × QT)) (vs : List V), (kts.map fun kt => V.str kt.1).zip vs = ((kts.map fun kt => (Sum.inr kt.1 : Key)).zip vs).map fun kv => (kV kv.1, kv.2)
  | [], _ => rfl
  | _ :: _, [] => rfl
  | (n, t) :: r, v :: vs => by
    rw [List.map_cons, List.map_cons, List.zip_cons_cons, List.zip_cons_cons, List.map_cons, zip_keys r vs]
    rfl
def qPs : List (Str × QT) → QA
  | [] => qNil
  | (_, t) :: r => qCons t (qPs r)
def qDsp (kts : List (Str × QT)) : QT := fun env M Q E => ∀ p, M p = none → qPs kts env (mset M p (.dic [] [])) (fun xs M2 => M2 p = some (.dic [] []) ∧ Q (.ref p) (mset M2 p (.dic (kts.map fun kt => Sum.inr kt.1) xs))) E
theorem tPairs_q {K : PySem.W.Frag} {W : WX} {E : XK} : ∀ (kts : List (Str × QT)) {env : Sl} {M : Mem} {G : Hp} {Q0 : List PV → Mem → Prop} {E0 : EK} {σ : L2.St} {H : Hp} {Qh : List (V × V) → Hp → Prop}, Sim K env M G σ H → qPs kts env M Q0 E0 → LiftE K G E0 (WE W σ) →
    (∀ xs M' vs H' G', Ext G G' → Wf K M' H' G' → Reps K G' xs vs → xs.length = kts.length → Q0 xs M' → Qh ((kts.map fun kt => V.str kt.1).zip vs) H') → tPairs (kts.map fun kt => (tC (.str kt.1), tie K W kt.2)) σ H Qh
  | [], _, _, G, _, _, _, _, _, S, q, _, k => k [] _ [] _ G (Ext.refl G) S.wf Reps.nil rfl q
  | (n, t) :: r, env, M, G, Q0, E0, σ, H, Qh, S, q, LE, k => by
    refine ⟨env, M, G, _, E0, S, q, fun x M1 v H1 G1 e1 w1 r1 q1 => ?_, LE⟩
    refine tPairs_q (E := E) r (S.to e1 w1) q1 (LE.mono e1) fun xs M' vs H' G' e' w' r' hl q' => ?_
    exact k (x :: xs) M' (v :: vs) H' G' (e1.trans e') w' (Reps.cons (Rep.mono e' _ _ r1) r') (by simp [hl]) q'
theorem qe_dsp {keys : List (Option Expr)} {values : List Expr} {kts : List (Str × QT)} (h : PPs X pos keys values (kts.map fun kt => (tC (.str kt.1), tie X.K W kt.2))) (nd : (kts.map (·.1)).Nodup) (hall : keys.all (·.isSome) = true) (hl : keys.length = values.length) (h0 : keys ≠ []) (h15 : keys.length ≤ 15) (h16 : kts.length ≤ 15) :
    QE X W (.Dict keys values pos) (qDsp kts) := (pe_disp h hall hl h0 h15).imp fun σ H Q ⟨env, M, G, Q0, E0, S, q, L, LE⟩ => fun p hp => by
  have hG := S.wf.free hp
  have w1 := S.wf.put (p := p) (o := .dK []) (m := .dic [] []) hG ⟨[], upd_same, rfl, Reps.nil⟩
  refine tPairs_q (E := fun _ _ _ => True) kts ⟨S.env, w1⟩ (q p (S.wf.freeM hp)) LE fun xs M' vs H' G' e' w' r' hl' q' => ?_
  obtain ⟨h1, q'⟩ := q'
  obtain ⟨g, us, h2, h3, h4⟩ := w'.mem p _ h1
  cases h4
  refine ⟨h2, (kts.map fun kt => (Sum.inr kt.1 : Key)).zip vs, ?_, ?_, ?_⟩
  · exact zip_keys kts vs
  · rw [List.length_zip, List.length_map]; omega
  · have nd2 : (kts.map fun kt => (Sum.inr kt.1 : Key)).Nodup := by
      rw [List.Nodup, List.pairwise_map] at nd ⊢
      exact nd.imp fun hn z => hn (Sum.inr.inj z)
    have hlv : (kts.map fun kt => (Sum.inr kt.1 : Key)).length = vs.length := by rw [List.length_map, ← r'.length, hl']
    have hz := mgP_zip ((kts.map fun kt => (Sum.inr kt.1 : Key)).zip vs) [] [] List.nodup_nil rfl
    rw [mgP_new _ _ [] [] hlv rfl (by rw [List.nil_append]; exact nd2)] at hz
    rw [show mergeK [] ((kts.map fun kt => (Sum.inr kt.1 : Key)).zip vs) = mergeK (([] : List Key).zip ([] : List V)) ((kts.map fun kt => (Sum.inr kt.1 : Key)).zip vs) from rfl, hz.1]
    exact L (.ref p) _ _ _ G' e' (w'.put (m := .dic _ xs) g ⟨vs, upd_same, hlv, r'⟩) rfl q'
end
end TQ
namespace TQ
open PySem PySem.Spec PyProof.Rows L2
section
variable {X : Cx} {W : WX} {pos : Pos}
/-! ### lists and dicts cleared; lists backwards; their sum, to be written -/
def qClr (to : QT) : QT := fun env M Q E => to env M (fun x M1 => ∃ a ys, x = .ref a ∧ M1 a = some (.lst ys) ∧ Q .non (mset M1 a (.lst []))) E
theorem qe_clr {o : Expr} {to : QT} {apos cpos : Pos} (ho : QE X W o to) (hb : attributeBase o "clear" X.env (eval o X.env) = eval o X.env := by rfl) (hline : (apos.endLine == cpos.line) = true := by rfl) : QE X W (.Call (.Attribute o "clear" apos) [] [] cpos) (qClr to) :=
  (pe_bm0 PySem.F.plainAttrs_list PySem.F.slot_list_clear PySem.F.type_list_clear mt_clear ho hb hline).imp fun σ H Q ⟨env, M, G, Q0, E0, S, q, L, LE⟩ => by
    refine ⟨env, M, G, _, E0, S, q, fun x M1 v H1 G1 e1 w1 r1 q1 => ?_, LE⟩
    obtain ⟨a, ys, rfl, hm, q1⟩ := q1
    cases r1
    obtain ⟨g, vs, h1, _⟩ := w1.mem a _ hm
    exact ⟨.inl ⟨rfl, _, SqL.of h1⟩, a, vs, rfl, rfl, h1, L .non _ .non _ G1 e1 (w1.put g (mok_lst Reps.nil)) rfl q1⟩
def qDClr (to : QT) : QT := fun env M Q E => to env M (fun x M1 => ∃ a ks ys, x = .ref a ∧ M1 a = some (.dic ks ys) ∧ Q .non (mset M1 a (.dic [] []))) E
theorem qe_dclr {o : Expr} {to : QT} {apos cpos : Pos} (ho : QE X W o to) (hb : attributeBase o "clear" X.env (eval o X.env) = eval o X.env := by rfl) (hline : (apos.endLine == cpos.line) = true := by rfl) : QE X W (.Call (.Attribute o "clear" apos) [] [] cpos) (qDClr to) :=
  (pe_dclear ho hb hline).imp fun σ H Q ⟨env, M, G, Q0, E0, S, q, L, LE⟩ => by
    refine ⟨env, M, G, _, E0, S, q, fun x M1 v H1 G1 e1 w1 r1 q1 => ?_, LE⟩
    obtain ⟨a, ks, ys, rfl, hm, q1⟩ := q1
    cases r1
    obtain ⟨g, vs, h1, _⟩ := w1.mem a _ hm
    exact ⟨.inr (.inr (.inl ⟨rfl, .inl ⟨_, h1⟩⟩)), a, _, rfl, rfl, h1, L .non _ .non _ G1 e1 (w1.put (m := .dic [] []) g ⟨[], upd_same, rfl, Reps.nil⟩) rfl q1⟩
def revP (x : PV) (M : Mem) (Q : PK) : Prop := ∃ xs, sqA M x = some xs ∧ Q (.lst xs.reverse) M
def qRev (t : QT) : QT := fun env M Q E => t env M (fun x M1 => revP x M1 Q) E
theorem reps_rev {K : PySem.W.Frag} {G : Hp} : ∀ {xs : List PV} {vs : List V}, Reps K G xs vs → Reps K G xs.reverse vs.reverse
  | [], _, r => by cases r; exact Reps.nil
  | x :: xs, _, r => by
    obtain ⟨v, ws, rfl, r1, r2⟩ := r
    rw [List.reverse_cons, List.reverse_cons]
    exact (reps_rev r2).append (Reps.one r1)
theorem qe_rev {e : Expr} {t : QT} {k} {p1 p2 p3 : Pos} (he : QE X W e t) : QE X W (.Subscript e (.Slice none none (some (.UnaryOp .USub (.Constant (.int 1) k p1) p2)) p3) pos) (qRev t) := (pe_revL he).imp fun σ H Q ⟨env, M, G, Q0, E0, S, q, L, LE⟩ => by
  refine ⟨env, M, G, _, E0, S, q, fun x M1 v H1 G1 e1 w1 r1 q1 => ?_, LE⟩
  obtain ⟨xs, hs, q1⟩ := q1
  obtain ⟨p, vs, rfl, h1, rs⟩ := sqA_H hs r1 w1
  exact ⟨p, vs, rfl, h1, fun d hd => give_lst (L.mono e1) w1 hd (reps_rev rs) q1⟩
def bAddM : F2 := fun x y M Q => ∃ xs ys, sq M x = some xs ∧ sq M y = some ys ∧ xs.length + ys.length ≤ sizeLine ∧ ∀ p, M p = none → Q (.ref p) (mset M p (.lst (xs ++ ys)))
theorem oq_addM : OpQ X (binaryOp .Add) bAddM := by
  intro pins s σ H a b v u Q I ra rb ⟨x, y, M, G, Q0, rx, ry, w, ⟨xs, ys, hx, hy, hz, q⟩, L⟩
  obtain ⟨p1, vs, e1, h1, r1⟩ := sq_H hx rx w
  obtain ⟨p2, ws, e2, h2, r2⟩ := sq_H hy ry w
  exact op_cat pins s σ H a b v u Q I ra rb ⟨p1, p2, vs, ws, e1, e2, h1, h2, by rw [← r1.length, ← r2.length]; exact hz, fun p hp => give_ref (m := .lst _) L w (w.free hp) (mok_lst (r1.append r2)) (q p (w.freeM hp))⟩
def bShr : F2 := fun x y M Q => match x, y with
  | .int i, .int j => 0 ≤ j ∧ Q (.int (i / 2 ^ j.toNat)) M
  | _, _ => False
theorem oq_shr : OpQ X (binaryOp .RShift) bShr := opq_int op_shr (e' := fun i j => .int (i / 2 ^ j.toNat)) (fun _ _ _ _ => rfl) fun x y M Q q => by
  cases x <;> cases y <;> first | exact q.elim | exact ⟨_, _, rfl, rfl, q⟩
/-! ### range(a, b, c) -/
def sForR3 (t : QA) (g : QTG) (b : QS) : QS := fun D env M => t env M (fun xs M1 => ∃ lo hi c n, xs = [.int lo, .int hi, .int c] ∧ RgC lo hi c n ∧ forI n (fun i x => x = .int (lo + i * c)) (fun _ => True) g b D env M1) (exE D env)
theorem qs_forR3 {tg a c d : Expr} {body : List Stmt} {t : QA} {g : QTG} {b : QS} {p pos' : Pos} (po : PassesOwn (model X.prog X.w) X.A X.env X.xe) (hc : X.calm = true) (hm : X.mg "range" = none) (ha : QPA X W [a, c, d] t) (hgt : QPG X tg g) (hb : QPSs X W body b) (hg : Gl X "range" := by rfl)
    (hst : starEach [a, c, d] X.env = (false, eval a X.env) :: starEach [c, d] X.env := by rfl) (hpl : (backTo pos' (starEach [c, d] X.env)).any (·.1) = false := by rfl) (hfs : ∀ x, foldedSetIterable (.Call (.Name "range" p) [a, c, d] [] pos') X.env x = pure x := by intro _; rfl) :
    QPS X W (.For tg (.Call (.Name "range" p) [a, c, d] [] pos') body [] pos) (sForR3 t g b) :=
  (ps_for po hc (pi_range3 hg hm ha hst hpl) hgt hb hfs).imp fun D σ H ⟨env, M, G, D0, S, q, L⟩ => by
    refine ⟨env, M, G, _, _, S, q, fun xs M1 vs H1 G1 e1 w1 r1 q1 => ?_, liftX_E S.env L.ex⟩
    obtain ⟨lo, hi, st, n, rfl, hR, I, i0, _, hs, hd⟩ := q1
    obtain ⟨v, _, rfl, rv, u, _, rfl, ru, z, _, rfl, rz, rfl⟩ := r1
    cases rv; cases ru; cases rz
    refine ⟨lo, hi, st, n, rfl, hR, for_rangeC (lo := lo) (c := st) (n := n) (PvQ X.K G I) ⟨env, M1, G1, e1, S.to e1 w1, i0⟩ (fun i σ H hi' ⟨env, M, G2, e2, S2, q2⟩ => ?_) (fun σ H ⟨env, M, G2, e2, S2, q2⟩ => L.nx env M σ H G2 e2 S2 (hd env M q2))⟩
    exact turnQ L e2 S2 (x := .int (lo + i * st)) rfl (hs i _ env M hi' rfl q2)
end
end TQ
namespace TN
open PySem PySem.Spec PyProof.Rows L2 TQ TM
section
variable {K : PySem.W.Frag} {env : Sl} {M : Mem} {Q : PK} {E : EK} {D : QEnds} {x y : PV} {xs : List PV} {i j : Nat} {a : Addr}
def lcEn (x : PV) (vs : List Nat) (i j : Nat) (tt : QB) (te : QT) (env : Sl) (M : Mem) [Q : Box PK] : Prop := ∃ items, x = .tup items ∧ lcQ (enumF 0 items) (slEn env vs i j) tt te M Q.v
theorem e_lcEn {vs : List Nat} {tl : QT} {tt : QB} {te : QT} : qLcEn i j vs tl tt te env M Q E = tl env M (fun x M1 => @lcEn x vs i j tt te env M1 ⟨Q⟩) E := rfl
theorem lcEn_of {vs : List Nat} {tt : QB} {te : QT} {Q : Box PK} (r : PV → Option PV) (hn : xs.length ≤ 100000) (h : ∀ k x, xs[k]? = some x → ∀ M2, MExt M M2 → lcEl tt te (((wipeQ env vs).set i (some (.int (k : Nat)))).set j (some x)) M2 (r (.tup [.int (k : Nat), x]))) (q : Q.v (.lst ((enumF 0 xs).filterMap r)) M) : @lcEn (.tup xs) vs i j tt te env M Q := by
  refine ⟨xs, rfl, by rw [enumF_length]; exact hn, r, fun z hz M2 hM => ?_, q⟩
  obtain ⟨k, hk, rfl⟩ := List.getElem_of_mem hz
  rw [enumF_length] at hk
  have h1 := List.getElem?_eq_getElem hk
  have h2 := enumF_get xs 0 k h1
  rw [Nat.zero_add] at h2
  have h3 := (List.getElem?_eq_some_iff.mp h2).2
  rw [h3]
  exact ⟨_, rfl, h k _ h1 M2 hM⟩
def lcTM (x : PV) (vs : List Nat) (j : Nat) (tt : QB) (te : QT) (env : Sl) (M : Mem) [Q : Box PK] : Prop := ∃ items, x = .tup items ∧ lcQM items (fun y => some ((wipeQ env vs).set j (some y))) tt te M Q.v
theorem e_lcTM {vs : List Nat} {tl : QT} {tt : QB} {te : QT} : qLcTM j vs tl tt te env M Q E = tl env M (fun x M1 => @lcTM x vs j tt te env M1 ⟨Q⟩) E := rfl
theorem lcTM_of {vs : List Nat} {tt : QB} {te : QT} {Q : Box PK} (r : PV → Option PV) (hn : xs.length ≤ 100000) (h : ∀ x ∈ xs, ∀ M2, MExt M M2 → lcEl tt te ((wipeQ env vs).set j (some x)) M2 (r x)) (q : ∀ p, M p = none → Q.v (.ref p) (mset M p (.lst (xs.filterMap r)))) : @lcTM (.tup xs) vs j tt te env M Q :=
  ⟨xs, rfl, hn, r, fun x hx M2 hM => ⟨_, rfl, h x hx M2 hM⟩, q⟩
def dgetB (x k : PV) (M : Mem) [Q : Box PK] : Prop := dgetP x k M Q.v
theorem e_qDGet {td ty : QT} : qDGet td ty env M Q E = td env M (fun x M1 => ty env M1 (fun k M2 => @dgetB x k M2 ⟨Q⟩) E) E := rfl
theorem dget_of {k v : PV} {kk : Key} {ks : List Key} {vs : List PV} {Q : Box PK} (h : M a = some (.dic ks vs)) (hk : keyP k = some kk) (hg : getX kk ks vs = some v) : @dgetB (.ref a) k M Q = Q.v v M := propext
  ⟨fun ⟨_, _, _, _, _, e, h1, h2, h3, q⟩ => by cases e; rw [h] at h1; cases h1; rw [hk] at h2; cases h2; rw [hg] at h3; cases h3; exact q, fun q => ⟨_, _, _, _, _, rfl, h, hk, hg, q⟩⟩
def dictB (xs : List PV) (M : Mem) [Q : Box PK] : Prop := cDictP xs M Q.v
theorem e_cDictP : cDictP xs M Q = @dictB xs M ⟨Q⟩ := rfl
theorem dict_of {Q : Box PK} (kvs : List (Key × PV)) (h : sqA M x = some (kvs.map pairP)) (q : ∀ p, M p = none → Q.v (.ref p) (mset M p (.dic (mgP [] [] kvs).1 (mgP [] [] kvs).2))) : @dictB [x] M Q := ⟨kvs, h, q⟩
def dspB (kts : List (Str × QT)) (env : Sl) (M : Mem) [Q : Box PK] [E : Box EK] : Prop := ∀ p, M p = none → qPs kts env (mset M p (.dic [] [])) (fun xs M2 => M2 p = some (.dic [] []) ∧ Q.v (.ref p) (mset M2 p (.dic (kts.map fun kt => Sum.inr kt.1) xs))) E.v
theorem e_qDsp {kts : List (Str × QT)} : qDsp kts env M Q E = @dspB kts env M ⟨Q⟩ ⟨E⟩ := rfl
theorem dspB_of {kts : List (Str × QT)} {Q : Box PK} {E : Box EK} (h : ∀ p, M p = none → qPs kts env (mset M p (.dic [] [])) (fun xs M2 => M2 p = some (.dic [] []) ∧ Q.v (.ref p) (mset M2 p (.dic (kts.map fun kt => Sum.inr kt.1) xs))) E.v) : @dspB kts env M Q E := h
theorem e_qPs_n : qPs [] env M = qNil env M := rfl
theorem e_qPs_c {n : Str} {t : QT} {r : List (Str × QT)} {Q : List PV → Mem → Prop} : qPs ((n, t) :: r) env M Q E = t env M (fun x M1 => qPs r env M1 (fun xs M2 => Q (x :: xs) M2) E) E := rfl
theorem e_qPs_0 {Q : List PV → Mem → Prop} : qPs [] env M Q E = Q [] M := rfl
def clrB (x : PV) (M : Mem) [Q : Box PK] : Prop := ∃ a ys, x = .ref a ∧ M a = some (.lst ys) ∧ Q.v .non (mset M a (.lst []))
theorem e_qClr {to : QT} : qClr to env M Q E = to env M (fun x M1 => @clrB x M1 ⟨Q⟩) E := rfl
theorem clr_of {Q : Box PK} (h : M a = some (.lst xs)) (q : Q.v .non (mset M a (.lst []))) : @clrB (.ref a) M Q := ⟨a, xs, rfl, h, q⟩
def dclrB (x : PV) (M : Mem) [Q : Box PK] : Prop := ∃ a ks ys, x = .ref a ∧ M a = some (.dic ks ys) ∧ Q.v .non (mset M a (.dic [] []))
theorem e_qDClr {to : QT} : qDClr to env M Q E = to env M (fun x M1 => @dclrB x M1 ⟨Q⟩) E := rfl
theorem dclr_of {ks : List Key} {Q : Box PK} (h : M a = some (.dic ks xs)) (q : Q.v .non (mset M a (.dic [] []))) : @dclrB (.ref a) M Q := ⟨a, ks, xs, rfl, h, q⟩
def revB (x : PV) (M : Mem) [Q : Box PK] : Prop := revP x M Q.v
theorem e_qRev {t : QT} : qRev t env M Q E = t env M (fun x M1 => @revB x M1 ⟨Q⟩) E := rfl
theorem rev_lst {Q : Box PK} : @revB (.lst xs) M Q = Q.v (.lst xs.reverse) M := propext ⟨fun ⟨_, h, q⟩ => by cases h; exact q, fun q => ⟨_, rfl, q⟩⟩
def addMB (x y : PV) (M : Mem) [Q : Box PK] : Prop := bAddM x y M Q.v
theorem e_bAddM : bAddM x y M Q = @addMB x y M ⟨Q⟩ := rfl
theorem addM_of {ys : List PV} {Q : Box PK} (hx : sq M x = some xs) (hy : sq M y = some ys) (hl : xs.length + ys.length ≤ sizeLine) (q : ∀ p, M p = none → Q.v (.ref p) (mset M p (.lst (xs ++ ys)))) : @addMB x y M Q := ⟨xs, ys, hx, hy, hl, q⟩
theorem e_bShr {i j : Int} : bShr (.int i) (.int j) M Q = (0 ≤ j ∧ Q (.int (i / 2 ^ j.toNat)) M) := rfl
def rng3P (lo hi c : Int) (g : QTG) (b : QS) (D : QEnds) (env : Sl) (M : Mem) : Prop := ∃ n, RgC lo hi c n ∧ forI n (fun i x => x = .int (lo + i * c)) (fun _ => True) g b D env M
def isR3 (xs : List PV) (A : Int → Int → Int → Prop) : Prop := ∃ lo hi c, xs = [.int lo, .int hi, .int c] ∧ A lo hi c
theorem isR3_eq {i j k : Int} {A : Int → Int → Int → Prop} : isR3 [.int i, .int j, .int k] A = A i j k := propext ⟨fun ⟨_, _, _, h, q⟩ => by cases h; exact q, fun q => ⟨_, _, _, rfl, q⟩⟩
theorem e_sForR3 {t : QA} {g : QTG} {b : QS} : sForR3 t g b D env M = t env M (fun xs M1 => isR3 xs fun lo hi c => rng3P lo hi c g b D env M1) (exE D env) := by
  unfold sForR3
  congr 1
  funext xs M1
  exact propext ⟨fun ⟨lo, hi, c, n, e, h, q⟩ => ⟨lo, hi, c, e, n, h, q⟩, fun ⟨lo, hi, c, e, n, h, q⟩ => ⟨lo, hi, c, n, e, h, q⟩⟩
theorem rng3P_of {lo hi c : Int} {n : Nat} {g : QTG} {b : QS} (h : RgC lo hi c n) (I : Nat → Sl → Mem → Prop) (h0 : I 0 env M)
    (hs : ∀ (i : Nat) env M, i < n → I i env M → g (.int (lo + i * c)) env M fun env' M' => b { D with nx := I (i + 1), bk := D.nx, ct := I (i + 1) } env' M') (hn : ∀ env M, I n env M → D.nx env M) : rng3P lo hi c g b D env M :=
  ⟨n, h, I, h0, fun _ _ _ _ _ => trivial, fun i x env M hi' hx q => by subst hx; exact hs i env M hi' q, hn⟩
theorem isB_ll {Q : Box PK} : @isiB K (.lst xs) (.ty "list") M Q = Q.v (.bl true) M := isiP rfl trivial rfl rfl
theorem isB_tl {Q : Box PK} : @isiB K (.tup xs) (.ty "list") M Q = Q.v (.bl false) M := isiP rfl trivial rfl rfl
theorem isB_rl {Q : Box PK} (h : M a = some (.lst xs)) : @isiB K (.ref a) (.ty "list") M Q = Q.v (.bl true) M := by
  have e : tyP M (.ref a) = some (.type "list") := by
    show (match M a with
      | some (.lst _) => some (Value.type "list")
      | some (.dic _ _) => some (.type "dict")
      | some (.ins C _ _) => some (.ref C)
      | _ => none) = _
    rw [h]
  exact isiP e trivial rfl rfl
theorem sl_tupQ {lo hi : Option Int} : bSl lo hi (.tup xs) M Q = (¬ (HT.sIx xs.length 0 lo = 0 ∧ HT.sIx xs.length xs.length hi = xs.length) ∧ Q (.tup ((xs.drop (HT.sIx xs.length 0 lo)).take (HT.sIx xs.length xs.length hi - HT.sIx xs.length 0 lo))) M) := rfl
end
end TN

/-! for a, b in zip(list, list) -/
namespace TQ
open PySem PySem.Spec PyProof.Rows L2
def sForZ (t : QA) (g : QTG) (b : QS) : QS := fun D env M => t env M (fun zs M1 => ∃ xs ys, zs = [.lst xs, .lst ys] ∧ xs.length = ys.length ∧ forI xs.length (fun i x => ∃ u v, xs[i]? = some u ∧ ys[i]? = some v ∧ x = .tup [u, v]) (fun _ => True) g b D env M1) (exE D env)
section
variable {X : Cx} {W : WX} {pos : Pos}
theorem qs_forZ {a c : Expr} {body : List Stmt} {t : QA} {g : QTG} {b : QS} {p pos' tpos : Pos} {elts : List Expr} {kk : Nat} (po : PassesOwn (model X.prog X.w) X.A X.env X.xe) (hc : X.calm = true) (hm : X.mg "zip" = none) (ha : QPA X W [a, c] t) (hgt : QPG X (.Tuple elts kk tpos) g) (hb : QPSs X W body b) (hg : Gl X "zip" := by rfl)
    (hs : starEach [a, c] X.env = (false, eval a X.env) :: starEach [c] X.env := by rfl) (hpl : (backTo pos' (starEach [c] X.env)).any (·.1) = false := by rfl) (hfs : ∀ x, foldedSetIterable (.Call (.Name "zip" p) [a, c] [] pos') X.env x = pure x := by intro _; rfl) :
    QPS X W (.For (.Tuple elts kk tpos) (.Call (.Name "zip" p) [a, c] [] pos') body [] pos) (sForZ t g b) :=
  (ps_for po hc (pi_zip hg hm ha hs hpl) hgt hb hfs).imp fun D σ H ⟨env, M, G, D0, S, q, L⟩ => by
    refine ⟨env, M, G, _, _, S, q, fun zs M1 vs H1 G1 e1 w1 r1 q1 => ?_, liftX_E S.env L.ex⟩
    obtain ⟨xs, ys, rfl, hl, I, i0, _, hs, hd⟩ := q1
    obtain ⟨u, v, rfl, ru, rv⟩ := reps2 r1
    obtain ⟨a, us, rfl, h1, ra⟩ := ru
    obtain ⟨c, vs, rfl, h2, rc⟩ := rv
    refine ⟨a, c, us, vs, rfl, SqL.of (w1.sub _ _ h1), SqL.of (w1.sub _ _ h2), RZ.for_zipL (by rw [← ra.length, ← rc.length, hl]) (PvQ X.K G1 I) ⟨env, M1, G1, Ext.refl _, S.to e1 w1, i0⟩ (fun i σ H ⟨env, M, G2, e2, S2, q2⟩ => ⟨SqL.of (S2.wf.sub _ _ (e2 _ _ h1)), SqL.of (S2.wf.sub _ _ (e2 _ _ h2))⟩)
      (fun i x y T σ H hx hy ⟨env, M, G2, e2, S2, q2⟩ hT => ?_) (fun σ H ⟨env, M, G2, e2, S2, q2⟩ => L.nx env M σ H G2 (e1.trans e2) S2 (hd env M (by rw [ra.length]; exact q2)))⟩
    obtain ⟨x', hx', rx⟩ := ra.getV hx
    obtain ⟨y', hy', ry⟩ := rc.getV hy
    have eT : Ext G2 (upd G2 T (.tup [x, y])) := Ext.new (S2.wf.free hT)
    have S3 : Sim X.K env M (upd G2 T (.tup [x, y])) σ (upd H T (.tup [x, y])) := ⟨S2.env.mono eT, S2.wf.newG hT⟩
    exact turnQ (L.mono e1) (e2.trans eT) S3 (x := .tup [x', y']) ⟨T, _, rfl, SqT.of upd_same, Reps.cons (Rep.mono (e2.trans eT) _ _ rx) (Reps.cons (Rep.mono (e2.trans eT) _ _ ry) Reps.nil)⟩ (hs i _ env M (List.getElem?_eq_some_iff.mp hx').1 ⟨_, _, hx', hy', rfl⟩ q2)
/-! comprehensions over lists whose elements write; the list is kept as it stands at the end -/
def lcWQ (items : List PV) (slots : PV → Sl) (te : QT) (M1 : Mem) (Q : PK) : Prop := items.length ≤ 100000 ∧ ∃ I : Nat → List PV → Mem → Prop, I 0 [] M1 ∧
  (∀ i x acc M2 D, items[i]? = some x → acc.length = i → I i acc M2 → M2 D = none → te (slots x) (mset M2 D (.lst acc)) (fun y M3 => ∃ M4, M3 = mset M4 D (.lst acc) ∧ M4 D = none ∧ I (i + 1) (acc ++ [y]) M4) EF) ∧ ∀ acc M2, acc.length = items.length → I items.length acc M2 → Q (.lst acc) M2
def qLcLW (j : Nat) (vs : List Nat) (tl : QT) (te : QT) : QT := fun env M Q E => tl env M (fun x M1 => ∃ items, x = .lst items ∧ lcWQ items (fun y => (wipeQ env vs).set j (some y)) te M1 Q) E
theorem lcLW_imp {own : List Nat} {j : Nat} {tl : QT} {te : QT} {σ : L2.St} {H : Hp} {Q : VK} (hj : j ∈ own) (h : tie X.K W (qLcLW j own tl te) σ H Q) : tLc (iList X.K (tie X.K W tl)) (gName j) (tieB X.K W0 qYes) (tie X.K W0 te) own σ H Q := by
  obtain ⟨env, M, G, Q0, E0, S, q, L, LE⟩ := h
  refine ⟨env, M, G, _, E0, S, q, fun y M1 v H1 G1 e1 w1 r1 q1 => ?_, LE⟩
  obtain ⟨items, rfl, hn, I, i0, hI, hE⟩ := q1
  obtain ⟨p, vs, rfl, h1, rs⟩ := r1
  refine ⟨p, rfl, ⟨_, SqL.of (w1.sub _ _ h1)⟩, fun D hD => ?_⟩
  have hM := w1.freeM hD
  refine ⟨fun i m H => m = items.length - i ∧ i ≤ items.length ∧ ∃ G' M2 acc, Ext G1 G' ∧ Wf X.K (mset M2 D (.lst acc)) H G' ∧ M2 D = none ∧ acc.length = i ∧ I i acc M2, ⟨items.length, by omega, Nat.zero_le _, G1, M1, [], Ext.refl _, w1.put (w1.free hD) (mok_lst Reps.nil), hM, rfl, i0⟩, fun i m H ⟨hm, hi, G', M2, acc, e', w', hM2, hl, i1⟩ => ?_⟩
  have hT := SqL.of (K := X.K) (w'.sub _ _ (e' _ _ h1))
  by_cases hz : i = items.length
  · subst hz
    obtain ⟨ws, h2, r2, g0, w2⟩ := w'.freeze hM2
    exact .inl ⟨⟨vs, hT, by rw [rs.length]; exact Nat.le_refl _⟩, (L.mono e1) (.lst acc) M2 _ H _ (e'.trans (Ext.new g0)) w2 ⟨D, ws, rfl, upd_same, Reps.mono (Ext.new g0) _ _ r2⟩ (hE acc M2 hl i1)⟩
  · have hlt : i < items.length := by omega
    have hx := List.getElem?_eq_getElem hlt
    obtain ⟨v, hv, rv⟩ := rs.get hx
    refine .inr ⟨⟨vs, v, hT, hv⟩, fun H => ∃ G' M2 acc, Ext G1 G' ∧ Wf X.K (mset M2 D (.lst acc)) H G' ∧ M2 D = none ∧ acc.length = i + 1 ∧ I (i + 1) acc M2, fun H' h => ⟨m - 1, by omega, by omega, by omega, h⟩, fun z H' hy => ?_⟩
    obtain ⟨rfl, hy⟩ := hy
    have ez := hy vs hT
    rw [hv] at ez
    cases ez
    refine ⟨wipe_set hj, ?_⟩
    have S2 : Sim X.K ((wipeQ env own).set j (some items[i])) _ G' ((L2.wipe σ own).set j (some v)) H' := ⟨((S.env.mono (e1.trans e')).wipe _).set (Rep.mono e' _ _ rv), w'⟩
    refine ⟨_, _, G', fun b M4 => b = true ∧ M4 = mset M2 D (.lst acc), EF, S2, ⟨rfl, rfl⟩, fun b M4 H3 G3 e3 w3 q3 => ?_, EF_lift⟩
    obtain ⟨rfl, rfl⟩ := q3
    rw [if_pos rfl]
    refine ⟨_, _, G3, _, EF, S2.to e3 w3, hI i _ acc M2 D hx hl i1 hM2, fun y M5 v H4 G4 e4 w4 ry q4 => ?_, EF_lift⟩
    obtain ⟨M6, rfl, hM6, q4⟩ := q4
    obtain ⟨g0, ws, h5, r5⟩ := w4.mem D _ mset_same
    have w5 := w4.put (p := D) (o := .lst (ws ++ [v])) (m := .lst (acc ++ [y])) g0 (mok_lst (r5.append (Reps.one ry)))
    rw [mset_mset] at w5
    refine ⟨ws, h5, by rw [← r5.length, sizeLine_eq]; omega, G4, M6, acc ++ [y], (e'.trans e3).trans e4, w5, hM6, by rw [List.length_append, hl]; rfl, q4⟩
theorem qe_lcLW {elt iter : Expr} {x : Str} {px : Pos} {scope : Scope} {own : List (Str × Nat)} {j : Nat} {tl : QT} {te : QT} (hc : TC.CoolX X) (hN : X.N.Nodup) (hl : QE X W iter tl) (hj : j ∈ own.map (·.2))
    (ok : BlkOk X.N X.env.scope scope own) (hg : ∀ (s : Shared) (H : Hp) (C : Addr) (cl : List (Str × Addr)) (fp : List Addr) (xe : Value → Shared → Prop), PG (TC.blkX X s H scope (compEnvC scope cl C X.env) fp xe) (.Name x px) (gName j))
    (ht : ∀ (s : Shared) (H : Hp) (C : Addr) (cl : List (Str × Addr)) (fp : List Addr) (xe : Value → Shared → Prop), QPTs (TC.blkX X s H scope (compEnvC scope cl C X.env) fp xe) [] qYes)
    (he : ∀ (s : Shared) (H : Hp) (C : Addr) (cl : List (Str × Addr)) (fp : List Addr) (xe : Value → Shared → Prop), QE (TC.blkX X s H scope (compEnvC scope cl C X.env) fp xe) W0 elt te) (hfs : ∀ v, foldedSetIterable iter X.env v = pure v := by intro _; rfl) :
    QE X W (.ListComp elt [{ target := .Name x px, iter := iter, ifs := [], is_async := 0 }] scope pos) (qLcLW j (own.map (·.2)) tl te) :=
  (TC.pe_lcX (C := TC.CoolX) (Wb := W0) (tt := tieB X.K W0 qYes) (te := tie X.K W0 te) hc hN (TC.pic_list hl) ok hg (fun s H c cl fp xe _ => ht s H c cl fp xe) (fun s H c cl fp xe _ => he s H c cl fp xe) (fun _ _ _ _ _ _ => TC.blkTk_none) hfs).imp fun σ H Q h => lcLW_imp hj h
theorem qs_lcLW (i : Nat) {y : Str} {py spos : Pos} {elt iter : Expr} {x : Str} {px : Pos} {scope : Scope} {own : List (Str × Nat)} {j : Nat} {tl : QT} {te : QT} (hc : TC.CoolX X) (hN : X.N.Nodup) (hl : QE X W iter tl) (hj : j ∈ own.map (·.2))
    (ok : BlkOk X.N X.env.scope scope own) (hg : ∀ (s : Shared) (H : Hp) (C : Addr) (cl : List (Str × Addr)) (fp : List Addr) (xe : Value → Shared → Prop), PG (TC.blkX X s H scope (compEnvC scope cl C X.env) fp xe) (.Name x px) (gName j))
    (ht : ∀ (s : Shared) (H : Hp) (C : Addr) (cl : List (Str × Addr)) (fp : List Addr) (xe : Value → Shared → Prop), QPTs (TC.blkX X s H scope (compEnvC scope cl C X.env) fp xe) [] qYes)
    (he : ∀ (s : Shared) (H : Hp) (C : Addr) (cl : List (Str × Addr)) (fp : List Addr) (xe : Value → Shared → Prop), QE (TC.blkX X s H scope (compEnvC scope cl C X.env) fp xe) W0 elt te) (hfs : ∀ v, foldedSetIterable iter X.env v = pure v := by intro _; rfl) (hlo : X.env.scope.names.lookup y = some .local := by rfl) (hi : X.N[i]? = some y := by rfl) (hsw : swapsWith (.ListComp elt [{ target := .Name x px, iter := iter, ifs := [], is_async := 0 }] scope pos) (some (.Name y py)) spos.line X.env = pure true := by exact sw_true rfl rfl rfl (by decide +kernel)) :
    QPS X W (.Assign [.Name y py] (.ListComp elt [{ target := .Name x px, iter := iter, ifs := [], is_async := 0 }] scope pos) spos) (sAsg (qLcLW j (own.map (·.2)) tl te) (gNm i)) :=
  (TC.ps_setLcX (C := TC.CoolX) (Wb := W0) (tt := tieB X.K W0 qYes) (te := tie X.K W0 te) hc hN hi hlo hsw (TC.pic_list hl) ok hg (fun s H c cl fp xe _ => ht s H c cl fp xe) (fun s H c cl fp xe _ => he s H c cl fp xe) (fun _ _ _ _ _ _ _ => TC.blkTk_none) hfs).imp fun D σ H h => lcLW_imp hj (tieNm (tieAsg h) fun _ _ _ _ k z => tie_mono k z)
end
end TQ
namespace TN
open PySem PySem.Spec PyProof.Rows L2 TQ TM
section
variable {K : PySem.W.Frag} {env : Sl} {M : Mem} {D : QEnds} {xs ys : List PV}
def zipP (zs : List PV) (g : QTG) (b : QS) (D : QEnds) (env : Sl) (M : Mem) : Prop := ∃ xs ys, zs = [.lst xs, .lst ys] ∧ xs.length = ys.length ∧ forI xs.length (fun i x => ∃ u v, xs[i]? = some u ∧ ys[i]? = some v ∧ x = .tup [u, v]) (fun _ => True) g b D env M
theorem e_sForZ {t : QA} {g : QTG} {b : QS} : sForZ t g b D env M = t env M (fun zs M1 => zipP zs g b D env M1) (exE D env) := rfl
theorem zipP_of {g : QTG} {b : QS} (hl : xs.length = ys.length) (h : forI xs.length (fun i x => ∃ u v, xs[i]? = some u ∧ ys[i]? = some v ∧ x = .tup [u, v]) (fun _ => True) g b D env M) : zipP [.lst xs, .lst ys] g b D env M := ⟨xs, ys, rfl, hl, h⟩
def lcW (x : PV) (vs : List Nat) (j : Nat) (te : QT) (env : Sl) (M : Mem) [Q : Box PK] : Prop := ∃ items, x = .lst items ∧ lcWQ items (fun y => (wipeQ env vs).set j (some y)) te M Q.v
theorem e_lcLW {j : Nat} {vs : List Nat} {tl te : QT} {Q : PK} {E : EK} : qLcLW j vs tl te env M Q E = tl env M (fun x M1 => @lcW x vs j te env M1 ⟨Q⟩) E := rfl
theorem lcW_of {j : Nat} {vs : List Nat} {te : QT} {Q : Box PK} (hn : xs.length ≤ 100000) (I : Nat → List PV → Mem → Prop) (h0 : I 0 [] M)
    (h : ∀ i x acc M2 D, xs[i]? = some x → acc.length = i → I i acc M2 → M2 D = none → te ((wipeQ env vs).set j (some x)) (mset M2 D (.lst acc)) (fun y M3 => ∃ M4, M3 = mset M4 D (.lst acc) ∧ M4 D = none ∧ I (i + 1) (acc ++ [y]) M4) EF) (hq : ∀ acc M2, acc.length = xs.length → I xs.length acc M2 → Q.v (.lst acc) M2) : @lcW (.lst xs) vs j te env M Q := ⟨xs, rfl, hn, I, h0, h, hq⟩
end
end TN

/-! lambdas: made, handed to a def, called there -/
namespace TQ
open PySem PySem.Spec PyProof.Rows L2
/-! ### making -/
def cloX (X : Cx) (L : LamT) : List (Str × Addr) := cloFrom X.env.cells L.sc.names []
theorem cloFrom_names (cells : List (Str × Addr)) : ∀ (ns : List (Str × NameKind)) (acc : List (Str × Addr)), (cloFrom cells ns acc).map (·.1) = ((ns.filter fun y => y.2 == .free).map (·.1)).reverse ++ acc.map (·.1)
  | [], acc => rfl
  | (n, k) :: r, acc => by
    unfold cloFrom
    by_cases h : (k == NameKind.free) = true
    · rw [if_pos h, cloFrom_names cells r, List.filter_cons_of_pos (p := fun y : Str × NameKind => y.2 == .free) h, List.map_cons, List.map_cons, List.reverse_cons, List.append_assoc]
      rfl
    · rw [if_neg h, cloFrom_names cells r, List.filter_cons_of_neg (p := fun y : Str × NameKind => y.2 == .free) h]
theorem clo_names (X : Cx) (L : LamT) : (cloX X L).map (·.1) = capN L := by
  unfold cloX capN
  rw [cloFrom_names]
  simp
/-- the names that a lambda captures stand in its maker's cells -/
def FreeIn (sc : Scope) (L : LamT) : Prop := ∀ y ∈ L.sc.names, y.2 = .free → sc.names.lookup y.1 = some .cell ∨ sc.names.lookup y.1 = some .free
section
variable {X : Cx} {pins : List (Addr × Obj)} {σ : L2.St} {H : Hp} {s : Shared} {L : LamT}
theorem clo_cell (hf : FreeIn X.env.scope L) (ok : X.Ok) {y : Str} {c : Addr} (h : (y, c) ∈ cloX X L) : X.env.cells.lookup y = some c := by
  rcases cloFrom_mem h with z | ⟨h1, h2⟩
  · cases z
  · obtain ⟨c1, e⟩ := ok.has y (hf _ h1 rfl)
    rw [e] at h2
    rw [e, h2]
    rfl
theorem clo_ok (hf : FreeIn X.env.scope L) (ok : X.Ok) : ClOk L (cloX X L) := by
  refine ⟨clo_names X L, fun y c d h1 h2 => ?_, fun y hy e => ?_, fun x y c e1 e2 => ?_⟩
  · have e1 := clo_cell hf ok h1
    rw [clo_cell hf ok h2] at e1
    exact (Option.some.inj e1).symm
  · have hy' : (y.1, NameKind.free) ∈ L.sc.names := by rw [← e]; exact hy
    exact mem_lookup (cloFrom_has (cells := X.env.cells) (acc := []) hy')
  · exact ok.inj x y c (clo_cell hf ok (PySem.mem_of_lookup e1)) (clo_cell hf ok (PySem.mem_of_lookup e2))
theorem tabS_keep {H H1 : Hp} {P : Addr} {q : Str} (t : LamX.TabS H P q) (h : H1 P = H P) (e : ∀ b u, H b = some u → Fix u → H1 b = some u) : LamX.TabS H1 P q := by
  obtain ⟨ps, h1, h2, h3⟩ := t
  refine ⟨ps, h.trans h1, h2, fun pos cv hc => ?_⟩
  obtain ⟨c, e1, e2⟩ := h3 pos cv hc
  exact ⟨c, e1, e _ _ e2 trivial⟩
theorem lam_made {P c : Addr} {pos : Pos} {E : Value → Shared → Prop} {Q : Value → Shared → Prop} (I : Inv X pins σ H s) (hq : L.q = X.env.qual ++ "<lambda>") (TB : LamX.TabB X.base X.mg c P) (hcode : X.env.code = .ref c)
    (hT : LamX.TabS H P L.q) (hdef : defaultsOf L.pa X.env = ([], [])) (hf : FreeIn X.env.scope L)
    (h : ∀ (f c' : Addr) (H1 : Hp) (s' : Shared), Inv X pins σ H1 s' → (∀ b o, b ≠ P → H b = some o → H1 b = some o) → LamX.TabS H1 P L.q → H f = none → H1 f = some (LamO f L (cloX X L) c') → H1 c' = some (LamX.CodeO c' L.q) → Q (.ref f) s') :
    wpAny (model X.prog X.w) X.A (eval (.Lambda L.pa L.body L.sc pos) X.env) Q E s := by
  have hhas : ∀ y ∈ L.sc.names, y.2 = .free → ∃ c, X.env.cells.lookup y.1 = some c := fun y hy e => I.ok.has _ (hf y hy e)
  obtain ⟨ps, hP, ht, ha⟩ := hT
  have bP : s.heap.BuiltinsAt X.mg P := TB.bm.keeps I.bk
  have hgl := I.mod.glob.keeps I.bk
  have hcd := TB.code.keeps I.bk
  have mk : ∀ {H1 : Hp} {h1 : Heap} {tk : Nat} {c' : Addr} {pm ctv : Value}, Inv X pins σ H1 { s with heap := h1, toks := tk } → Inv X pins σ (upd H1 h1.objs.size (LamO h1.objs.size L (cloX X L) c')) { s with heap := h1.push (PySem.W.kla_obj "<lambda>" L.q L.pa L.body L.sc (cloX X L) pm c' ctv), toks := tk } := fun {H1 h1 tk c' pm ctv} J => by
    refine J.laid (a := h1.objs.size) (t' := tk) (fun b u e => Heap.get?_push_of_some _ e) (Nat.le_refl _) ?_
    have e : (h1.push (PySem.W.kla_obj "<lambda>" L.q L.pa L.body L.sc (cloX X L) pm c' ctv)).get? h1.objs.size = some (PySem.W.kla_obj "<lambda>" L.q L.pa L.body L.sc (cloX X L) pm c' ctv) := Heap.get?_push_size _ rfl
    exact ⟨⟨pm, ctv, e⟩, ⟨_, e⟩, fun _ _ ⟨p, t, z⟩ st => ⟨p, t, st _ z⟩⟩
  refine PySem.W.kla_eval hdef ?_
  rw [← hq]
  cases hc : codeAmong pos ps.toList with
  | none =>
    refine PySem.W.kla_makeFunction (mg := X.mg) (c := c) (P := P) (ps := ps) (clos := cloX X L) (closure_ok hhas) I.ok.glob hgl hcode hcd (I.hok P _ hP) ht hc TB.gP bP fun c' ctv h' tk hx hge hlt hrec htb => ?_
    obtain ⟨c2, oc, vs, t, e2, hoc, hd, hv⟩ := hrec
    cases e2
    have nC : H c' = none := I.hok.fresh hge
    have cP : c' ≠ P := fun z => by rw [z, hP] at nC; cases nC
    have J := LamX.inv_table (t' := tk) (more := #[rawInt pos.line, rawInt pos.col, .ref c']) (h' := h') I hP hx htb hge ⟨oc, vs, t, hoc, hd, hv⟩
    have nF := J.hok.fresh (Nat.le_refl h'.objs.size)
    have fP : P ≠ h'.objs.size := fun z => by rw [← z, upd_ne cP.symm, upd_same] at nF; cases nF
    have old : ∀ b o, b ≠ P → H b = some o → upd (upd (upd H P (.tbl (ps ++ #[rawInt pos.line, rawInt pos.col, .ref c']))) c' (LamX.CodeO c' L.q)) h'.objs.size (LamO h'.objs.size L (cloX X L) c') b = some o := fun b o hb e => by
      have e1 : upd (upd H P (.tbl (ps ++ #[rawInt pos.line, rawInt pos.col, .ref c']))) c' (LamX.CodeO c' L.q) b = some o := by rw [upd_ne (ne_of_none e nC), upd_ne hb]; exact e
      rw [upd_ne (ne_of_none e1 nF)]
      exact e1
    have hc' : upd (upd (upd H P (.tbl (ps ++ #[rawInt pos.line, rawInt pos.col, .ref c']))) c' (LamX.CodeO c' L.q)) h'.objs.size (LamO h'.objs.size L (cloX X L) c') c' = some (LamX.CodeO c' L.q) := by rw [upd_ne (Nat.ne_of_lt hlt), upd_same]
    refine h h'.objs.size c' _ _ (mk J) old ⟨ps ++ #[rawInt pos.line, rawInt pos.col, .ref c'], ?_, ?_, fun p' cv hcv => ?_⟩ (I.hok.fresh (Nat.le_trans hge (Nat.le_of_lt hlt))) upd_same hc'
    · rw [upd_ne fP, upd_ne cP.symm, upd_same]
    · rw [Array.toList_append]; exact PySem.TriplesOk_snoc _ _ _ _ ht
    · rw [Array.toList_append] at hcv
      rcases LamX.among_app _ ht hcv with z | z
      · obtain ⟨c0, e1, e2⟩ := ha p' cv z
        exact ⟨c0, e1, old _ _ (fun q => by rw [q, hP] at e2; cases e2) e2⟩
      · exact ⟨c', z, hc'⟩
  | some cv =>
    obtain ⟨c', e, hco⟩ := ha pos cv hc
    subst e
    refine PySem.W.kla_makeFunctionHit (mg := X.mg) (c := c) (P := P) (ps := ps) (clos := cloX X L) (closure_ok hhas) I.ok.glob hgl hcode hcd (I.hok P _ hP) ht hc bP fun ctv h' tk hx hsz => ?_
    have J : Inv X pins σ H { s with heap := h', toks := tk } := I.kept hx
    have nF : H h'.objs.size = none := J.hok.fresh (Nat.le_refl _)
    have old : ∀ b o, H b = some o → upd H h'.objs.size (LamO h'.objs.size L (cloX X L) c') b = some o := fun b o e => by rw [upd_ne (ne_of_none e nF)]; exact e
    exact h h'.objs.size c' _ _ (mk J) (fun b o _ e => old b o e) (LamX.TabS.ext ⟨ps, hP, ht, ha⟩ old) nF upd_same (old _ _ hco)
end
def qLam (P : Addr) (L : LamT) (cl : List (Str × Addr)) : QT := fun env M Q _ => M P = some (.tab L.q) ∧ ∀ f, M f = none → Q (.ref f) (mset M f (.lam L cl none))
theorem qe_lam {X : Cx} {W : WX} {P c : Addr} (L : LamT) {pos : Pos} (hq : L.q = X.env.qual ++ "<lambda>") (TB : LamX.TabB X.base X.mg c P) (hcode : X.env.code = .ref c) (hdef : defaultsOf L.pa X.env = ([], [])) (hf : FreeIn X.env.scope L) :
    QE X W (.Lambda L.pa L.body L.sc pos) (qLam P L (cloX X L)) := by
  refine ⟨fun pins s σ H Q I ⟨env, M, G, Q0, E0, S, ⟨hP, q⟩, LV, LE⟩ => ?_⟩
  obtain ⟨gP, hT⟩ := S.wf.mem P _ hP
  refine lam_made I hq TB hcode hT hdef hf fun f c' H1 s' I1 old hT1 nf hF hC => ?_
  have nM := S.wf.freeM nf
  have gf := S.wf.free nf
  have fP : f ≠ P := by rintro rfl; rw [hP] at nM; cases nM
  refine ⟨.ref f, H1, I1, rfl, LV (.ref f) _ _ H1 G (Ext.refl G) ⟨fun b o e => old b o (fun z => by rw [z, gP] at e; cases e) (S.wf.sub b o e), fun a m e => ?_, S.wf.ntb⟩ rfl (q f nM)⟩
  have fx : ∀ b u, H b = some u → Fix u → H1 b = some u := fun b u e hu => old b u (fun z => by
    obtain ⟨ps, h1, _⟩ := hT
    rw [z, h1] at e
    cases e
    exact hu) e
  by_cases ha : a = f
  · subst ha
    rw [mset_same] at e
    cases e
    exact ⟨gf, c', hF, hC, clo_ok hf I.ok, fun xs z => by cases z⟩
  · rw [mset_ne ha] at e
    obtain ⟨g, k⟩ := S.wf.mem a m e
    refine ⟨g, ?_⟩
    by_cases hb : a = P
    · subst hb
      rw [hP] at e
      cases e
      exact hT1
    · obtain ⟨o, ho⟩ := k.some
      exact k.mono (Ext.refl G) (fun _ _ _ _ n => n) fx ((old a o hb ho).trans ho.symm)
/-! ### cells that stand still while a call runs -/
/-- the lambdas' cells may move again -/
def calmL (M : Mem) : Mem := fun a => match M a with
  | some (.lam L cl (some _)) => some (.lam L cl none)
  | o => o
theorem calm_lst {M : Mem} {a : Addr} {xs : List PV} (h : M a = some (.lst xs)) : calmL M a = some (.lst xs) := by unfold calmL; rw [h]
theorem calm_dic {M : Mem} {a : Addr} {ks : List Key} {xs : List PV} (h : M a = some (.dic ks xs)) : calmL M a = some (.dic ks xs) := by unfold calmL; rw [h]
theorem calm_ins {M : Mem} {a C : Addr} {ns : List Str} {xs : List PV} (h : M a = some (.ins C ns xs)) : calmL M a = some (.ins C ns xs) := by unfold calmL; rw [h]
theorem calm_tab {M : Mem} {a : Addr} {q : Str} (h : M a = some (.tab q)) : calmL M a = some (.tab q) := by unfold calmL; rw [h]
theorem calm_non {M : Mem} {a : Addr} (h : M a = none) : calmL M a = none := by unfold calmL; rw [h]
theorem of_calm {M : Mem} {a : Addr} {m : MO} (h : calmL M a = some m) : (M a = some m ∧ ∀ L cl xs, m ≠ .lam L cl (some xs)) ∨ ∃ L cl xs, M a = some (.lam L cl (some xs)) ∧ m = .lam L cl none := by
  unfold calmL at h
  split at h
  · rename_i L cl xs e
    cases h
    exact .inr ⟨L, cl, xs, e, rfl⟩
  · rename_i z
    exact .inl ⟨h, fun L cl xs q => z L cl xs (by rw [h, q])⟩
abbrev stillO (o : Obj) : HO := .frz o (.ext fun _ => True)
/-- the objects at cs are known, and stay -/
def still (h : Heap) (cs : List Addr) (H : Hp) : Hp := fun b => if b ∈ cs then (h.get? b).map stillO else H b
def moves (cs : List Addr) (H : Hp) : Hp := fun b => if b ∈ cs then none else H b
theorem still_in {h : Heap} {cs : List Addr} {H : Hp} {b : Addr} {o : Obj} (hb : b ∈ cs) (e : h.get? b = some o) : still h cs H b = some (stillO o) := by unfold still; rw [if_pos hb, e]; rfl
theorem still_out {h : Heap} {cs : List Addr} {H : Hp} {b : Addr} (hb : b ∉ cs) : still h cs H b = H b := if_neg hb
theorem moves_in {cs : List Addr} {H : Hp} {b : Addr} (hb : b ∈ cs) : moves cs H b = none := if_pos hb
theorem moves_out {cs : List Addr} {H : Hp} {b : Addr} (hb : b ∉ cs) : moves cs H b = H b := if_neg hb
theorem moves_of {cs : List Addr} {H : Hp} {b : Addr} {o : HO} (e : moves cs H b = some o) : H b = some o ∧ b ∉ cs := by
  by_cases hb : b ∈ cs
  · rw [moves_in hb] at e; cases e
  · rw [moves_out hb] at e; exact ⟨e, hb⟩
section
variable {P : Program} {w : World} {K : PySem.W.Frag} {mg : Str → Option Value} {base : Heap} {A : Around} {outer : List Env} {s s' : Shared} {H H' G G' : Hp} {h h' : Heap} {cs : List Addr} {M : Mem}
theorem hok_still (ok : HOk P w H h) (n : ∀ c ∈ cs, H c = none) (ex : ∀ c ∈ cs, ∃ o, h.get? c = some o) : HOk P w (still h cs H) h := fun a u e => by
  by_cases ha : a ∈ cs
  · obtain ⟨o, ho⟩ := ex a ha
    rw [still_in ha ho] at e
    cases e
    exact ⟨ho, trivial, ⟨o, ho⟩, fun _ _ _ _ => trivial⟩
  · rw [still_out ha] at e
    have out : ∀ b v, H b = some v → b ∉ cs := fun b v q z => by rw [n b z] at q; cases q
    exact (ok a u e).stay (fun b v _ q => q) (fun b q => by rw [still_out (out b _ q)]; exact q) fun b xs q => by rw [still_out (out b _ q)]; exact q
theorem hok_moves (ok : HOk P w H h) (n : ∀ c ∈ cs, ∃ o, H c = some (stillO o)) : HOk P w (moves cs H) h := fun a u e => by
  obtain ⟨e, ha⟩ := moves_of e
  have out : ∀ b v, H b = some v → (∀ o, v ≠ stillO o) → b ∉ cs := fun b v q nv z => by
    obtain ⟨o, ho⟩ := n b z
    rw [ho] at q
    cases q
    exact nv o rfl
  exact (ok a u e).stay (fun b v _ q => q) (fun b q => by rw [moves_out (out b _ q (fun o z => by cases z))]; exact q) fun b xs q => by rw [moves_out (out b _ q (fun o z => by cases z))]; exact q
/-- behind a call for which cells stood still -/
theorem un_still {fs : List Addr} (n : ∀ c ∈ cs, H c = none) (ex : ∀ c ∈ cs, ∃ o, h.get? c = some o) (ok' : HOk P w H' h') (u : Un fs [] (still h cs H) H' h h') : Un fs [] H (moves cs H') h h' where
  keep := fun b o e nb hb hx => by
    by_cases hc : b ∈ cs
    · exact (ok' b _ (u.frzs b _ _ (still_in hc e))).1
    · exact u.keep b o e (by rw [still_out hc]; exact nb) hb hx
  slot := fun b o e nb hb hx => by
    by_cases hc : b ∈ cs
    · exact ⟨o.slots, (ok' b _ (u.frzs b _ _ (still_in hc e))).1⟩
    · exact u.slot b o e (by rw [still_out hc]; exact nb) hb hx
  free := fun b o e nb hx => by
    by_cases hc : b ∈ cs
    · exact moves_in hc
    · rw [moves_out hc]; exact u.free b o e (by rw [still_out hc]; exact nb) hx
  there := u.there
  tups := fun b xs e => by
    have hc : b ∉ cs := fun z => by rw [n b z] at e; cases e
    rw [moves_out hc]
    exact u.tups b xs (by rw [still_out hc]; exact e)
  frzs := fun b o v e => by
    have hc : b ∉ cs := fun z => by rw [n b z] at e; cases e
    rw [moves_out hc]
    exact u.frzs b o v (by rw [still_out hc]; exact e)
  tbls := fun b ps e => by
    have hc : b ∉ cs := fun z => by rw [n b z] at e; cases e
    rw [moves_out hc]
    exact u.tbls b ps (by rw [still_out hc]; exact e)
theorem still_after {fs : List Addr} (ex : ∀ c ∈ cs, ∃ o, h.get? c = some o) (u : Un fs [] (still h cs H) H' h h') : ∀ c ∈ cs, ∃ o, H' c = some (stillO o) := fun c hc => by
  obtain ⟨o, ho⟩ := ex c hc
  exact ⟨o, u.frzs c _ _ (still_in hc ho)⟩
/-- behind a call for which cells that stood still might move -/
def back (cs : List Addr) (H H' : Hp) : Hp := fun b => if b ∈ cs then H b else H' b
theorem back_in {b : Addr} (hb : b ∈ cs) : back cs H H' b = H b := if_pos hb
theorem back_out {b : Addr} (hb : b ∉ cs) : back cs H H' b = H' b := if_neg hb
theorem hok_back {B : Heap} (ok' : HOk P w H' B) (n : ∀ c ∈ cs, ∃ o, H c = some (stillO o) ∧ B.get? c = some o) (f : ∀ c ∈ cs, H' c = none) : HOk P w (back cs H H') B := fun a u e => by
  by_cases ha : a ∈ cs
  · obtain ⟨o, h1, h2⟩ := n a ha
    rw [back_in ha, h1] at e
    cases e
    exact ⟨h2, trivial, ⟨o, h2⟩, fun _ _ _ _ => trivial⟩
  · rw [back_out ha] at e
    have out : ∀ b v, H' b = some v → b ∉ cs := fun b v q z => by rw [f b z] at q; cases q
    exact (ok' a u e).stay (fun b v _ q => q) (fun b q => by rw [back_out (out b _ q)]; exact q) fun b xs q => by rw [back_out (out b _ q)]; exact q
theorem un_back {fs : List Addr} (n : ∀ c ∈ cs, ∃ o, H c = some (stillO o)) (u : Un fs [] (moves cs H) H' h h') : Un fs [] H (back cs H H') h h' := by
  have out : ∀ b, H b = none → b ∉ cs := fun b q z => by
    obtain ⟨o, ho⟩ := n b z
    rw [ho] at q; cases q
  have mv : ∀ b, H b = none → moves cs H b = none := fun b q => by rw [moves_out (out b q)]; exact q
  refine ⟨fun b o e nb hb hx => u.keep b o e (mv b nb) hb hx, fun b o e nb hb hx => u.slot b o e (mv b nb) hb hx, fun b o e nb hx => ?_, u.there, fun b xs e => ?_, fun b o v e => ?_, fun b ps e => ?_⟩
  · rw [back_out (out b nb)]; exact u.free b o e (mv b nb) hx
  · have hc : b ∉ cs := fun z => by
      obtain ⟨o, ho⟩ := n b z
      rw [ho] at e; cases e
    rw [back_out hc]; exact u.tups b xs (by rw [moves_out hc]; exact e)
  · by_cases hc : b ∈ cs
    · rw [back_in hc]; exact e
    · rw [back_out hc]; exact u.frzs b o v (by rw [moves_out hc]; exact e)
  · have hc : b ∉ cs := fun z => by
      obtain ⟨o, ho⟩ := n b z
      rw [ho] at e; cases e
    rw [back_out hc]; exact u.tbls b ps (by rw [moves_out hc]; exact e)
theorem ub_back {fs : List Addr} {B : Heap} (n : ∀ c ∈ cs, ∃ o, H c = some (stillO o)) (u : UB fs (moves cs H) H' h B h') : UB fs H (back cs H H') h B h' := by
  have out : ∀ b, H b = none → b ∉ cs := fun b q z => by
    obtain ⟨o, ho⟩ := n b z
    rw [ho] at q; cases q
  have mv : ∀ b, H b = none → moves cs H b = none := fun b q => by rw [moves_out (out b q)]; exact q
  refine ⟨fun b o e nb hb => u.keep b o e (mv b nb) hb, u.slot, fun b o e nb => ?_, u.there, fun b xs e => ?_, fun b o v e => ?_, fun b ps e => ?_⟩
  · rw [back_out (out b nb)]; exact u.free b o e (mv b nb)
  · have hc : b ∉ cs := fun z => by
      obtain ⟨o, ho⟩ := n b z
      rw [ho] at e; cases e
    rw [back_out hc]; exact u.tups b xs (by rw [moves_out hc]; exact e)
  · by_cases hc : b ∈ cs
    · rw [back_in hc]; exact e
    · rw [back_out hc]; exact u.frzs b o v (by rw [moves_out hc]; exact e)
  · have hc : b ∉ cs := fun z => by
      obtain ⟨o, ho⟩ := n b z
      rw [ho] at e; cases e
    rw [back_out hc]; exact u.tbls b ps (by rw [moves_out hc]; exact e)
/-- what a call starts from, cells standing still or moving again -/
theorem env0_still (e : Env0 P w K mg base A outer s H) (n : ∀ c ∈ cs, H c = none) (ex : ∀ c ∈ cs, ∃ o, s.heap.get? c = some o) (nb : ∀ c ∈ cs, base.get? c = none) (nf : ∀ c ∈ cs, c ∉ frs outer) : Env0 P w K mg base A outer s (still s.heap cs H) :=
  ⟨e.frames, e.mod, fun b o q => ⟨(e.bs b o q).1, by rw [still_out (fun z => by rw [nb b z] at q; cases q)]; exact (e.bs b o q).2⟩, e.bsz, e.funs, fun b hb => by rw [still_out (fun z => nf b z hb)]; exact e.frf b hb, hok_still e.hok n ex, e.bare⟩
theorem env0_moves (e : Env0 P w K mg base A outer s H) (n : ∀ c ∈ cs, ∃ o, H c = some (stillO o)) : Env0 P w K mg base A outer s (moves cs H) := by
  have mv : ∀ b, H b = none → moves cs H b = none := fun b q => by
    by_cases hb : b ∈ cs
    · exact moves_in hb
    · rw [moves_out hb]; exact q
  exact ⟨e.frames, e.mod, fun b o q => ⟨(e.bs b o q).1, mv b (e.bs b o q).2⟩, e.bsz, e.funs, fun b hb => mv b (e.frf b hb), hok_moves e.hok n, e.bare⟩
end

/-! ### memory, cells standing still or moving again -/
section
variable {K : PySem.W.Frag} {G G' H H' H1 G1 : Hp} {M M1 M' : Mem} {f : Addr} {L : LamT} {cl : List (Str × Addr)} {vs : List PV}
theorem mok_loose {a : Addr} (hk : ∀ b φ, H b = some (.ext φ) → H' b = some (.ext φ)) (hh : H' a = H a) {m : MO} (nl : ∀ L cl xs, m ≠ .lam L cl (some xs)) (h : MOk K G H a m) : MOk K G H' a m := by
  cases m with
  | lst xs => obtain ⟨vs, h1, h2⟩ := h; exact ⟨vs, hh.trans h1, h2⟩
  | dic ks xs => obtain ⟨vs, h1, h2, h3⟩ := h; exact ⟨vs, hh.trans h1, h2, h3⟩
  | ins C ns xs => obtain ⟨dx, vs, h1, h2⟩ := h; exact ⟨dx, vs, hh.trans h1, h2⟩
  | lam L cl vals =>
    obtain ⟨c', h1, h2, h3, h4⟩ := h
    refine ⟨c', hk _ _ h1, hk _ _ h2, h3, fun xs hx => ?_⟩
    subst hx
    exact absurd rfl (nl L cl xs)
  | tab q =>
    obtain ⟨ps, h1, h2, h3⟩ := h
    refine ⟨ps, hh.trans h1, h2, fun pos cv hc => ?_⟩
    obtain ⟨c, e1, e2⟩ := h3 pos cv hc
    exact ⟨c, e1, hk _ _ e2⟩
  | fdc od ks vs xs => obtain ⟨h1, h2, h3⟩ := h; exact ⟨hh.trans h1, h2, h3⟩
theorem cells_at (hl : vs.length = cl.length) {c : Addr} (hc : c ∈ cl.map (·.2)) : ∃ (i : Nat) (y : Str) (x : PV), cl[i]? = some (y, c) ∧ vs[i]? = some x := by
  obtain ⟨p, hp, rfl⟩ := List.mem_map.mp hc
  obtain ⟨i, hi, e⟩ := List.getElem_of_mem hp
  exact ⟨i, p.1, vs[i], by rw [List.getElem?_eq_getElem hi, e], List.getElem?_eq_getElem (by omega)⟩
theorem lam_cells (w : Wf K M H G) (hf : M f = some (.lam L cl (some vs))) : ∀ c ∈ cl.map (·.2), G c = none ∧ ∃ o, H c = some (stillO o) := fun c hc => by
  obtain ⟨_, c', _, _, _, h4⟩ := w.mem f _ hf
  obtain ⟨hl, h5⟩ := h4 vs rfl
  obtain ⟨i, y, x, e1, e2⟩ := cells_at hl hc
  obtain ⟨g, o, z, v, q, _⟩ := h5 i y c x e1 e2
  exact ⟨g, o, q⟩
theorem Wf.calm (w : Wf K M H G) (hf : M f = some (.lam L cl (some vs))) : Wf K (calmL M) (moves (cl.map (·.2)) H) G := by
  have hc := lam_cells w hf
  have hx : ∀ b o, H b = some o → (∀ ob, o ≠ stillO ob) → moves (cl.map (·.2)) H b = some o := fun b o e n => by
    rw [moves_out (fun z => ?_)]
    · exact e
    · obtain ⟨_, ob, q⟩ := hc b z
      rw [e] at q
      cases q
      exact n ob rfl
  have he : ∀ b φ, H b = some (.ext φ) → moves (cl.map (·.2)) H b = some (.ext φ) := fun b φ e => hx b _ e (fun ob z => by cases z)
  refine ⟨fun b o e => ?_, fun a m e => ?_, w.ntb⟩
  · rw [moves_out (fun z => by rw [(hc b z).1] at e; cases e)]
    exact w.sub b o e
  · rcases of_calm e with ⟨e, nl⟩ | ⟨L2, cl2, xs, e', rfl⟩
    · obtain ⟨g, k⟩ := w.mem a m e
      refine ⟨g, mok_loose he ?_ nl k⟩
      cases m with
      | lst xs => obtain ⟨vs, h1, _⟩ := k; exact (hx _ _ h1 (fun ob z => by cases z)).trans h1.symm
      | dic ks xs => obtain ⟨vs, h1, _⟩ := k; exact (hx _ _ h1 (fun ob z => by cases z)).trans h1.symm
      | ins C ns xs => obtain ⟨dx, vs, h1, _⟩ := k; exact (hx _ _ h1 (fun ob z => by cases z)).trans h1.symm
      | lam L3 cl3 vals => obtain ⟨c', h1, _⟩ := k; exact (he _ _ h1).trans h1.symm
      | tab q => obtain ⟨ps, h1, _⟩ := k; exact (hx _ _ h1 (fun ob z => by cases z)).trans h1.symm
      | fdc od ks vs xs => obtain ⟨h1, _⟩ := k; exact (hx _ _ h1 (fun ob z => by cases z)).trans h1.symm
    · obtain ⟨g, c', h1, h2, h3, _⟩ := w.mem a _ e'
      exact ⟨g, c', he _ _ h1, he _ _ h2, h3, fun xs z => by cases z⟩
theorem Wf.still {h : Heap} (w : Wf K M H G) (hf : M f = some (.lam L cl none)) (hl : vs.length = cl.length) (n : ∀ c ∈ cl.map (·.2), H c = none)
    (hv : ∀ (i : Nat) y c x, cl[i]? = some (y, c) → vs[i]? = some x → ∃ (o : Obj) (z : Value) (v : V), h.get? c = some o ∧ o.data = .cell (some z) ∧ RelV v z ∧ Rep K G x v) :
    Wf K (mset M f (.lam L cl (some vs))) (TQ.still h (cl.map (·.2)) H) G := by
  have out : ∀ b o, H b = some o → b ∉ cl.map (·.2) := fun b o e z => by rw [n b z] at e; cases e
  have st : ∀ b o, H b = some o → TQ.still h (cl.map (·.2)) H b = some o := fun b o e => by rw [still_out (out b o e)]; exact e
  have gn : ∀ c ∈ cl.map (·.2), G c = none := fun c hc => w.free (n c hc)
  refine ⟨fun b o e => st b o (w.sub b o e), fun a m e => ?_, w.ntb⟩
  by_cases ha : a = f
  · subst ha
    rw [mset_same] at e
    cases e
    obtain ⟨g, c', h1, h2, h3, _⟩ := w.mem a _ hf
    refine ⟨g, c', st _ _ h1, st _ _ h2, h3, fun xs z => ?_⟩
    cases z
    refine ⟨hl, fun i y c x e1 e2 => ?_⟩
    obtain ⟨o, z, v, q1, q2, q3, q4⟩ := hv i y c x e1 e2
    have hc : c ∈ cl.map (·.2) := List.mem_map.mpr ⟨(y, c), List.mem_of_getElem? e1, rfl⟩
    exact ⟨gn c hc, o, z, v, still_in hc q1, q2, q3, q4⟩
  · rw [mset_ne ha] at e
    obtain ⟨g, k⟩ := w.mem a m e
    obtain ⟨o, ho⟩ := k.some
    exact ⟨g, k.mono (Ext.refl G) (fun _ _ _ _ q => q) (fun b u e _ => st b u e) ((st a o ho).trans ho.symm)⟩
theorem Wf.back (w1 : Wf K M1 H1 G1) (h1 : M1 f = some (.lam L cl (some vs))) (w : Wf K M' H' G') (e : Ext G1 G') (hf : M' f = some (.lam L cl none)) (n : ∀ c ∈ cl.map (·.2), H' c = none) :
    Wf K (mset M' f (.lam L cl (some vs))) (TQ.back (cl.map (·.2)) H1 H') G' := by
  have out : ∀ b o, H' b = some o → b ∉ cl.map (·.2) := fun b o e z => by rw [n b z] at e; cases e
  have st : ∀ b o, H' b = some o → TQ.back (cl.map (·.2)) H1 H' b = some o := fun b o e => by rw [back_out (out b o e)]; exact e
  refine ⟨fun b o e => st b o (w.sub b o e), fun a m e2 => ?_, w.ntb⟩
  by_cases ha : a = f
  · subst ha
    rw [mset_same] at e2
    cases e2
    obtain ⟨g, c', q1, q2, q3, _⟩ := w.mem a _ hf
    obtain ⟨_, _, _, _, _, q4⟩ := w1.mem a _ h1
    obtain ⟨hl, q5⟩ := q4 vs rfl
    refine ⟨g, c', st _ _ q1, st _ _ q2, q3, fun xs z => ?_⟩
    cases z
    refine ⟨hl, fun i y c x e1 e2 => ?_⟩
    obtain ⟨_, o, z, v, p1, p2, p3, p4⟩ := q5 i y c x e1 e2
    have hc : c ∈ cl.map (·.2) := List.mem_map.mpr ⟨(y, c), List.mem_of_getElem? e1, rfl⟩
    exact ⟨w.free (n c hc), o, z, v, by rw [back_in hc]; exact p1, p2, p3, Rep.mono e _ _ p4⟩
  · rw [mset_ne ha] at e2
    obtain ⟨g, k⟩ := w.mem a m e2
    obtain ⟨o, ho⟩ := k.some
    exact ⟨g, k.mono (Ext.refl G') (fun _ _ _ _ q => q) (fun b u e _ => st b u e) ((st a o ho).trans ho.symm)⟩
end
/-! ### defs that lean on it that no repr is under way -/
structure FnG (P : Program) (w : World) (K : PySem.W.Frag) (mg : Str → Option Value) (base : Heap) (k : Nat) (f : Addr) (fd : FuncData) (ps : List Str) (sp : SpQ) : Prop where
  len : ∀ vs H Q E, spQ K sp vs H Q E → vs.length = ps.length
  run : ∀ (A : Around) (outer : List Env) (s : Shared) (H : Hp) (args : Args) (us : List Value) (vs : List V) (Q : VK) (E : XK), A.guards = some [] → Room k A → Env0 P w K mg base A outer s H → BindsTo s fd args (ps.zip us) → Vals vs us → spQ K sp vs H Q E →
    codeAny (model P w) A (.call (.ref f) args) (CR (L2N.CX P w) outer P w H s Q E) s
theorem FnG.of {P : Program} {w : World} {K : PySem.W.Frag} {mg : Str → Option Value} {base : Heap} {k : Nat} {f : Addr} {fd : FuncData} {ps : List Str} {sp : SpQ} {h : Bool} (F : FnX h P w K mg base k f fd ps (spQ K sp)) : FnG P w K mg base k f fd ps sp := ⟨F.len, fun A outer s H args us vs Q E _ => F.ok.run A outer s H args us vs Q E⟩
theorem okQG {P : Program} {w : World} {K : PySem.W.Frag} {mg : Str → Option Value} {base : Heap} {x qual : Str} {st : Stmt} {f : Addr} {fd : FuncData} {N ps : List Str} {k : Nat} {s : SpQ} (F : Fun K x qual st f fd) (S : FnScope N ps (defScope st)) (len : ∀ xs M Q E, s xs M Q E → xs.length = ps.length)
    (hbody : ∀ (A : Around) (outer : List Env) (s0 : Shared) (H0 : Hp) (E : XK), (A.deeper (envOfC qual (defScope st) s0.heap.objs.size f fd.code)).guards = some [] → L2H.RoomH k (A.deeper (envOfC qual (defScope st) s0.heap.objs.size f fd.code)) →
      ∃ t, QPSs (cxOf (L2N.CX P w) P w K mg base N qual (defScope st) f fd.code A outer s0 H0 E) (fun cls d _ H => E cls d H) (defBody st) t ∧
        ∀ xs M Q0 E0, s xs M Q0 E0 → t { nx := fun _ M => Q0 .non M, rt := Q0, ex := fun c pl _ M => E0 c pl M } (startQ N xs) M) : FnG P w K mg base (k + 1) f fd ps s := by
  obtain ⟨oc, od, kV, doc, pm, an, cdv, ct, osl, rfl, lk, hcd⟩ := F.ex
  have hlen : ∀ vs H Q E, spQ K s vs H Q E → vs.length = ps.length := fun vs H Q E h => by
    obtain ⟨xs, M, G, Q0, E0, r, _, q, _⟩ := h
    rw [← r.length]
    exact len xs M Q0 E0 q
  refine ⟨hlen, fun A outer s0 H args us vs Q E hg hr e0 hb rv h => ?_⟩
  refine LamX.run_ofS lk hcd S hr e0 hb rv (hlen _ _ _ _ h) fun hr' => ?_
  obtain ⟨xs, M, G, Q0, E0, r, wf, q, L, LE⟩ := h
  obtain ⟨t, h1, h2⟩ := hbody A outer s0 H E hg (L2H.roomH_of hr')
  refine ⟨_, h1, startQ N xs, M, G, _, ⟨start_env r, wf⟩, h2 xs M Q0 E0 q, ?_⟩
  exact ⟨fun env' M' σ' H' G' e S q => L .non M' .non H' G' e S.wf rfl q, L, fun _ _ _ _ _ _ _ q => q, fun _ _ _ _ _ _ _ q => q, fun c pl env' M' d σ' H' G' e S x q => LE c pl M' d H' G' e S.wf x q⟩
/-- str(x), x a tuple of data -/
def cStrD : FC := fun xs M Q => ∃ ys d, xs = [.tup ys] ∧ dat M (.tup ys) = some d ∧ d.showable = true ∧ d.hasDict = false ∧ d.shown.length ≤ sizeLine ∧ d.depth ≤ 3 ∧ Q (.str d.shown) M
theorem cq_strD {X : Cx} (hg : X.A.guards = some []) (hu : X.A.units + 64 < cLine) : CallQ X (.type "str") cStrD := by
  intro pins s σ H vs us Q I r ⟨xs, M, G, Q0, rx, w, q, L⟩
  obtain ⟨ys, d, rfl, h1, h2, h3, h4, h5, q⟩ := q
  obtain ⟨v, rfl, r1⟩ := reps1 rx
  cases r with
  | cons rv rr =>
    cases rr
    obtain ⟨as, rd⟩ := Dp.reads I d v _ (dat_dp w h1 r1) rv
    obtain ⟨a, vs, rfl, _⟩ := r1
    cases rv
    exact str_of_reads rd h2 (PyData.noDict_hsm h3) hg (by omega) (fun _ _ e => e) (fun h' u tk hk => ⟨.str d.shown, H, I.kept (t' := tk) hk, ⟨u, rfl⟩, give L w (x := .str _) rfl q⟩) h4
/-! ### a def called, a lambda among its arguments -/
def valsAt (env : Sl) : List Nat → Option (List PV)
  | [] => some []
  | i :: is => match env[i]? with
    | some (some x) => (valsAt env is).map (x :: ·)
    | _ => none
theorem vals_at {env : Sl} : ∀ {ix : List Nat} {vs : List PV}, valsAt env ix = some vs → vs.length = ix.length ∧ ∀ (i : Nat) x, vs[i]? = some x → ∃ n, ix[i]? = some n ∧ env[n]? = some (some x)
  | [], vs, h => by cases h; exact ⟨rfl, fun i x e => by simp at e⟩
  | n :: is, vs, h => by
    unfold valsAt at h
    split at h
    · rename_i x hx
      cases q : valsAt env is with
      | none => rw [q] at h; cases h
      | some ws =>
        rw [q] at h
        cases h
        obtain ⟨l, r⟩ := vals_at q
        refine ⟨by simp [l], fun i y e => ?_⟩
        cases i with
        | zero => cases e; exact ⟨n, rfl, hx⟩
        | succ i => exact r i y e
    · cases h
def qCallL (s : SpQ) (L : LamT) (cl : List (Str × Addr)) (ix : List Nat) (t : QA) : QT := fun env M Q E => t env M (fun xs M1 => ∃ f vs, M1 f = some (.lam L cl none) ∧ valsAt env ix = some vs ∧
  s xs (mset M1 f (.lam L cl (some vs))) (fun x M2 => M2 f = some (.lam L cl (some vs)) ∧ Q x (calmL M2)) EF) E
theorem qe_callL {X : Cx} {W : WX} {pos p : Pos} {k : Nat} {f : Addr} {fd : FuncData} {ps : List Str} {s : SpQ} {x : Str} {e : Expr} {es : List Expr} {t : QA} (L : LamT) (ix : List Nat) (hgd : X.A.guards = some []) (F : FnG X.prog X.w X.K X.mg X.base k f fd ps s) (hrh : L2H.RoomH k X.A) (cm : X.calm = true) (hm : X.mg x = some (.ref f)) (hk : PySem.W.keepIn X.K (.ref f) = true) (hb : Binds X.K fd ps [])
    (ha : QPA X W (e :: es) t) (hfr : ∀ y ∈ L.sc.names, y.2 = .free → X.env.scope.names.lookup y.1 = some .cell) (hfn : ∀ y, X.fn y = true) (hix : ix.map (fun n => X.N[n]?) = (capN L).map some) (hg : Gl X x := by rfl)
    (hdb : (x == ("__debug__" : Str)) = false := by decide) (he : starEach (e :: es) X.env = (false, eval e X.env) :: starEach es X.env := by rfl) (hpl : (backTo pos (starEach es X.env)).any (·.1) = false := by rfl) :
    QE X W (.Call (.Name x p) (e :: es) [] pos) (qCallL s L (cloX X L) ix t) := by
  refine ⟨fun pins sh σ H Q I ⟨env, M, G, Q0, E0, S, q, LV, LE⟩ => wpAny_Call_Name_kw (ld_glob I hg hm ?_ hdb)⟩
  refine PySem.W.callWith_K (h₀ := X.base) I.ok.mod.kin hk (thn (ha.run pos pins sh σ H (fun vs H1 => ∃ xs M1 G1 f vals, Ext G G1 ∧ Wf X.K M1 H1 G1 ∧ Reps X.K G1 xs vs ∧ M1 f = some (.lam L (cloX X L) none) ∧ valsAt env ix = some vals ∧
    s xs (mset M1 f (.lam L (cloX X L) (some vals))) (fun x M2 => M2 f = some (.lam L (cloX X L) (some vals)) ∧ Q0 x (calmL M2)) EF) I ⟨env, M, G, _, E0, S, q, fun xs M1 vs H1 G1 e1 w1 r1 ⟨f, vals, q1, q2, q3⟩ => ⟨xs, M1, G1, f, vals, e1, w1, r1, q1, q2, q3⟩, LE⟩) fun us s1 hh => ?_) he hpl
  obtain ⟨vs, H1, I1, rv, xs, M1, G1, fl, vals, e1, w1, r1, q1, q2, q3⟩ := hh
  refine ⟨I1.kIn, ?_⟩
  have hff : FreeIn X.env.scope L := fun y hy e => .inl (hfr y hy e)
  have cfn : ∀ y c, X.env.cells.lookup y = some c → X.s_0.heap.objs.size ≤ c := fun y c e => I1.ok.cab y c (hfn y) e
  have clk : ∀ c ∈ (cloX X L).map (·.2), ∃ y, X.env.cells.lookup y = some c ∧ (y, c) ∈ cloX X L := fun c hc => by
    obtain ⟨p, hp, rfl⟩ := List.mem_map.mp hc
    exact ⟨p.1, clo_cell hff I1.ok hp, hp⟩
  have n : ∀ c ∈ (cloX X L).map (·.2), H1 c = none := fun c hc => by
    obtain ⟨y, e, _⟩ := clk c hc
    exact I1.freeC y c e
  have ex : ∀ c ∈ (cloX X L).map (·.2), ∃ o, s1.heap.get? c = some o := fun c hc => by
    obtain ⟨y, e, _⟩ := clk c hc
    obtain ⟨_, o, ho, _⟩ := I1.cell y c e
    exact ⟨o, ho⟩
  have nb : ∀ c ∈ (cloX X L).map (·.2), X.base.get? c = none := fun c hc => by
    obtain ⟨y, e, _⟩ := clk c hc
    exact Heap.get?_none_of_le (Nat.le_trans I1.ok.bsz (cfn y c e))
  have nf : ∀ c ∈ (cloX X L).map (·.2), c ∉ frs X.stack := fun c hc hm => by
    obtain ⟨y, e, _⟩ := clk c hc
    rcases List.mem_cons.mp (I1.stkSub c hm) with z | z
    · exact I1.cne y c e z
    · obtain ⟨_, o, ho, _⟩ := I1.ok.funs.mem z
      exact absurd (Nat.lt_of_lt_of_le (Heap.lt_size ho) (cfn y c e)) (Nat.lt_irrefl _)
  obtain ⟨vl, va⟩ := vals_at q2
  have ixl : ix.length = (cloX X L).length := by
    have z := congrArg List.length hix
    rw [List.length_map, List.length_map, ← clo_names X L, List.length_map] at z
    exact z
  have hv : ∀ (i : Nat) y c x, (cloX X L)[i]? = some (y, c) → vals[i]? = some x → ∃ (o : Obj) (z : Value) (v : V), s1.heap.get? c = some o ∧ o.data = .cell (some z) ∧ RelV v z ∧ Rep X.K G1 x v := fun i y c x ec ev => by
    obtain ⟨n, en, ee⟩ := va i x ev
    obtain ⟨v, hσ, rx⟩ := S.env.get n x ee
    have hN : X.N[n]? = some y := by
      have z := congrArg (fun l => l[i]?) hix
      simp only [List.getElem?_map, en, Option.map_some] at z
      rw [← clo_names X L, List.getElem?_map, ec] at z
      exact Option.some.inj z
    have hy : (y, c) ∈ cloX X L := List.mem_of_getElem? ec
    have hlk := clo_cell hff I1.ok hy
    have hk : X.env.scope.names.lookup y = some .cell := by
      rcases cloFrom_mem hy with z | ⟨z, _⟩
      · cases z
      · exact hfr _ z rfl
    obtain ⟨m, _, hl⟩ := I1.loc
    obtain ⟨u, ru, lk⟩ := hl n y v hN hσ (.inr (.inl hk))
    rcases lk with ⟨k1, _⟩ | ⟨_, c2, e2, o, ho, hd⟩
    · have k1 : X.env.scope.names.lookup y = some .local := k1
      rw [hk] at k1; cases k1
    · rw [hlk] at e2
      cases e2
      exact ⟨o, u, v, ho, hd, ru, Rep.mono e1 _ _ rx⟩
  have w2 := w1.still (vs := vals) q1 (by rw [vl, ixl]) n hv
  have sp2 : spQ X.K s vs (still s1.heap ((cloX X L).map (·.2)) H1) (fun v H' => Q v (moves ((cloX X L).map (·.2)) H')) (fun _ _ _ => False) :=
    ⟨xs, _, G1, _, EF, r1, w2, q3, fun x M' v H' G' e' w' r' ⟨p1, p2⟩ => LV x _ v _ G' (e1.trans e') (w'.calm p1) r' p2, EF_lift⟩
  have hl : us.length = ps.length := by rw [← rv.length]; exact F.len _ _ _ _ sp2
  have ez : us ++ [] = us := List.append_nil us
  have hb' := hb s1 us I1.kIn (by rw [ez]; exact hl)
  rw [ez] at hb'
  refine wpAny_call (codeAny_mono (F.run X.A X.stack s1 _ ⟨us, []⟩ us vs _ _ hgd ⟨I1.ok.hd cm, hrh.dp, hrh.un⟩ (env0_still I1.env0 n ex nb nf) hb' rv sp2) fun r s' hq => ?_)
  match r, hq with
  | .error e, hq =>
    obtain ⟨_, _, _, _, _, _, _, _, _, _, _, _, z⟩ := hq
    exact z.elim
  | .ok (.ret u), hq =>
    obtain ⟨v, H', os, bare, un, ok', rv', q'⟩ := hq
    exact I1.after ⟨v, moves ((cloX X L).map (·.2)) H', os, bare, un_still n ex ok' un, hok_moves ok' (still_after ex un), rv', q'⟩
  | .ok .next, hq => exact hq.elim
  | .ok .brk, hq => exact hq.elim
  | .ok .cont, hq => exact hq.elim

/-! ### a lambda called -/
abbrev lamE (L : LamT) (loc f c' : Addr) (cl : List (Str × Addr)) : Env := PySem.W.envX L.q L.sc loc f (.ref c') cl
/-- the context of a lambda's body -/
def lamC (P : Program) (w : World) (K : PySem.W.Frag) (mg : Str → Option Value) (base : Heap) (N : List Str) (L : LamT) (f c' : Addr) (cl : List (Str × Addr)) (A : Around) (outer : List Env) (s : Shared) (H : Hp) (E : XK) : Cx where
  prog := P
  w := w
  K := K
  mg := mg
  base := base
  A := A.deeper (lamE L s.heap.objs.size f c' cl)
  N := N
  s_0 := s
  H_0 := H
  env := lamE L s.heap.objs.size f c' cl
  outer := outer
  stack := lamE L s.heap.objs.size f c' cl :: outer
  ex := []
  fn := fun _ => false
  calm := true
  pn := []
  xe := fun e s' => wpAny (model P w) (A.deeper (lamE L s.heap.objs.size f c' cl)) (leaving (lamE L s.heap.objs.size f c' cl) e) (fun _ s'' => L2N.CX P w outer H s E e s'') (fun e' s'' => L2N.CX P w outer H s E e' s'') s'
/-- a lambda's names -/
structure LamN (L : LamT) (ps : List Str) : Prop where
  kind : L.sc.kind = .function
  co : L.sc.isCoroutine = false
  gen : L.sc.isGenerator = false
  nocell : ∀ y ∈ L.sc.names, y.2 ≠ .cell
  par : ∀ x ∈ ps, L.sc.names.lookup x = some .local
  nd : ps.Nodup
  cap : ∀ y ∈ capN L, L.sc.names.lookup y = some .free
theorem lookup_nd {α : Type} {y : Str} {u : α} : ∀ {l : List (Str × α)}, (l.map (·.1)).Nodup → (y, u) ∈ l → l.lookup y = some u
  | (n, v) :: r, hn, h => by
    rw [List.map_cons, List.nodup_cons] at hn
    rw [List.lookup_cons]
    rcases List.mem_cons.mp h with e | h
    · cases e
      simp
    · have : (y == n) = false := by
        have : ¬ y = n := fun z => hn.1 (by rw [← z]; exact List.mem_map.mpr ⟨_, h, rfl⟩)
        simpa using this
      rw [this]
      exact lookup_nd hn.2 h
section
variable {P : Program} {w : World} {K : PySem.W.Frag} {mg : Str → Option Value} {base : Heap} {A : Around} {outer : List Env} {s : Shared} {H : Hp} {E : XK} {L : LamT} {ps : List Str} {f c' : Addr} {cl : List (Str × Addr)}
theorem lam_start {vs cvs : List V} {us : List Value} {h₁ : Heap} {tk : Nat} (e0 : Env0 P w K mg base A outer s H) (hd : A.handled = none) (n : LamN L ps) (C : ClOk L cl) (hl : vs.length = ps.length) (rv : Vals vs us) (hcl : cvs.length = cl.length)
    (hc : ∀ (i : Nat) y c v, cl[i]? = some (y, c) → cvs[i]? = some v → H c = none ∧ ∃ (o : Obj) (z : Value), s.heap.get? c = some o ∧ o.data = .cell (some z) ∧ RelV v z)
    (hns : h₁.Ns s.heap.objs.size fun y => (ps.zip us).reverse.lookup y) (kp : ∀ b o, s.heap.get? b = some o → h₁.get? b = some o) :
    Inv (lamC P w K mg base (ps ++ capN L) L f c' cl A outer s H E) [] ((vs ++ cvs).map some) H { s with heap := h₁, toks := tk } := by
  have noA : ∀ b : Addr, b ∉ (lamC P w K mg base (ps ++ capN L) L f c' cl A outer s H E).ex := fun b z => absurd (show b ∈ ([] : List Addr) from z) (by simp)
  have at_ : ∀ y c, cl.lookup y = some c → ∃ (i : Nat) (v : V), cl[i]? = some (y, c) ∧ cvs[i]? = some v := fun y c e => by
    obtain ⟨i, hi, q⟩ := List.getElem_of_mem (PySem.mem_of_lookup e)
    exact ⟨i, cvs[i], by rw [List.getElem?_eq_getElem hi, q], List.getElem?_eq_getElem (by omega)⟩
  have cellH : ∀ y c, cl.lookup y = some c → H c = none := fun y c e => by
    obtain ⟨i, v, e1, e2⟩ := at_ y c e
    exact (hc i y c v e1 e2).1
  refine ⟨⟨e0.mod, n.kind, rfl, rfl, Nat.le_refl _, fun y z c e1 e2 => C.inj y z c e1 e2, fun y hy => ?_, fun y c z _ => ?_, fun _ => hd, Around.frames_deeper e0.frames, .inr ⟨rfl, rfl⟩, fun b z => absurd z (noA b), e0.bs, e0.bsz, fun b _ _ => noA b,
      fun b z => absurd z (noA b), e0.funs, e0.frf⟩,
    rfl, e0.bare, Un.kept kp, ⟨_, hns, fun i y v e1 e2 e3 => ?_⟩, fun y c e => ?_, e0.hok.fresh (Nat.le_refl _), fun y c e => ?_, fun q hq => absurd (show q ∈ ([] : List (Addr × Obj)) ++ [] from hq) (by simp), e0.hok.kept kp, ?_⟩
  · have hy : L.sc.names.lookup y = some .cell ∨ L.sc.names.lookup y = some .free := hy
    rcases hy with hy | hy
    · exact absurd rfl (n.nocell _ (PySem.mem_of_lookup hy))
    · exact C.has _ (PySem.mem_of_lookup hy) rfl
  · have z : false = true := z
    cases z
  · have e1 : (ps ++ capN L)[i]? = some y := e1
    by_cases hi : i < ps.length
    · rw [List.getElem?_append_left hi] at e1
      rw [List.getElem?_map, List.getElem?_append_left (by omega)] at e2
      cases hv : vs[i]? with
      | none => rw [hv] at e2; cases e2
      | some v' =>
        rw [hv] at e2
        cases e2
        obtain ⟨u, hu, ru⟩ := rv.get hv
        refine ⟨u, ru, .inl ⟨n.par y (List.mem_of_getElem? e1), ?_⟩⟩
        have hm : (y, u) ∈ ps.zip us := List.mem_of_getElem? (i := i) (by rw [List.getElem?_zip_eq_some]; exact ⟨e1, hu⟩)
        have hnd : (((ps.zip us).reverse).map (·.1)).Nodup := by
          rw [List.map_reverse, List.map_fst_zip (by rw [← rv.length]; omega)]
          exact (List.reverse_perm ps).nodup_iff.mpr n.nd
        exact lookup_nd hnd (List.mem_reverse.mpr hm)
    · rw [List.getElem?_append_right (by omega)] at e1
      rw [List.getElem?_map, List.getElem?_append_right (by omega)] at e2
      have hy := n.cap y (List.mem_of_getElem? e1)
      rw [← C.nm, List.getElem?_map] at e1
      cases hv : cvs[i - vs.length]? with
      | none => rw [hv] at e2; cases e2
      | some v' =>
        rw [hv] at e2
        cases e2
        cases hp : cl[i - ps.length]? with
        | none => rw [hp] at e1; cases e1
        | some p =>
          rw [hp] at e1
          obtain ⟨y', c⟩ := p
          obtain rfl : y' = y := Option.some.inj e1
          obtain ⟨_, o, z, h1, h2, h3⟩ := hc (i - ps.length) y' c v hp (by rw [← hl]; exact hv)
          obtain ⟨c2, hc2⟩ := C.has (y', .free) (PySem.mem_of_lookup hy) rfl
          have hcc : c2 = c := by
            have hm : (y', c) ∈ cl := List.mem_of_getElem? hp
            exact C.one y' c2 c (PySem.mem_of_lookup hc2) hm
          subst hcc
          exact ⟨z, h3, .inr ⟨.inr hy, c2, hc2, o, kp _ _ h1, h2⟩⟩
  · obtain ⟨i, v, e1, e2⟩ := at_ y c e
    obtain ⟨_, o, z, h1, h2, _⟩ := hc i y c v e1 e2
    exact ⟨some z, o, kp _ _ h1, h2⟩
  · exact cellH y c e
  · show ((vs ++ cvs).map some).length = (ps ++ capN L).length
    rw [List.length_map, List.length_append, List.length_append, hl, hcl, ← C.nm, List.length_map]
end

/-- a lambda keeps its promise, told of its arguments and of what it captured -/
structure LamK (P : Program) (w : World) (K : PySem.W.Frag) (mg : Str → Option Value) (base : Heap) (k : Nat) (L : LamT) (ps N : List Str) (sp : SpQ) : Prop where
  nm : LamN L ps
  names : N = ps ++ capN L
  bind : ∀ (us : List Value) (cl : List (Str × Addr)) (pm cv ctv : Value), us.length = ps.length → bindArgs (PySem.W.kla_fn "<lambda>" L.q L.pa L.body L.sc cl pm cv ctv) ⟨us, []⟩ = pure (ps.zip us)
  body : ∀ (cl : List (Str × Addr)) (f c' : Addr) (A : Around) (outer : List Env) (s : Shared) (H : Hp) (E : XK), L2H.RoomH k (A.deeper (lamE L s.heap.objs.size f c' cl)) →
    ∃ t, QE (lamC P w K mg base N L f c' cl A outer s H E) (fun cls d _ H => E cls d H) L.body t ∧ ∀ xs M Q E, sp xs M Q E → t (startQ N xs) M Q E
def qAct (i : Nat) (L : LamT) (sp : SpQ) (ps : List Str) (ta : QA) : QT := fun env M Q E => ∃ f cl vs, env[i]? = some (some (.ref f)) ∧ M f = some (.lam L cl (some vs)) ∧
  ta env M (fun xs M1 => M1 f = some (.lam L cl (some vs)) ∧ xs.length = ps.length ∧ sp (xs ++ vs) (calmL M1)
    (fun y M2 => M2 f = some (.lam L cl none) ∧ Q y (mset M2 f (.lam L cl (some vs)))) (fun c pl M2 => M2 f = some (.lam L cl none) ∧ E c pl (mset M2 f (.lam L cl (some vs))))) E
section
variable {P : Program} {w : World} {K : PySem.W.Frag} {mg : Str → Option Value} {base : Heap} {A : Around} {outer : List Env} {s : Shared} {H G : Hp} {E : XK} {L : LamT} {ps : List Str} {f : Addr} {cl : List (Str × Addr)} {k : Nat} {N : List Str} {sp : SpQ}
theorem run_lam (B : LamK P w K mg base k L ps N sp) (hr : Room (k + 1) A) (e0 : Env0 P w K mg base A outer s H) {M1 : Mem} {vs xs : List PV} {ws : List V} {us : List Value} {Q : VK} {Q0 : PK} {E0 : EK} (wf : Wf K M1 H G) (hf : M1 f = some (.lam L cl (some vs)))
    (hx : xs.length = ps.length) (rx : Reps K G xs ws) (rw' : Vals ws us)
    (h : sp (xs ++ vs) (calmL M1) (fun y M2 => M2 f = some (.lam L cl none) ∧ Q0 y (mset M2 f (.lam L cl (some vs)))) (fun c pl M2 => M2 f = some (.lam L cl none) ∧ E0 c pl (mset M2 f (.lam L cl (some vs)))))
    (LV : LiftV K G Q0 Q) (LE : LiftE K G E0 E) : codeAny (model P w) A (.call (.ref f) ⟨us, []⟩) (CR (L2N.CX P w) outer P w H s Q E) s := by
  obtain ⟨_, c', hO, hC, C, hv⟩ := wf.mem f _ hf
  obtain ⟨hvl, hcells⟩ := hv vs rfl
  have hst : ∀ c ∈ cl.map (·.2), ∃ o, H c = some (stillO o) := fun c hc => (lam_cells wf hf c hc).2
  have e1 := env0_moves (cs := cl.map (·.2)) e0 hst
  have wc := wf.calm hf
  obtain ⟨⟨pm, ctv, ho⟩, _, _⟩ := e0.hok f _ hO
  obtain ⟨⟨oc, ov, ot, h1, h2, h3⟩, _, _⟩ := e0.hok c' _ hC
  have lim : s.heap.NoLimit := e0.mod.nolimit.keeps fun b o e => (e0.bs b o e).1
  have nfr : ∀ c ∈ cl.map (·.2), c ∉ frs outer := fun c hc z => by
    obtain ⟨o, q⟩ := hst c hc
    rw [e0.frf c z] at q; cases q
  -- the cells' values
  have cvs : ∃ cvs : List V, cvs.length = cl.length ∧ Reps K G vs cvs ∧ ∀ (i : Nat) y c v, cl[i]? = some (y, c) → cvs[i]? = some v → moves (cl.map (·.2)) H c = none ∧ ∃ (o : Obj) (z : Value), s.heap.get? c = some o ∧ o.data = .cell (some z) ∧ RelV v z := by
    have key : ∀ (l : List (Str × Addr)) (xs : List PV), xs.length = l.length → (∀ (i : Nat) y c x, l[i]? = some (y, c) → xs[i]? = some x → CellOk K G H c x) → (∀ p ∈ l, p.2 ∈ cl.map (·.2)) →
        ∃ cvs : List V, cvs.length = l.length ∧ Reps K G xs cvs ∧ ∀ (i : Nat) y c v, l[i]? = some (y, c) → cvs[i]? = some v → moves (cl.map (·.2)) H c = none ∧ ∃ (o : Obj) (z : Value), s.heap.get? c = some o ∧ o.data = .cell (some z) ∧ RelV v z := by
      intro l
      induction l with
      | nil =>
        intro xs hl _ _
        cases xs with
        | nil => exact ⟨[], rfl, Reps.nil, fun i y c v e _ => by simp at e⟩
        | cons x xs => cases hl
      | cons p l ih =>
        intro xs hl hc hm
        cases xs with
        | nil => cases hl
        | cons x xs =>
          obtain ⟨y, c⟩ := p
          obtain ⟨_, o, z, v, q1, q2, q3, q4⟩ := hc 0 y c x rfl rfl
          obtain ⟨cvs, r1, r2, r3⟩ := ih xs (by simpa using hl) (fun i y c x e1 e2 => hc (i + 1) y c x e1 e2) (fun p hp => hm p (List.mem_cons_of_mem _ hp))
          refine ⟨v :: cvs, by simp [r1], Reps.cons q4 r2, fun i y' c2 v2 e1 e2 => ?_⟩
          cases i with
          | zero =>
            cases e1
            cases e2
            have hin : c ∈ cl.map (·.2) := hm (y, c) List.mem_cons_self
            exact ⟨moves_in hin, o, z, (e0.hok c _ q1).1, q2, q3⟩
          | succ i => exact r3 i y' c2 v2 e1 e2
    exact key cl vs hvl hcells fun p hp => List.mem_map.mpr ⟨p, hp, rfl⟩
  obtain ⟨cvs, hcl, rc, hcv⟩ := cvs
  have hl : ws.length = ps.length := by rw [← rx.length]; exact hx
  refine PySem.W.kla_callFunE hr.depth ho rfl B.nm.co B.nm.gen rfl ⟨c', oc, ov, ot, rfl, h1, h2, h3⟩ ?_
  rw [B.bind us cl pm (.ref c') ctv (by rw [← rw'.length]; exact hl)]
  refine wpAny_pure (wpAny_newFunctionEnv B.nm.nocell (fun y hy => B.nm.par _ (List.of_mem_zip hy).1) (fun h₁ hns hsb => ⟨lim.fresh _ hsb, ?_⟩) B.nm.kind)
  show codeAny _ _ (.expr L.body (lamE L s.heap.objs.size f c' cl)) _ _
  have kp : ∀ b o, s.heap.get? b = some o → h₁.get? b = some o := fun b o e => hsb.extBut b o (Nat.ne_of_lt (Heap.lt_size e)) (Heap.get?_push_of_some _ e)
  have J : Inv (lamC P w K mg base N L f c' cl A outer s (moves (cl.map (·.2)) H) (fun cls d H' => (∀ c ∈ cl.map (·.2), H' c = none) → E cls d (back (cl.map (·.2)) H H'))) [] ((ws ++ cvs).map some) (moves (cl.map (·.2)) H) { s with heap := h₁, toks := s.toks + (ps.zip us).length } :=
    by
    rw [B.names]
    exact lam_start e1 hr.hd B.nm C hl rw' hcl hcv hns kp
  have S : Sim K (startQ N (xs ++ vs)) (calmL M1) G ((ws ++ cvs).map some) (moves (cl.map (·.2)) H) := by
    have rr := rx.append rc
    have es : startQ N (xs ++ vs) = (xs ++ vs).map some := by
      have z : N.length = (xs ++ vs).length := by rw [B.names, List.length_append, List.length_append, hx, hvl, ← C.nm, List.length_map]
      unfold startQ
      rw [z, Nat.sub_self, List.replicate_zero, List.append_nil]
    rw [es]
    refine ⟨⟨by rw [List.length_map, List.length_map, rr.length], fun i x e => ?_⟩, wc⟩
    rw [List.getElem?_map] at e ⊢
    cases hi : (xs ++ vs)[i]? with
    | none => rw [hi] at e; cases e
    | some x' =>
      rw [hi] at e
      cases e
      obtain ⟨v, e1, e2⟩ := rr.get hi
      exact ⟨v, by rw [e1]; rfl, e2⟩
  obtain ⟨t, ht, himp⟩ := B.body cl f c' A outer s (moves (cl.map (·.2)) H) (fun cls d H' => (∀ c ∈ cl.map (·.2), H' c = none) → E cls d (back (cl.map (·.2)) H H')) (L2H.roomH_of (hr.deeper _))
  have run := ht.run [] _ _ _ (fun v H' => (∀ c ∈ cl.map (·.2), H' c = none) → Q v (back (cl.map (·.2)) H H')) J ⟨_, calmL M1, G, _, _, S, himp _ _ _ _ h, fun y M2 v H' G' e w2 r2 q2 => ?_, fun c pl M2 d H' G' e w2 r2 q2 => ?_⟩
  · refine PySem.W.kla_codeExpr (wpAny_mono run (fun v s' hq => ?_) fun e s' hq => ?_)
    · obtain ⟨w', H', J', rv', q⟩ := hq
      have ub : Un (frs outer) [] (moves (cl.map (·.2)) H) H' s.heap s'.heap := J'.base
      have hz : ∀ c ∈ cl.map (·.2), H' c = none := fun c hc => by
        obtain ⟨o, q⟩ := hst c hc
        exact ub.free c o (e0.hok c _ q).1 (moves_in hc) (by simp)
      have hb : ∀ c ∈ cl.map (·.2), ∃ o, H c = some (stillO o) ∧ s'.heap.get? c = some o := fun c hc => by
        obtain ⟨o, q⟩ := hst c hc
        exact ⟨o, q, ub.keep c o (e0.hok c _ q).1 (moves_in hc) (nfr c hc) (by simp)⟩
      exact ⟨w', back (cl.map (·.2)) H H', J'.os, J'.bare, un_back hst ub, hok_back J'.hok hb hz, rv', q hz⟩
    · refine wpAny_mono hq (fun _ s'' z => ?_) fun e' s'' z => ?_
      all_goals
        obtain ⟨a, B', H', cls, d, rfl, fl, ok', ub, na, os, ag, hE⟩ := z
        have hb : ∀ c ∈ cl.map (·.2), ∃ o, H c = some (stillO o) ∧ B'.get? c = some o := fun c hc => by
          obtain ⟨o, q⟩ := hst c hc
          exact ⟨o, q, ub.keep c o (e0.hok c _ q).1 (moves_in hc) (nfr c hc)⟩
        have hz : ∀ c ∈ cl.map (·.2), H' c = none := fun c hc => by
          obtain ⟨o, q⟩ := hst c hc
          exact ub.free c o (e0.hok c _ q).1 (moves_in hc)
        have ha : a ∉ cl.map (·.2) := fun z => by
          obtain ⟨o, _, q⟩ := hb a z
          rw [fl.2.1] at q; cases q
        exact ⟨a, B', back (cl.map (·.2)) H H', cls, d, rfl, fl, hok_back ok' hb hz, ub_back hst ub, by rw [back_out ha]; exact na, os, ag, hE hz⟩
  · exact fun hz => LV y _ v _ G' e (wf.back hf w2 e q2.1 hz) r2 q2.2
  · exact fun hz => LE c pl _ d _ G' e (wf.back hf w2 e q2.1 hz) r2 q2.2
end
theorem qe_act {X : Cx} {W : WX} {i : Nat} {x : Str} {p pos : Pos} {e : Expr} {es : List Expr} {k : Nat} {L : LamT} {ps N : List Str} {sp : SpQ} {ta : QA} (B : LamK X.prog X.w X.K X.mg X.base k L ps N sp) (hr : L2H.RoomH (k + 1) X.A) (cm : X.calm = true) (tk : L2N.Takes X W) (ha : QPA X W (e :: es) ta) (hN : X.N[i]? = some x := by rfl)
    (hv : Vis X.env.scope x := by first | exact Or.inl rfl | exact Or.inr (Or.inl rfl) | exact Or.inr (Or.inr rfl)) (hd : (x == ("__debug__" : Str)) = false := by decide) (hcd : (x == ("__classdict__" : Str)) = false := by decide)
    (he : starEach (e :: es) X.env = (false, eval e X.env) :: starEach es X.env := by rfl) (hpl : (backTo pos (starEach es X.env)).any (·.1) = false := by rfl) : QE X W (.Call (.Name x p) (e :: es) [] pos) (qAct i L sp ps ta) := by
  refine ⟨fun pins s σ H Q I ⟨env, M, G, Q0, E0, S, ⟨f, cl, vs, hi, hf, q⟩, LV, LE⟩ => ?_⟩
  obtain ⟨v, hσ, rv⟩ := S.env.get _ _ hi
  obtain rfl : v = .ref f := rv
  refine wpAny_Call_Name_kw (thn ((pe_var (pos := p) (i := i) hN hv hd hcd).run pins s σ H (fun v H1 => v = .ref f ∧ H1 = H) I ⟨.ref f, hσ, rfl, rfl⟩) fun u s1 ⟨v, H1, I1, r1, q1⟩ => ?_)
  obtain ⟨rfl, rfl⟩ := q1
  obtain rfl : u = Value.ref f := r1
  have fnAt : ∀ {M : Mem} {H G : Hp} {s : Shared}, Wf X.K M H G → M f = some (.lam L cl (some vs)) → HOk X.prog X.w H s.heap → PySem.W.FnAt f s.heap := fun {M H G s} w h ok => by
    obtain ⟨_, c', hO, _⟩ := w.mem f _ h
    obtain ⟨⟨pm, ctv, ho⟩, _, _⟩ := ok f _ hO
    exact ⟨_, _, _, _, ho⟩
  refine PySem.W.callWith_F (first := []) (fnAt S.wf hf I1.hok) (thn (ha.run pos pins s1 σ H1 (fun ws H2 => ∃ xs M1 G1, Ext G G1 ∧ Wf X.K M1 H2 G1 ∧ Reps X.K G1 xs ws ∧ M1 f = some (.lam L cl (some vs)) ∧ xs.length = ps.length ∧ sp (xs ++ vs) (calmL M1)
    (fun y M2 => M2 f = some (.lam L cl none) ∧ Q0 y (mset M2 f (.lam L cl (some vs)))) (fun c pl M2 => M2 f = some (.lam L cl none) ∧ E0 c pl (mset M2 f (.lam L cl (some vs))))) I1 ⟨env, M, G, _, E0, S, q, fun xs M1 ws H2 G1 e1 w1 r2 ⟨q1, q2, q3⟩ => ⟨xs, M1, G1, e1, w1, r2, q1, q2, q3⟩, LE⟩) fun us s2 hh => ?_) he hpl
  obtain ⟨ws, H2, I2, r2, xs, M1, G1, e1, w1, rx, q1, q2, q3⟩ := hh
  refine ⟨fnAt w1 q1 I2.hok, ?_⟩
  refine wpAny_call (codeAny_mono (run_lam B ⟨I.ok.hd cm, hr.dp, hr.un⟩ I2.env0 w1 q1 q2 rx r2 q3 (LV.mono e1) (LE.mono e1)) fun r s' hq => ?_)
  match r, hq with
  | .error e, hq => exact L2N.passAt tk σ pins H2 s2 e s' I2 hq
  | .ok (.ret u), hq => exact I2.after hq
  | .ok .next, hq => exact hq.elim
  | .ok .brk, hq => exact hq.elim
  | .ok .cont, hq => exact hq.elim
theorem qe_act0 {X : Cx} {W : WX} {i : Nat} {x : Str} {p pos : Pos} {k : Nat} {L : LamT} {N : List Str} {sp : SpQ} (B : LamK X.prog X.w X.K X.mg X.base k L [] N sp) (hr : L2H.RoomH (k + 1) X.A) (cm : X.calm = true) (tk : L2N.Takes X W) (hN : X.N[i]? = some x := by rfl)
    (hv : Vis X.env.scope x := by first | exact Or.inl rfl | exact Or.inr (Or.inl rfl) | exact Or.inr (Or.inr rfl)) (hd : (x == ("__debug__" : Str)) = false := by decide) (hcd : (x == ("__classdict__" : Str)) = false := by decide) : QE X W (.Call (.Name x p) [] [] pos) (qAct i L sp [] qNil) := by
  refine ⟨fun pins s σ H Q I ⟨env, M, G, Q0, E0, S, ⟨f, cl, vs, hi, hf, q1, q2, q3⟩, LV, LE⟩ => ?_⟩
  obtain ⟨v, hσ, rv⟩ := S.env.get _ _ hi
  obtain rfl : v = .ref f := rv
  refine wpAny_Call_Name_kw (thn ((pe_var (pos := p) (i := i) hN hv hd hcd).run pins s σ H (fun v H1 => v = .ref f ∧ H1 = H) I ⟨.ref f, hσ, rfl, rfl⟩) fun u s1 ⟨v, H1, I1, r1, q4⟩ => ?_)
  obtain ⟨rfl, rfl⟩ := q4
  obtain rfl : u = Value.ref f := r1
  obtain ⟨_, c', hO, _⟩ := S.wf.mem f _ hf
  obtain ⟨⟨pm, ctv, ho⟩, _, _⟩ := I1.hok f _ hO
  refine PySem.W.callWith_F0 ⟨_, _, _, _, ho⟩ ?_
  refine wpAny_call (codeAny_mono (run_lam (xs := []) (ws := []) (us := []) B ⟨I.ok.hd cm, hr.dp, hr.un⟩ I1.env0 S.wf hf rfl Reps.nil .nil q3 LV LE) fun r s' hq => ?_)
  match r, hq with
  | .error e, hq => exact L2N.passAt tk σ pins H1 s1 e s' I1 hq
  | .ok (.ret u), hq => exact I1.after hq
  | .ok .next, hq => exact hq.elim
  | .ok .brk, hq => exact hq.elim
  | .ok .cont, hq => exact hq.elim
/-! ### a def that makes lambdas: its code object is told -/
theorem okQC {P : Program} {w : World} {K : PySem.W.Frag} {mg : Str → Option Value} {base : Heap} {x qual : Str} {st : Stmt} {f : Addr} {fd : FuncData} {N ps : List Str} {k : Nat} {s : SpQ} (F : Fun K x qual st f fd) (S : FnScope N ps (defScope st)) (len : ∀ xs M Q E, s xs M Q E → xs.length = ps.length)
    (hbody : ∀ (A : Around) (outer : List Env) (s0 : Shared) (H0 : Hp) (E : XK), L2H.RoomH k (A.deeper (envOfC qual (defScope st) s0.heap.objs.size f fd.code)) →
      ∃ t, QPSs (cxOf (L2N.CX P w) P w K mg base N qual (defScope st) f fd.code A outer s0 H0 E) (fun cls d _ H => E cls d H) (defBody st) t ∧
        ∀ xs M Q0 E0, s xs M Q0 E0 → t { nx := fun _ M => Q0 .non M, rt := Q0, ex := fun c pl _ M => E0 c pl M } (startQ N xs) M) : FnQ P w K mg base (k + 1) f fd ps s := by
  obtain ⟨oc, od, kV, doc, pm, an, cdv, ct, osl, rfl, lk, hcd⟩ := F.ex
  refine .of (fn_of lk hcd S (fun vs H Q E h => ?_) (fun A outer s0 H vs Q E hr h => ?_))
  · obtain ⟨xs, M, G, Q0, E0, r, _, q, _⟩ := h
    rw [← r.length]
    exact len xs M Q0 E0 q
  · obtain ⟨xs, M, G, Q0, E0, r, w, q, L, LE⟩ := h
    obtain ⟨t, h1, h2⟩ := hbody A outer s0 H E (L2H.roomH_of hr)
    refine ⟨_, h1, startQ N xs, M, G, _, ⟨start_env r, w⟩, h2 xs M Q0 E0 q, ?_⟩
    exact ⟨fun env' M' σ' H' G' e S q => L .non M' .non H' G' e S.wf rfl q, L, fun _ _ _ _ _ _ _ q => q, fun _ _ _ _ _ _ _ q => q, fun c pl env' M' d σ' H' G' e S x q => LE c pl M' d H' G' e S.wf x q⟩
/-- what is known of the lambdas' tables over a base -/
class TabsIn (base : Heap) (mg : Str → Option Value) (cs : List (Addr × Addr)) : Prop where
  tb : ∀ p ∈ cs, LamX.TabB base mg p.1 p.2
/-! ### words of a lambda in a text -/
def lamT (q : Str) : Expr → LamT
  | .Lambda pa b sc _ => ⟨q, pa, b, sc⟩
  | e => ⟨q, { posonlyargs := [], args := [], vararg := none, kwonlyargs := [], kw_defaults := [], kwarg := none, defaults := [] }, e, { kind := .function, names := [], isGenerator := false, isCoroutine := false, more := [] }⟩
def subS : Stmt → List Stmt
  | .If _ b c _ => b ++ c
  | .For _ _ b c _ => b ++ c
  | .While _ b c _ => b ++ c
  | _ => []
def subE : Stmt → List Expr
  | .If t _ _ _ => [t]
  | .For t i _ _ _ => [t, i]
  | .While t _ _ _ => [t]
  | .Assign ts v _ => v :: ts
  | .Return (some v) _ => [v]
  | .Expr v _ => [v]
  | _ => []
def subX : Expr → List Expr
  | .Call f as _ _ => f :: as
  | .UnaryOp _ x _ => [x]
  | .BoolOp _ xs _ => xs
  | .Compare a _ bs _ => a :: bs
  | .BinOp a _ b _ => [a, b]
  | e => [e]
def freeB (sc : Scope) (L : LamT) : Bool := L.sc.names.all fun y => !decide (y.2 = .free) || decide (sc.names.lookup y.1 = some .cell)
theorem freeB_ok {sc : Scope} {L : LamT} (h : freeB sc L = true) : ∀ y ∈ L.sc.names, y.2 = .free → sc.names.lookup y.1 = some .cell := fun y hy e => by
  have := List.all_eq_true.mp h y hy
  simp only [Bool.or_eq_true, Bool.not_eq_true', decide_eq_true_eq, decide_eq_false_iff_not] at this
  rcases this with z | z
  · exact absurd e z
  · exact z
theorem freeB_in {sc : Scope} {L : LamT} (h : freeB sc L = true) : FreeIn sc L := fun y hy e => .inl (freeB_ok h y hy e)
def sLawT (q : Str) (P : Addr) : SpQ := fun xs M Q _ => ∃ ns, xs = [.scr ns] ∧ ns.length ≤ 63 ∧ M P = some (.tab q) ∧ ∀ M', Q (.bl true) M'
/-! ### one of two readings -/
def qAlt (t1 t2 : QT) : QT := fun env M Q E => t1 env M Q E ∨ t2 env M Q E
theorem qe_alt {X : Cx} {W : WX} {e : Expr} {t1 t2 : QT} (h1 : QE X W e t1) (h2 : QE X W e t2) : QE X W e (qAlt t1 t2) :=
  ⟨fun pins s σ H Q I ⟨env, M, G, Q0, E0, S, q, LV, LE⟩ => q.elim (fun q => h1.run pins s σ H Q I ⟨env, M, G, Q0, E0, S, q, LV, LE⟩) (fun q => h2.run pins s σ H Q I ⟨env, M, G, Q0, E0, S, q, LV, LE⟩)⟩
/-! ### for over the signs of a str -/
def sForS (t : QT) (g : QTG) (b : QS) : QS := fun D env M => t env M (fun x M1 => match x with
  | .str s => forI s.cps.size (fun i x => ∃ c, s.cps[i]? = some c ∧ x = .str ⟨#[c]⟩) (fun _ => True) g b D env M1
  | _ => False) (exE D env)
section
variable {X : Cx} {W : WX} {pos : Pos}
theorem qs_forS {tg e : Expr} {body : List Stmt} {t : QT} {g : QTG} {b : QS} (po : PassesOwn (model X.prog X.w) X.A X.env X.xe) (hc : X.calm = true) (he : QE X W e t) (hgt : QPG X tg g) (hb : QPSs X W body b) (hfs : ∀ x, foldedSetIterable e X.env x = pure x := by intro _; rfl) :
    QPS X W (.For tg e body [] pos) (sForS t g b) :=
  (ps_for po hc (pi_str he) hgt hb hfs).imp fun D σ H ⟨env, M, G, D0, S, q, L⟩ => by
    refine ⟨env, M, G, _, _, S, q, fun x M1 v H1 G1 e1 w1 r1 q1 => ?_, liftX_E S.env L.ex⟩
    dsimp only at q1
    split at q1
    · rename_i s
      cases r1
      obtain ⟨I, i0, _, hs, hd⟩ := q1
      refine ⟨s, rfl, fun i m σ H => m = s.cps.size - i ∧ i ≤ s.cps.size ∧ PvQ X.K G1 I i σ H, ⟨s.cps.size, by omega, Nat.zero_le _, env, M1, G1, Ext.refl _, S.to e1 w1, i0⟩, fun i m σ H ⟨hm', hi, env, M, G2, e2, S2, q2⟩ => ?_⟩
      by_cases hn : i = s.cps.size
      · subst hn
        exact .inl ⟨Nat.le_refl _, L.nx env M σ H G2 (e1.trans e2) S2 (hd env M q2)⟩
      · have hi2 : i < s.cps.size := by omega
        refine .inr ⟨hi2, PvQ X.K G1 I (i + 1), fun σ' H' h => ⟨m - 1, by omega, by omega, by omega, h⟩, fun x H' hy => ?_⟩
        obtain ⟨rfl, c, hc, rfl⟩ := hy
        exact turnQ (L.mono e1) e2 S2 (x := .str ⟨#[c]⟩) rfl (hs i _ env M hi2 ⟨c, hc, rfl⟩ q2)
    · exact q1.elim
end
end TQ
namespace TN
open PySem PySem.Spec PyProof.Rows L2 TQ TM
/-! ### the readings, for the walk -/
section
variable {env : Sl} {M : Mem} {Q : PK} {E : EK}
def actP (sp : SpQ) (f : Addr) (L : LamT) (cl : List (Str × Addr)) (vs xs : List PV) (n : Nat) (M : Mem) [Q : Box PK] [E : Box EK] : Prop := M f = some (.lam L cl (some vs)) ∧ xs.length = n ∧ sp (xs ++ vs) (calmL M)
    (fun y M2 => M2 f = some (.lam L cl none) ∧ Q.v y (mset M2 f (.lam L cl (some vs)))) (fun c pl M2 => M2 f = some (.lam L cl none) ∧ E.v c pl (mset M2 f (.lam L cl (some vs))))
def actB (i : Nat) (L : LamT) (sp : SpQ) (n : Nat) (ta : QA) (env : Sl) (M : Mem) [Q : Box PK] [E : Box EK] : Prop := ∃ f cl vs, env[i]? = some (some (.ref f)) ∧ M f = some (.lam L cl (some vs)) ∧ ta env M (fun xs M1 => @actP sp f L cl vs xs n M1 Q E) E.v
theorem e_qAct {i : Nat} {L : LamT} {sp : SpQ} {ps : List Str} {ta : QA} : qAct i L sp ps ta env M Q E = @actB i L sp ps.length ta env M ⟨Q⟩ ⟨E⟩ := rfl
def lamB (P : Addr) (L : LamT) (cl : List (Str × Addr)) (M : Mem) [Q : Box PK] : Prop := M P = some (.tab L.q) ∧ ∀ f, M f = none → Q.v (.ref f) (mset M f (.lam L cl none))
theorem e_qLam {P : Addr} {L : LamT} {cl : List (Str × Addr)} : qLam P L cl env M Q E = @lamB P L cl M ⟨Q⟩ := rfl
def calB (s : SpQ) (L : LamT) (cl : List (Str × Addr)) (vs : Option (List PV)) (xs : List PV) (M : Mem) [Q : Box PK] : Prop := ∃ f ws, M f = some (.lam L cl none) ∧ vs = some ws ∧ s xs (mset M f (.lam L cl (some ws))) (fun x M2 => M2 f = some (.lam L cl (some ws)) ∧ Q.v x (calmL M2)) EF
theorem e_qCallL {s : SpQ} {L : LamT} {cl : List (Str × Addr)} {ix : List Nat} {t : QA} : qCallL s L cl ix t env M Q E = t env M (fun xs M1 => @calB s L cl (valsAt env ix) xs M1 ⟨Q⟩) E := rfl
end
section
variable {env : Sl} {M : Mem} {D : QEnds}
def altB (t1 t2 : QT) (env : Sl) (M : Mem) [Q : Box PK] [E : Box EK] : Prop := t1 env M Q.v E.v ∨ t2 env M Q.v E.v
theorem e_qAlt {t1 t2 : QT} {Q : PK} {E : EK} : qAlt t1 t2 env M Q E = @altB t1 t2 env M ⟨Q⟩ ⟨E⟩ := rfl
theorem alt_l {t1 t2 : QT} {Q : Box PK} {E : Box EK} (h : t1 env M Q.v E.v) : @altB t1 t2 env M Q E := .inl h
theorem alt_r {t1 t2 : QT} {Q : Box PK} {E : Box EK} (h : t2 env M Q.v E.v) : @altB t1 t2 env M Q E := .inr h
def forSP (x : PV) (g : QTG) (b : QS) (D : QEnds) (env : Sl) (M1 : Mem) : Prop := match x with
  | .str s => forI s.cps.size (fun i x => ∃ c, s.cps[i]? = some c ∧ x = .str ⟨#[c]⟩) (fun _ => True) g b D env M1
  | _ => False
theorem e_sForS {t : QT} {g : QTG} {b : QS} : sForS t g b D env M = t env M (fun x M1 => forSP x g b D env M1) (exE D env) := rfl
theorem forSP_str {s : Str} {g : QTG} {b : QS} : forSP (.str s) g b D env M = forI s.cps.size (fun i x => ∃ c, s.cps[i]? = some c ∧ x = .str ⟨#[c]⟩) (fun _ => True) g b D env M := rfl
end
end TN

/-! the head of a law with lambdas: the tables of code objects are looked at, too -/
namespace TW
open PySem PySem.Spec PyProof.Rows L2
structure SaysL (fx : PySem.W.Frag → List Bool) (fn : List He.DefD) (tf : List He.Defn) (h : Heap) (K : PySem.W.Frag) : Prop where
  c : SaysC fx fn K
  hd : ∀ p ∈ tf, PySem.W.codeHdIn K (He.cT K p).1 (He.cT K p).2 = true
  out : ∀ p ∈ tf, K.lookup (He.cT K p).2 = none
  empty : ∀ p ∈ tf, h.get? (He.cT K p).2 = some { cls := .none, data := .fields #[] }
def tabL (g : Addr → Option Obj) (K : PySem.W.Frag) (p : He.Defn) : Bool := PySem.W.codeHdIn K (He.cT K p).1 (He.cT K p).2 && ((K.lookup (He.cT K p).2).isNone && (match g (He.cT K p).2 with
  | some o => He.emptyTab o
  | none => false))
def tabsL (g : Addr → Option Obj) (tf : List He.Defn) (K : PySem.W.Frag) : Bool := tf.all (tabL g K)
theorem tabL_ok {g : Addr → Option Obj} {K : PySem.W.Frag} {p : He.Defn} (h : tabL g K p = true) : PySem.W.codeHdIn K (He.cT K p).1 (He.cT K p).2 = true ∧ K.lookup (He.cT K p).2 = none ∧ g (He.cT K p).2 = some { cls := .none, data := .fields #[] } := by
  unfold tabL at h
  simp only [Bool.and_eq_true] at h
  obtain ⟨h1, h2, h3⟩ := h
  refine ⟨h1, Option.isNone_iff_eq_none.mp h2, ?_⟩
  cases e : g (He.cT K p).2 with
  | none => rw [e] at h3; cases h3
  | some o =>
    rw [e] at h3
    rw [He.emptyTab_eq h3]
def hookL (fx : PySem.W.Frag → List Bool) (fn : List He.DefD) (tf : List He.Defn) : PySem.W.Hook where
  α := AlC × Bool
  obs := fun s => (obsC fx fn (frC s.heap.get?), tabsL s.heap.get? tf (frC s.heap.get?))
  val := fun _ => (valC fn, true)
  says := fun _ h => ∃ K : PySem.W.Frag, K.In h ∧ SaysL fx fn tf h K
  of := fun _ _ e => by
    have e1 := congrArg (fun z : AlC × Bool => z.1) e
    have e2 := fun p hp => tabL_ok (List.all_eq_true.mp (congrArg (fun z : AlC × Bool => z.2) e) p hp)
    exact ⟨_, He.frG_in, ⟨congrArg (fun z : AlC => z.1) e1, congrArg (fun z : AlC => z.2.1) e1, congrArg (fun z : AlC => z.2.2) e1⟩, fun p hp => (e2 p hp).1, fun p hp => (e2 p hp).2.1, fun p hp => (e2 p hp).2.2⟩
  keeps := fun _ _ _ ⟨K, hK, c⟩ k => ⟨K, PySem.W.Frag.In.keeps hK k, c.c, c.hd, c.out, fun p hp => k _ _ (c.empty p hp)⟩
def obL (fx : PySem.W.Frag → List Bool) (fn : List He.DefD) (tf : List He.Defn) (s : PySem.W.SharedT) : AlC × Bool := (obsC fx fn (frC (HandSHeadRun.getT s)), tabsL (HandSHeadRun.getT s) tf (frC (HandSHeadRun.getT s)))
theorem obL_eq {fx : PySem.W.Frag → List Bool} {fn : List He.DefD} {tf : List He.Defn} (s : PySem.W.SharedT) : obL fx fn tf s = (hookL fx fn tf).obs s.abs := by
  have e : HandSHeadRun.getT s = s.abs.heap.get? := funext fun a => HandSHeadRun.getT_eq s a
  unfold obL
  rw [e]
  rfl
section
open PySem.W PySem.Calls HandSHeadRun
theorem run_ofL {r : OpenRow} {q : Program} {M : Nat} {loose : List PySem.Str} {w : World} {fx : PySem.W.Frag → List Bool} {fn : List He.DefD} {tf : List He.Defn}
    (h1 : Asks r.prog M (fun s => looksF r.prog (boot_heap w.params) s.abs) true w)
    (h2 : Asks r.prog M (fun s => seenQ q loose (importedModules r.prog.main.body) (fun s => xlAt q [] s && recOk r.toRowW.records s) s.abs) (openGood q loose) w)
    (h3 : ∀ (os : OsState) (s : SharedT), endC r.prog M w os = some s → SaysC fx fn (frC (getT s)))
    (h4 : Asks r.prog M (fun s => tabsL (getT s) tf (frC (getT s))) true w) : RunEq r q (hookL fx fn tf) (obL fx fn tf) M loose w := fun os => by
  have z := h1 os
  cases e : endC r.prog M w os with
  | none => rw [e] at z; cases z
  | some s =>
    have e' : endF (stepQ (denQ tabQ) r.prog w) M r.prog w os = some s := e
    rw [e']
    have c := h3 os s e
    have e3 : obL fx fn tf s = (valC fn, true) := by
      show (((fx (frC (getT s))).all (fun b => b), fn.all fun d => d.ok (frC (getT s)), fn.map fun d => He.fnW (frC (getT s)) d.at_), tabsL (getT s) tf (frC (getT s))) = ((true, true, fn.map He.DefD.val), true)
      rw [c.f, c.d, c.v, h4.at_ e]
    show some (looksF r.prog (boot_heap w.params) s.abs, _, obL fx fn tf s) = some (true, openGood q loose, (valC fn, true))
    rw [h1.at_ e, h2.at_ e, e3]
end
/-- a def's code object -/
theorem code_cT {K : PySem.W.Frag} {p : He.Defn} {fd : FuncData} {oc : Value} {od : Option Addr} {osl : Array (Option Value)} (lk : K.lookup (He.fAd K p) = some ⟨oc, od, .func fd, osl⟩) {q : Str} (hc : PySem.W.codeIn K fd.code q = true) : fd.code = .ref (He.cT K p).1 := by
  obtain ⟨c, e⟩ := He.codeIn_ref hc
  rw [e]
  show Value.ref c = .ref (He.codeOf K p)
  rw [He.codeOf_eq lk e]
theorem code_of {K : PySem.W.Frag} {p : He.Defn} {x qual : Str} {pa : Arguments} {b : List Stmt} {sc : Scope} {dvs : List V} {kws : List (Str × V)} {d : FuncData} (F : FunD K x qual pa b sc dvs kws (He.fAd K p) d) : d.code = .ref (He.cT K p).1 := by
  obtain ⟨oc, od, dV, kV, doc, pm, an, cdv, ct, osl, rfl, lk, hcd, _⟩ := F.ex
  exact code_cT lk hcd

/-! ### the law called by the claim's caller, under whom no repr is under way -/
section
variable {K : PySem.W.Frag} {a : Addr} {lo : Obj} {zs : List Int} {cs : List (Addr × Addr)} {h : Heap}
def entryH (K : PySem.W.Frag) (a : Addr) (lo : Obj) (zs : List Int) (cs : List (Addr × Addr)) : Hp := fun b =>
  if b ∈ cs.map (·.2) then some (.tbl #[]) else if b = a ∧ K.lookup a = none then some (.frz lo (.lst (zs.map V.int))) else none
theorem entry_tab {b : Addr} (hb : b ∈ cs.map (·.2)) : entryH K a lo zs cs b = some (.tbl #[]) := if_pos hb
theorem entry_cases {b : Addr} {u : HO} (e : entryH K a lo zs cs b = some u) : (b ∈ cs.map (·.2) ∧ u = .tbl #[]) ∨ (b ∉ cs.map (·.2) ∧ b = a ∧ K.lookup a = none ∧ u = .frz lo (.lst (zs.map V.int))) := by
  unfold entryH at e
  by_cases h1 : b ∈ cs.map (·.2)
  · rw [if_pos h1] at e
    exact .inl ⟨h1, (Option.some.inj e).symm⟩
  · rw [if_neg h1] at e
    by_cases h2 : b = a ∧ K.lookup a = none
    · rw [if_pos h2] at e
      exact .inr ⟨h1, h2.1, h2.2, (Option.some.inj e).symm⟩
    · rw [if_neg h2] at e
      cases e
theorem entry_none {b : Addr} (h1 : b ∉ cs.map (·.2)) (h2 : ¬ (b = a ∧ K.lookup a = none)) : entryH K a lo zs cs b = none := by
  unfold entryH
  rw [if_neg h1, if_neg h2]
theorem entry_vis (hT : ∀ p ∈ cs, h.get? p.2 = some { cls := .none, data := .fields #[] }) (hl : h.get? a = some lo) (hs : ∃ xs n, lo.data = .seq xs n) {b : Addr} {o : Obj} (e : h.get? b = some o) (n1 : ∀ xs n, o.data ≠ .seq xs n) (n2 : o.data ≠ .fields #[]) : entryH K a lo zs cs b = none := by
  refine entry_none (fun z => ?_) (fun z => ?_)
  · obtain ⟨p, hp, q⟩ := List.mem_map.mp z
    have t := hT p hp
    rw [q, e] at t
    exact n2 (by rw [Option.some.inj t])
  · obtain ⟨xs, n, q⟩ := hs
    rw [z.1, hl] at e
    exact n1 xs n (by rw [← Option.some.inj e]; exact q)
end
theorem law_callG {P : Program} {w : World} {K : PySem.W.Frag} {mg mb : Str → Option Value} {k : Nat} {fa a : Addr} {cs : List (Addr × Addr)} {fd : FuncData} {x : Str} {sp : TQ.SpQ} {s : Shared} {us : List Value} {zs : List Int}
    (kin : K.In s.heap) (gl : s.heap.Ns mainGlobals mg) (bl : s.heap.Ns builtinsNs mb) (bb : ∀ x : Str, x ≠ "__name__" → mb x = bootBuiltins x) (nl : s.heap.NoLimit) (ge : s.gens = #[])
    (hT : ∀ p ∈ cs, s.heap.get? p.2 = some { cls := .none, data := .fields #[] }) (nT : ∀ p ∈ cs, K.lookup p.2 = none) (hC : ∀ p ∈ cs, PySem.W.CodeHd s.heap p.1 p.2)
    (bm : ∃ (m : Addr) (o : Obj), mg "__builtins__" = some (.ref m) ∧ m ≠ builtinsNs ∧ s.heap.get? m = some o ∧ o.cls = .type "module" ∧ o.dict = some builtinsNs ∧ o.data = .plain)
    (hl : s.heap.get? a = some { cls := .type "list", data := .seq us.toArray }) (hi : IntsAre us zs) (hz : zs.length ≤ sizeLine) (hr : Room k callerA)
    (F : ∀ base : Heap, K.In base → base.Ns mainGlobals mg → (∀ p ∈ cs, LamX.TabB base mg p.1 p.2) → TQ.FnG P w K mg base k fa fd [x] sp) (hb : ∀ (s : Shared) (u : Value), BindsTo s fd ⟨[u], []⟩ [(x, u)])
    (hsp : ∀ H : Hp, (∀ p ∈ cs, H p.2 = some (.tbl #[])) → SqL K H a (zs.map V.int) → TQ.spQ K sp [.ref a] H (fun v _ => v = .bl true) fun _ _ _ => False) :
    codeAny (model P w) callerA (.call (.ref fa) ⟨[.ref a], []⟩) (fun r s' => r = .ok (.ret (.bool true)) ∧ OldK s.heap s'.heap ∧ s'.os = s.os ∧ AllBare s'.gens) s := by
  obtain ⟨lo, elo⟩ : ∃ lo : Obj, lo = { cls := .type "list", data := .seq us.toArray } := ⟨_, rfl⟩
  have hl' : s.heap.get? a = some lo := by rw [elo]; exact hl
  have hsq : ∃ xs n, lo.data = .seq xs n := ⟨us.toArray, _, by rw [elo]⟩
  have aT : a ∉ cs.map (·.2) := fun z => by
    obtain ⟨p, hp, q⟩ := List.mem_map.mp z
    have t := hT p hp
    rw [q, hl] at t
    have t2 := congrArg Obj.data (Option.some.inj t)
    cases t2
  obtain ⟨H0, eH⟩ : ∃ H0, H0 = entryH K a lo zs cs := ⟨_, rfl⟩
  have vis : ∀ {b : Addr} {o : Obj}, s.heap.get? b = some o → (∀ xs n, o.data ≠ .seq xs n) → o.data ≠ .fields #[] → (hidT s.heap H0).get? b = some o := fun {b o} e n1 n2 => hidT_get e (by rw [eH]; exact entry_vis hT hl' hsq e n1 n2)
  have visN : ∀ {L : Addr} {m : Str → Option Value}, s.heap.Ns L m → (hidT s.heap H0).Ns L m := fun {L m} ⟨o, es, ep, e, d, r⟩ => ⟨o, es, ep, vis e (fun xs n z => by rw [d] at z; cases z) (fun z => by rw [d] at z; cases z), d, r⟩
  have kb : K.In (hidT s.heap H0) := fun b o e => hidT_get (kin b o e) (by
    rw [eH]
    refine entry_none (fun z => ?_) (fun z => ?_)
    · obtain ⟨p, hp, q⟩ := List.mem_map.mp z
      have t := nT p hp
      rw [q, e] at t
      cases t
    · rw [z.1, z.2] at e
      cases e)
  have md : L2.Mod K mg (hidT s.heap H0) := ⟨kb, visN gl, ⟨mb, visN bl, bb⟩, by obtain ⟨mc, q1, q2⟩ := nl; exact ⟨mc, visN q1, q2⟩⟩
  have tb : ∀ p ∈ cs, LamX.TabB (hidT s.heap H0) mg p.1 p.2 := fun p hp => by
    have tp := hT p hp
    obtain ⟨o, vs, f1, t1, f2, t2, f3, f4, t4, r1, r2, r3, r4, r5, r6, r7, r8, r9, r10⟩ := hC p hp
    obtain ⟨m, om, m1, m2, m3, m4, m5, m6⟩ := bm
    obtain ⟨og, eg, ng, g1, g2, _⟩ := id gl
    have c1 := vis r1 (fun xs n z => by rw [r3] at z; cases z) (fun z => by rw [r3] at z; cases z; simp at r4)
    have c2 := vis m3 (fun xs n z => by rw [m6] at z; cases z) (fun z => by rw [m6] at z; cases z)
    refine ⟨⟨o, vs, f1, t1, f2, t2, f3, f4, t4, c1, r2, r3, r4, r5, r6, r7, r8, r9, r10⟩, ⟨m, om, m1, m2, ?_, ?_, c2, m4, m5, m6⟩, ?_⟩
    · intro z; rw [z, g1] at m3; cases m3; rw [g2] at m6; cases m6
    · intro z; rw [z, tp] at m3; cases m3; cases m6
    · intro z; rw [z, tp] at g1; cases g1; cases g2
  have vz := vals_ints hi
  have szz : SqL K H0 a (zs.map V.int) := by
    cases q : K.lookup a with
    | none => exact .inl (.inr ⟨lo, by rw [eH]; unfold entryH; rw [if_neg aT, if_pos ⟨rfl, q⟩]⟩)
    | some o =>
      have t := kin a o q
      rw [hl] at t
      cases t
      exact .inr ⟨_, us.toArray, _, q, rfl, rfl, rfl, by rw [List.size_toArray, hi.length]; exact hz, by simpa using vz⟩
  have hok : HOk P w H0 s.heap := fun b u e => by
    rw [eH] at e
    rcases entry_cases e with ⟨q1, rfl⟩ | ⟨_, rfl, _, rfl⟩
    · obtain ⟨p, hp, q⟩ := List.mem_map.mp q1
      have t := hT p hp
      rw [q] at t
      exact t
    · exact ⟨hl', by rw [List.length_map]; exact hz, us, _, vz, hl⟩
  have e0 : Env0 P w K mg (hidT s.heap H0) callerA [] s H0 := ⟨rfl, md, fun b o e => of_hidT e, Nat.le_of_eq (hidT_size _ _), trivial, fun b z => (nomatch (show b ∈ ([] : List Addr) from z)), hok, .of_eq ge⟩
  have sp0 := hsp H0 (fun p hp => by rw [eH]; exact entry_tab (List.mem_map.mpr ⟨p, hp, rfl⟩)) szz
  refine codeAny_mono ((F _ kb (visN gl) tb).run callerA [] s H0 ⟨[.ref a], []⟩ [.ref a] [.ref a] _ _ rfl hr e0 (hb s (.ref a)) (.cons rfl .nil) sp0) fun r s' z => ?_
  match r, z with
  | .error e, z => exact (TQ.law_CX H0 s e s' z).elim
  | .ok .next, z => exact z.elim
  | .ok .brk, z => exact z.elim
  | .ok .cont, z => exact z.elim
  | .ok (.ret u), z =>
    obtain ⟨v, H', z1, z2, un, ok', rv, rfl⟩ := z
    obtain rfl : u = Value.bool true := rv
    have more : ∀ p ∈ cs, ∃ ps : Array Value, s'.heap.get? p.2 = some { cls := .none, data := .fields ps } := fun p hp => by
      obtain ⟨ps, q⟩ := un.tbls p.2 #[] (by rw [eH]; exact entry_tab (List.mem_map.mpr ⟨p, hp, rfl⟩))
      exact ⟨_, ok' p.2 _ q⟩
    have same : ∀ b o, b ∉ cs.map (·.2) → s.heap.get? b = some o → s'.heap.get? b = some o := fun b o nb e => by
      cases q : H0 b with
      | none => exact un.keep b o e q (fun z => nomatch (show b ∈ ([] : List Addr) from z)) (by simp)
      | some u =>
        have q2 := q
        rw [eH] at q2
        rcases entry_cases q2 with ⟨y, _⟩ | ⟨_, rfl, _, rfl⟩
        · exact absurd y nb
        · have y := (ok' b _ (un.frzs b _ _ q)).1
          rw [hl'] at e
          rw [← Option.some.inj e]
          exact y
    refine ⟨rfl, ⟨fun b o e => ?_, fun b o e => ?_⟩, z1, z2⟩
    · by_cases nb : b ∈ cs.map (·.2)
      · obtain ⟨p, hp, rfl⟩ := List.mem_map.mp nb
        obtain ⟨ps, q⟩ := more p hp
        rw [hT p hp] at e
        obtain rfl := Option.some.inj e
        exact .inr (.inl ⟨((hC p hp).tab (hT p hp)).isCodeTable, rfl, #[], ps, rfl, by rw [Array.empty_append]; exact q⟩)
      · exact .inl (same b o nb e)
    · by_cases nb : b ∈ cs.map (·.2)
      · obtain ⟨p, hp, rfl⟩ := List.mem_map.mp nb
        obtain ⟨ps, q⟩ := more p hp
        exact ⟨_, q⟩
      · exact ⟨o, same b o nb e⟩
theorem walk_ofG {l : PySem.W.OpenLaw} {n k : Nat} {q : Program} {loose : List Str} {XP : (Str → Option Value) → Heap → Prop} {YP : World → Heap → Prop} {d : DefRec} {x : Str} (hn : l.most = some n) (hn2 : n ≤ sizeLine) (hdf : d.params.defaults = []) (hr : Room k callerA)
    (F : ∀ (w : World) (mg : Str → Option Value) (fa : Addr) (h : Heap), YP w h → h.Ns mainGlobals mg → mg d.name = some (.ref fa) → ∃ (K : PySem.W.Frag) (fd : FuncData) (cs : List (Addr × Addr)) (sp : TQ.SpQ), K.In h ∧ (∀ p ∈ cs, h.get? p.2 = some { cls := .none, data := .fields #[] }) ∧
      (∀ p ∈ cs, K.lookup p.2 = none) ∧ (∀ p ∈ cs, PySem.W.CodeHd h p.1 p.2) ∧ (∀ (s : Shared) (u : Value), BindsTo s fd ⟨[u], []⟩ [(x, u)]) ∧
      (∀ (H : Hp) (a : Addr) (zs : List Int), zs.length ≤ n → (∀ p ∈ cs, H p.2 = some (.tbl #[])) → SqL K H a (zs.map V.int) → TQ.spQ K sp [.ref a] H (fun v _ => v = .bl true) fun _ _ _ => False) ∧
      ∀ base : Heap, K.In base → base.Ns mainGlobals mg → (∀ p ∈ cs, LamX.TabB base mg p.1 p.2) → TQ.FnG l.prog w K mg base k fa fd [x] sp) :
    PySem.W.WalkO q loose XP YP l.row.toRowW d [] (fun f vs => PySem.call f vs) := by
  refine Att.attach_callB hn hdf fun w _ s mg mb fa _ _ _ _ a us zs G Y _ _ _ hmg hobj hints hlen _ hge => ?_
  obtain ⟨K, fd, cs, sp, kin, hT, nT, hC, hb, hsp, hF⟩ := F w mg fa _ Y G.T.g hmg
  exact law_callG kin G.T.g G.T.b G.T.builtins G.T.nolimit hge hT nT hC G.T.bmain hobj hints (Nat.le_trans hlen hn2) hr hF hb (fun H h1 h2 => hsp H a zs hlen h1 h2)
end TW

/-! errors that are caught: with else, without a field; exceptions out of comprehensions; more comprehensions -/
namespace TC
open PySem PySem.Spec PyProof.Rows L2
section
variable {X : Cx} {x n : Str} {c : Value} {i : Nat} {body suite : List Stmt} {b₀ : Stmt} {np pos pos' : Pos} {tb : WX → TS} {ts : Addr → Value → Option Addr → TS} {Wout : WX}
theorem try_asE {orelse : List Stmt} {u : TS} (ho : PSs X orelse u) (hs : X.stack = X.env :: X.outer) (hf : X.env.frame = some X.env.locals) (hN : X.N.Nodup) (hi : X.N[i]? = some n) (hln : X.env.kindOf n = some .local) (hc : Names X x c) (tk : L2N.Takes X Wout)
    (hb : ∀ (W : WX) (pn : List (Addr × Obj)) (xe : Value → Shared → Prop), L2N.Takes (X.tr pn xe) W → PassesOwn (model X.prog X.w) X.A X.env xe → PSs (X.tr pn xe) body (tb W))
    (hsu : ∀ (a : Addr) (oe : Obj) (cls : Value) (d : Option Addr) (pn : List (Addr × Obj)), L2N.Zn cls d oe → (∃ vs, oe.data = .fields vs) → PSs (X.suite a ((a, oe) :: pn)) (b₀ :: suite) (ts a cls d)) :
    PS X (.Try body [.ExceptHandler (some (.Name x np)) (some n) (b₀ :: suite) pos'] orelse [] pos) (fun D σ H => tb (wAs X.K c i ts Wout D) { D with nx := u D } σ H) := by
  refine ⟨fun pins s σ H D I h => ?_⟩
  have ok := I.ok
  have hfr : X.A.frames = some (X.env :: X.outer) := by rw [ok.frames, hs]
  have hloc : Loc X.env.scope n := .inl hln
  refine wpAny_Try_except ?_
  refine wpAny_mono ((hb (wAs X.K c i ts Wout D) (X.pn ++ pins) (fun e s₁ => wpAny (model X.prog X.w) X.A (noteFrame e X.env) (fun _ s₂ => wpAny (model X.prog X.w) X.A (setFlight e none) (fun _ s₃ =>
    wpAny (model X.prog X.w) X.A (handleBy e X.env [.ExceptHandler (some (.Name x np)) (some n) (b₀ :: suite) pos']) (SP X pins D) X.xe s₃) X.xe s₂) X.xe s₁) (fun u s' xx => ?_) PassesOwn.looking).run [] s σ H { D with nx := u D } (I.toTry _) h) (fun f s1 hsp => ?_) (fun e s1 he => he)
  · -- the catch
    obtain ⟨a, B, sI, pins', σ', H', cls, d, rfl, J', nb, up, sky, na, os, ag, b, hb1, hyes, hno⟩ := xx
    have J : Inv X pins σ' H' sI := J'.ofTry ok
    have sky' : Sky B (X.env :: X.outer) a (L2N.Zn cls d) X.env.locals s'.heap := by rw [← hs]; exact sky
    show wpAny (model X.prog X.w) X.A (noteFrame (.ref a) X.env) _ _ _
    refine L2N.Sky.land L2N.Zn.steady hfr hf sky' fun g3 fy3 us3 => ?_
    have J3 : Inv X pins σ' H' { s' with heap := g3 } := J.landed nb fy3.1 (up.trans us3) os ag
    obtain ⟨ob3, ws3, eo3, zo3, do3⟩ := fy3.there
    have notFr : ∀ {h : Heap} {o : Obj} {vs : Array Value}, h.FunFrames B (X.env :: X.outer) → h.get? a = some o → o.data = .fields vs → a ∉ frs (X.env :: X.outer) := fun {h o vs} ff e dd hm => by
      obtain ⟨_, o', e', hnf⟩ := ff.mem hm
      rw [e] at e'; cases e'
      exact hnf _ dd
    have nfr := notFr fy3.2.2.1 eo3 do3
    have nL : a ≠ X.env.locals := fun z => nfr (List.mem_filterMap.mpr ⟨X.env, List.mem_cons_self, by rw [hf, z]⟩)
    have nF : a ∉ X.fs := fun hm => by
      obtain ⟨e, he, q⟩ := List.mem_filterMap.mp hm
      exact nfr (List.mem_filterMap.mpr ⟨e, List.mem_cons_of_mem _ he, q⟩)
    have S3 := J3.suite eo3 do3 na nL nF
    refine wpAny_handleBy_cons (codeAny_handlers_test ?_) (by intro q; cases q)
    have LT : PySem.W.Looks (model X.prog X.w) g3 (typeOf (.ref a)) cls := fun A Q E s k q => wpAny_typeOf_ref (k _ _ eo3) (by rw [zo3.1]; exact q)
    have LM := PySem.W.exm_one (M := model X.prog X.w) (J3.kIn) LT hb1
    have test : ∀ {Q : Value → Shared → Prop} {E : Value → Shared → Prop}, Q c { s' with heap := g3 } → wpAny (model X.prog X.w) (X.A.mark (some (.ref a))) (eval (.Name x np) X.env) Q E { s' with heap := g3 } := fun {Q E} q => by
      obtain ⟨hg, hdbg, hm | ⟨hm, hv, hnn⟩⟩ := hc
      · exact ld_glob (X := X.suite a ((a, ob3) :: (X.pn ++ pins))) S3 hg hm q hdbg
      · exact ld_blt (X := X.suite a ((a, ob3) :: (X.pn ++ pins))) S3 hg hm hv q hnn hdbg
    refine test (LM.here ?_)
    cases b with
    | true =>
      refine codeAny_handlers_suite_as ?_
      refine HandSPX.lands_againZ fy3 fun g4 fy4 us4 => ?_
      have J4 : Inv X pins σ' H' { s' with heap := g4 } := J.landed nb fy4.1 ((up.trans us3).trans us4) os ag
      obtain ⟨ob4, ws4, eo4, zo4, do4⟩ := fy4.there
      have S4 := J4.suite eo4 do4 na nL nF
      refine store_ok (X := X.suite a ((a, ob4) :: (X.pn ++ pins))) (v := .ref a) S4 hN hi hloc rfl (fun s5 S5 => ?_) (.inr hln)
      refine wpAny_mono ((hsu a ob4 cls d (X.pn ++ pins) zo4 ⟨_, do4⟩).run [] s5 _ H' _ S5 (hyes rfl a na)) (fun f s6 hsp => ?_) (fun _ _ z => False.elim z)
      have end_ : ∀ {σ6 : St} {H6 : Hp} {Q : Shared → Prop}, Inv (X.suite a ((a, ob4) :: (X.pn ++ pins))) [] σ6 H6 s6 → (∀ s7, Inv X pins (σ6.set i none) H6 s7 → Q s7) →
          wpAny (model X.prog X.w) X.A (do bindName X.env n .none; unbindBehindTheSuite X.env n pos') (fun _ s7 => Q s7) X.xe s6 := fun {σ6 H6 Q} S6 hq => gone_ok (S6.unsuite ok) hN hi hln hq
      cases f with
      | next =>
        obtain ⟨σ6, H6, S6, q6⟩ := hsp
        exact end_ S6 fun s7 J7 => ⟨_, _, J7, q6⟩
      | brk =>
        obtain ⟨σ6, H6, S6, q6⟩ := hsp
        exact end_ S6 fun s7 J7 => ⟨_, _, J7, q6⟩
      | cont =>
        obtain ⟨σ6, H6, S6, q6⟩ := hsp
        exact end_ S6 fun s7 J7 => ⟨_, _, J7, q6⟩
      | ret u =>
        obtain ⟨v6, σ6, H6, S6, r6, q6⟩ := hsp
        exact end_ S6 fun s7 J7 => ⟨_, _, _, J7, r6, q6⟩
    | false =>
      show wpAny _ X.A (handleBy (.ref a) X.env []) _ _ _
      refine wpAny_handleBy_nil ?_
      obtain ⟨k1, k2, k3, oe, vs, T, oT, ts', he, hz, hd, h1, hr⟩ := id fy3
      unfold PySem.passOn
      refine wpAny_bind (wpAny_field he hd h1 ?_)
      rw [if_neg (show ¬ ((Value.ref T == Value.none) = true) from by simp)]
      have fin : wpAny (model X.prog X.w) X.A (setFlight (.ref a) X.env.frame) (fun _ s4 => wpAny (model X.prog X.w) X.A (throw (.ref a) : Sem Flow) (SP X pins D) X.xe s4) X.xe { s' with heap := g3 } := by
        rw [hf]
        refine HandSPX.setFlight_upZ fy3 fun g4 hh4 us4 => wpAny_throw (tk _ _ ?_)
        exact ⟨a, B, sI, pins, σ', H', cls, d, rfl, J, nb, (up.trans us3).trans us4, .inr (.inr (by rw [hs]; exact hh4)), na, os, ag, hno rfl⟩
      first
        | exact wpAny_bind (wpAny_pure (wpAny_bind fin))
        | exact wpAny_bind fin
  · cases f with
    | next =>
      obtain ⟨σ', H', J', q⟩ := hsp
      exact ho.run pins s1 σ' H' D (J'.ofTry ok) q
    | brk =>
      obtain ⟨σ', H', J', q⟩ := hsp
      exact ⟨σ', H', J'.ofTry ok, q⟩
    | cont =>
      obtain ⟨σ', H', J', q⟩ := hsp
      exact ⟨σ', H', J'.ofTry ok, q⟩
    | ret u =>
      obtain ⟨v, σ', H', J', r, q⟩ := hsp
      exact ⟨v, σ', H', J'.ofTry ok, r, q⟩
end
end TC
namespace TQ
open PySem PySem.Spec PyProof.Rows L2
section
variable {X : Cx} {C fI B : Addr}
/-- as sTryAs, with else -/
def sTryAsE (K : PySem.W.Frag) (D : Addr) (i : Nat) (c : Value) (tb : QS) (ts : Addr → Addr → QS) (u : QS) : QS := fun De env M =>
  tb { De with nx := u De, ex := fun cls pl env' M' => ∃ b, PySem.W.exmOne K cls c = some b ∧
    (b = true → cls = .ref D ∧ ∃ x, pl = some x ∧ ∀ a d, M' a = none → ts a d { nx := fun e m => De.nx (e.set i none) m, rt := De.rt, bk := fun e m => De.bk (e.set i none) m, ct := fun e m => De.ct (e.set i none) m } (env'.set i (some (.exc a d x))) M') ∧
    (b = false → De.ex cls pl env' M') } env M
theorem qs_tryAsE {x n : Str} {c : Value} {i : Nat} {body suite orelse : List Stmt} {b₀ : Stmt} {np pos pos' : Pos} {tb u : QS} {ts : Addr → Addr → QS} {W : WX} {D : Addr} (hs : X.stack = X.env :: X.outer) (hf : X.env.frame = some X.env.locals) (hN : X.N.Nodup) (hi : X.N[i]? = some n) (hln : X.env.kindOf n = some .local) (hc : Names X x c) (tk : L2N.Takes X W)
    (hb : ∀ (W : WX) (pn : List (Addr × Obj)) (xe : Value → Shared → Prop), L2N.Takes (X.tr pn xe) W → PassesOwn (model X.prog X.w) X.A X.env xe → QPSs (X.tr pn xe) W body tb)
    (hsu : ∀ (a : Addr) (oe : Obj) (d : Addr) (pn : List (Addr × Obj)), L2N.Zn (.ref D) (some d) oe → (∃ vs, oe.data = .fields vs) → QPSs (X.suite a ((a, oe) :: pn)) W0 (b₀ :: suite) (ts a d)) (ho : QPSs X W orelse u) :
    QPS X W (.Try body [.ExceptHandler (some (.Name x np)) (some n) (b₀ :: suite) pos'] orelse [] pos) (sTryAsE X.K D i c tb ts u) :=
  (TC.try_asE (tb := fun W => tieS X.K W tb) (ts := fun a cls d => fun De σ H => cls = .ref D ∧ ∃ dd, d = some dd ∧ tieS X.K W0 (ts a dd) De σ H) ho hs hf hN hi hln hc tk (fun W pn xe tk po => hb W pn xe tk po) (fun a oe cls d pn hz hv => by
    by_cases h1 : cls = .ref D
    · subst h1
      cases d with
      | none => exact ⟨fun pins s σ H De I ⟨_, dd, e, _⟩ => nomatch e⟩
      | some dd => exact (hsu a oe dd pn hz hv).imp fun De σ H ⟨_, dd', e, h⟩ => by cases e; exact h
    · exact ⟨fun pins s σ H De I ⟨e, _⟩ => absurd e h1⟩)).imp fun De σ H ⟨env, M, G, D0, S, q, L⟩ => by
    refine ⟨env, M, G, _, S, q, ⟨fun env2 M2 σ2 H2 G2 e2 S2 q2 => ⟨env2, M2, G2, D0, S2, q2, L.mono e2⟩, L.rt, L.bk, L.ct, fun cls pl env' M' d σ' H' G' e1 S1 xr q1 => ?_⟩⟩
    obtain ⟨b, hb1, h1, h2⟩ := q1
    refine ⟨b, hb1, fun hb2 a ha => ?_, fun hb2 => L.ex cls pl env' M' d σ' H' G' e1 S1 xr (h2 hb2)⟩
    obtain ⟨hcls, x, rfl, h3⟩ := h1 hb2
    obtain ⟨dd, v, rfl, hg, rv⟩ := xr
    refine ⟨hcls, dd, rfl, _, M', G', _, S1.set (i := i) (x := .exc a dd x) (v := .ref a) ⟨rfl, v, hg, rv⟩, h3 a dd (S1.wf.freeM ha), ⟨?_, L.rt.mono e1, ?_, ?_, fun _ _ _ _ _ _ _ _ _ _ _ z => z.elim⟩⟩
    · exact fun env2 M2 σ2 H2 G2 e2 S2 q2 => L.nx _ M2 _ H2 G2 (e1.trans e2) (S2.unset i) q2
    · exact fun env2 M2 σ2 H2 G2 e2 S2 q2 => L.bk _ M2 _ H2 G2 (e1.trans e2) (S2.unset i) q2
    · exact fun env2 M2 σ2 H2 G2 e2 S2 q2 => L.ct _ M2 _ H2 G2 (e1.trans e2) (S2.unset i) q2
/-- try: .. except C as n: .., where errors without a field come -/
def sTryAsN (K : PySem.W.Frag) (i : Nat) (c : Value) (tb : QS) (ts : Addr → Addr → QS) : QS := fun De env M =>
  tb { De with ex := fun cls pl env' M' => ∃ b, PySem.W.exmOne K cls c = some b ∧
    (b = true → ∃ D, cls = .ref D ∧ ExcC K D ∧ pl = none ∧ ∀ a, M' a = none → ts D a { nx := fun e m => De.nx (e.set i none) m, rt := De.rt, bk := fun e m => De.bk (e.set i none) m, ct := fun e m => De.ct (e.set i none) m } (env'.set i (some (.ref a))) M') ∧
    (b = false → De.ex cls pl env' M') } env M
theorem qs_tryAsN {x n : Str} {c : Value} {i : Nat} {body suite : List Stmt} {b₀ : Stmt} {np pos pos' : Pos} {tb : QS} {ts : Addr → Addr → QS} {W : WX} (hs : X.stack = X.env :: X.outer) (hf : X.env.frame = some X.env.locals) (hN : X.N.Nodup) (hi : X.N[i]? = some n) (hln : X.env.kindOf n = some .local) (hc : Names X x c) (tk : L2N.Takes X W)
    (hb : ∀ (W : WX) (pn : List (Addr × Obj)) (xe : Value → Shared → Prop), L2N.Takes (X.tr pn xe) W → PassesOwn (model X.prog X.w) X.A X.env xe → QPSs (X.tr pn xe) W body tb)
    (hsu : ∀ (D a : Addr) (oe : Obj) (pn : List (Addr × Obj)), ExcC X.K D → L2N.Zn (.ref D) none oe → (∃ vs, oe.data = .fields vs) → QPSs (X.suite a ((a, oe) :: pn)) W0 (b₀ :: suite) (ts D a)) :
    QPS X W (.Try body [.ExceptHandler (some (.Name x np)) (some n) (b₀ :: suite) pos'] [] [] pos) (sTryAsN X.K i c tb ts) :=
  (L2N.ps_try_as (tb := fun W => tieS X.K W tb) (ts := fun a cls d => fun De σ H => ∃ D, cls = .ref D ∧ ExcC X.K D ∧ d = none ∧ tieS X.K W0 (ts D a) De σ H) hs hf hN hi hln hc tk (fun W pn xe tk po => hb W pn xe tk po) (fun a oe cls d pn hz hv => by
    cases d with
    | some dd => exact ⟨fun pins s σ H De I ⟨_, _, _, e, _⟩ => nomatch e⟩
    | none => exact ⟨fun pins s σ H De I ⟨D, e, z, _, q⟩ => by
        subst e
        exact (hsu D a oe pn z hz hv).run pins s σ H De I q⟩)).imp fun De σ H ⟨env, M, G, D0, S, q, L⟩ => by
    refine ⟨env, M, G, _, S, q, ⟨L.nx, L.rt, L.bk, L.ct, fun cls pl env' M' d σ' H' G' e1 S1 xr q1 => ?_⟩⟩
    obtain ⟨b, hb1, h1, h2⟩ := q1
    refine ⟨b, hb1, fun hb2 a ha => ?_, fun hb2 => L.ex cls pl env' M' d σ' H' G' e1 S1 xr (h2 hb2)⟩
    obtain ⟨D, hcls, hz, rfl, h3⟩ := h1 hb2
    obtain rfl : d = none := xr
    refine ⟨D, hcls, hz, rfl, _, M', G', _, S1.set (i := i) (x := .ref a) (v := .ref a) rfl, h3 a (S1.wf.freeM ha), ⟨?_, L.rt.mono e1, ?_, ?_, fun _ _ _ _ _ _ _ _ _ _ _ z => z.elim⟩⟩
    · exact fun env2 M2 σ2 H2 G2 e2 S2 q2 => L.nx _ M2 _ H2 G2 (e1.trans e2) (S2.unset i) q2
    · exact fun env2 M2 σ2 H2 G2 e2 S2 q2 => L.bk _ M2 _ H2 G2 (e1.trans e2) (S2.unset i) q2
    · exact fun env2 M2 σ2 H2 G2 e2 S2 q2 => L.ct _ M2 _ H2 G2 (e1.trans e2) (S2.unset i) q2
/-- isinstance(e, c), e the error without a field that the suite holds -/
def cIsN (K : PySem.W.Frag) (D a : Addr) : FC := fun xs M Q => ∃ c u b, xs = [.ref a, c] ∧ clsP c = some u ∧ PySem.W.kitOne K (.ref D) u = some b ∧ Q (.bl b) M
theorem cq_isN {a D : Addr} {oe : Obj} {pn : List (Addr × Obj)} (Z : ExcC X.K D) (hz : L2N.Zn (.ref D) none oe) (hf : ∃ vs, oe.data = .fields vs) : CallQ (X.suite a ((a, oe) :: pn)) (.builtin "isinstance") (cIsN X.K D a) := by
  intro pins s σ H vs us Q I r ⟨xs, M, G, Q0, rx, w, q, L⟩
  obtain ⟨c, k, b, rfl, h3, h4, q⟩ := q
  obtain ⟨v, u, rfl, r1, r2⟩ := reps2 rx
  obtain rfl : v = V.ref a := r1
  cases r with
  | cons rv rr => cases rr with
    | cons ru rr =>
      cases rr
      cases rv
      have hk : ∀ x, RelV u x → x = k := fun x hx => by
        cases c with
        | ty n => cases h3; cases r2; exact hx
        | ref C => cases h3; cases r2; exact hx
        | _ => cases h3
      have ec := hk _ ru
      subst ec
      obtain ⟨hget, _⟩ := I.pin (a, oe) (List.mem_append.mpr (.inl List.mem_cons_self))
      obtain ⟨vs, hv⟩ := hf
      have J : PySem.W.InstAt s.heap a oe D none := ⟨hget, hz.1, by unfold PySem.W.notCls; rw [hv] <;> rfl, by rw [hz.2.1] <;> trivial⟩
      have hcl : (PySem.W.clsIn X.K D).isSome = true := by
        have h := Z.hd
        unfold PySem.W.hasDictIn at h
        cases e : PySem.W.clsIn X.K D with
        | none => rw [e] at h; cases h
        | some cd => rfl
      exact PySem.W.kia_one (PySem.W.kitx_exc hcl Z.hg Z.hk Z.hs Z.ha Z.hn Z.ht Z.hm) I.kIn J h4 (fun z => nomatch z) fun tk => ⟨.bl b, H, I.kept (t' := tk) fun _ _ z => z, rfl, L (.bl b) M _ H G (Ext.refl G) w rfl q⟩
/-! ### comprehensions whose elements may raise -/
def lcQX (items : List PV) (slots : PV → Sl) (te : QT) (M1 : Mem) (Q : PK) (E : EK) : Prop := items.length ≤ 100000 ∧ ∃ r : PV → Option PV,
  (∀ x ∈ items, ∀ M2, MExt M1 M2 → te (slots x) M2 (fun y M3 => M3 = M2 ∧ r x = some y) (fun c pl M3 => M3 = M2 ∧ E c pl M1)) ∧ ((∀ x ∈ items, (r x).isSome = true) → Q (.lst (items.filterMap r)) M1)
def qLcLX (j : Nat) (vs : List Nat) (tl : QT) (te : QT) : QT := fun env M Q E => tl env M (fun x M1 => match sqA M1 x with
  | some items => lcQX items (fun y => (wipeQ env vs).set j (some y)) te M1 Q E
  | none => False) E
/-- what stands at D is spoken of no more -/
theorem Wf.drop {K : PySem.W.Frag} {M : Mem} {H G : Hp} {D : Addr} {o : MO} (w : Wf K (mset M D o) H G) (hn : M D = none) : Wf K M H G := ⟨w.sub, fun a m e => w.mem a m (by rw [mset_ne (by rintro rfl; rw [hn] at e; cases e)]; exact e), w.ntb⟩
theorem ExR.mono {K : PySem.W.Frag} {G G' : Hp} {d : Option Addr} {pl : Option PV} (e : Ext G G') (h : ExR K G d pl) : ExR K G' d pl := by
  cases pl with
  | none => exact h
  | some x =>
    obtain ⟨dd, v, h1, h2, h3⟩ := h
    exact ⟨dd, v, h1, e _ _ h2, Rep.mono e _ _ h3⟩
theorem lcLX_imp {W : WX} {own : List Nat} {j : Nat} {tl : QT} {te : QT} {σ : L2.St} {H : Hp} {Q : VK} (hW : ∀ c d σ τ H, W c d σ H → W c d τ H) (hj : j ∈ own) (h : tie X.K W (qLcLX j own tl te) σ H Q) : tLc (iList X.K (tie X.K W tl)) (gName j) (tieB X.K W0 qYes) (tie X.K W te) own σ H Q := by
    obtain ⟨env, M, G, Q0, E0, S, q, L, LE⟩ := h
    refine ⟨env, M, G, _, E0, S, q, fun y M1 v H1 G1 e1 w1 r1 q1 => ?_, LE⟩
    dsimp only at q1
    cases hs : sqA M1 y with
    | none => rw [hs] at q1; exact q1.elim
    | some items =>
      rw [hs] at q1
      obtain ⟨hn, r, hr, q1⟩ := q1
      obtain ⟨p, vs, rfl, h1, rs⟩ := sqA_H hs r1 w1
      refine ⟨p, rfl, ⟨_, h1⟩, fun D hD => ?_⟩
      have hM := w1.freeM hD
      have src : ∀ {H' G' : Hp} {acc : List PV}, Ext G1 G' → Wf X.K (mset M1 D (.lst acc)) H' G' → ∃ ws, SqL X.K H' p ws ∧ Reps X.K G' items ws := fun {H' G' acc} e w => by
        have hs2 : sqA (mset M1 D (.lst acc)) y = some items := by
          cases y with
          | ref a =>
            have ha : M1 a = some (.lst items) := ml_some (show ml (M1 a) = some items from hs)
            show ml (mset M1 D (.lst acc) a) = some items
            rw [mset_ne (by rintro rfl; rw [hM] at ha; cases ha)]
            exact hs
          | _ => exact hs
        obtain ⟨p', ws, ep, h2, r2⟩ := sqA_H hs2 (Rep.mono e _ _ r1) w
        cases ep
        exact ⟨ws, h2, r2⟩
      refine ⟨fun i m H => m = items.length - i ∧ i ≤ items.length ∧ lcP X.K G1 M1 D items r i H ∧ ∀ x ∈ items.take i, (r x).isSome = true, ⟨items.length, by omega, Nat.zero_le _, ⟨G1, Ext.refl _, w1.put (w1.free hD) (mok_lst Reps.nil)⟩, fun x hx => by simp at hx⟩, fun i m H ⟨hm, hi, hp, hall⟩ => ?_⟩
      obtain ⟨G', e', w'⟩ := _root_.id hp
      obtain ⟨ws, h2, r2⟩ := src e' w'
      by_cases hz : i = items.length
      · subst hz
        rw [List.take_length] at hall
        exact .inl ⟨⟨ws, h2, by rw [r2.length]; exact Nat.le_refl _⟩, lc_end (L.mono e1) hM hp (q1 hall)⟩
      · have hlt : i < items.length := by omega
        have hx := List.getElem?_eq_getElem hlt
        obtain ⟨v, hv, rv⟩ := r2.get hx
        refine .inr ⟨⟨ws, v, h2, hv⟩, fun H => lcP X.K G1 M1 D items r (i + 1) H ∧ (r items[i]).isSome = true, fun H' h => ⟨m - 1, by omega, by omega, by omega, h.1, ?_⟩, fun z H' hy => ?_⟩
        · intro x hx'
          rw [List.take_add_one, hx, List.mem_append] at hx'
          rcases hx' with hx' | hx'
          · exact hall x hx'
          · have : x = items[i] := by simpa using hx'
            rw [this]; exact h.2
        · obtain ⟨rfl, hy⟩ := hy
          have ez := hy ws h2
          rw [hv] at ez
          cases ez
          refine ⟨wipe_set hj, ?_⟩
          have S2 : Sim X.K ((wipeQ env own).set j (some items[i])) _ G' ((L2.wipe σ own).set j (some v)) H' := ⟨((S.env.mono (e1.trans e')).wipe _).set rv, w'⟩
          have mx : MExt M1 (mset M1 D (.lst ((items.take i).filterMap r))) := fun a o e => by rw [mset_ne (by rintro rfl; rw [hM] at e; cases e)]; exact e
          have q2 := hr _ (List.getElem_mem hlt) _ mx
          refine ⟨_, _, G', fun b M => b = true ∧ M = mset M1 D (.lst ((items.take i).filterMap r)), EF, S2, ⟨rfl, rfl⟩, fun b M4 H3 G3 e3 w3 q3 => ?_, EF_lift⟩
          obtain ⟨rfl, rfl⟩ := q3
          rw [if_pos rfl]
          refine ⟨_, _, G3, _, _, S2.to e3 w3, q2, fun y M5 v H4 G4 e4 w4 ry q4 => ?_, fun c pl M5 d H4 G4 e4 w4 rx q4 => ?_⟩
          · obtain ⟨rfl, q4⟩ := q4
            obtain ⟨g0, acc, h1, r1⟩ := w4.mem D _ mset_same
            refine ⟨acc, h1, ?_, ⟨G4, (e'.trans e3).trans e4, ?_⟩, by rw [q4]; rfl⟩
            · rw [← r1.length, sizeLine_eq]
              have h1 := List.length_filterMap_le r (items.take i)
              have h2 := List.length_take_le i items
              have h3 := List.length_take_le' i items
              omega
            · have w5 := w4.put (p := D) (o := .lst (acc ++ [v])) (m := .lst ((items.take i).filterMap r ++ [y])) g0 (mok_lst (r1.append (Reps.one ry)))
              rw [mset_mset] at w5
              rw [take_next hx, q4]
              exact w5
          · obtain ⟨rfl, q4⟩ := q4
            exact hW _ _ _ _ _ (LE c pl M1 d H4 G4 (((e1.trans e').trans e3).trans e4) (w4.drop hM) rx q4)
theorem qe_lcLX {W : WX} {pos : Pos} {elt iter : Expr} {x : Str} {px : Pos} {scope : Scope} {own : List (Str × Nat)} {j : Nat} {tl : QT} {te : QT} (hW : ∀ c d σ τ H, W c d σ H → W c d τ H) (hs : X.stack = X.env :: X.outer) (hf : X.env.frame = some X.env.locals) (hc : TC.CoolX X) (tk : L2N.Takes X W) (hN : X.N.Nodup) (hl : QE X W iter tl) (hj : j ∈ own.map (·.2))
    (ok : BlkOk X.N X.env.scope scope own) (hg : ∀ (s : Shared) (H : Hp) (C : Addr) (cl : List (Str × Addr)) (fp : List Addr) (xe : Value → Shared → Prop), PG (TC.blkX X s H scope (compEnvC scope cl C X.env) fp xe) (.Name x px) (gName j))
    (he : ∀ (s : Shared) (H : Hp) (C : Addr) (cl : List (Str × Addr)) (fp : List Addr) (xe : Value → Shared → Prop), L2N.Takes (TC.blkX X s H scope (compEnvC scope cl C X.env) fp xe) W → QE (TC.blkX X s H scope (compEnvC scope cl C X.env) fp xe) W elt te) (hfs : ∀ v, foldedSetIterable iter X.env v = pure v := by intro _; rfl) :
    QE X W (.ListComp elt [{ target := .Name x px, iter := iter, ifs := [], is_async := 0 }] scope pos) (qLcLX j (own.map (·.2)) tl te) :=
  (TC.pe_lcX (C := TC.CoolX) (Wb := W) (tt := tieB X.K W0 qYes) (te := tie X.K W te) hc hN (TC.pic_list hl) ok hg (fun s H c cl fp xe _ => qts_nil) (fun s H c cl fp xe tk => he s H c cl fp xe tk) (fun _ _ σ _ _ _ => TC.blkTk_of hs hf tk fun c d τ K q => hW _ _ _ _ _ q) hfs).imp fun σ H Q h => lcLX_imp hW hj h
end
end TQ

/-! comprehensions over lists of tuples, and over zip of two lists, the target a tuple of names -/
namespace TQ
open PySem PySem.Spec PyProof.Rows L2
def gNs : List Nat → TGs
  | [] => gNil
  | j :: js => gCons (gName j) (gNs js)
def setV (σ : L2.St) : List Nat → List V → L2.St
  | j :: js, x :: xs => setV (σ.set j (some x)) js xs
  | _, _ => σ
def setP (env : Sl) : List Nat → List PV → Sl
  | j :: js, x :: xs => setP (env.set j (some x)) js xs
  | _, _ => env
theorem gNs_run : ∀ {js : List Nat} {vs : List V} {σ : L2.St} {H : Hp} {Q : L2.St → Hp → Prop}, vs.length = js.length → Q (setV σ js vs) H → gNs js vs σ H Q
  | [], [], σ, H, Q, _, q => ⟨rfl, q⟩
  | j :: js, v :: vs, σ, H, Q, h, q => ⟨v, vs, rfl, gNs_run (by simpa using h) q⟩
theorem setV_length : ∀ (js : List Nat) (vs : List V) (σ : L2.St), (setV σ js vs).length = σ.length
  | [], _, _ => rfl
  | _ :: _, [], _ => rfl
  | j :: js, v :: vs, σ => by show (setV (σ.set j (some v)) js vs).length = _; rw [setV_length, List.length_set]
theorem wipe_wipe (σ : L2.St) (vs : List Nat) : wipe (wipe σ vs) vs = wipe σ vs := by
  apply List.ext_getElem?
  intro i
  rw [wipeV_get, wipeV_get]
  by_cases hi : i ∈ vs
  · rw [if_pos hi, if_pos hi]
    cases σ[i]? <;> rfl
  · rw [if_neg hi, if_neg hi]
theorem wipe_any {σ : L2.St} {vs : List Nat} {j : Nat} {x : Option V} (h : j ∈ vs) : wipe (σ.set j x) vs = wipe σ vs := by
  apply List.ext_getElem?
  intro i
  rw [wipeV_get, wipeV_get]
  by_cases hi : i ∈ vs
  · rw [if_pos hi, if_pos hi, List.getElem?_set]
    by_cases e : j = i
    · subst e
      rw [if_pos rfl]
      by_cases hl : j < σ.length
      · rw [if_pos hl, List.getElem?_eq_getElem hl]; rfl
      · rw [if_neg hl, List.getElem?_eq_none (by omega)]
    · rw [if_neg e]
  · rw [if_neg hi, if_neg hi, List.getElem?_set_ne (fun e => hi (by rw [← e]; exact h))]
theorem wipe_setV {vs : List Nat} : ∀ {js : List Nat} {xs : List V} {σ : L2.St}, (∀ j ∈ js, j ∈ vs) → wipe (setV σ js xs) vs = wipe σ vs
  | [], _, _, _ => rfl
  | _ :: _, [], _, _ => rfl
  | j :: js, x :: xs, σ, h => by
    show wipe (setV (σ.set j (some x)) js xs) vs = _
    rw [wipe_setV fun k hk => h k (List.mem_cons_of_mem _ hk), wipe_any (h j List.mem_cons_self)]
theorem EnvR.sets {K : PySem.W.Frag} {G : Hp} : ∀ {js : List Nat} {xs : List PV} {vs : List V} {env : Sl} {σ : L2.St}, EnvR K G env σ → Reps K G xs vs → EnvR K G (setP env js xs) (setV σ js vs)
  | [], _, _, _, _, h, _ => h
  | _ :: _, [], _, _, _, h, r => by cases r; exact h
  | j :: js, x :: xs, _, env, σ, h, r => by
    obtain ⟨v, ws, rfl, r1, r2⟩ := r
    exact EnvR.sets (js := js) (h.set (i := j) r1) r2
/-- a tuple's items in the slots js -/
def tupS (js : List Nat) (env : Sl) : PV → Option Sl
  | .tup xs => if xs.length = js.length then some (setP env js xs) else none
  | _ => none
theorem tupS_tup {js : List Nat} {env : Sl} {xs : List PV} : tupS js env (.tup xs) = if xs.length = js.length then some (setP env js xs) else none := rfl
def qLcLT (js : List Nat) (vs : List Nat) (tl : QT) (tt : QB) (te : QT) : QT := fun env M Q E => tl env M (fun x M1 => match sqA M1 x with
  | some items => lcQ items (tupS js (wipeQ env vs)) tt te M1 Q
  | none => False) E
/-- pairs -/
def zipT : List PV → List PV → List PV
  | x :: xs, y :: ys => .tup [x, y] :: zipT xs ys
  | _, _ => []
theorem zipT_length : ∀ {xs ys : List PV}, xs.length = ys.length → (zipT xs ys).length = xs.length
  | [], [], _ => rfl
  | x :: xs, y :: ys, h => by show (zipT xs ys).length + 1 = _; rw [zipT_length (by simpa using h)]; rfl
theorem zipT_get : ∀ {xs ys : List PV} {i : Nat} {x y : PV}, xs[i]? = some x → ys[i]? = some y → (zipT xs ys)[i]? = some (.tup [x, y])
  | [], _, i, _, _, h, _ => by simp at h
  | _ :: _, [], i, _, _, _, h => by simp at h
  | x :: xs, y :: ys, 0, _, _, h, k => by cases h; cases k; rfl
  | x :: xs, y :: ys, i + 1, _, _, h, k => zipT_get (xs := xs) (ys := ys) (i := i) (by simpa using h) (by simpa using k)
def qLcZ (j1 j2 : Nat) (vs : List Nat) (ta : QA) (tt : QB) (te : QT) : QT := fun env M Q E => ta env M (fun zs M1 => ∃ x y xs ys, zs = [x, y] ∧ sqA M1 x = some xs ∧ sqA M1 y = some ys ∧ xs.length = ys.length ∧ lcQ (zipT xs ys) (tupS [j1, j2] (wipeQ env vs)) tt te M1 Q) E
section
variable {X : Cx} {W : WX} {pos : Pos}
/-- a list's items as they stand, the accumulator laid beside it -/
theorem sqA_beside {M1 : Mem} {D : Addr} {y : PV} {items acc : List PV} (hs : sqA M1 y = some items) (hM : M1 D = none) : sqA (mset M1 D (.lst acc)) y = some items := by
  cases y with
  | ref a =>
    have ha : M1 a = some (.lst items) := ml_some (show ml (M1 a) = some items from hs)
    show ml (mset M1 D (.lst acc) a) = some items
    rw [mset_ne (by rintro rfl; rw [hM] at ha; cases ha)]
    exact hs
  | _ => exact hs
theorem lcLT_imp {own js : List Nat} {tl : QT} {tt : QB} {te : QT} {σ : L2.St} {H : Hp} {Q : VK} (hj : ∀ j ∈ js, j ∈ own) (h : tie X.K W (qLcLT js own tl tt te) σ H Q) : tLc (iList X.K (tie X.K W tl)) (gTup X.K js.length (gNs js)) (tieB X.K W0 tt) (tie X.K W0 te) own σ H Q := by
  obtain ⟨env, M, G, Q0, E0, S, q, L, LE⟩ := h
  refine ⟨env, M, G, _, E0, S, q, fun y M1 v H1 G1 e1 w1 r1 q1 => ?_, LE⟩
  dsimp only at q1
  cases hs : sqA M1 y with
  | none => rw [hs] at q1; exact q1.elim
  | some items =>
    rw [hs] at q1
    obtain ⟨hn, r, hr, q1⟩ := q1
    obtain ⟨p, vs, rfl, h1, rs⟩ := sqA_H hs r1 w1
    refine ⟨p, rfl, ⟨_, h1⟩, fun D hD => ?_⟩
    have hM := w1.freeM hD
    have src : ∀ {H' G' : Hp} {acc : List PV}, Ext G1 G' → Wf X.K (mset M1 D (.lst acc)) H' G' → ∃ ws, SqL X.K H' p ws ∧ Reps X.K G' items ws := fun {H' G' acc} e w => by
      obtain ⟨p', ws, ep, h2, r2⟩ := sqA_H (sqA_beside hs hM) (Rep.mono e _ _ r1) w
      cases ep
      exact ⟨ws, h2, r2⟩
    refine ⟨fun i m H => m = items.length - i ∧ i ≤ items.length ∧ lcP X.K G1 M1 D items r i H, ⟨items.length, by omega, Nat.zero_le _, G1, Ext.refl _, w1.put (w1.free hD) (mok_lst Reps.nil)⟩, fun i m H ⟨hm, hi, hp⟩ => ?_⟩
    obtain ⟨G', e', w'⟩ := _root_.id hp
    obtain ⟨ws, h2, r2⟩ := src e' w'
    by_cases hz : i = items.length
    · subst hz
      exact .inl ⟨⟨ws, h2, by rw [r2.length]; exact Nat.le_refl _⟩, lc_end (L.mono e1) hM hp q1⟩
    · have hlt : i < items.length := by omega
      have hx := List.getElem?_eq_getElem hlt
      obtain ⟨v, hv, rv⟩ := r2.get hx
      refine .inr ⟨⟨ws, v, h2, hv⟩, lcP X.K G1 M1 D items r (i + 1), fun H' h => ⟨m - 1, by omega, by omega, by omega, h⟩, fun z H' hy => ?_⟩
      obtain ⟨rfl, hy⟩ := hy
      have ez := hy ws h2
      rw [hv] at ez
      cases ez
      have mx : MExt M1 (mset M1 D (.lst ((items.take i).filterMap r))) := fun a o e => by rw [mset_ne (by rintro rfl; rw [hM] at e; cases e)]; exact e
      obtain ⟨env2, ee, _⟩ := hr _ (List.getElem_mem hlt) _ mx
      generalize hit : items[i] = it at *
      cases it with
      | tup xs =>
        have hl : xs.length = js.length := by
          rw [tupS_tup] at ee
          split at ee
          · assumption
          · cases ee
        obtain ⟨a, us, rfl, h3, r3⟩ := rv
        refine ⟨a, us, rfl, ext_t w'.sub h3, by rw [← r3.length]; exact hl, gNs_run (by rw [← r3.length]; exact hl) ⟨by rw [wipe_setV hj, wipe_wipe], ?_⟩⟩
        have S2 : Sim X.K (setP (wipeQ env own) js xs) _ G' (setV (L2.wipe σ own) js us) H' := ⟨EnvR.sets ((S.env.mono (e1.trans e')).wipe _) r3, w'⟩
        refine lc_turnQ hn hx e' hM S2 (fun M2 hM2 => ?_) (fun H' h => h)
        obtain ⟨env3, e3, q2⟩ := hr (.tup xs) (List.mem_of_getElem? hx) M2 hM2
        rw [tupS_tup, if_pos hl] at e3
        cases e3
        exact q2
      | _ => cases ee
theorem lcZ_imp {own : List Nat} {j1 j2 : Nat} {ta : QA} {tt : QB} {te : QT} {σ : L2.St} {H : Hp} {Q : VK} (h1 : j1 ∈ own) (h2 : j2 ∈ own) (h : tie X.K W (qLcZ j1 j2 own ta tt te) σ H Q) : tLc (iZip X.K (tieA X.K W ta)) (gTup X.K 2 (gNs [j1, j2])) (tieB X.K W0 tt) (tie X.K W0 te) own σ H Q := by
  obtain ⟨env, M, G, Q0, E0, S, q, L, LE⟩ := h
  refine ⟨env, M, G, _, E0, S, q, fun zs M1 vs H1 G1 e1 w1 r1 q1 => ?_, LE⟩
  obtain ⟨x, y, xs, ys, rfl, s1, s2, hl, hn, r, hr, q1⟩ := q1
  obtain ⟨u, v, rfl, ru, rv⟩ := reps2 r1
  obtain ⟨p, us, rfl, l1, ra⟩ := sqA_H s1 ru w1
  obtain ⟨p2, ws, rfl, l2, rb⟩ := sqA_H s2 rv w1
  refine ⟨p, p2, us, ws, rfl, l1, l2, fun D hD => ?_⟩
  have hM := w1.freeM hD
  have hzl := zipT_length hl
  have src : ∀ {z : PV} {zs : List PV} {a : Addr} {H' G' : Hp} {acc : List PV}, sqA M1 z = some zs → Rep X.K G1 z (.ref a) → Ext G1 G' → Wf X.K (mset M1 D (.lst acc)) H' G' → ∃ ws, SqL X.K H' a ws ∧ Reps X.K G' zs ws := fun {z zs a H' G' acc} hs rz e w => by
    obtain ⟨p', ws, ep, h2, r2⟩ := sqA_H (sqA_beside hs hM) (Rep.mono e _ _ rz) w
    cases ep
    exact ⟨ws, h2, r2⟩
  refine ⟨fun i m H => m = xs.length - i ∧ i ≤ xs.length ∧ lcP X.K G1 M1 D (zipT xs ys) r i H, ⟨xs.length, by omega, Nat.zero_le _, G1, Ext.refl _, w1.put (w1.free hD) (mok_lst Reps.nil)⟩, fun i m H ⟨hm, hi, hp⟩ => ?_⟩
  obtain ⟨G', e', w'⟩ := _root_.id hp
  obtain ⟨wa, h3, r3⟩ := src s1 ru e' w'
  obtain ⟨wb, h4, r4⟩ := src s2 rv e' w'
  by_cases hz : i = xs.length
  · subst hz
    exact .inl ⟨⟨wa, wb, h3, h4, .inl (by rw [r3.length]; exact Nat.le_refl _)⟩, lc_end (L.mono e1) hM (by rw [hzl]; exact hp) q1⟩
  · have hlt : i < xs.length := by omega
    have hx := List.getElem?_eq_getElem hlt
    have hy := List.getElem?_eq_getElem (show i < ys.length by omega)
    obtain ⟨v1, hv1, rv1⟩ := r3.get hx
    obtain ⟨v2, hv2, rv2⟩ := r4.get hy
    refine .inr ⟨⟨wa, wb, v1, v2, h3, h4, hv1, hv2⟩, lcP X.K G1 M1 D (zipT xs ys) r (i + 1), fun H' h => ⟨m - 1, by omega, by omega, by omega, h⟩, fun z H' hy2 => ?_⟩
    obtain ⟨T, x0, y0, rfl, hT, rfl, f1, f2⟩ := hy2
    have ea := f1 wa h3
    have eb := f2 wb h4
    rw [hv1] at ea
    rw [hv2] at eb
    cases ea
    cases eb
    have hG := w'.free hT
    have w2 := w'.newG (o := HO.tup [v1, v2]) hT
    have e2 : Ext G1 (upd G' T (.tup [v1, v2])) := e'.trans (Ext.new hG)
    have r5 : Reps X.K (upd G' T (.tup [v1, v2])) [xs[i], ys[i]] [v1, v2] := Reps.cons (Rep.mono (Ext.new hG) _ _ rv1) (Reps.one (Rep.mono (Ext.new hG) _ _ rv2))
    refine ⟨T, [v1, v2], rfl, SqT.of upd_same, rfl, gNs_run rfl ⟨by rw [wipe_setV (fun j hj => by
      rcases List.mem_cons.mp hj with e | hj
      · rw [e]; exact h1
      · rcases List.mem_cons.mp hj with e | hj
        · rw [e]; exact h2
        · cases hj), wipe_wipe], ?_⟩⟩
    have S2 : Sim X.K (setP (wipeQ env own) [j1, j2] [xs[i], ys[i]]) _ (upd G' T (.tup [v1, v2])) (setV (L2.wipe σ own) [j1, j2] [v1, v2]) (upd H T (.tup [v1, v2])) := ⟨EnvR.sets ((S.env.mono (e1.trans e2)).wipe _) r5, w2⟩
    have hzi := zipT_get hx hy
    refine lc_turnQ hn hzi e2 hM S2 (fun M2 hM2 => ?_) (fun H' h => h)
    obtain ⟨env3, e3, q2⟩ := hr _ (List.mem_of_getElem? hzi) M2 hM2
    cases e3
    exact q2
/-- elements that write, the target a tuple -/
def qLcLTW (js : List Nat) (vs : List Nat) (tl : QT) (te : QT) : QT := fun env M Q E => tl env M (fun x M1 => ∃ items, x = .lst items ∧ (∀ x ∈ items, ∃ xs, x = .tup xs ∧ xs.length = js.length) ∧ lcWQ items (fun y => (tupS js (wipeQ env vs) y).getD []) te M1 Q) E
theorem lcLTW_imp {own js : List Nat} {tl : QT} {te : QT} {σ : L2.St} {H : Hp} {Q : VK} (hj : ∀ j ∈ js, j ∈ own) (h : tie X.K W (qLcLTW js own tl te) σ H Q) : tLc (iList X.K (tie X.K W tl)) (gTup X.K js.length (gNs js)) (tieB X.K W0 qYes) (tie X.K W0 te) own σ H Q := by
  obtain ⟨env, M, G, Q0, E0, S, q, L, LE⟩ := h
  refine ⟨env, M, G, _, E0, S, q, fun y M1 v H1 G1 e1 w1 r1 q1 => ?_, LE⟩
  obtain ⟨items, rfl, htup, hn, I, i0, hI, hE⟩ := q1
  obtain ⟨p, vs, rfl, h1, rs⟩ := r1
  refine ⟨p, rfl, ⟨_, SqL.of (w1.sub _ _ h1)⟩, fun D hD => ?_⟩
  have hM := w1.freeM hD
  refine ⟨fun i m H => m = items.length - i ∧ i ≤ items.length ∧ ∃ G' M2 acc, Ext G1 G' ∧ Wf X.K (mset M2 D (.lst acc)) H G' ∧ M2 D = none ∧ acc.length = i ∧ I i acc M2, ⟨items.length, by omega, Nat.zero_le _, G1, M1, [], Ext.refl _, w1.put (w1.free hD) (mok_lst Reps.nil), hM, rfl, i0⟩, fun i m H ⟨hm, hi, G', M2, acc, e', w', hM2, hl, i1⟩ => ?_⟩
  have hT := SqL.of (K := X.K) (w'.sub _ _ (e' _ _ h1))
  by_cases hz : i = items.length
  · subst hz
    obtain ⟨ws, h2, r2, g0, w2⟩ := w'.freeze hM2
    exact .inl ⟨⟨vs, hT, by rw [rs.length]; exact Nat.le_refl _⟩, (L.mono e1) (.lst acc) M2 _ H _ (e'.trans (Ext.new g0)) w2 ⟨D, ws, rfl, upd_same, Reps.mono (Ext.new g0) _ _ r2⟩ (hE acc M2 hl i1)⟩
  · have hlt : i < items.length := by omega
    have hx := List.getElem?_eq_getElem hlt
    obtain ⟨v, hv, rv⟩ := rs.get hx
    refine .inr ⟨⟨vs, v, hT, hv⟩, fun H => ∃ G' M2 acc, Ext G1 G' ∧ Wf X.K (mset M2 D (.lst acc)) H G' ∧ M2 D = none ∧ acc.length = i + 1 ∧ I (i + 1) acc M2, fun H' h => ⟨m - 1, by omega, by omega, by omega, h⟩, fun z H' hy => ?_⟩
    obtain ⟨rfl, hy⟩ := hy
    have ez := hy vs hT
    rw [hv] at ez
    cases ez
    obtain ⟨xs, ex, hxl⟩ := htup _ (List.getElem_mem hlt)
    have hI1 := hI i _ acc M2 D hx hl i1 hM2
    rw [ex] at rv hI1
    obtain ⟨a, us, rfl, h3, r3⟩ := rv
    refine ⟨a, us, rfl, ext_t w'.sub (ext_t e' h3), by rw [← r3.length]; exact hxl, gNs_run (by rw [← r3.length]; exact hxl) ⟨by rw [wipe_setV hj, wipe_wipe], ?_⟩⟩
    have S2 : Sim X.K (setP (wipeQ env own) js xs) _ G' (setV (L2.wipe σ own) js us) H' := ⟨EnvR.sets ((S.env.mono (e1.trans e')).wipe _) (Reps.mono e' _ _ r3), w'⟩
    have es : (tupS js (wipeQ env own) (.tup xs)).getD [] = setP (wipeQ env own) js xs := by rw [tupS_tup, if_pos hxl]; rfl
    dsimp only at hI1
    rw [es] at hI1
    refine ⟨_, _, G', fun b M4 => b = true ∧ M4 = mset M2 D (.lst acc), EF, S2, ⟨rfl, rfl⟩, fun b M4 H3 G3 e3 w3 q3 => ?_, EF_lift⟩
    obtain ⟨rfl, rfl⟩ := q3
    rw [if_pos rfl]
    refine ⟨_, _, G3, _, EF, S2.to e3 w3, hI1, fun y M5 v H4 G4 e4 w4 ry q4 => ?_, EF_lift⟩
    obtain ⟨M6, rfl, hM6, q4⟩ := q4
    obtain ⟨g0, ws, h5, r5⟩ := w4.mem D _ mset_same
    have w5 := w4.put (p := D) (o := .lst (ws ++ [v])) (m := .lst (acc ++ [y])) g0 (mok_lst (r5.append (Reps.one ry)))
    rw [mset_mset] at w5
    refine ⟨ws, h5, by rw [← r5.length, sizeLine_eq]; omega, G4, M6, acc ++ [y], (e'.trans e3).trans e4, w5, hM6, by rw [List.length_append, hl]; rfl, q4⟩
theorem qe_lcLT {elt iter : Expr} {es : List Expr} {kt : Nat} {pt : Pos} {ifs : List Expr} {scope : Scope} {own : List (Str × Nat)} (js : List Nat) {tl : QT} {tt : QB} {te : QT} (hc : TC.CoolX X) (hN : X.N.Nodup) (hl : QE X W iter tl) (hj : ∀ j ∈ js, j ∈ own.map (·.2))
    (ok : BlkOk X.N X.env.scope scope own) (hg : TC.BlkPG X scope (.Tuple es kt pt) (gTup X.K js.length (gNs js)))
    (ht : ∀ (s : Shared) (H : Hp) (C : Addr) (cl : List (Str × Addr)) (fp : List Addr) (xe : Value → Shared → Prop), QPTs (TC.blkX X s H scope (compEnvC scope cl C X.env) fp xe) ifs tt)
    (he : ∀ (s : Shared) (H : Hp) (C : Addr) (cl : List (Str × Addr)) (fp : List Addr) (xe : Value → Shared → Prop), QE (TC.blkX X s H scope (compEnvC scope cl C X.env) fp xe) W0 elt te) (hfs : ∀ v, foldedSetIterable iter X.env v = pure v := by intro _; rfl) :
    QE X W (.ListComp elt [{ target := .Tuple es kt pt, iter := iter, ifs := ifs, is_async := 0 }] scope pos) (qLcLT js (own.map (·.2)) tl tt te) :=
  (TC.pe_lcX (C := TC.CoolX) (Wb := W0) (tt := tieB X.K W0 tt) (te := tie X.K W0 te) hc hN (TC.pic_list hl) ok hg (fun s H c cl fp xe _ => ht s H c cl fp xe) (fun s H c cl fp xe _ => he s H c cl fp xe) (fun _ _ _ _ _ _ => TC.blkTk_none) hfs).imp fun σ H Q h => lcLT_imp hj h
theorem qe_lcZ {elt a c : Expr} {es : List Expr} {kt : Nat} {pt p pos' : Pos} {ifs : List Expr} {scope : Scope} {own : List (Str × Nat)} (j1 j2 : Nat) {ta : QA} {tt : QB} {te : QT} (hc : X.calm = true) (hN : X.N.Nodup) (hm : X.mg "zip" = none) (hl : QPA X W [a, c] ta) (h1 : j1 ∈ own.map (·.2)) (h2 : j2 ∈ own.map (·.2))
    (ok : BlkOk X.N X.env.scope scope own) (hg : TC.BlkPG X scope (.Tuple es kt pt) (gTup X.K 2 (gNs [j1, j2])))
    (ht : ∀ (s : Shared) (H : Hp) (C : Addr) (cl : List (Str × Addr)) (fp : List Addr) (xe : Value → Shared → Prop), QPTs (TC.blkX X s H scope (compEnvC scope cl C X.env) fp xe) ifs tt)
    (he : ∀ (s : Shared) (H : Hp) (C : Addr) (cl : List (Str × Addr)) (fp : List Addr) (xe : Value → Shared → Prop), QE (TC.blkX X s H scope (compEnvC scope cl C X.env) fp xe) W0 elt te) (hgz : Gl X "zip" := by rfl)
    (hs : starEach [a, c] X.env = (false, eval a X.env) :: starEach [c] X.env := by rfl) (hpl : (backTo pos' (starEach [c] X.env)).any (·.1) = false := by rfl) (hfs : ∀ v, foldedSetIterable (.Call (.Name "zip" p) [a, c] [] pos') X.env v = pure v := by intro _; rfl) :
    QE X W (.ListComp elt [{ target := .Tuple es kt pt, iter := .Call (.Name "zip" p) [a, c] [] pos', ifs := ifs, is_async := 0 }] scope pos) (qLcZ j1 j2 (own.map (·.2)) ta tt te) :=
  (TC.pe_lcX (C := TC.Calm) (Wb := W0) (tt := tieB X.K W0 tt) (te := tie X.K W0 te) hc hN (TC.pic_of (pi_zip hgz hm hl hs hpl)) ok hg (fun s H c cl fp xe _ => ht s H c cl fp xe) (fun s H c cl fp xe _ => he s H c cl fp xe) (fun _ _ _ _ _ _ => TC.blkTk_none) hfs).imp fun σ H Q h => lcZ_imp h1 h2 h
theorem qs_lcLTW (i : Nat) {y : Str} {py spos : Pos} {elt iter : Expr} {es : List Expr} {kt : Nat} {pt : Pos} {scope : Scope} {own : List (Str × Nat)} (js : List Nat) {tl : QT} {te : QT} (hc : TC.CoolX X) (hN : X.N.Nodup) (hl : QE X W iter tl) (hj : ∀ j ∈ js, j ∈ own.map (·.2))
    (ok : BlkOk X.N X.env.scope scope own) (hg : TC.BlkPG X scope (.Tuple es kt pt) (gTup X.K js.length (gNs js)))
    (ht : ∀ (s : Shared) (H : Hp) (C : Addr) (cl : List (Str × Addr)) (fp : List Addr) (xe : Value → Shared → Prop), QPTs (TC.blkX X s H scope (compEnvC scope cl C X.env) fp xe) [] qYes)
    (he : ∀ (s : Shared) (H : Hp) (C : Addr) (cl : List (Str × Addr)) (fp : List Addr) (xe : Value → Shared → Prop), QE (TC.blkX X s H scope (compEnvC scope cl C X.env) fp xe) W0 elt te) (hfs : ∀ v, foldedSetIterable iter X.env v = pure v := by intro _; rfl) (hlo : X.env.scope.names.lookup y = some .local := by rfl) (hi : X.N[i]? = some y := by rfl)
    (hsw : swapsWith (.ListComp elt [{ target := .Tuple es kt pt, iter := iter, ifs := [], is_async := 0 }] scope pos) (some (.Name y py)) spos.line X.env = pure true := by exact sw_true rfl rfl rfl (by decide +kernel)) :
    QPS X W (.Assign [.Name y py] (.ListComp elt [{ target := .Tuple es kt pt, iter := iter, ifs := [], is_async := 0 }] scope pos) spos) (sAsg (qLcLTW js (own.map (·.2)) tl te) (gNm i)) :=
  (TC.ps_setLcX (C := TC.CoolX) (Wb := W0) (tt := tieB X.K W0 qYes) (te := tie X.K W0 te) hc hN hi hlo hsw (TC.pic_list hl) ok hg (fun s H c cl fp xe _ => ht s H c cl fp xe) (fun s H c cl fp xe _ => he s H c cl fp xe) (fun _ _ _ _ _ _ _ => TC.blkTk_none) hfs).imp fun D σ H h => lcLTW_imp hj (tieNm (tieAsg h) fun _ _ _ _ k z => tie_mono k z)
end
end TQ

/-! walking over caught errors and over comprehensions with tuple targets -/
namespace TN
open PySem PySem.Spec PyProof.Rows L2 TQ TM
section
variable {K : PySem.W.Frag} {x y : PV} {env : Sl} {M : Mem} {D : QEnds} {xs ys : List PV} {C a d : Addr}
def lcLT (o : Option (List PV)) (js vs : List Nat) (tt : QB) (te : QT) (env : Sl) (M1 : Mem) [Q : Box PK] : Prop := match o with
  | some items => lcQ items (tupS js (wipeQ env vs)) tt te M1 Q.v
  | none => False
theorem e_lcLT {js vs : List Nat} {tl : QT} {tt : QB} {te : QT} {Q : PK} {E : EK} : qLcLT js vs tl tt te env M Q E = tl env M (fun x M1 => @lcLT (sqA M1 x) js vs tt te env M1 ⟨Q⟩) E := rfl
theorem lcLT_of {js vs : List Nat} {tt : QB} {te : QT} {Q : Box PK} (r : PV → Option PV) (hn : xs.length ≤ 100000) (h : ∀ x ∈ xs, ∃ zs, x = .tup zs ∧ zs.length = js.length ∧ ∀ M2, MExt M M2 → lcEl tt te (setP (wipeQ env vs) js zs) M2 (r x)) (q : Q.v (.lst (xs.filterMap r)) M) : @lcLT (some xs) js vs tt te env M Q :=
  ⟨hn, r, fun x hx M2 hM => by
    obtain ⟨zs, rfl, hl, k⟩ := h x hx
    exact ⟨_, by rw [tupS_tup, if_pos hl], k M2 hM⟩, q⟩
def lcZ (zs : List PV) (j1 j2 : Nat) (vs : List Nat) (tt : QB) (te : QT) (env : Sl) (M1 : Mem) [Q : Box PK] : Prop := ∃ x y xs ys, zs = [x, y] ∧ sqA M1 x = some xs ∧ sqA M1 y = some ys ∧ xs.length = ys.length ∧ lcQ (zipT xs ys) (tupS [j1, j2] (wipeQ env vs)) tt te M1 Q.v
theorem e_lcZ {j1 j2 : Nat} {vs : List Nat} {ta : QA} {tt : QB} {te : QT} {Q : PK} {E : EK} : qLcZ j1 j2 vs ta tt te env M Q E = ta env M (fun zs M1 => @lcZ zs j1 j2 vs tt te env M1 ⟨Q⟩) E := rfl
theorem zipT_mem {x : PV} : ∀ {xs ys : List PV}, x ∈ zipT xs ys → ∃ (i : Nat) (u v : PV), xs[i]? = some u ∧ ys[i]? = some v ∧ x = .tup [u, v]
  | [], _, h => by simp [zipT] at h
  | _ :: _, [], h => by simp [zipT] at h
  | u :: xs, v :: ys, h => by
    rcases List.mem_cons.mp h with rfl | h
    · exact ⟨0, u, v, rfl, rfl, rfl⟩
    · obtain ⟨i, u', v', h1, h2, h3⟩ := zipT_mem h
      exact ⟨i + 1, u', v', h1, h2, h3⟩
theorem lcZ_of {j1 j2 : Nat} {vs : List Nat} {tt : QB} {te : QT} {Q : Box PK} (r : PV → Option PV) (hx : sqA M x = some xs) (hy : sqA M y = some ys) (hl : xs.length = ys.length) (hn : xs.length ≤ 100000)
    (h : ∀ (i : Nat) (u v : PV), xs[i]? = some u → ys[i]? = some v → ∀ M2, MExt M M2 → lcEl tt te (((wipeQ env vs).set j1 (some u)).set j2 (some v)) M2 (r (.tup [u, v]))) (q : Q.v (.lst ((zipT xs ys).filterMap r)) M) : @lcZ [x, y] j1 j2 vs tt te env M Q :=
  ⟨x, y, xs, ys, rfl, hx, hy, hl, by rw [zipT_length hl]; exact hn, r, fun z hz M2 hM => by
    obtain ⟨i, u, v, h1, h2, rfl⟩ := zipT_mem hz
    exact ⟨_, rfl, h i u v h1 h2 M2 hM⟩, q⟩
def lcTW (x : PV) (js vs : List Nat) (te : QT) (env : Sl) (M : Mem) [Q : Box PK] : Prop := ∃ items, x = .lst items ∧ (∀ x ∈ items, ∃ xs, x = .tup xs ∧ xs.length = js.length) ∧ lcWQ items (fun y => (tupS js (wipeQ env vs) y).getD []) te M Q.v
theorem e_lcLTW {js vs : List Nat} {tl te : QT} {Q : PK} {E : EK} : qLcLTW js vs tl te env M Q E = tl env M (fun x M1 => @lcTW x js vs te env M1 ⟨Q⟩) E := rfl
theorem lcTW_of {js vs : List Nat} {te : QT} {Q : Box PK} (hn : xs.length ≤ 100000) (ht : ∀ x ∈ xs, ∃ zs, x = .tup zs ∧ zs.length = js.length) (I : Nat → List PV → Mem → Prop) (h0 : I 0 [] M)
    (h : ∀ i zs acc M2 D, xs[i]? = some (.tup zs) → acc.length = i → I i acc M2 → M2 D = none → te (setP (wipeQ env vs) js zs) (mset M2 D (.lst acc)) (fun y M3 => ∃ M4, M3 = mset M4 D (.lst acc) ∧ M4 D = none ∧ I (i + 1) (acc ++ [y]) M4) EF) (hq : ∀ acc M2, acc.length = xs.length → I xs.length acc M2 → Q.v (.lst acc) M2) : @lcTW (.lst xs) js vs te env M Q :=
  ⟨xs, rfl, ht, hn, I, h0, fun i x acc M2 D hx hl hI hD => by
    obtain ⟨zs, rfl, hz⟩ := ht x (List.mem_of_getElem? hx)
    dsimp only
    rw [show (tupS js (wipeQ env vs) (.tup zs)).getD [] = setP (wipeQ env vs) js zs by rw [tupS_tup, if_pos hz]; rfl]
    exact h i zs acc M2 D hx hl hI hD, hq⟩
def lcX (o : Option (List PV)) (vs : List Nat) (j : Nat) (te : QT) (env : Sl) (M1 : Mem) [Q : Box PK] [E : Box EK] : Prop := match o with
  | some items => lcQX items (fun y => (wipeQ env vs).set j (some y)) te M1 Q.v E.v
  | none => False
theorem e_lcLX {j : Nat} {vs : List Nat} {tl te : QT} {Q : PK} {E : EK} : qLcLX j vs tl te env M Q E = tl env M (fun x M1 => @lcX (sqA M1 x) vs j te env M1 ⟨Q⟩ ⟨E⟩) E := rfl
theorem lcX_of {j : Nat} {vs : List Nat} {te : QT} {Q : Box PK} {E : Box EK} (r : PV → Option PV) (hn : xs.length ≤ 100000) (h : ∀ x ∈ xs, ∀ M2, MExt M M2 → te ((wipeQ env vs).set j (some x)) M2 (fun y M3 => M3 = M2 ∧ r x = some y) (fun c pl M3 => M3 = M2 ∧ E.v c pl M)) (q : (∀ x ∈ xs, (r x).isSome = true) → Q.v (.lst (xs.filterMap r)) M) : @lcX (some xs) vs j te env M Q E := ⟨hn, r, h, q⟩
theorem setP_nil {js : List Nat} : setP env js [] = env := by cases js <;> rfl
theorem setP_cons {j : Nat} {js : List Nat} : setP env (j :: js) (x :: xs) = setP (env.set j (some x)) js xs := rfl
theorem e_sTryAsE {i : Nat} {c : Value} {tb u : QS} {ts : Addr → Addr → QS} : sTryAsE K C i c tb ts u D env M = tb { D with nx := u D, ex := tryX K C i c ts D } env M := rfl
def tryN (K : PySem.W.Frag) (i : Nat) (c : Value) (ts : Addr → Addr → QS) (De : QEnds) : Value → Option PV → Sl → Mem → Prop := fun cls pl env' M' => ∃ b, PySem.W.exmOne K cls c = some b ∧
    (b = true → ∃ D, cls = .ref D ∧ ExcC K D ∧ pl = none ∧ ∀ a, M' a = none → ts D a { nx := fun e m => De.nx (e.set i none) m, rt := De.rt, bk := fun e m => De.bk (e.set i none) m, ct := fun e m => De.ct (e.set i none) m } (env'.set i (some (.ref a))) M') ∧
    (b = false → De.ex cls pl env' M')
theorem e_sTryAsN {i : Nat} {c : Value} {tb : QS} {ts : Addr → Addr → QS} : sTryAsN K i c tb ts D env M = tb { D with ex := tryN K i c ts D } env M := rfl
theorem tryN_own {i : Nat} {c : Value} {ts : Addr → Addr → QS} (h : PySem.W.exmOne K (.ref C) c = some true) (z : ExcC K C)
    (q : ∀ a, M a = none → ts C a { nx := fun e m => D.nx (e.set i none) m, rt := D.rt, bk := fun e m => D.bk (e.set i none) m, ct := fun e m => D.ct (e.set i none) m } (env.set i (some (.ref a))) M) : tryN K i c ts D (.ref C) none env M :=
  ⟨true, h, fun _ => ⟨C, rfl, z, rfl, q⟩, fun z => nomatch z⟩
def isNB (K : PySem.W.Frag) (C a : Addr) (xs : List PV) (M : Mem) [Q : Box PK] : Prop := cIsN K C a xs M Q.v
theorem e_cIsN {Q : PK} : cIsN K C a xs M Q = @isNB K C a xs M ⟨Q⟩ := rfl
theorem isNB_of {c : PV} {u : Value} {b : Bool} {Q : Box PK} (h1 : clsP c = some u) (h2 : PySem.W.kitOne K (.ref C) u = some b) : @isNB K C a [.ref a, c] M Q = Q.v (.bl b) M := propext
  ⟨fun ⟨_, _, _, h, g1, g2, q⟩ => by cases h; rw [h1] at g1; cases g1; rw [h2] at g2; cases g2; exact q, fun q => ⟨_, _, _, rfl, h1, h2, q⟩⟩
end
end TN

/-! x in a list or tuple of data -/
namespace TQ
open PySem PySem.Spec PyProof.Rows L2
/-- the items, as data -/
def datIt (M : Mem) (y : PV) : Option (List PyData) := match dat M y with
  | some (.list ds) => some ds
  | some (.tuple ds) => some ds
  | _ => none
def bInD (neg : Bool) : F2 := fun x y M Q => ∃ d ds, dat M x = some d ∧ datIt M y = some ds ∧ d.depth ≤ 60 ∧ Q (.bl (if neg then !(ds.any fun z => PyData.eqv z d) else ds.any fun z => PyData.eqv z d)) M
section
variable {X : Cx}
theorem oq_inDG (hu : X.A.units + 64 < cLine) (neg : Bool) : OpQ X (compareOp (if neg then .NotIn else .In)) (bInD neg) := by
  intro pins s σ H a b v u Q I ra rb ⟨x, y, M, G, Q0, rx, ry, w, ⟨d, ds, hd, hds, hdp, q⟩, L⟩
  obtain ⟨as, r1⟩ := Dp.reads I d a v (dat_dp w hd rx) ra
  have pd := dat_plain hd
  unfold datIt at hds
  cases hy : dat M y with
  | none => rw [hy] at hds; cases hds
  | some e =>
    rw [hy] at hds
    obtain ⟨bs, r2⟩ := Dp.reads I e b u (dat_dp w hy ry) rb
    have pe := dat_plain hy
    cases e with
    | list es =>
      cases hds
      cases neg with
      | false => exact SeqAt.in_list_data r2 r1 pe pd (by omega) ⟨.bl _, H, I, rfl, give L w (x := .bl _) rfl q⟩
      | true => exact SeqAt.notIn_list_data r2 r1 pe pd (by omega) ⟨.bl _, H, I, rfl, give L w (x := .bl _) rfl q⟩
    | tuple es =>
      cases hds
      cases neg with
      | false => exact SeqAt.in_tuple_data r2 r1 pe pd (by omega) ⟨.bl _, H, I, rfl, give L w (x := .bl _) rfl q⟩
      | true => exact SeqAt.notIn_tuple_data r2 r1 pe pd (by omega) ⟨.bl _, H, I, rfl, give L w (x := .bl _) rfl q⟩
    | _ => cases hds
theorem oq_inD (hu : X.A.units + 64 < cLine) : OpQ X (compareOp .In) (bInD false) := oq_inDG hu false
theorem oq_notInD (hu : X.A.units + 64 < cLine) : OpQ X (compareOp .NotIn) (bInD true) := oq_inDG hu true
end
end TQ
namespace TN
open PySem PySem.Spec PyProof.Rows L2 TQ TM
section
variable {x y : PV} {M : Mem}
def inDB (neg : Bool) (x y : PV) (M : Mem) [Q : Box PK] : Prop := bInD neg x y M Q.v
theorem e_bInD {neg : Bool} {Q : PK} : bInD neg x y M Q = @inDB neg x y M ⟨Q⟩ := rfl
theorem inDB_of {neg b : Bool} {d : PyData} {ds : List PyData} {Q : Box PK} (h1 : dat M x = some d) (h2 : datIt M y = some ds) (h3 : d.depth ≤ 60) (h4 : (ds.any fun z => PyData.eqv z d) = b) (q : Q.v (.bl (if neg then !b else b)) M) : @inDB neg x y M Q := ⟨d, ds, h1, h2, h3, by rw [h4]; exact q⟩
end
end TN

/-! str(..) and int(..) of great whole numbers: below ten to 4300 -/
namespace TB
open PySem PySem.Builtin PySem.Builtin.Str PySem.Builtin.Int PySem.NumText PyProof.Rows PySem.Calls
def NoDig (K : PySem.W.Frag) : Prop := PySem.W.nsIn K cStatics "sys.int_max_str_digits" = some none
section
variable {M : Model} {A : Around} {E : Value → Shared → Prop} {s : Shared} {a : Int} {t : Tok} {K : PySem.W.Frag}
theorem limit_is (x : K.In s.heap) (e : NoDig K) {Q : Nat → Shared → Prop} (h : Q 4300 s) : wpAny M A Builtin.intMaxStrDigits Q E s := by
  unfold Builtin.intMaxStrDigits
  exact wpAny_bind ((PySem.W.looks_nsIn x e).here (wpAny_pure h))
theorem over_is (x : K.In s.heap) (e : NoDig K) (ha : a.natAbs < 10 ^ 4300) {Q : Option Nat → Shared → Prop} (h : Q none s) : wpAny M A (Builtin.overDigitLimit? a) Q E s := by
  generalize hP : 10 ^ 4300 = P at ha
  have hi : P ≤ 2 ^ 30000 := hP ▸ pow_hi
  unfold Builtin.overDigitLimit?
  by_cases hs : a.natAbs.log2 < 1920
  · rw [if_pos hs]
    exact wpAny_pure h
  · rw [if_neg hs]
    refine wpAny_bind (limit_is x e ?_)
    rw [hP]
    dsimp only
    have hz : ¬ a.natAbs.log2 / 30 + 1 > 1000 := fun hz => by
      have := le_of_log2 (n := a.natAbs) (k := 30000) (by decide) (by omega)
      omega
    rw [if_neg hz]
    split
    · exact wpAny_pure h
    · rw [if_neg (by omega)]
      exact wpAny_pure h
end
section
variable {prog : Program} {w : World} {A : Around} {E : Value → Shared → Prop} {s : Shared} {a : Int} {t : Tok} {K : PySem.W.Frag}
set_option maxRecDepth 100000 in
theorem repr_is {Q : Value → Shared → Prop} (x : K.In s.heap) (e : NoDig K) (ha : a.natAbs < 10 ^ 4300) (h1 : Q (.str (toString a) s.toks) { s with toks := s.toks + 1 }) :
    wpAny (model prog w) A (PySem.call (.builtin "int.__repr__") [.int a t]) Q E s := by
  refine wpAny_call_entry F.slot_int_repr (typeIs_int s a t) F.entry_int_repr ?_ (F.args_int_repr_1 _)
  unfold Builtin.«int.__repr__»
  show wpAny _ _ (do let r ← Builtin.overDigitLimit? a; _) _ _ s
  refine wpAny_bind (over_is x e ha ?_)
  exact wpAny_bind (wpAny_mkStr (wpAny_pure ⟨_, rfl, h1⟩) (int_text_fits10 ha))
theorem strOf_is {Q : Value → Shared → Prop} (x : K.In s.heap) (e : NoDig K) (ha : a.natAbs < 10 ^ 4300) (h1 : Q (.str (toString a) s.toks) { s with toks := s.toks + 1 }) :
    wpAny (model prog w) A (PySem.Builtin.Str.strOf (.int a t)) Q E s := by
  unfold PySem.Builtin.Str.strOf
  rw [show isExactStr (.int a t) = false from rfl]
  try (have hv : [Value.int a t].any Value.onHeap = false := rfl; simp only [cRoomFor, hv, Bool.false_eq_true, if_false, pure_bind])
  refine wpAny_bind (m := callSpecial? (.int a t) (Str.ofString "__str__")) (wpAny_callSpecial?_slot (name := Str.ofString "__str__") (typeIs_int s a t) F.slot_int_str ?_)
  refine wpAny_call_entry F.slot_int_str (typeIs_int s a t) entry_object_str ?_ (args_object_str _)
  unfold Builtin.«object.__str__»
  refine wpAny_bind (m := slotArgs "__str__" 0 _) (wpAny_pure ?_)
  try (have hv : [Value.int a t].any Value.onHeap = false := rfl; simp only [cRoomFor, hv, Bool.false_eq_true, if_false, pure_bind])
  refine wpAny_bind (m := callSpecialIfBound? (.int a t) (Str.ofString "__repr__")) (wpAny_callSpecialIfBound?_slot (name := Str.ofString "__repr__") (typeIs_int s a t) F.slot_int_repr
    (repr_is x e ha ?_))
  exact wpAny_pure ⟨_, rfl, wpAny_pure h1⟩
theorem str_is {Q : Value → Shared → Prop} (x : K.In s.heap) (e : NoDig K) (ha : a.natAbs < 10 ^ 4300) (h1 : Q (.str (toString a) s.toks) { s with toks := s.toks + 1 }) :
    wpAny (model prog w) A (call (.type "str") [.int a t]) Q E s :=
  callType_new F.called_str (by decide) (F.typeCall_str_1 _) (F.newCall_str_1 _) (fun obj => F.args_object_init_2 obj _) F.entry_str_new
    (meets_str_new (S := fun A R s => K.In s.heap ∧ R (.ok (.ret (.str (toString a) s.toks))) { s with toks := s.toks + 1 })
      fun _ _ _ _ _ hq => strOf_is hq.1 e ha hq.2)
    ⟨x, typeIs_str _ _ _, h1⟩
theorem wp_textB {M : Model} {Q : Value → Shared → Prop} {v : Value} {x : PySem.Str} {n : Int} (k : K.In s.heap) (e : NoDig K) (hx : x.length ≤ sizeLine) (hn : PySem.intText? x = some n)
    (h : Q (.int n s.toks) { s with toks := s.toks + 1 }) : wpAny M A ((int_private% "intFromText") v (numTextOf x) 10) Q E s := by
  have hr : (int_private% "readNumeral") (numLimitOf x) 10 (numSeenOf x) = (int_private% "Numeral.value") n ∧ ((numSeenOf x).length == (numTextOf x).length) = true := by
    rcases readAny x hx with ⟨m, h1, h2, h3⟩ | ⟨h1, _⟩
    · rw [hn] at h1
      injection h1 with h1
      subst h1
      exact ⟨h3, h2⟩
    · rw [hn] at h1
      cases h1
  obtain ⟨hr, ha⟩ := hr
  by_cases hs : (numSeenOf x).length ≤ 640
  · rw [show numLimitOf x = 0 from if_pos hs] at hr
    exact PySem.W.KIN.wp_text hs hr ha h
  · rw [show numLimitOf x = 4300 from if_neg hs] at hr
    obtain ⟨hp, g, d, tk, os⟩ := s
    repeat (any_goals (first
      | assumption
      | (with_reducible refine wpAny_ite_false (decide_eq_false hs) ?_)
      | (with_reducible refine wpAny_ite_true (decide_eq_true ha) ?_)
      | ((with_reducible show wpAny _ _ Builtin.intMaxStrDigits _ _ _); refine limit_is k e ?_)
      | wp_step))
    all_goals (try rw [hr])
    all_goals (try dsimp only)
    repeat (any_goals (first
      | assumption
      | (with_reducible refine wpAny_ite_false (decide_eq_false hs) ?_)
      | (with_reducible refine wpAny_ite_true (decide_eq_true ha) ?_)
      | wp_step))
structure Hid (p : Prop) : Prop where
  out : p
theorem meets_textB {x : PySem.Str} {u : Tok} {n : Int} (e : NoDig K) (hx : x.length ≤ sizeLine) (hn : PySem.intText? x = some n) :
    Meets (Builtin.«int.__new__» ⟨[.type "int", .str x u], []⟩) (fun A R s => K.In s.heap ∧ R (.ok (.ret (.int n s.toks))) { s with toks := s.toks + 1 }) :=
  .of_wp fun prog w A R s hq => by
    have f1 := F.conv_sub_int
    have f2 := F.madeHere_int
    have f3 := PySem.W.KIN.str_int
    have f4 := PySem.W.KIN.str_idx
    have f5 := PySem.W.KIN.str_trunc
    have f6 : typeOf (.str x u) = pure (.type "str") := rfl
    have hk := Hid.mk (And.intro hq.1 (And.intro hx hn))
    obtain ⟨_, hq⟩ := hq
    clear hx hn
    obtain ⟨hp, g, d, tk, os⟩ := s
    repeat (any_goals (first
      | assumption
      | ((with_reducible show wpAny _ _ ((int_private% "intFromText") _ _ _) _ _ _); refine wp_textB hk.out.1 e hk.out.2.1 hk.out.2.2 ?_)
      | wp_step))
    all_goals first | exact ⟨_, rfl, hq⟩ | skip
theorem int_is {Q : Value → Shared → Prop} {x : PySem.Str} {u : Tok} {n : Int} (k : K.In s.heap) (e : NoDig K) (hx : x.length ≤ sizeLine) (hn : PySem.intText? x = some n) (h : Q (.int n s.toks) { s with toks := s.toks + 1 }) :
    wpAny (model prog w) A (call (.type "int") [.str x u]) Q E s :=
  call_int_1 (meets_textB e hx hn) ⟨k, rfl, h⟩
end
end TB
namespace TQ
open PySem PySem.Spec PyProof.Rows L2
def cIntB : FC := fun xs M Q => match xs with
  | [.int i] => Q (.int i) M
  | [.bl b] => Q (.int (if b then 1 else 0)) M
  | [.str a] => ∃ n, PySem.intText? a = some n ∧ a.length ≤ 4300 ∧ Q (.int n) M
  | _ => False
def cStrB : FC := fun xs M Q => match xs with
  | [.int i] => i.natAbs < 10 ^ 4300 ∧ Q (.str (toString i)) M
  | _ => False
section
variable {X : Cx}
theorem call_str_intB (e : TB.NoDig X.K) : CallR X (.type "str") (fun xs H Q => ∃ i, xs = [.int i] ∧ i.natAbs < 10 ^ 4300 ∧ Q (.str (toString i)) H) := by
  intro pins s σ H xs us Q I r h
  obtain ⟨i, rfl, hz, q⟩ := h
  obtain ⟨u, rfl, t, rfl⟩ := vals1 r
  exact TB.str_is I.kIn e hz ⟨.str _, H, I.tok _, ⟨_, rfl⟩, q⟩
theorem call_int_strB (e : TB.NoDig X.K) : CallR X (.type "int") (fun xs H Q => ∃ a n, xs = [.str a] ∧ PySem.intText? a = some n ∧ a.length ≤ 4300 ∧ Q (.int n) H) := by
  intro pins s σ H xs us Q I rs h
  obtain ⟨a, n, rfl, hn, hl, h⟩ := h
  cases rs with
  | cons r1 rs =>
    cases rs
    obtain ⟨t, rfl⟩ := r1
    exact TB.int_is I.kIn e (Nat.le_trans hl (by rw [sizeLine_eq]; decide)) hn ⟨.int n, H, I.tok _, ⟨_, rfl⟩, h⟩
theorem cq_intB (e : TB.NoDig X.K) : CallQ X (.type "int") cIntB := by
  intro pins s σ H vs us Q I r ⟨xs, M, G, Q0, rx, w, q, L⟩
  unfold cIntB at q
  split at q
  · obtain ⟨v, rfl, r1⟩ := reps1 rx
    cases r1
    exact call_int1 pins s σ H _ us Q I r (.inl ⟨_, rfl, give L w (x := .int _) rfl q⟩)
  · obtain ⟨v, rfl, r1⟩ := reps1 rx
    cases r1
    exact call_int1 pins s σ H _ us Q I r (.inr ⟨_, rfl, give L w (x := .int _) rfl q⟩)
  · obtain ⟨v, rfl, r1⟩ := reps1 rx
    cases r1
    obtain ⟨n, h1, h2, q⟩ := q
    exact call_int_strB e pins s σ H _ us Q I r ⟨_, n, rfl, h1, h2, give L w (x := .int _) rfl q⟩
  · exact q.elim
theorem cq_strB (e : TB.NoDig X.K) : CallQ X (.type "str") cStrB := by
  intro pins s σ H vs us Q I r ⟨xs, M, G, Q0, rx, w, q, L⟩
  unfold cStrB at q
  split at q
  · obtain ⟨v, rfl, r1⟩ := reps1 rx
    cases r1
    exact call_str_intB e pins s σ H _ us Q I r ⟨_, rfl, q.1, give L w (x := .str _) rfl q.2⟩
  · exact q.elim
end
end TQ
namespace TN
open PySem PySem.Spec PyProof.Rows L2 TQ TM
section
variable {M : Mem} {Q : PK}
def txtPB (a : Str) (M : Mem) [Q : Box PK] : Prop := ∃ n, PySem.intText? a = some n ∧ a.length ≤ 4300 ∧ Q.v (.int n) M
theorem e_cIntB_s {a : Str} : cIntB [.str a] M Q = @txtPB a M ⟨Q⟩ := rfl
theorem e_cStrB {i : Int} : cStrB [.int i] M Q = (i.natAbs < 10 ^ 4300 ∧ Q (.str (toString i)) M) := rfl
end
end TN

/-! an error handed to a def within its except suite -/
namespace TQ
open PySem PySem.Spec PyProof.Rows L2
/-- a def's promise where it is called within an except suite: the handled error, without a field, is of D and stands at a -/
structure FnE (P : Program) (w : World) (K : PySem.W.Frag) (mg : Str → Option Value) (base : Heap) (k : Nat) (f : Addr) (fd : FuncData) (ps : List Str) (s : Addr → Addr → SpQ) : Prop where
  len : ∀ D a vs H Q E, spQ K (s D a) vs H Q E → vs.length = ps.length
  run : ∀ (D a : Addr) (oe : Obj), ExcC K D → L2N.Zn (.ref D) none oe → (∃ vs, oe.data = .fields vs) → ∀ (A : Around) (outer : List Env) (sh : Shared) (H : Hp) (args : Args) (us : List Value) (vs : List V) (Q : VK) (E : XK), L2H.RoomH k A → A.handled = some (.ref a) → L2H.PinOk outer H sh (a, oe) → (∀ c d H', ¬ E c d H') →
    Env0 P w K mg base A outer sh H → BindsTo sh fd args (ps.zip us) → Vals vs us → spQ K (s D a) vs H Q E → codeAny (model P w) A (.call (.ref f) args) (CR (L2N.CX P w) outer P w H sh Q E) sh
section
variable {P : Program} {w : World} {K : PySem.W.Frag} {mg : Str → Option Value} {base : Heap}
theorem okE {x qual : Str} {st : Stmt} {f : Addr} {fd : FuncData} {N ps : List Str} {k : Nat} {s : Addr → Addr → SpQ} (F : Fun K x qual st f fd) (S : FnScope N ps (defScope st)) (len : ∀ D a xs M Q E, s D a xs M Q E → xs.length = ps.length)
    (hbody : ∀ (D a : Addr) (oe : Obj), ExcC K D → L2N.Zn (.ref D) none oe → (∃ vs, oe.data = .fields vs) → ∀ (cdv : Value) (A : Around) (outer : List Env) (s0 : Shared) (H0 : Hp) (E : XK), L2H.RoomH k (A.deeper (envOfC qual (defScope st) s0.heap.objs.size f cdv)) → CoolW true (cxB P w K mg base N qual (defScope st) f cdv A outer s0 H0 E false [(a, oe)]) (fun cls d _ H => E cls d H) →
      ∃ t, QPSs (cxB P w K mg base N qual (defScope st) f cdv A outer s0 H0 E false [(a, oe)]) (fun cls d _ H => E cls d H) (defBody st) t ∧
        ∀ xs M Q0 E0, s D a xs M Q0 E0 → t { nx := fun _ M => Q0 .non M, rt := Q0, ex := fun c pl _ M => E0 c pl M } (startQ N xs) M) : FnE P w K mg base (k + 1) f fd ps s := by
  obtain ⟨oc, od, kV, doc, pm, an, cdv, ct, osl, rfl, lk, hcd⟩ := F.ex
  have len' : ∀ D a vs H Q E, spQ K (s D a) vs H Q E → vs.length = ps.length := fun D a vs H Q E h => by
    obtain ⟨xs, M, G, Q0, E0, r, _, q, _⟩ := h
    rw [← r.length]
    exact len D a xs M Q0 E0 q
  refine ⟨len', fun D a oe hD hz hv A outer sh H args us vs Q E hr hh hpin hE e0 hb r hsp => ?_⟩
  obtain ⟨fv, hfv⟩ := id hv
  have hot : L2H.Hot1 A (a, oe) := ⟨hh, fv, hfv, hz.2.2 fv hfv⟩
  have hl := len' D a _ _ _ _ hsp
  have KX : K.In sh.heap := e0.mod.kin.keeps fun b o e => (e0.bs b o e).1
  have lim : sh.heap.NoLimit := e0.mod.nolimit.keeps fun b o e => (e0.bs b o e).1
  have hkind : ∀ y ∈ ps.zip us, (defScope st).names.lookup y.1 = some .local ∨ ((defScope st).names.lookup y.1 = some .cell ∧ ((cellsFrom (sh.heap.objs.size + 1) (defScope st).names []).lookup y.1).isSome = true) := fun ⟨n, v⟩ hy => by
    rcases S.par n (List.of_mem_zip hy).1 with q | q
    · exact .inl q
    · exact .inr ⟨q, PySem.W.cellsFrom_some _ _ _ (.inl q)⟩
  refine codeAny_call_function hr.depth (KX _ _ lk) rfl S.co S.gen rfl (PySem.W.codeRec_of KX hcd) (hb _ _ _ _ ?_)
  refine wpAny_newFunctionEnv_cells S.kind hkind fun env he s1 x => ?_
  subst he
  refine ⟨lim.keeps x.toInCall.keep, codeAny_func ?_⟩
  obtain ⟨xs, M, G, Q0, E0, rr, wf, q, L, LE⟩ := hsp
  obtain ⟨t, ht, hq⟩ := hbody D a oe hD hz hv cdv A outer sh H E (hr.deeper _) (.inr ⟨rfl, ⟨(a, oe), hot, List.mem_singleton_self _⟩, fun c d _ H' => hE c d H'⟩)
  have I : Inv (cxB P w K mg base N qual (defScope st) f cdv A outer sh H E false [(a, oe)]) [] (L2.start N vs) H s1 := L2H.inv_startH S hpin e0 hl r x
  have LD : LiftD K (fun cls d _ H => E cls d H) G { nx := fun _ M => Q0 .non M, rt := Q0, ex := fun c pl _ M => E0 c pl M } { nx := fun _ H' => Q .non H', rt := Q } :=
    ⟨fun env' M' σ' H' G' e S q => L .non M' .non H' G' e S.wf rfl q, L, fun _ _ _ _ _ _ _ q => q, fun _ _ _ _ _ _ _ q => q, fun c pl env' M' d σ' H' G' e S x q => LE c pl M' d H' G' e S.wf x q⟩
  refine wpAny_mono (ht.run [] s1 (L2.start N vs) H { nx := fun _ H' => Q .non H', rt := Q } I ⟨startQ N xs, M, G, _, ⟨start_env rr, wf⟩, hq xs M Q0 E0 q, LD⟩) (fun fl s' hs => ?_) fun e s' hs => hs
  have fin : ∀ {σ' : L2.St} {H' : Hp} {v : V} {u : Value}, Inv (cxB P w K mg base N qual (defScope st) f cdv A outer sh H E false [(a, oe)]) [] σ' H' s' → RelV v u → Q v H' → CE outer P w H sh Q u s' :=
    fun {σ' H' v u} J rv q => ⟨v, H', J.os, J.bare, J.base, J.hok, rv, q⟩
  cases fl with
  | ret u =>
    obtain ⟨v, σ', H', J, rv, q⟩ := hs
    exact fin J rv q
  | next =>
    obtain ⟨σ', H', J, q⟩ := hs
    exact fin (v := V.non) (u := Value.none) J rfl q
  | brk =>
    obtain ⟨_, _, _, q⟩ := hs
    exact False.elim q
  | cont =>
    obtain ⟨_, _, _, q⟩ := hs
    exact False.elim q
end
section
variable {X : Cx} {W : WX} {pos : Pos} {k : Nat} {f : Addr} {fd : FuncData} {ps : List Str} {x : Str} {p : Pos} {e : Expr} {es : List Expr}
theorem qe_callE {t : QA} {s : Addr → Addr → SpQ} {D a : Addr} {oe : Obj} (F : FnE X.prog X.w X.K X.mg X.base k f fd ps s) (hr : L2H.RoomH k X.A) (hD : ExcC X.K D) (hz : L2N.Zn (.ref D) none oe) (hv : ∃ vs, oe.data = .fields vs) (hh : X.A.handled = some (.ref a)) (hp : (a, oe) ∈ X.pn)
    (hm : X.mg x = some (.ref f)) (hk : PySem.W.keepIn X.K (.ref f) = true) (hb : Binds X.K fd ps []) (ha : QPA X W0 (e :: es) t) (hg : Gl X x := by rfl)
    (hdb : (x == ("__debug__" : Str)) = false := by decide) (he : starEach (e :: es) X.env = (false, eval e X.env) :: starEach es X.env := by rfl) (hpl : (backTo pos (starEach es X.env)).any (·.1) = false := by rfl) :
    QE X W0 (.Call (.Name x p) (e :: es) [] pos) (qCall (s D a) t) :=
  ⟨fun pins sh σ H Q I ⟨env, M, G, Q0, E0, S, q, L, LE⟩ => wpAny_Call_Name_kw (ld_glob I hg hm (PySem.W.callWith_K (h₀ := X.base) I.ok.mod.kin hk (thn (ha.run pos pins sh σ H (fun vs H1 => spQ X.K (s D a) vs H1 Q (WE W0 σ)) I ⟨env, M, G, _, E0, S, q, fun xs M1 vs H1 G1 e1 w1 r1 q1 => ⟨xs, M1, G1, Q0, E0, r1, w1, q1, L.mono e1, LE.mono e1⟩, LE⟩) fun us s1 ⟨vs, H1, I1, r, q2⟩ =>
    ⟨I1.kIn, by
      have hl : us.length = ps.length := r.length ▸ F.len _ _ _ _ _ _ q2
      have b := hb s1 us I1.kIn (by rw [List.append_nil]; exact hl)
      rw [List.append_nil] at b
      have P1 := I1.pin (a, oe) (List.mem_append_left _ hp)
      have hpin : L2H.PinOk X.stack H1 s1 (a, oe) := ⟨P1.1, P1.2.1, fun hm => (List.mem_cons.mp (I1.stkSub _ hm)).elim P1.2.2.1 P1.2.2.2.1, P1.2.2.2.2⟩
      refine wpAny_call (codeAny_mono (F.run D a oe hD hz hv X.A X.stack s1 H1 ⟨us, []⟩ us vs Q (WE W0 σ) hr hh hpin (fun _ _ _ z => z) I1.env0 b r q2) fun r s' hq => ?_)
      match r, hq with
      | .error e, hq => exact L2N.passAt takesN0 σ pins H1 s1 e s' I1 hq
      | .ok (.ret u), hq => exact I1.after hq
      | .ok .next, hq => exact hq.elim
      | .ok .brk, hq => exact hq.elim
      | .ok .cont, hq => exact hq.elim⟩) he hpl) hdb)⟩
theorem qe_callG {t : QA} {s : SpQ} (F : FnG X.prog X.w X.K X.mg X.base k f fd ps s) (hgd : X.A.guards = some []) (hr : L2H.RoomH k X.A) (cm : X.calm = true) (hm : X.mg x = some (.ref f)) (hk : PySem.W.keepIn X.K (.ref f) = true) (hb : Binds X.K fd ps []) (tk : L2N.Takes X W) (ha : QPA X W (e :: es) t) (hg : Gl X x := by rfl)
    (hdb : (x == ("__debug__" : Str)) = false := by decide) (he : starEach (e :: es) X.env = (false, eval e X.env) :: starEach es X.env := by rfl) (hpl : (backTo pos (starEach es X.env)).any (·.1) = false := by rfl) :
    QE X W (.Call (.Name x p) (e :: es) [] pos) (qCall s t) :=
  ⟨fun pins sh σ H Q I ⟨env, M, G, Q0, E0, S, q, L, LE⟩ => wpAny_Call_Name_kw (ld_glob I hg hm (PySem.W.callWith_K (h₀ := X.base) I.ok.mod.kin hk (thn (ha.run pos pins sh σ H (fun vs H1 => spQ X.K s vs H1 Q (WE W σ)) I ⟨env, M, G, _, E0, S, q, fun xs M1 vs H1 G1 e1 w1 r1 q1 => ⟨xs, M1, G1, Q0, E0, r1, w1, q1, L.mono e1, LE.mono e1⟩, LE⟩) fun us s1 ⟨vs, H1, I1, r, q2⟩ =>
    ⟨I1.kIn, by
      have hl : us.length = ps.length := r.length ▸ F.len _ _ _ _ q2
      have b := hb s1 us I1.kIn (by rw [List.append_nil]; exact hl)
      rw [List.append_nil] at b
      refine wpAny_call (codeAny_mono (F.run X.A X.stack s1 H1 ⟨us, []⟩ us vs Q (WE W σ) hgd ⟨I1.ok.hd cm, hr.dp, hr.un⟩ I1.env0 b r q2) fun r s' hq => ?_)
      match r, hq with
      | .error e, hq => exact L2N.passAt tk σ pins H1 s1 e s' I1 hq
      | .ok (.ret u), hq => exact I1.after hq
      | .ok .next, hq => exact hq.elim
      | .ok .brk, hq => exact hq.elim
      | .ok .cont, hq => exact hq.elim⟩) he hpl) hdb)⟩
theorem cq_isP {a D : Addr} {oe : Obj} (hp : (a, oe) ∈ X.pn) (Z : ExcC X.K D) (hz : L2N.Zn (.ref D) none oe) (hf : ∃ vs, oe.data = .fields vs) : CallQ X (.builtin "isinstance") (cIsN X.K D a) := by
  intro pins s σ H vs us Q I r ⟨xs, M, G, Q0, rx, w, q, L⟩
  obtain ⟨c, k, b, rfl, h3, h4, q⟩ := q
  obtain ⟨v, u, rfl, r1, r2⟩ := reps2 rx
  obtain rfl : v = V.ref a := r1
  cases r with
  | cons rv rr => cases rr with
    | cons ru rr =>
      cases rr
      cases rv
      have hk : ∀ x, RelV u x → x = k := fun x hx => by
        cases c with
        | ty n => cases h3; cases r2; exact hx
        | ref C => cases h3; cases r2; exact hx
        | _ => cases h3
      have ec := hk _ ru
      subst ec
      obtain ⟨hget, _⟩ := I.pin (a, oe) (List.mem_append.mpr (.inl hp))
      obtain ⟨vs, hv⟩ := hf
      have J : PySem.W.InstAt s.heap a oe D none := ⟨hget, hz.1, by unfold PySem.W.notCls; rw [hv] <;> rfl, by rw [hz.2.1] <;> trivial⟩
      have hcl : (PySem.W.clsIn X.K D).isSome = true := by
        have h := Z.hd
        unfold PySem.W.hasDictIn at h
        cases e : PySem.W.clsIn X.K D with
        | none => rw [e] at h; cases h
        | some cd => rfl
      exact PySem.W.kia_one (PySem.W.kitx_exc hcl Z.hg Z.hk Z.hs Z.ha Z.hn Z.ht Z.hm) I.kIn J h4 (fun z => nomatch z) fun tk => ⟨.bl b, H, I.kept (t' := tk) fun _ _ z => z, rfl, L (.bl b) M _ H G (Ext.refl G) w rfl q⟩
/-- tuple(list) -/
def cTup : FC := fun xs M Q => ∃ x ys, xs = [x] ∧ sq M x = some ys ∧ Q (.tup ys) M
theorem cq_tuple : CallQ X (.type "tuple") cTup := by
  intro pins s σ H vs us Q I r ⟨xs, M, G, Q0, rx, w, q, L⟩
  obtain ⟨x, ys, rfl, hx, q⟩ := q
  obtain ⟨v, rfl, r1⟩ := reps1 rx
  obtain ⟨p, ws, rfl, h1, r1⟩ := sq_H hx r1 w
  exact call_tuple_of pins s σ H _ us Q I r ⟨p, ws, rfl, .inl ⟨SqL.of h1, fun l hl => give_tup L w hl r1 q⟩⟩
theorem qs_lcLT (i : Nat) {y : Str} {py spos : Pos} {elt iter : Expr} {es : List Expr} {kt : Nat} {pt : Pos} {ifs : List Expr} {scope : Scope} {own : List (Str × Nat)} (js : List Nat) {tl : QT} {tt : QB} {te : QT} (hc : TC.CoolX X) (hN : X.N.Nodup) (hl : QE X W iter tl) (hj : ∀ j ∈ js, j ∈ own.map (·.2))
    (ok : BlkOk X.N X.env.scope scope own) (hg : TC.BlkPG X scope (.Tuple es kt pt) (gTup X.K js.length (gNs js)))
    (ht : ∀ (s : Shared) (H : Hp) (C : Addr) (cl : List (Str × Addr)) (fp : List Addr) (xe : Value → Shared → Prop), QPTs (TC.blkX X s H scope (compEnvC scope cl C X.env) fp xe) ifs tt)
    (he : ∀ (s : Shared) (H : Hp) (C : Addr) (cl : List (Str × Addr)) (fp : List Addr) (xe : Value → Shared → Prop), QE (TC.blkX X s H scope (compEnvC scope cl C X.env) fp xe) W0 elt te) (hfs : ∀ v, foldedSetIterable iter X.env v = pure v := by intro _; rfl) (hlo : X.env.scope.names.lookup y = some .local := by rfl) (hi : X.N[i]? = some y := by rfl)
    (hsw : swapsWith (.ListComp elt [{ target := .Tuple es kt pt, iter := iter, ifs := ifs, is_async := 0 }] scope pos) (some (.Name y py)) spos.line X.env = pure true := by exact sw_true rfl rfl rfl (by decide +kernel)) :
    QPS X W (.Assign [.Name y py] (.ListComp elt [{ target := .Tuple es kt pt, iter := iter, ifs := ifs, is_async := 0 }] scope pos) spos) (sAsg (qLcLT js (own.map (·.2)) tl tt te) (gNm i)) :=
  (TC.ps_setLcX (C := TC.CoolX) (Wb := W0) (tt := tieB X.K W0 tt) (te := tie X.K W0 te) hc hN hi hlo hsw (TC.pic_list hl) ok hg (fun s H c cl fp xe _ => ht s H c cl fp xe) (fun s H c cl fp xe _ => he s H c cl fp xe) (fun _ _ _ _ _ _ _ => TC.blkTk_none) hfs).imp fun D σ H h => lcLT_imp hj (tieNm (tieAsg h) fun _ _ _ _ k z => tie_mono k z)
end
end TQ
namespace TN
open PySem PySem.Spec PyProof.Rows L2 TQ TM
section
variable {M : Mem} {x : PV} {xs ys : List PV}
def tupB (xs : List PV) (M : Mem) [Q : Box PK] : Prop := cTup xs M Q.v
theorem e_cTup {Q : PK} : cTup xs M Q = @tupB xs M ⟨Q⟩ := rfl
theorem tupB_lst {Q : Box PK} : @tupB [.lst ys] M Q = Q.v (.tup ys) M := propext ⟨fun ⟨_, _, h, h1, q⟩ => by cases h; cases h1; exact q, fun q => ⟨_, _, rfl, rfl, q⟩⟩
end
section
variable {K : PySem.W.Frag} {M : Mem}
theorem isB_si {i : Str} {Q : Box PK} : @isiB K (.str i) (.ty "int") M Q = Q.v (.bl false) M := isiP rfl trivial rfl rfl
theorem isB_sb {i : Str} {Q : Box PK} : @isiB K (.str i) (.ty "bool") M Q = Q.v (.bl false) M := isiP rfl trivial rfl rfl
theorem isB_sl {i : Str} {Q : Box PK} : @isiB K (.str i) (.ty "list") M Q = Q.v (.bl false) M := isiP rfl trivial rfl rfl
theorem isB_li {i : List PV} {Q : Box PK} : @isiB K (.lst i) (.ty "int") M Q = Q.v (.bl false) M := isiP rfl trivial rfl rfl
theorem isB_lb {i : List PV} {Q : Box PK} : @isiB K (.lst i) (.ty "bool") M Q = Q.v (.bl false) M := isiP rfl trivial rfl rfl
theorem isB_ls {i : List PV} {Q : Box PK} : @isiB K (.lst i) (.ty "str") M Q = Q.v (.bl false) M := isiP rfl trivial rfl rfl
theorem isB_lt {i : List PV} {Q : Box PK} : @isiB K (.lst i) (.ty "tuple") M Q = Q.v (.bl false) M := isiP rfl trivial rfl rfl
theorem isB_ti {i : List PV} {Q : Box PK} : @isiB K (.tup i) (.ty "int") M Q = Q.v (.bl false) M := isiP rfl trivial rfl rfl
theorem isB_tb {i : List PV} {Q : Box PK} : @isiB K (.tup i) (.ty "bool") M Q = Q.v (.bl false) M := isiP rfl trivial rfl rfl
theorem isB_ts {i : List PV} {Q : Box PK} : @isiB K (.tup i) (.ty "str") M Q = Q.v (.bl false) M := isiP rfl trivial rfl rfl
theorem isB_ni  {Q : Box PK} : @isiB K .non (.ty "int") M Q = Q.v (.bl false) M := isiP rfl trivial rfl rfl
theorem isB_nb  {Q : Box PK} : @isiB K .non (.ty "bool") M Q = Q.v (.bl false) M := isiP rfl trivial rfl rfl
theorem isB_ns  {Q : Box PK} : @isiB K .non (.ty "str") M Q = Q.v (.bl false) M := isiP rfl trivial rfl rfl
theorem isB_nl  {Q : Box PK} : @isiB K .non (.ty "list") M Q = Q.v (.bl false) M := isiP rfl trivial rfl rfl
end
end TN

/-! min of five whole numbers -/
namespace PySem
theorem F.args_min5 (a b c d e : Value) : argsOk "min" ⟨[a, b, c, d, e], []⟩ := by unfold argsOk; kernel_rfl
section
variable {prog : Program} {w : World} {A : Around} {E : Value → Shared → Prop} {s : Shared}
theorem call_min_five {a b c d e : Value} {Q : Value → Shared → Prop}
    (h : wpAny (model prog w) A.in1 (pyIter (.ref s.heap.objs.size)) (fun it s₂ => ∃ I fp wr n P St bt, it = .ref I ∧ Walks prog w A.in1 I fp wr n P St ∧ St 0 s₂.heap ∧ (∀ b ∈ fp, b < s₂.heap.objs.size) ∧ 0 < n ∧ CmpOf prog w A.in1 .Lt P bt ∧
      ∀ v h' tk, P (argBest bt (n - 1)) v → (∀ b o, b ∉ wr → s₂.heap.get? b = some o → h'.get? b = some o) → Q v { s₂ with heap := h', toks := tk }) E
      { s with heap := s.heap.push { cls := .type "tuple", data := .seq #[a, b, c, d, e] } }) :
    wpAny (model prog w) A (call (.builtin "min") [a, b, c, d, e]) Q E s := by
  have hname : (toString "min" ++ toString ".loop" : String) = "min.loop" := by decide
  refine call_function_tree F.kind_min F.plain_min F.entry_min (F.args_min5 _ _ _ _ _) ?_
  show wpAny _ A.in1 (Builtin.Builtins.bindParams "min" ["key", "default"] 0 ⟨[], []⟩ >>= _) _ _ s
  refine wpAny_bind (wpAny_of_eq (show Builtin.Builtins.bindParams "min" ["key", "default"] 0 ⟨[], []⟩ = pure [none, none] from rfl) ?_)
  show wpAny _ A.in1 (newTuple [a, b, c, d, e] >>= _) _ _ s
  refine wpAny_bind (wpAny_newObj_type ?_)
  refine wpAny_bind (wpAny_mono h (fun it s₂ h₂ => ?_) fun _ _ e => e)
  obtain ⟨I, fp, wr, n, P, St, bt, rfl, W, hst, hfp, hn, hcmp, hQ⟩ := h₂
  refine wpAny_bind (wpAny_newObj_type ?_)
  have hSf : s₂.heap.objs.size ∉ fp := fun hm => Nat.lt_irrefl _ (hfp _ hm)
  rw [hname]
  refine wpAny_pure ⟨plainId_quiet F.plain_min_loop _, codeAny_min_loop_first W bt hcmp s₂.heap.objs.size hSf hn (W.frame _ _ _ hst fun b _ o e => Heap.get?_push_of_some _ e) (Heap.get?_push_size _ rfl) fun v h' tk hP hk => ?_⟩
  exact hQ v h' tk hP fun b o hbw e => hk b o hbw (Nat.ne_of_lt (Heap.lt_size e)) (Heap.get?_push_of_some _ e)
theorem argBest_le (f : Nat → Int) : ∀ (n i : Nat), i ≤ n → f (argBest (fun i j => decide (f i < f j)) n) ≤ f i
  | 0, i, h => by rw [show i = 0 by omega]; exact Int.le_refl _
  | n + 1, i, h => by
    have ih := argBest_le f n
    unfold argBest
    by_cases c : f (n + 1) < f (argBest (fun i j => decide (f i < f j)) n)
    · rw [if_pos (decide_eq_true c)]
      rcases (by omega : i ≤ n ∨ i = n + 1) with q | rfl
      · exact Int.le_trans (Int.le_of_lt c) (ih i q)
      · exact Int.le_refl _
    · rw [if_neg (by rw [decide_eq_true_eq]; exact c)]
      rcases (by omega : i ≤ n ∨ i = n + 1) with q | rfl
      · exact ih i q
      · omega
theorem argBest_in (bt : Nat → Nat → Bool) : ∀ n : Nat, argBest bt n ≤ n
  | 0 => Nat.le_refl _
  | n + 1 => by
    unfold argBest
    split
    · exact Nat.le_refl _
    · exact Nat.le_succ_of_le (argBest_in bt n)
end
end PySem
namespace TC
open PySem PySem.Spec PyProof.Rows HotX
section
variable {prog : Program} {w : World} {A : Around} {E : Value → Shared → Prop} {s : Shared}
theorem min_five {a b c d e : Int} {t1 t2 t3 t4 t5 : Tok} {Q : Value → Shared → Prop} (cl : Cool A s.heap) (q : ∀ k' tk t, (∀ c o, s.heap.get? c = some o → k'.get? c = some o) → Q (.int (min (min (min (min a b) c) d) e) t) { s with heap := k', toks := tk }) :
    wpAny (model prog w) A (call (.builtin "min") [.int a t1, .int b t2, .int c t3, .int d t4, .int e t5]) Q E s := by
  have hT : IsTup (s.heap.push { cls := .type "tuple", data := .seq #[.int a t1, .int b t2, .int c t3, .int d t4, .int e t5] }) s.heap.objs.size (intItems #[(a, t1), (b, t2), (c, t3), (d, t4), (e, t5)]) := ⟨_, Heap.get?_push_size _ rfl, rfl, 0, by simp [intItems]⟩
  have hz : (s.heap.push { cls := .type "tuple", data := .seq #[.int a t1, .int b t2, .int c t3, .int d t4, .int e t5] }).objs.size = s.heap.objs.size + 1 := Heap.size_push ..
  refine call_min_five (iter_tuple hT ?_)
  generalize hs1 : s.heap.push { cls := .type "tuple", data := .seq #[.int a t1, .int b t2, .int c t3, .int d t4, .int e t5] } = h1 at *
  have k1 : ∀ b o, s.heap.get? b = some o → h1.get? b = some o := fun b o e => by rw [← hs1]; exact Heap.get?_push_of_some _ e
  have hlt : s.heap.objs.size ≠ h1.objs.size := by omega
  have c1 : Cool A.in1 (h1.push { cls := .type "tuple_iterator", data := .fields #[.ref s.heap.objs.size, .int 0 0] }) := cl.keep fun b o e => Heap.get?_push_of_some _ (k1 b o e)
  obtain ⟨fp, St, W, st, hf⟩ := walk_tup (prog := prog) (w := w) c1 (fun x hx => hot_old hx (cl.keep k1) (Nat.le_refl _)) hlt ⟨_, Heap.get?_push_size _ rfl, rfl, rfl⟩ (hT.push _)
  refine ⟨_, fp, [_], _, _, St, _, rfl, W, st, hf, by simp [intItems], CmpOf.ints_lt (numAt #[(a, t1), (b, t2), (c, t3), (d, t4), (e, t5)]) (fun _ _ => intItems_at), fun v k' tk hP hk => ?_⟩
  have hold : ∀ c o, s.heap.get? c = some o → k'.get? c = some o := fun c o e => by
    refine hk c o (fun hm => ?_) (Heap.get?_push_of_some _ (k1 c o e))
    have e1 : c = h1.objs.size := by simpa using hm
    have h2 := Heap.lt_size e
    rw [e1] at h2
    exact absurd (Nat.lt_trans h2 (show s.heap.objs.size < h1.objs.size by omega)) (Nat.lt_irrefl _)
  generalize hx : #[(a, t1), (b, t2), (c, t3), (d, t4), (e, t5)] = xs at *
  obtain ⟨t, rfl⟩ := intItems_at hP
  have hsz : (intItems xs).size - 1 = 4 := by rw [← hx]; simp [intItems]
  rw [hsz]
  have hle := argBest_le (numAt xs) 4
  have hl4 := argBest_in (fun i j => decide (numAt xs i < numAt xs j)) 4
  have n0 : numAt xs 0 = a := by rw [← hx]; rfl
  have n1 : numAt xs 1 = b := by rw [← hx]; rfl
  have n2 : numAt xs 2 = c := by rw [← hx]; rfl
  have n3 : numAt xs 3 = d := by rw [← hx]; rfl
  have n4 : numAt xs 4 = e := by rw [← hx]; rfl
  have h0 := hle 0 (by decide)
  have h1' := hle 1 (by decide)
  have h2 := hle 2 (by decide)
  have h3 := hle 3 (by decide)
  have h4 := hle 4 (by decide)
  rw [n0] at h0
  rw [n1] at h1'
  rw [n2] at h2
  rw [n3] at h3
  rw [n4] at h4
  have hv : numAt xs (argBest (fun i j => decide (numAt xs i < numAt xs j)) 4) = min (min (min (min a b) c) d) e := by
    have hc : numAt xs (argBest (fun i j => decide (numAt xs i < numAt xs j)) 4) = a ∨ numAt xs (argBest (fun i j => decide (numAt xs i < numAt xs j)) 4) = b ∨ numAt xs (argBest (fun i j => decide (numAt xs i < numAt xs j)) 4) = c ∨ numAt xs (argBest (fun i j => decide (numAt xs i < numAt xs j)) 4) = d ∨ numAt xs (argBest (fun i j => decide (numAt xs i < numAt xs j)) 4) = e := by
      generalize argBest (fun i j => decide (numAt xs i < numAt xs j)) 4 = k at *
      rcases (by omega : k = 0 ∨ k = 1 ∨ k = 2 ∨ k = 3 ∨ k = 4) with rfl | rfl | rfl | rfl | rfl
      · exact .inl n0
      · exact .inr (.inl n1)
      · exact .inr (.inr (.inl n2))
      · exact .inr (.inr (.inr (.inl n3)))
      · exact .inr (.inr (.inr (.inr n4)))
    generalize numAt xs (argBest (fun i j => decide (numAt xs i < numAt xs j)) 4) = k at *
    clear hT c1 W st hf hP hk hold hle hl4 q
    omega
  rw [hv]
  exact q k' tk t hold
end
end TC
namespace TQ
open PySem PySem.Spec PyProof.Rows L2
theorem vals5 {xs : List V} {us : List Value} {a b c d e : V} (r : Vals (a :: b :: c :: d :: [e]) us) : ∃ u1 u2 u3 u4 u5, us = [u1, u2, u3, u4, u5] ∧ RelV a u1 ∧ RelV b u2 ∧ RelV c u3 ∧ RelV d u4 ∧ RelV e u5 := by
  cases r with | cons h1 r => cases r with | cons h2 r => cases r with | cons h3 r => cases r with | cons h4 r => cases r with | cons h5 r => cases r; exact ⟨_, _, _, _, _, rfl, h1, h2, h3, h4, h5⟩
def cMin5 : FC := fun xs M Q => match xs with
  | [.int a, .int b, .int c, .int d, .int e] => Q (.int (min (min (min (min a b) c) d) e)) M
  | _ => False
theorem cq_min5 {X : Cx} (hc : TC.CoolX X) : CallQ X (.builtin "min") cMin5 := by
  intro pins s σ H vs us Q I r ⟨xs, M, G, Q0, rx, w, q, L⟩
  unfold cMin5 at q
  split at q
  · obtain ⟨v1, vs, rfl, r1, rx⟩ := rx
    obtain ⟨v2, vs, rfl, r2, rx⟩ := rx
    obtain ⟨v3, vs, rfl, r3, rx⟩ := rx
    obtain ⟨v4, v5, rfl, r4, r5⟩ := reps2 rx
    cases r1; cases r2; cases r3; cases r4; cases r5
    obtain ⟨u1, u2, u3, u4, u5, rfl, ⟨_, rfl⟩, ⟨_, rfl⟩, ⟨_, rfl⟩, ⟨_, rfl⟩, ⟨_, rfl⟩⟩ := vals5 (xs := []) r
    refine TC.min_five (hc.at I) fun k' tk t k => ⟨V.int _, H, I.kept k, ⟨_, rfl⟩, ?_⟩
    exact give L w (x := .int _) rfl q
  · exact q.elim
end TQ
namespace TN
open PySem PySem.Spec PyProof.Rows L2 TQ TM
theorem e_cMin5 {a b c d e : Int} {M : Mem} {Q : PK} : cMin5 [.int a, .int b, .int c, .int d, .int e] M Q = Q (.int (min (min (min (min a b) c) d) e)) M := rfl
end TN
/-! more than one def that makes lambdas -/
namespace TQ
open PySem PySem.Spec PyProof.Rows L2
/-- an expression's parts, lists' too -/
def subX2 : Expr → List Expr
  | .List es _ => es
  | .Tuple es _ _ => es
  | e => subX e
def sLawTs (tq : List (Str × Addr)) : SpQ := fun xs M Q _ => ∃ ns, xs = [.scr ns] ∧ ns.length ≤ 63 ∧ (∀ t ∈ tq, M t.2 = some (.tab t.1)) ∧ ∀ M', Q (.bl true) M'
def tabsM (tq : List (Str × Addr)) (b : Addr) : Option MO := (tq.find? fun t => t.2 == b).map fun t => MO.tab t.1
theorem find_tab : ∀ {tq : List (Str × Addr)}, (tq.map (·.2)).Nodup → ∀ t ∈ tq, (tq.find? fun u => u.2 == t.2) = some t
  | [], _, _, h => nomatch h
  | u :: tq, nd, t, h => by
    rw [List.map_cons, List.nodup_cons] at nd
    rw [List.find?_cons]
    rcases List.mem_cons.mp h with rfl | h
    · rw [beq_self_eq_true]
    · have : ¬ u.2 = t.2 := fun e => nd.1 (List.mem_map.mpr ⟨t, h, e.symm⟩)
      rw [beq_eq_false_iff_ne.mpr this]
      exact find_tab nd.2 t h
theorem law_endTs {K : PySem.W.Frag} {H : Hp} {a : Addr} {ns : List Int} (tq : List (Str × Addr)) (nd : (tq.map (·.2)).Nodup) (hl : ns.length ≤ 63) (hT : ∀ t ∈ tq, H t.2 = some (.tbl #[])) (h : SqL K H a (ns.map V.int)) : spQ K (sLawTs tq) [.ref a] H (fun v _ => v = .bl true) fun _ _ _ => False := by
  have w : Wf K (tabsM tq) H (noT H) := by
    refine ⟨fun b o e => (of_noT e).1, fun b m z => ?_, fun b ps e => (of_noT e).2 ps rfl⟩
    unfold tabsM at z
    cases hf : tq.find? (fun t => t.2 == b) with
    | none => rw [hf] at z; cases z
    | some t =>
      rw [hf] at z
      cases z
      have e : t.2 = b := by
        have := List.find?_some hf
        exact eq_of_beq this
      have ht := hT t (List.mem_of_find?_eq_some hf)
      rw [e] at ht
      exact ⟨noT_tbl ht, LamX.TabS.nil ht⟩
  refine ⟨[.scr ns], _, noT H, fun x _ => x = .bl true, EF, Reps.one (x := .scr ns) ⟨a, rfl, sqL_noT h⟩, w, ⟨ns, rfl, hl, fun t ht => ?_, fun _ => rfl⟩, fun x M' v H' G' e w r q => by subst q; exact r, EF_lift⟩
  unfold tabsM
  rw [find_tab nd t ht]
  rfl
end TQ

/-! one sign in a text; a number's last figure -/
namespace TQ
open PySem PySem.Spec PyProof.Rows L2
def bInS (neg : Bool) : F2 := fun x y M Q => ∃ (c : Nat) (z : Str), x = .str ⟨#[c]⟩ ∧ y = .str z ∧ Q (.bl (if neg then !decide (c ∈ z.cps.toList) else decide (c ∈ z.cps.toList))) M
section
variable {X : Cx}
theorem oq_inS : OpQ X (compareOp .In) (bInS false) := OpQ.of op_in_sign fun a b H Q ⟨x, y, M, G, Q0, rx, ry, w, ⟨c, z, e1, e2, q⟩, L⟩ => by
  subst e1 e2
  exact ⟨c, z, rx, ry, L (.bl _) M _ H G (Ext.refl G) w rfl q⟩
theorem oq_notInS : OpQ X (compareOp .NotIn) (bInS true) := OpQ.of op_notIn_sign fun a b H Q ⟨x, y, M, G, Q0, rx, ry, w, ⟨c, z, e1, e2, q⟩, L⟩ => by
  subst e1 e2
  exact ⟨c, z, rx, ry, L (.bl _) M _ H G (Ext.refl G) w rfl q⟩
end
end TQ
namespace TN
open PySem PySem.Spec PyProof.Rows L2 TQ TM
def inSB (neg : Bool) (x y : PV) (M : Mem) [Q : Box PK] : Prop := bInS neg x y M Q.v
theorem e_bInS {neg : Bool} {x y : PV} {M : Mem} {Q : PK} : bInS neg x y M Q = @inSB neg x y M ⟨Q⟩ := rfl
theorem inSB_of {c : Nat} {z : Str} {M : Mem} {Q : Box PK} (q : Q.v (.bl (decide (c ∈ z.cps.toList))) M) : @inSB false (.str ⟨#[c]⟩) (.str z) M Q := ⟨c, z, rfl, rfl, q⟩
/-- the last figure, as a sign -/
theorem last_sign (w : Nat) : atI (Str.ofString (toString ((w : Nat) : Int))).cps.toList (-1) = some (48 + w % 10) := by
  rw [PySem.W.KIN.signs_num]
  have hd : ∀ d, d < 10 → (Nat.digitChar d).toNat = 48 + d := by decide
  have key : ∃ ds : List Char, Nat.toDigits 10 w = ds ++ [Nat.digitChar (w % 10)] := by
    rcases Nat.lt_or_ge w 10 with h | h
    · exact ⟨[], by rw [Nat.toDigits_of_lt_base h, Nat.mod_eq_of_lt h]; rfl⟩
    · refine ⟨Nat.toDigits 10 (w / 10), ?_⟩
      have := Nat.toDigits_append_toDigits (b := 10) (n := w / 10) (d := w % 10) (by decide) (by omega) (Nat.mod_lt _ (by decide))
      rw [Nat.toDigits_of_lt_base (Nat.mod_lt _ (by decide)), Nat.div_add_mod] at this
      exact this.symm
  obtain ⟨ds, e⟩ := key
  rw [e, List.map_append, List.map_cons, List.map_nil, hd _ (Nat.mod_lt _ (by decide))]
  unfold atI ixN
  have h1 : (1 : Int) ≤ (ds.length : Int) + 1 := by omega
  have h2 : (-1 + ((ds.length : Int) + 1)).toNat = (ds.map Char.toNat).length := by rw [List.length_map]; omega
  simp only [List.length_append, List.length_map, List.length_cons, List.length_nil, Nat.zero_add]
  rw [if_neg (by decide), if_pos (by omega), show (-1 + ((ds.length + 1 : Nat) : Int)).toNat = (ds.map Char.toNat).length by rw [List.length_map]; omega]
  show (List.map Char.toNat ds ++ [48 + w % 10])[(ds.map Char.toNat).length]? = _
  rw [List.getElem?_append_right (Nat.le_refl _), Nat.sub_self]
  rfl
end TN

/-! comprehensions over enumerate(list) -/
namespace TQ
open PySem PySem.Spec PyProof.Rows L2
def qLcEnL (j1 j2 : Nat) (vs : List Nat) (tl : QT) (tt : QB) (te : QT) : QT := fun env M Q E => tl env M (fun x M1 => ∃ items, sqA M1 x = some items ∧ lcQ (enumF 0 items) (slEn env vs j1 j2) tt te M1 Q) E
section
variable {X : Cx} {W : WX} {pos : Pos}
theorem lcEnL_imp {own : List Nat} {j1 j2 : Nat} {tl : QT} {tt : QB} {te : QT} {σ : L2.St} {H : Hp} {Q : VK} (hj1 : j1 ∈ own) (hj2 : j2 ∈ own) (h : tie X.K W (qLcEnL j1 j2 own tl tt te) σ H Q) :
    tLc (iEnum X.K (tieA X.K W (qCons tl qNil))) (gTup X.K 2 (gCons (gName j1) (gCons (gName j2) gNil))) (tieB X.K W0 tt) (tie X.K W0 te) own σ H Q := by
  obtain ⟨env, M, G, Q0, E0, S, q, L, LE⟩ := h
  refine ⟨env, M, G, fun xs M1 => match xs with
    | [x] => ∃ items, sqA M1 x = some items ∧ lcQ (enumF 0 items) (slEn env own j1 j2) tt te M1 Q0
    | _ => False, E0, S, q, fun ys M1 vs H1 G1 e1 w1 r1 q1 => ?_, LE⟩
  dsimp only at q1
  split at q1
  · rename_i x
    obtain ⟨v, rfl, rv⟩ := reps1 r1
    obtain ⟨items, hs, hn, r, hr, q1⟩ := q1
    obtain ⟨p, vs, rfl, h1, rs⟩ := sqA_H hs rv w1
    refine ⟨p, vs, rfl, h1, fun D hD => ?_⟩
    have hM := w1.freeM hD
    have src : ∀ {H' G' : Hp} {acc : List PV}, Ext G1 G' → Wf X.K (mset M1 D (.lst acc)) H' G' → ∃ ws, SqL X.K H' p ws ∧ Reps X.K G' items ws := fun {H' G' acc} e w => by
      obtain ⟨p', ws, ep, h2, r2⟩ := sqA_H (sqA_beside hs hM) (Rep.mono e _ _ rv) w
      cases ep
      exact ⟨ws, h2, r2⟩
    have hle := enumF_length items 0
    refine ⟨fun i m H => m = items.length - i ∧ i ≤ items.length ∧ lcP X.K G1 M1 D (enumF 0 items) r i H, ⟨items.length, by omega, Nat.zero_le _, G1, Ext.refl _, w1.put (w1.free hD) (mok_lst Reps.nil)⟩, fun i m H ⟨hm, hi, hp⟩ => ?_⟩
    obtain ⟨G', e', w'⟩ := _root_.id hp
    obtain ⟨ws, hT, r2⟩ := src e' w'
    by_cases hz : i = items.length
    · subst hz
      exact .inl ⟨⟨ws, hT, by rw [r2.length]; exact Nat.le_refl _⟩, lc_end (L.mono e1) hM (by rw [hle]; exact hp) q1⟩
    · have hlt : i < items.length := by omega
      have hx := List.getElem?_eq_getElem hlt
      obtain ⟨v, hv, rv⟩ := r2.get hx
      refine .inr ⟨⟨ws, v, hT, hv⟩, lcP X.K G1 M1 D (enumF 0 items) r (i + 1), fun H' h => ⟨m - 1, by omega, by omega, by omega, h⟩, fun z H' hy => ?_⟩
      obtain ⟨T, x0, rfl, hTn, rfl, hy⟩ := hy
      have ez := hy ws hT
      rw [hv] at ez
      cases ez
      have hG := w'.free hTn
      have w2 := w'.newG (o := HO.tup [.int (i : Nat), v]) hTn
      have e2 : Ext G1 (upd G' T (.tup [.int (i : Nat), v])) := e'.trans (Ext.new hG)
      refine ⟨T, _, rfl, SqT.of upd_same, rfl, _, _, rfl, _, _, rfl, rfl, wipe_set2 hj1 hj2, ?_⟩
      have hx2 := enumF_get items 0 i hx
      rw [Nat.zero_add] at hx2
      have S2 : Sim X.K (((wipeQ env own).set j1 (some (.int (i : Nat)))).set j2 (some items[i])) _ (upd G' T (.tup [.int (i : Nat), v])) (((L2.wipe σ own).set j1 (some (.int (i : Nat)))).set j2 (some v)) (upd H T (.tup [.int (i : Nat), v])) :=
        ⟨(((S.env.mono (e1.trans e2)).wipe _).set (show Rep X.K _ (.int (i : Nat)) (.int (i : Nat)) from rfl)).set (Rep.mono (Ext.new hG) _ _ rv), w2⟩
      refine lc_turnQ (by rw [hle]; rw [hle] at hn; exact hn) hx2 e2 hM S2 (fun M2 hM2 => ?_) (fun H' h => h)
      obtain ⟨env2, ee, q2⟩ := hr _ (List.mem_of_getElem? hx2) M2 hM2
      cases ee
      exact q2
  · exact q1.elim
theorem qe_lcEnL {elt a : Expr} {x y : Str} {px py pt p pos' : Pos} {kt} {ifs : List Expr} {scope : Scope} {own : List (Str × Nat)} {j1 j2 : Nat} {tl : QT} {tt : QB} {te : QT} (hc : X.calm = true) (hN : X.N.Nodup) (hm : X.mg "enumerate" = none) (hl : QE X W a tl) (hj1 : j1 ∈ own.map (·.2)) (hj2 : j2 ∈ own.map (·.2))
    (ok : BlkOk X.N X.env.scope scope own) (hg : ∀ (s : Shared) (H : Hp) (C : Addr) (cl : List (Str × Addr)) (fp : List Addr) (xe : Value → Shared → Prop), PG (TC.blkX X s H scope (compEnvC scope cl C X.env) fp xe) (.Tuple [.Name x px, .Name y py] kt pt) (gTup X.K 2 (gCons (gName j1) (gCons (gName j2) gNil))))
    (ht : ∀ (s : Shared) (H : Hp) (C : Addr) (cl : List (Str × Addr)) (fp : List Addr) (xe : Value → Shared → Prop), QPTs (TC.blkX X s H scope (compEnvC scope cl C X.env) fp xe) ifs tt)
    (he : ∀ (s : Shared) (H : Hp) (C : Addr) (cl : List (Str × Addr)) (fp : List Addr) (xe : Value → Shared → Prop), QE (TC.blkX X s H scope (compEnvC scope cl C X.env) fp xe) W0 elt te) (hgr : Gl X "enumerate" := by rfl)
    (hst : starEach [a] X.env = [(false, eval a X.env)] := by rfl) (hfs : ∀ v, foldedSetIterable (.Call (.Name "enumerate" p) [a] [] pos') X.env v = pure v := by intro _; rfl) :
    QE X W (.ListComp elt [{ target := .Tuple [.Name x px, .Name y py] kt pt, iter := .Call (.Name "enumerate" p) [a] [] pos', ifs := ifs, is_async := 0 }] scope pos) (qLcEnL j1 j2 (own.map (·.2)) tl tt te) :=
  (TC.pe_lcX (C := TC.Calm) (Wb := W0) (tt := tieB X.K W0 tt) (te := tie X.K W0 te) hc hN (TC.pic_of (pi_enum hgr hm (qa_cons hl qa_nil hst) hst)) ok hg (fun s H c cl fp xe _ => ht s H c cl fp xe) (fun s H c cl fp xe _ => he s H c cl fp xe) (fun _ _ _ _ _ _ => TC.blkTk_none) hfs).imp fun σ H Q h => lcEnL_imp hj1 hj2 h
theorem qs_lcEnL (i : Nat) {z : Str} {pz spos : Pos} {elt a : Expr} {x y : Str} {px py pt p pos' : Pos} {kt} {ifs : List Expr} {scope : Scope} {own : List (Str × Nat)} {j1 j2 : Nat} {tl : QT} {tt : QB} {te : QT} (hc : X.calm = true) (hN : X.N.Nodup) (hm : X.mg "enumerate" = none) (hl : QE X W a tl) (hj1 : j1 ∈ own.map (·.2)) (hj2 : j2 ∈ own.map (·.2))
    (ok : BlkOk X.N X.env.scope scope own) (hg : ∀ (s : Shared) (H : Hp) (C : Addr) (cl : List (Str × Addr)) (fp : List Addr) (xe : Value → Shared → Prop), PG (TC.blkX X s H scope (compEnvC scope cl C X.env) fp xe) (.Tuple [.Name x px, .Name y py] kt pt) (gTup X.K 2 (gCons (gName j1) (gCons (gName j2) gNil))))
    (ht : ∀ (s : Shared) (H : Hp) (C : Addr) (cl : List (Str × Addr)) (fp : List Addr) (xe : Value → Shared → Prop), QPTs (TC.blkX X s H scope (compEnvC scope cl C X.env) fp xe) ifs tt)
    (he : ∀ (s : Shared) (H : Hp) (C : Addr) (cl : List (Str × Addr)) (fp : List Addr) (xe : Value → Shared → Prop), QE (TC.blkX X s H scope (compEnvC scope cl C X.env) fp xe) W0 elt te) (hgr : Gl X "enumerate" := by rfl)
    (hst : starEach [a] X.env = [(false, eval a X.env)] := by rfl) (hfs : ∀ v, foldedSetIterable (.Call (.Name "enumerate" p) [a] [] pos') X.env v = pure v := by intro _; rfl) (hlo : X.env.scope.names.lookup z = some .local := by rfl) (hi : X.N[i]? = some z := by rfl)
    (hsw : swapsWith (.ListComp elt [{ target := .Tuple [.Name x px, .Name y py] kt pt, iter := .Call (.Name "enumerate" p) [a] [] pos', ifs := ifs, is_async := 0 }] scope pos) (some (.Name z pz)) spos.line X.env = pure true := by exact sw_true rfl rfl rfl (by decide +kernel)) :
    QPS X W (.Assign [.Name z pz] (.ListComp elt [{ target := .Tuple [.Name x px, .Name y py] kt pt, iter := .Call (.Name "enumerate" p) [a] [] pos', ifs := ifs, is_async := 0 }] scope pos) spos) (sAsg (qLcEnL j1 j2 (own.map (·.2)) tl tt te) (gNm i)) :=
  (TC.ps_setLcX (C := TC.Calm) (Wb := W0) (tt := tieB X.K W0 tt) (te := tie X.K W0 te) hc hN hi hlo hsw (TC.pic_of (pi_enum hgr hm (qa_cons hl qa_nil hst) hst)) ok hg (fun s H c cl fp xe _ => ht s H c cl fp xe) (fun s H c cl fp xe _ => he s H c cl fp xe) (fun _ _ _ _ _ _ _ => TC.blkTk_none) hfs).imp fun D σ H h => lcEnL_imp hj1 hj2 (tieNm (tieAsg h) fun _ _ _ _ k z => tie_mono k z)
end
end TQ
namespace TN
open PySem PySem.Spec PyProof.Rows L2 TQ TM
def lcEnL (o : Option (List PV)) (vs : List Nat) (i j : Nat) (tt : QB) (te : QT) (env : Sl) (M : Mem) [Q : Box PK] : Prop := ∃ items, o = some items ∧ lcQ (enumF 0 items) (slEn env vs i j) tt te M Q.v
theorem e_lcEnL {i j : Nat} {env : Sl} {M : Mem} {Q : PK} {E : EK} {vs : List Nat} {tl : QT} {tt : QB} {te : QT} : qLcEnL i j vs tl tt te env M Q E = tl env M (fun x M1 => @lcEnL (sqA M1 x) vs i j tt te env M1 ⟨Q⟩) E := rfl
theorem lcEnL_of {xs : List PV} {i j : Nat} {env : Sl} {M : Mem} {vs : List Nat} {tt : QB} {te : QT} {Q : Box PK} (r : PV → Option PV) (hn : xs.length ≤ 100000) (h : ∀ k x, xs[k]? = some x → ∀ M2, MExt M M2 → lcEl tt te (((wipeQ env vs).set i (some (.int (k : Nat)))).set j (some x)) M2 (r (.tup [.int (k : Nat), x]))) (q : Q.v (.lst ((enumF 0 xs).filterMap r)) M) : @lcEnL (some xs) vs i j tt te env M Q := by
  refine ⟨xs, rfl, by rw [enumF_length]; exact hn, r, fun z hz M2 hM => ?_, q⟩
  obtain ⟨k, hk, rfl⟩ := List.getElem_of_mem hz
  rw [enumF_length] at hk
  have h1 := List.getElem?_eq_getElem hk
  have h2 := enumF_get xs 0 k h1
  rw [Nat.zero_add] at h2
  have h3 := (List.getElem?_eq_some_iff.mp h2).2
  rw [h3]
  exact ⟨_, rfl, h k _ h1 M2 hM⟩
end TN

/-! texts: joined, cut, written otherwise; tuples one behind the other -/
namespace TQ
open PySem PySem.Spec PyProof.Rows L2
section
variable {K : PySem.W.Frag} {G : Hp}
theorem reps_strs : ∀ {ys : List Str} {vs : List V}, Reps K G (ys.map PV.str) vs → vs = ys.map V.str
  | [], _, h => h
  | y :: ys, _, h => by
    obtain ⟨v, ws, rfl, h1, h2⟩ := h
    cases h1
    rw [reps_strs h2]
    rfl
theorem strs_reps : ∀ (ys : List Str), Reps K G (ys.map PV.str) (ys.map V.str)
  | [] => Reps.nil
  | y :: ys => Reps.cons rfl (strs_reps ys)
end
section
variable {X : Cx} {W : WX} {pos : Pos}
def bAddT : F2 := fun x y M Q => ∃ xs ys, x = .tup xs ∧ y = .tup ys ∧ xs ≠ [] ∧ xs.length + ys.length ≤ sizeLine ∧ Q (.tup (xs ++ ys)) M
theorem oq_addT : OpQ X (binaryOp .Add) bAddT := by
  intro pins s σ H a b v u Q I ra rb ⟨x, y, M, G, Q0, rx, ry, w, ⟨xs, ys, e1, e2, hn, hz, q⟩, L⟩
  subst e1 e2
  obtain ⟨p1, vs, rfl, h1, r1⟩ := rx
  obtain ⟨p2, ws, rfl, h2, r2⟩ := ry
  have l1 := r1.length
  have l2 := r2.length
  refine op_catT pins s σ H _ _ v u Q I ra rb ⟨p1, p2, vs, ws, rfl, rfl, ext_t w.sub h1, ext_t w.sub h2, fun e => ?_, by omega, fun e => ?_, fun _ p hp => give_tup L w hp (r1.append r2) q⟩
  · rw [e] at l1
    exact hn (List.length_eq_zero_iff.mp l1)
  · rw [e] at l2
    have : ys = [] := List.length_eq_zero_iff.mp l2
    rw [this, List.append_nil] at q
    exact give L w (x := .tup xs) ⟨p1, vs, rfl, h1, r1⟩ q
/-! ### methods of texts -/
/-- a text's method without arguments, with one, with two -/
def qT0 (f : Str → Mem → PK → Prop) (to : QT) : QT := fun env M Q E => to env M (fun x M1 => ∃ a, x = .str a ∧ f a M1 Q) E
def qT1 (f : Str → PV → Mem → PK → Prop) (to te : QT) : QT := fun env M Q E => to env M (fun x M1 => (∃ a, x = .str a) ∧ te env M1 (fun y M2 => ∃ a, x = .str a ∧ f a y M2 Q) E) E
theorem qe_t0 {o : Expr} {to : QT} {apos : Pos} {name : Str} {id : String} {r : V → List V → Hp → VK → Prop} {f : Str → Mem → PK → Prop} (slot : Slot "str" name id) (ty : typeOf (.builtin id) = pure (.type "method_descriptor")) (rule : MtR X id r)
    (hf : ∀ a M H G Q0 Q, Wf X.K M H G → LiftV X.K G Q0 Q → f a M Q0 → r (.str a) [] H Q)
    (ho : QE X W o to) (hbase : attributeBase o name X.env (eval o X.env) = eval o X.env := by rfl) (hline : (apos.endLine == pos.line) = true := by rfl) :
    QE X W (.Call (.Attribute o name apos) [] [] pos) (qT0 f to) :=
  (pe_m0 slot ty rule ho hbase hline).imp fun σ H Q ⟨env, M, G, Q0, E0, S, q, L, LE⟩ => by
    refine ⟨env, M, G, _, E0, S, q, fun x M1 v H1 G1 e1 w1 r1 q1 => ?_, LE⟩
    obtain ⟨a, rfl, q1⟩ := q1
    cases r1
    exact ⟨⟨a, rfl⟩, hf a M1 H1 G1 Q0 Q w1 (L.mono e1) q1⟩
theorem qe_t1 {o e : Expr} {to te : QT} {apos : Pos} {name : Str} {id : String} {r : V → List V → Hp → VK → Prop} {f : Str → PV → Mem → PK → Prop} (slot : Slot "str" name id) (ty : typeOf (.builtin id) = pure (.type "method_descriptor")) (rule : MtR X id r)
    (hf : ∀ a y M H G Q0 Q v, Wf X.K M H G → Rep X.K G y v → LiftV X.K G Q0 Q → f a y M Q0 → r (.str a) [v] H Q)
    (ho : QE X W o to) (he : QE X W e te) (hs : starEach [e] X.env = [(false, eval e X.env)] := by rfl) (hbase : attributeBase o name X.env (eval o X.env) = eval o X.env := by rfl) (hline : (apos.endLine == pos.line) = true := by rfl) :
    QE X W (.Call (.Attribute o name apos) [e] [] pos) (qT1 f to te) :=
  (pe_m1 slot ty rule ho he hs hbase hline).imp fun σ H Q ⟨env, M, G, Q0, E0, S, q, L, LE⟩ => by
    refine ⟨env, M, G, _, E0, S, q, fun x M1 v H1 G1 e1 w1 r1 q1 => ?_, LE⟩
    obtain ⟨⟨a, rfl⟩, q1⟩ := q1
    cases r1
    refine ⟨⟨a, rfl⟩, env, M1, G1, _, E0, S.to e1 w1, q1, fun y M2 u H2 G2 e2 w2 r2 q2 => ?_, LE.mono e1⟩
    obtain ⟨a', ea, q2⟩ := q2
    cases ea
    exact hf a y M2 H2 G2 Q0 Q u w2 r2 (L.mono (e1.trans e2)) q2
/-- sep.join(texts) -/
def joinF (a : Str) (y : PV) (M : Mem) (Q : PK) : Prop := ∃ ys : List Str, sq M y = some (ys.map PV.str) ∧ (ys.map (·.length)).sum + ys.length * a.length ≤ 16777216 ∧ Q (.str (Txt.join a ys)) M
theorem qe_join {o e : Expr} {to te : QT} {apos : Pos} (ho : QE X W o to) (he : QE X W e te) (hs : starEach [e] X.env = [(false, eval e X.env)] := by rfl) (hbase : attributeBase o "join" X.env (eval o X.env) = eval o X.env := by rfl) (hline : (apos.endLine == pos.line) = true := by rfl) :
    QE X W (.Call (.Attribute o "join" apos) [e] [] pos) (qT1 joinF to te) :=
  qe_t1 PySem.F.slot_str_join PySem.F.type_str_join mt_join (fun a y M H G Q0 Q v w ry L ⟨ys, hy, hz, q⟩ => by
    obtain ⟨p, vs, rfl, h1, r1⟩ := sq_H hy ry w
    rw [reps_strs r1] at h1
    exact ⟨a, p, ys, rfl, rfl, .inl (SqL.of h1), hz, give L w (x := .str _) rfl q⟩) ho he hs hbase hline
/-- lower, upper -/
def lowF (a : Str) (M : Mem) (Q : PK) : Prop := a.length ≤ 5592405 ∧ Q (.str (Txt.lower a)) M
def uppF (a : Str) (M : Mem) (Q : PK) : Prop := a.length ≤ 5592405 ∧ Q (.str (Txt.upper a)) M
theorem qe_lower {o : Expr} {to : QT} {apos : Pos} (ho : QE X W o to) (hbase : attributeBase o "lower" X.env (eval o X.env) = eval o X.env := by rfl) (hline : (apos.endLine == pos.line) = true := by rfl) :
    QE X W (.Call (.Attribute o "lower" apos) [] [] pos) (qT0 lowF to) :=
  qe_t0 PySem.F.slot_str_lower PySem.F.type_str_lower mt_lower (fun a M H G Q0 Q w L ⟨hz, q⟩ => ⟨a, rfl, rfl, hz, give L w (x := .str _) rfl q⟩) ho hbase hline
theorem qe_upper {o : Expr} {to : QT} {apos : Pos} (ho : QE X W o to) (hbase : attributeBase o "upper" X.env (eval o X.env) = eval o X.env := by rfl) (hline : (apos.endLine == pos.line) = true := by rfl) :
    QE X W (.Call (.Attribute o "upper" apos) [] [] pos) (qT0 uppF to) :=
  qe_t0 PySem.F.slot_str_upper PySem.F.type_str_upper mt_upper (fun a M H G Q0 Q w L ⟨hz, q⟩ => ⟨a, rfl, rfl, hz, give L w (x := .str _) rfl q⟩) ho hbase hline
/-- strip(signs), lstrip(signs), find(text), zfill(n), partition(text), split(text) -/
def stripF (a : Str) (y : PV) (M : Mem) (Q : PK) : Prop := ∃ b, y = .str b ∧ a.length ≤ sizeLine ∧ Q (.str (Txt.stripChars a b)) M
def lstripF (a : Str) (y : PV) (M : Mem) (Q : PK) : Prop := ∃ b, y = .str b ∧ a.length ≤ sizeLine ∧ Q (.str (Txt.lstripChars a b)) M
def findF (a : Str) (y : PV) (M : Mem) (Q : PK) : Prop := ∃ b, y = .str b ∧ Q (.int (Txt.find a b)) M
def zfillF (a : Str) (y : PV) (M : Mem) (Q : PK) : Prop := ∃ i, y = .int i ∧ PadOk i = true ∧ Q (.str (Txt.zfill a i)) M
def partF (a : Str) (y : PV) (M : Mem) (Q : PK) : Prop := ∃ b, y = .str b ∧ (b.length == 0) = false ∧ a.length ≤ sizeLine ∧ Q (.tup [.str (Txt.partition a b).1, .str (Txt.partition a b).2.1, .str (Txt.partition a b).2.2]) M
def splitF (a : Str) (y : PV) (M : Mem) (Q : PK) : Prop := ∃ b, y = .str b ∧ (b.length == 0) = false ∧ a.length + 2 ≤ sizeLine ∧ Q (.lst ((Txt.split a b).map PV.str)) M
theorem qe_strip1 {o e : Expr} {to te : QT} {apos : Pos} (ho : QE X W o to) (he : QE X W e te) (hs : starEach [e] X.env = [(false, eval e X.env)] := by rfl) (hbase : attributeBase o "strip" X.env (eval o X.env) = eval o X.env := by rfl) (hline : (apos.endLine == pos.line) = true := by rfl) :
    QE X W (.Call (.Attribute o "strip" apos) [e] [] pos) (qT1 stripF to te) :=
  qe_t1 PySem.F.slot_str_strip PySem.F.type_str_strip mt_stripChars (fun a y M H G Q0 Q v w ry L ⟨b, ey, hz, q⟩ => by
    subst ey
    cases ry
    exact ⟨a, b, rfl, rfl, hz, give L w (x := .str _) rfl q⟩) ho he hs hbase hline
theorem qe_lstrip1 {o e : Expr} {to te : QT} {apos : Pos} (ho : QE X W o to) (he : QE X W e te) (hs : starEach [e] X.env = [(false, eval e X.env)] := by rfl) (hbase : attributeBase o "lstrip" X.env (eval o X.env) = eval o X.env := by rfl) (hline : (apos.endLine == pos.line) = true := by rfl) :
    QE X W (.Call (.Attribute o "lstrip" apos) [e] [] pos) (qT1 lstripF to te) :=
  qe_t1 PySem.F.slot_str_lstrip PySem.F.type_str_lstrip mt_lstripChars (fun a y M H G Q0 Q v w ry L ⟨b, ey, hz, q⟩ => by
    subst ey
    cases ry
    exact ⟨a, b, rfl, rfl, hz, give L w (x := .str _) rfl q⟩) ho he hs hbase hline
theorem qe_find {o e : Expr} {to te : QT} {apos : Pos} (ho : QE X W o to) (he : QE X W e te) (hs : starEach [e] X.env = [(false, eval e X.env)] := by rfl) (hbase : attributeBase o "find" X.env (eval o X.env) = eval o X.env := by rfl) (hline : (apos.endLine == pos.line) = true := by rfl) :
    QE X W (.Call (.Attribute o "find" apos) [e] [] pos) (qT1 findF to te) :=
  qe_t1 PySem.F.slot_str_find PySem.F.type_str_find mt_find (fun a y M H G Q0 Q v w ry L ⟨b, ey, q⟩ => by
    subst ey
    cases ry
    exact ⟨a, b, rfl, rfl, give L w (x := .int _) rfl q⟩) ho he hs hbase hline
theorem qe_zfill {o e : Expr} {to te : QT} {apos : Pos} (ho : QE X W o to) (he : QE X W e te) (hs : starEach [e] X.env = [(false, eval e X.env)] := by rfl) (hbase : attributeBase o "zfill" X.env (eval o X.env) = eval o X.env := by rfl) (hline : (apos.endLine == pos.line) = true := by rfl) :
    QE X W (.Call (.Attribute o "zfill" apos) [e] [] pos) (qT1 zfillF to te) :=
  qe_t1 PySem.F.slot_str_zfill PySem.F.type_str_zfill mt_zfill (fun a y M H G Q0 Q v w ry L ⟨b, ey, hz, q⟩ => by
    subst ey
    cases ry
    exact ⟨a, b, rfl, rfl, hz, give L w (x := .str _) rfl q⟩) ho he hs hbase hline
theorem qe_partition {o e : Expr} {to te : QT} {apos : Pos} (ho : QE X W o to) (he : QE X W e te) (hs : starEach [e] X.env = [(false, eval e X.env)] := by rfl) (hbase : attributeBase o "partition" X.env (eval o X.env) = eval o X.env := by rfl) (hline : (apos.endLine == pos.line) = true := by rfl) :
    QE X W (.Call (.Attribute o "partition" apos) [e] [] pos) (qT1 partF to te) :=
  qe_t1 PySem.F.slot_str_partition PySem.F.type_str_partition mt_partition (fun a y M H G Q0 Q v w ry L ⟨b, ey, hb, hz, q⟩ => by
    subst ey
    cases ry
    exact ⟨a, b, rfl, rfl, hb, hz, fun p hp => give_tup L w hp (strs_reps [_, _, _]) q⟩) ho he hs hbase hline
theorem qe_split {o e : Expr} {to te : QT} {apos : Pos} (ho : QE X W o to) (he : QE X W e te) (hs : starEach [e] X.env = [(false, eval e X.env)] := by rfl) (hbase : attributeBase o "split" X.env (eval o X.env) = eval o X.env := by rfl) (hline : (apos.endLine == pos.line) = true := by rfl) :
    QE X W (.Call (.Attribute o "split" apos) [e] [] pos) (qT1 splitF to te) :=
  qe_t1 PySem.F.slot_str_split PySem.F.type_str_split mt_split (fun a y M H G Q0 Q v w ry L ⟨b, ey, hb, hz, q⟩ => by
    subst ey
    cases ry
    exact ⟨a, b, rfl, rfl, hb, hz, fun p hp => give_lst L w hp (strs_reps _) q⟩) ho he hs hbase hline
end
end TQ
namespace TN
open PySem PySem.Spec PyProof.Rows L2 TQ TM
section
variable {env : Sl} {M : Mem} {Q : PK} {E : EK} {x y : PV} {xs ys : List PV} {a b : Str} {i : Int}
theorem e_bAddT : bAddT (.tup xs) (.tup ys) M Q = (xs ≠ [] ∧ xs.length + ys.length ≤ sizeLine ∧ Q (.tup (xs ++ ys)) M) :=
  propext ⟨fun ⟨_, _, e1, e2, h⟩ => by cases e1; cases e2; exact h, fun h => ⟨_, _, rfl, rfl, h⟩⟩
def txP (x : PV) (f : Str → Prop) : Prop := ∃ a, x = .str a ∧ f a
theorem txP_s {f : Str → Prop} : txP (.str a) f = f a := propext ⟨fun ⟨_, e, h⟩ => by cases e; exact h, fun h => ⟨_, rfl, h⟩⟩
theorem e_qT0 {f : Str → Mem → PK → Prop} {to : QT} : qT0 f to env M Q E = to env M (fun x M1 => txP x fun a => f a M1 Q) E := rfl
theorem e_qT1 {f : Str → PV → Mem → PK → Prop} {to te : QT} : qT1 f to te env M Q E = to env M (fun x M1 => txP x fun _ => te env M1 (fun y M2 => txP x fun a => f a y M2 Q) E) E := by
  unfold qT1 txP
  congr 1
  funext x M1
  exact propext ⟨fun ⟨⟨a, e⟩, h⟩ => ⟨a, e, h⟩, fun ⟨a, e, h⟩ => ⟨⟨a, e⟩, h⟩⟩
theorem e_joinF : joinF a y M Q = ∃ ys : List Str, sq M y = some (ys.map PV.str) ∧ (ys.map (·.length)).sum + ys.length * a.length ≤ 16777216 ∧ Q (.str (Txt.join a ys)) M := rfl
theorem join_of (zs : List Str) (h : sq M y = some (zs.map PV.str)) (hz : (zs.map (·.length)).sum + zs.length * a.length ≤ 16777216) (q : Q (.str (Txt.join a zs)) M) : joinF a y M Q := ⟨zs, h, hz, q⟩
theorem e_lowF : lowF a M Q = (a.length ≤ 5592405 ∧ Q (.str (Txt.lower a)) M) := rfl
theorem e_uppF : uppF a M Q = (a.length ≤ 5592405 ∧ Q (.str (Txt.upper a)) M) := rfl
theorem e_stripF : stripF a (.str b) M Q = (a.length ≤ sizeLine ∧ Q (.str (Txt.stripChars a b)) M) := propext ⟨fun ⟨_, e, h⟩ => by cases e; exact h, fun h => ⟨_, rfl, h⟩⟩
theorem e_lstripF : lstripF a (.str b) M Q = (a.length ≤ sizeLine ∧ Q (.str (Txt.lstripChars a b)) M) := propext ⟨fun ⟨_, e, h⟩ => by cases e; exact h, fun h => ⟨_, rfl, h⟩⟩
theorem e_findF : findF a (.str b) M Q = Q (.int (Txt.find a b)) M := propext ⟨fun ⟨_, e, h⟩ => by cases e; exact h, fun h => ⟨_, rfl, h⟩⟩
theorem e_zfillF : zfillF a (.int i) M Q = (PadOk i = true ∧ Q (.str (Txt.zfill a i)) M) := propext ⟨fun ⟨_, e, h⟩ => by cases e; exact h, fun h => ⟨_, rfl, h⟩⟩
theorem e_partF : partF a (.str b) M Q = ((b.length == 0) = false ∧ a.length ≤ sizeLine ∧ Q (.tup [.str (Txt.partition a b).1, .str (Txt.partition a b).2.1, .str (Txt.partition a b).2.2]) M) := propext ⟨fun ⟨_, e, h⟩ => by cases e; exact h, fun h => ⟨_, rfl, h⟩⟩
theorem e_splitF : splitF a (.str b) M Q = ((b.length == 0) = false ∧ a.length + 2 ≤ sizeLine ∧ Q (.lst ((Txt.split a b).map PV.str)) M) := propext ⟨fun ⟨_, e, h⟩ => by cases e; exact h, fun h => ⟨_, rfl, h⟩⟩
end
end TN

/-! a caught error, kept in another name -/
namespace TC
open PySem PySem.Spec PyProof.Rows L2
/-- what stands untracked, and was new since the entry, may be tracked -/
theorem track {X : Cx} {pins : List (Addr × Obj)} {σ : L2.St} {H : Hp} {s : Shared} {a : Addr} {φ : Heap → Prop} (I : Inv X pins σ H s) (n0 : X.s_0.heap.get? a = none) (hn : H a = none) (nL : a ≠ X.env.locals) (nC : ∀ x c, X.env.cells.lookup x = some c → c ≠ a)
    (np : ∀ p ∈ X.pn ++ pins, p.1 ≠ a) (ok : ObjOk X.prog X.w (upd H a (.ext φ)) s.heap a (.ext φ)) : Inv X pins σ (upd H a (.ext φ)) s := by
  refine ⟨I.ok, I.os, I.bare, ⟨I.base.keep, I.base.slot, fun b o e n hx => ?_, I.base.there, fun b xs e => ?_, fun b o u e => ?_, fun b ps e => ?_⟩, I.loc, I.cell, ?_, fun x c e => ?_, fun p hp => ?_, I.hok.laidN (fun _ _ q => q) hn ok, I.len⟩
  · rw [upd_ne (by rintro rfl; rw [n0] at e; cases e)]
    exact I.base.free b o e n hx
  · have q := I.base.tups b xs e
    rw [upd_ne (ne_of_none q hn)]
    exact q
  · have q := I.base.frzs b o u e
    rw [upd_ne (ne_of_none q hn)]
    exact q
  · obtain ⟨m, q⟩ := I.base.tbls b ps e
    exact ⟨m, by rw [upd_ne (ne_of_none q hn)]; exact q⟩
  · rw [upd_ne nL.symm]
    exact I.free
  · rw [upd_ne (nC x c e)]
    exact I.freeC x c e
  · obtain ⟨h1, h2, h3⟩ := I.pin p hp
    exact ⟨h1, by rw [upd_ne (np p hp)]; exact h2, h3⟩
def wKeep (K : PySem.W.Frag) (c : Value) (i : Nat) (ts : Addr → Value → Option Addr → TS) (Wout : WX) (D : Ends) : WX := fun cls d σ H =>
  ∃ b, PySem.W.exmOne K cls c = some b ∧ (b = true → ∀ a, H a = none → ts a cls d { nx := fun σ' H' => H' a = none → D.nx (σ'.set i none) (upd H' a (TQ.ExV cls d a)), rt := fun _ _ => False, bk := fun _ _ => False, ct := fun _ _ => False } (σ.set i (some (.ref a))) H) ∧
    (b = false → Wout cls d σ H)
section
variable {X : Cx} {x n : Str} {c : Value} {i : Nat} {body suite : List Stmt} {b₀ : Stmt} {np pos pos' : Pos} {tb : WX → TS} {ts : Addr → Value → Option Addr → TS} {Wout : WX}
theorem try_keep (hex : X.ex = []) (hs : X.stack = X.env :: X.outer) (hf : X.env.frame = some X.env.locals) (hN : X.N.Nodup) (hi : X.N[i]? = some n) (hln : X.env.kindOf n = some .local) (hc : Names X x c) (tk : L2N.Takes X Wout)
    (hb : ∀ (W : WX) (pn : List (Addr × Obj)) (xe : Value → Shared → Prop), L2N.Takes (X.tr pn xe) W → PassesOwn (model X.prog X.w) X.A X.env xe → PSs (X.tr pn xe) body (tb W))
    (hsu : ∀ (a : Addr) (oe : Obj) (cls : Value) (d : Option Addr) (pn : List (Addr × Obj)), L2N.Zn cls d oe → (∃ vs, oe.data = .fields vs) → PSs (X.suite a ((a, oe) :: pn)) (b₀ :: suite) (ts a cls d)) :
    PS X (.Try body [.ExceptHandler (some (.Name x np)) (some n) (b₀ :: suite) pos'] [] [] pos) (fun D σ H => tb (wKeep X.K c i ts Wout D) D σ H) := by
  refine ⟨fun pins s σ H D I h => ?_⟩
  have ok := I.ok
  have hfr : X.A.frames = some (X.env :: X.outer) := by rw [ok.frames, hs]
  have hloc : Loc X.env.scope n := .inl hln
  refine wpAny_Try_except ?_
  refine wpAny_mono ((hb (wKeep X.K c i ts Wout D) (X.pn ++ pins) (fun e s₁ => wpAny (model X.prog X.w) X.A (noteFrame e X.env) (fun _ s₂ => wpAny (model X.prog X.w) X.A (setFlight e none) (fun _ s₃ =>
    wpAny (model X.prog X.w) X.A (handleBy e X.env [.ExceptHandler (some (.Name x np)) (some n) (b₀ :: suite) pos']) (SP X pins D) X.xe s₃) X.xe s₂) X.xe s₁) (fun u s' xx => ?_) PassesOwn.looking).run [] s σ H D (I.toTry _) h) (fun f s1 hsp => ?_) (fun e s1 he => he)
  · -- the catch
    obtain ⟨a, B, sI, pins', σ', H', cls, d, rfl, J', nb, up, sky, na, os, ag, b, hb1, hyes, hno⟩ := xx
    have J : Inv X pins σ' H' sI := J'.ofTry ok
    have sky' : Sky B (X.env :: X.outer) a (L2N.Zn cls d) X.env.locals s'.heap := by rw [← hs]; exact sky
    show wpAny (model X.prog X.w) X.A (noteFrame (.ref a) X.env) _ _ _
    refine L2N.Sky.land L2N.Zn.steady hfr hf sky' fun g3 fy3 us3 => ?_
    have J3 : Inv X pins σ' H' { s' with heap := g3 } := J.landed nb fy3.1 (up.trans us3) os ag
    obtain ⟨ob3, ws3, eo3, zo3, do3⟩ := fy3.there
    have notFr : ∀ {h : Heap} {o : Obj} {vs : Array Value}, h.FunFrames B (X.env :: X.outer) → h.get? a = some o → o.data = .fields vs → a ∉ frs (X.env :: X.outer) := fun {h o vs} ff e dd hm => by
      obtain ⟨_, o', e', hnf⟩ := ff.mem hm
      rw [e] at e'; cases e'
      exact hnf _ dd
    have nfr := notFr fy3.2.2.1 eo3 do3
    have nL : a ≠ X.env.locals := fun z => nfr (List.mem_filterMap.mpr ⟨X.env, List.mem_cons_self, by rw [hf, z]⟩)
    have nF : a ∉ X.fs := fun hm => by
      obtain ⟨e, he, q⟩ := List.mem_filterMap.mp hm
      exact nfr (List.mem_filterMap.mpr ⟨e, List.mem_cons_of_mem _ he, q⟩)
    have nI : sI.heap.get? a = none := by
      cases q : sI.heap.get? a with
      | none => rfl
      | some o =>
        have := nb a o q (by rw [hs]; exact nfr)
        rw [fy3.2.1] at this
        cases this
    have n0 : X.s_0.heap.get? a = none := by
      cases q : X.s_0.heap.get? a with
      | none => rfl
      | some o =>
        obtain ⟨o', q'⟩ := J.base.there a o q (by rw [hex]; exact fun z => nomatch z)
        rw [nI] at q'
        cases q'
    have S3 := J3.suite eo3 do3 na nL nF
    refine wpAny_handleBy_cons (codeAny_handlers_test ?_) (by intro q; cases q)
    have LT : PySem.W.Looks (model X.prog X.w) g3 (typeOf (.ref a)) cls := fun A Q E s k q => wpAny_typeOf_ref (k _ _ eo3) (by rw [zo3.1]; exact q)
    have LM := PySem.W.exm_one (M := model X.prog X.w) (J3.kIn) LT hb1
    have test : ∀ {Q : Value → Shared → Prop} {E : Value → Shared → Prop}, Q c { s' with heap := g3 } → wpAny (model X.prog X.w) (X.A.mark (some (.ref a))) (eval (.Name x np) X.env) Q E { s' with heap := g3 } := fun {Q E} q => by
      obtain ⟨hg, hdbg, hm | ⟨hm, hv, hnn⟩⟩ := hc
      · exact ld_glob (X := X.suite a ((a, ob3) :: (X.pn ++ pins))) S3 hg hm q hdbg
      · exact ld_blt (X := X.suite a ((a, ob3) :: (X.pn ++ pins))) S3 hg hm hv q hnn hdbg
    refine test (LM.here ?_)
    cases b with
    | true =>
      refine codeAny_handlers_suite_as ?_
      refine HandSPX.lands_againZ fy3 fun g4 fy4 us4 => ?_
      have J4 : Inv X pins σ' H' { s' with heap := g4 } := J.landed nb fy4.1 ((up.trans us3).trans us4) os ag
      obtain ⟨ob4, ws4, eo4, zo4, do4⟩ := fy4.there
      have S4 := J4.suite eo4 do4 na nL nF
      refine store_ok (X := X.suite a ((a, ob4) :: (X.pn ++ pins))) (v := .ref a) S4 hN hi hloc rfl (fun s5 S5 => ?_) (.inr hln)
      refine wpAny_mono ((hsu a ob4 cls d (X.pn ++ pins) zo4 ⟨_, do4⟩).run [] s5 _ H' _ S5 (hyes rfl a na)) (fun f s6 hsp => ?_) (fun _ _ z => False.elim z)
      cases f with
      | next =>
        obtain ⟨σ6, H6, S6, q6⟩ := hsp
        obtain ⟨g6, h6, _, _, nc6⟩ := S6.pin (a, ob4) (List.mem_append_left _ List.mem_cons_self)
        have U6 : Inv X pins σ6 H6 s6 := S6.unsuite ok
        have T6 : Inv X pins σ6 (upd H6 a (TQ.ExV cls d a)) s6 := track U6 n0 h6 nL (fun y cc e z => by
          obtain ⟨v, o, ho, hd⟩ := U6.cell y cc e
          rw [z, g6] at ho
          cases ho
          exact nc6 v hd) (fun p hp z => by
          have := (J.pin p hp).1
          rw [z, nI] at this
          cases this) ⟨⟨ob4, ws4, g6, zo4, do4⟩, ⟨_, g6⟩, fun h1 h2 ⟨o, v, q, r⟩ k => ⟨o, v, k o q, r⟩⟩
        exact gone_ok T6 hN hi hln fun s7 J7 => ⟨_, _, J7, q6 h6⟩
      | brk =>
        obtain ⟨σ6, H6, S6, q6⟩ := hsp
        exact q6.elim
      | cont =>
        obtain ⟨σ6, H6, S6, q6⟩ := hsp
        exact q6.elim
      | ret u =>
        obtain ⟨v6, σ6, H6, S6, r6, q6⟩ := hsp
        exact q6.elim
    | false =>
      show wpAny _ X.A (handleBy (.ref a) X.env []) _ _ _
      refine wpAny_handleBy_nil ?_
      obtain ⟨k1, k2, k3, oe, vs, T, oT, ts', he, hz, hd, h1, hr⟩ := id fy3
      unfold PySem.passOn
      refine wpAny_bind (wpAny_field he hd h1 ?_)
      rw [if_neg (show ¬ ((Value.ref T == Value.none) = true) from by simp)]
      have fin : wpAny (model X.prog X.w) X.A (setFlight (.ref a) X.env.frame) (fun _ s4 => wpAny (model X.prog X.w) X.A (throw (.ref a) : Sem Flow) (SP X pins D) X.xe s4) X.xe { s' with heap := g3 } := by
        rw [hf]
        refine HandSPX.setFlight_upZ fy3 fun g4 hh4 us4 => wpAny_throw (tk _ _ ?_)
        exact ⟨a, B, sI, pins, σ', H', cls, d, rfl, J, nb, (up.trans us3).trans us4, .inr (.inr (by rw [hs]; exact hh4)), na, os, ag, hno rfl⟩
      first
        | exact wpAny_bind (wpAny_pure (wpAny_bind fin))
        | exact wpAny_bind fin
  · cases f with
    | next =>
      obtain ⟨σ', H', J', q⟩ := hsp
      exact wpAny_execs_nil ⟨σ', H', J'.ofTry ok, q⟩
    | brk =>
      obtain ⟨σ', H', J', q⟩ := hsp
      exact ⟨σ', H', J'.ofTry ok, q⟩
    | cont =>
      obtain ⟨σ', H', J', q⟩ := hsp
      exact ⟨σ', H', J'.ofTry ok, q⟩
    | ret u =>
      obtain ⟨v, σ', H', J', r, q⟩ := hsp
      exact ⟨v, σ', H', J'.ofTry ok, r, q⟩
end
end TC
namespace TQ
open PySem PySem.Spec PyProof.Rows L2
section
variable {X : Cx}
/-- try: .. except C as n: m = n -/
def sTryKeep (K : PySem.W.Frag) (i j : Nat) (c : Value) (tb : QS) : QS := fun De env M =>
  tb { De with ex := fun cls pl env' M' => ∃ b, PySem.W.exmOne K cls c = some b ∧
    (b = true → i < env'.length ∧ ∃ D, cls = .ref D ∧ ∀ a d, M' a = none → pl.isSome = d.isSome → De.nx ((env'.set j (some (.eo a D d (pl.getD .non)))).set i none) M') ∧
    (b = false → De.ex cls pl env' M') } env M
theorem qs_tryKeep {x n : Str} {c : Value} {i j : Nat} {body suite : List Stmt} {b₀ : Stmt} {np pos pos' : Pos} {tb : QS} {W : WX} (hij : i ≠ j) (hex : X.ex = []) (hs : X.stack = X.env :: X.outer) (hf : X.env.frame = some X.env.locals) (hN : X.N.Nodup) (hi : X.N[i]? = some n) (hln : X.env.kindOf n = some .local) (hc : Names X x c) (tk : L2N.Takes X W)
    (hb : ∀ (W : WX) (pn : List (Addr × Obj)) (xe : Value → Shared → Prop), L2N.Takes (X.tr pn xe) W → PassesOwn (model X.prog X.w) X.A X.env xe → QPSs (X.tr pn xe) W body tb)
    (hsu : ∀ (a : Addr) (oe : Obj) (pn : List (Addr × Obj)), QPSs (X.suite a ((a, oe) :: pn)) W0 (b₀ :: suite) (sAsg (qVar i) (gNm j))) :
    QPS X W (.Try body [.ExceptHandler (some (.Name x np)) (some n) (b₀ :: suite) pos'] [] [] pos) (sTryKeep X.K i j c tb) :=
  (TC.try_keep (tb := fun W => tieS X.K W tb) (ts := fun a cls d => tieS X.K W0 (sAsg (qVar i) (gNm j))) hex hs hf hN hi hln hc tk (fun W pn xe tk po => hb W pn xe tk po) (fun a oe cls d pn hz hv => hsu a oe pn)).imp fun De σ H ⟨env, M, G, D0, S, q, L⟩ => by
    refine ⟨env, M, G, _, S, q, ⟨L.nx, L.rt, L.bk, L.ct, fun cls pl env' M' d σ' H' G' e1 S1 xr q1 => ?_⟩⟩
    obtain ⟨b, hb1, h1, h2⟩ := q1
    refine ⟨b, hb1, fun hb2 a ha => ?_, fun hb2 => L.ex cls pl env' M' d σ' H' G' e1 S1 xr (h2 hb2)⟩
    obtain ⟨hlen, D, rfl, h3⟩ := h1 hb2
    have hpl : pl.isSome = d.isSome := by
      cases pl with
      | none => obtain rfl : d = none := xr; rfl
      | some y => obtain ⟨dd, v, rfl, _⟩ := xr; rfl
    refine ⟨env'.set i (some (.ref a)), M', G', { nx := fun e m => m = M' ∧ e = (env'.set i (some (.ref a))).set j (some (.ref a)), rt := fun _ _ => False }, S1.set (i := i) (x := .ref a) (v := .ref a) rfl, ?_, ⟨?_, fun _ _ _ _ _ _ _ _ z => z.elim, fun _ _ _ _ _ _ _ z => z.elim, fun _ _ _ _ _ _ _ z => z.elim, fun _ _ _ _ _ _ _ _ _ _ _ z => z.elim⟩⟩
    · show ∃ y, (env'.set i (some (.ref a)))[i]? = some (some y) ∧ (M' = M' ∧ (env'.set i (some (.ref a))).set j (some y) = (env'.set i (some (.ref a))).set j (some (.ref a)))
      exact ⟨.ref a, by rw [List.getElem?_set_self hlen], rfl, rfl⟩
    · rintro env2 M2 σ2 H2 G2 e2 S2 ⟨rfl, rfl⟩ hn
      have hg2 := S2.wf.free hn
      have e3 : Ext G2 (upd G2 a (ExV (.ref D) d a)) := Ext.new hg2
      refine L.nx _ M2 _ _ _ (e1.trans (e2.trans e3)) ⟨⟨?_, fun k y hk => ?_⟩, S2.wf.newG hn (fun ps z => by cases z)⟩ (h3 a d (S1.wf.freeM ha) hpl)
      · have := S2.env.len
        simpa using this
      · by_cases hki : i = k
        · subst hki
          rw [List.getElem?_set] at hk
          rw [if_pos rfl] at hk
          split at hk <;> cases hk
        · rw [List.getElem?_set_ne hki] at hk ⊢
          by_cases hkj : j = k
          · subst hkj
            have hj : j < env'.length := by
              rcases Nat.lt_or_ge j env'.length with z | z
              · exact z
              · rw [List.getElem?_eq_none (by rw [List.length_set]; exact z)] at hk; cases hk
            rw [List.getElem?_set_self (by exact hj)] at hk
            cases hk
            obtain ⟨v, h5, h6⟩ := S2.env.get j (.ref a) (by rw [List.getElem?_set_self (by rw [List.length_set]; exact hj)])
            cases h6
            refine ⟨.ref a, h5, rfl, upd_same, fun dd hd => ?_⟩
            subst hd
            cases pl with
            | none => cases hpl
            | some y =>
              obtain ⟨dd', v, e5, hg, rv⟩ := xr
              cases e5
              exact ⟨v, e3 _ _ (e2 _ _ hg), Rep.mono (e2.trans e3) _ _ rv⟩
          · obtain ⟨v, h5, h6⟩ := S2.env.get k y (by rw [List.getElem?_set_ne hkj, List.getElem?_set_ne hki]; rw [List.getElem?_set_ne hkj] at hk; exact hk)
            exact ⟨v, h5, Rep.mono e3 _ _ h6⟩
/-- isinstance(e, c), e such an error -/
def cIsV (K : PySem.W.Frag) : FC := fun xs M Q => ∃ a D d y c u b, xs = [.eo a D d y, c] ∧ ExcC K D ∧ clsP c = some u ∧ PySem.W.kitOne K (.ref D) u = some b ∧ Q (.bl b) M
theorem cq_isV : CallQ X (.builtin "isinstance") (cIsV X.K) := by
  intro pins s σ H vs us Q I r ⟨xs, M, G, Q0, rx, w, q, L⟩
  obtain ⟨a, D, d, y, c, k, b, rfl, Z, h3, h4, q⟩ := q
  obtain ⟨v, u, rfl, r1, r2⟩ := reps2 rx
  obtain ⟨rfl, hg, hdd⟩ := r1
  cases r with
  | cons rv rr => cases rr with
    | cons ru rr =>
      cases rr
      cases rv
      have hk : ∀ x, RelV u x → x = k := fun x hx => by
        cases c with
        | ty n => cases h3; cases r2; exact hx
        | ref C => cases h3; cases r2; exact hx
        | _ => cases h3
      have ec := hk _ ru
      rw [ec]
      clear hk ru ec
      obtain ⟨⟨oe, vs, hget, hz, hv⟩, _, _⟩ := I.hok a _ (w.sub _ _ hg)
      have hcl : (PySem.W.clsIn X.K D).isSome = true := by
        have h := Z.hd
        unfold PySem.W.hasDictIn at h
        cases e : PySem.W.clsIn X.K D with
        | none => rw [e] at h; cases h
        | some cd => rfl
      have fin : ∀ {od}, PySem.W.InstAt s.heap a oe D od → wpAny (model X.prog X.w) X.A (call (.builtin "isinstance") [.ref a, k]) (EP X pins σ Q) X.xe s := fun {od} J =>
        PySem.W.kia_one (PySem.W.kitx_exc hcl Z.hg Z.hk Z.hs Z.ha Z.hn Z.ht Z.hm) I.kIn J h4 (fun z => nomatch z) fun tk => ⟨.bl b, H, I.kept (t' := tk) fun _ _ z => z, rfl, L (.bl b) M _ H G (Ext.refl G) w rfl q⟩
      cases d with
      | none => exact fin (od := none) ⟨hget, hz.1, by unfold PySem.W.notCls; rw [hv] <;> rfl, by rw [hz.2.1] <;> trivial⟩
      | some dd =>
        obtain ⟨z, hg2, _⟩ := hdd dd rfl
        have hx : ObjOk X.prog X.w H s.heap dd (.xd [(("signal" : Str), z)]) := I.hok dd _ (w.sub _ _ hg2)
        obtain ⟨mA, hns, hr⟩ := hx
        obtain ⟨od, ho, _⟩ := lookIn_ns hns
        exact fin (od := some od) ⟨hget, hz.1, by unfold PySem.W.notCls; rw [hv] <;> rfl, by rw [hz.2.1]; exact ho⟩
/-- e.signal, e such an error of class C -/
def qSigV (C : Addr) (te : QT) : QT := fun env M Q E => te env M (fun x M1 => ∃ a d y, x = .eo a C (some d) y ∧ Q y M1) E
theorem qe_sigV {C fI B : Addr} {e : Expr} {te : QT} {pos : Pos} {W : WX} (T : PySem.TrapX.TrapTxt X.K X.mg C fI B) (he : QE X W e te) (hb : attributeBase e "signal" X.env (eval e X.env) = eval e X.env := by rfl) :
    QE X W (.Attribute e "signal" pos) (qSigV C te) := by
  refine ⟨fun pins s σ H Q I ⟨env, M, G, Q0, E0, S, q, L, LE⟩ => ?_⟩
  refine attr_of hb (thn (he.run pins s σ H (fun v H1 => ∃ G1 M1 a d y u, Ext G G1 ∧ Wf X.K M1 H1 G1 ∧ v = .ref a ∧ G1 a = some (ExV (.ref C) (some d) a) ∧ G1 d = some (.xd [(("signal" : Str), u)]) ∧ Rep X.K G1 y u ∧ Q0 y M1) I ⟨env, M, G, _, E0, S, q, fun x M1 v H1 G1 e1 w1 r1 q1 => ?_, LE⟩) fun u s1 hh => ?_)
  · obtain ⟨a, d, y, rfl, q1⟩ := q1
    obtain ⟨rfl, hg, hdd⟩ := r1
    obtain ⟨u, h5, ru⟩ := hdd d rfl
    exact ⟨G1, M1, a, d, y, u, e1, w1, rfl, hg, h5, ru, q1⟩
  · obtain ⟨x, H1, I1, rx, G1, M1, a, d, y, v, e1, w1, rfl, hg0, hg, ry, q1⟩ := hh
    obtain rfl : u = Value.ref a := rx
    have ea := w1.sub _ _ hg
    obtain ⟨⟨oe, vs, ha, hz, hd⟩, _, _⟩ := I1.hok a _ (w1.sub _ _ hg0)
    have hx : ObjOk X.prog X.w H1 s1.heap d (.xd [(("signal" : Str), v)]) := I1.hok d _ ea
    obtain ⟨mA, hns, hr⟩ := hx
    obtain ⟨od, ho, hl⟩ := lookIn_ns hns
    have l : List.lookup ("signal" : Str) [(("signal" : Str), v)] = some v := by simp [List.lookup]
    obtain ⟨u, hu, ru⟩ := RelO.some_of (v := v) (o := mA "signal") (by rw [← l]; exact hr "signal")
    have J : PySem.W.InstAt s1.heap a oe C (some od) := ⟨ha, hz.1, by unfold PySem.W.notCls; rw [hd] <;> rfl, by rw [hz.2.1]; exact ho⟩
    exact HandSPX.exc_get I1.kIn J T.ga T.gg T.exC (PySem.W.findObj_own T.hdC T.noN rfl (by rw [hl, hu])) (handed_of ru) ⟨v, H1, I1.tok _, ru, L y M1 v H1 G1 e1 w1 ry q1⟩
/-! ### written instances, made without arguments, or by keywords alone -/
section
variable {W : WX} {pos : Pos} {h : Bool} {k : Nat} {f C : Addr} {fd : FuncData} {ps ks : List Str} {s : SpQ} {x : Str} {p : Pos} {kws : List Keyword}
theorem qe_makeW0 {dvs : List V} {dps : List PV} (Mk1 : Mk X.K C f) (F : FnX h X.prog X.w X.K X.mg X.base k f fd ps (spQ X.K s)) (hr : L2H.RoomH (k + 1) X.A) (cw : CoolW h X W) (hm : X.mg x = some (.ref C)) (hb : ∃ ds, Vals dvs ds ∧ Binds X.K fd ps ds)
    (hp : ∀ G, Reps X.K G dps dvs) (tk : L2N.Takes X W) (hg : Gl X x := by rfl) (hdb : (x == ("__debug__" : Str)) = false := by decide) :
    QE X W (.Call (.Name x p) [] [] pos) (qMakeW C s dps qNil) := by
  obtain ⟨ds, hd, hb⟩ := hb
  refine ⟨fun pins sh σ H Q I ⟨env, M, G, Q0, E0, S, q, L, LE⟩ => wpAny_Call_Name_kw (ld_glob I hg hm (PySem.W.callWith_K0 I.kIn Mk1.kp ?_) hdb)⟩
  refine run_makeQ (us := []) (vs := []) Mk1 F hr cw hb hd tk I .nil fun y dx ny nd ne => ?_
  have w2 := S.wf.newH (o := .own y) nd
  have n2 : upd H dx (.own y) y = none := by rw [upd_ne ne.symm]; exact ny
  have w3 : Wf X.K (mset M y (.ins C [] [])) (upd (upd H dx (.own y)) y (.ins C dx [])) G := w2.put (w2.free n2) ⟨dx, [], upd_same, Reps.nil⟩
  refine ⟨.ref y :: ([] ++ dps), _, G, _, E0, Reps.cons (x := .ref y) rfl (Reps.nil.append (hp G)), w3, q y (S.wf.freeM ny), fun z M' v H' G' e w r q => ?_, LE⟩
  obtain ⟨rfl, q⟩ := q
  exact ⟨r, L (.ref y) M' _ H' G' e w rfl q⟩
def qMakeWK (C : Addr) (s : SpQ) (m : Nat) (gP : List PV → List PV) (tk : QA) : QT := fun env M Q E => tk env M (fun zs M1 => zs.length = m ∧ ∀ x, M1 x = none → s (.ref x :: gP zs) (mset M1 x (.ins C [] [])) (fun v M2 => v = .non ∧ Q (.ref x) M2) E) E
theorem qe_makeWK {tk : QA} {gP : List PV → List PV} {gv : List V → List V} (Mk1 : Mk X.K C f) (F : FnX h X.prog X.w X.K X.mg X.base k f fd ps (spQ X.K s)) (hr : L2H.RoomH (k + 1) X.A) (cw : CoolW h X W) (hm : X.mg x = some (.ref C)) (hb : ∃ g, KBn X.K fd ps (0 + 1) ks g fun vs zs => vs ++ gv zs)
    (hp : ∀ G zs us, Reps X.K G zs us → Reps X.K G (gP zs) (gv us)) (tk' : L2N.Takes X W) (hkw : QPK X W kws tk) (hg : Gl X x := by rfl)
    (hall : (backToKw pos (keywordEach kws X.env)).all (·.1.isSome) = true := by rfl) (hks : (backToKw pos (keywordEach kws X.env)).filterMap (·.1) = ks := by rfl) (hdb : (x == ("__debug__" : Str)) = false := by decide)
    (hpl : ((backTo pos (starEach [] X.env)).any (·.1) || (backToKw pos (keywordEach kws X.env)).any (·.1.isNone)) = false := by rfl) :
    QE X W (.Call (.Name x p) [] kws pos) (qMakeWK C s ks.length gP tk) := by
  obtain ⟨g, hb⟩ := hb
  refine ⟨fun pins sh σ H Q I ⟨env, M, G, Q0, E0, S, q, L, LE⟩ => wpAny_Call_Name_kw (ld_glob I hg hm ?_ hdb)⟩
  refine PySem.W.callWith_KW0 (h₀ := X.base) I.ok.mod.kin Mk1.kp hall ?_ hpl
  refine thn (hkw.run pos pins sh σ H (fun us H2 => ∃ zs M2 G2, Ext G G2 ∧ Wf X.K M2 H2 G2 ∧ Reps X.K G2 zs us ∧ zs.length = ks.length ∧ ∀ y, M2 y = none → s (.ref y :: gP zs) (mset M2 y (.ins C [] [])) (fun v M3 => v = .non ∧ Q0 (.ref y) M3) E0) I ?_) fun ws s2 ⟨zs', H2, I2, rz, q2⟩ => ⟨I2.kIn, ?_⟩
  · exact ⟨env, M, G, _, E0, S, q, fun zs M2 us H2 G2 e2 w2 r2 q2 => ⟨zs, M2, G2, e2, w2, r2, q2⟩, LE⟩
  · obtain ⟨zs, M2, G2, e2, w2, r2, l2, q2⟩ := q2
    rw [hks]
    refine run_makeK (us := []) (vs := []) (n := 0) Mk1 F hr cw hb tk' I2 .nil rz rfl (by rw [← r2.length]; exact l2) fun y dx ny nd ne => ?_
    have w3 := w2.newH (o := .own y) nd
    have n2 : upd H2 dx (.own y) y = none := by rw [upd_ne ne.symm]; exact ny
    have w4 : Wf X.K (mset M2 y (.ins C [] [])) (upd (upd H2 dx (.own y)) y (.ins C dx [])) G2 := w3.put (w3.free n2) ⟨dx, [], upd_same, Reps.nil⟩
    refine ⟨.ref y :: gP zs, _, G2, _, E0, Reps.cons (x := .ref y) rfl (hp G2 _ _ r2), w4, q2 y (w2.freeM ny), fun z M' v H' G' e w r q => ?_, LE.mono e2⟩
    obtain ⟨rfl, q⟩ := q
    exact ⟨r, L (.ref y) M' _ H' G' (e2.trans e) w rfl q⟩
end
/-- list(a tuple) -/
def cLisT : FC := fun xs M Q => ∃ ys, xs = [.tup ys] ∧ Q (.lst ys) M
theorem cq_listT : CallQ X (.type "list") cLisT := by
  intro pins s σ H vs us Q I r ⟨xs, M, G, Q0, rx, w, q, L⟩
  obtain ⟨ys, rfl, q⟩ := q
  obtain ⟨v, rfl, r1⟩ := reps1 rx
  obtain ⟨p, ws, rfl, h1, r1⟩ := r1
  exact call_list_of pins s σ H _ us Q I r ⟨p, ws, rfl, .inr (ext_t w.sub h1), fun l hl => give_lst L w hl r1 q⟩
/-- list(xs), written later -/
def cLisM : FC := fun xs M Q => ∃ x ys, xs = [x] ∧ sq M x = some ys ∧ ∀ p, M p = none → Q (.ref p) (mset M p (.lst ys))
theorem cq_listM : CallQ X (.type "list") cLisM := by
  intro pins s σ H vs us Q I r ⟨xs, M, G, Q0, rx, w, q, L⟩
  obtain ⟨x, ys, rfl, hx, q⟩ := q
  obtain ⟨v, rfl, r1⟩ := reps1 rx
  obtain ⟨p, ws, rfl, h1, r1⟩ := sq_H hx r1 w
  exact call_list_of pins s σ H _ us Q I r ⟨p, ws, rfl, .inl (SqL.of h1), fun l hl => give_ref (m := .lst _) L w (w.free hl) (mok_lst r1) (q l (w.freeM hl))⟩
end
end TQ
namespace TN
open PySem PySem.Spec PyProof.Rows L2 TQ TM
section
variable {K : PySem.W.Frag} {env : Sl} {M : Mem} {Q : PK} {E : EK} {D : QEnds} {x y : PV} {xs ys : List PV} {C : Addr} {pl : Option PV}
theorem e_qMakeWK {s : SpQ} {m : Nat} {gP : List PV → List PV} {tk : QA} : qMakeWK C s m gP tk env M Q E = tk env M (fun zs M1 => zs.length = m ∧ @makW C s (gP zs) M1 ⟨Q⟩ ⟨E⟩) E := rfl
def tryK (K : PySem.W.Frag) (i j : Nat) (c : Value) (De : QEnds) : Value → Option PV → Sl → Mem → Prop := fun cls pl env' M' => ∃ b, PySem.W.exmOne K cls c = some b ∧
    (b = true → i < env'.length ∧ ∃ D, cls = .ref D ∧ ∀ a d, M' a = none → pl.isSome = d.isSome → De.nx ((env'.set j (some (.eo a D d (pl.getD .non)))).set i none) M') ∧
    (b = false → De.ex cls pl env' M')
theorem e_sTryKeep {i j : Nat} {c : Value} {tb : QS} : sTryKeep K i j c tb D env M = tb { D with ex := tryK K i j c D } env M := rfl
theorem tryK_own {i j : Nat} {c : Value} (h : PySem.W.exmOne K (.ref C) c = some true) (hl : i < env.length)
    (q : ∀ a d, M a = none → pl.isSome = d.isSome → D.nx ((env.set j (some (.eo a C d (pl.getD .non)))).set i none) M) : tryK K i j c D (.ref C) pl env M :=
  ⟨true, h, fun _ => ⟨hl, C, rfl, q⟩, fun z => nomatch z⟩
def isVB (K : PySem.W.Frag) (xs : List PV) (M : Mem) [Q : Box PK] : Prop := cIsV K xs M Q.v
theorem e_cIsV : cIsV K xs M Q = @isVB K xs M ⟨Q⟩ := rfl
theorem isVB_of {a : Addr} {d : Option Addr} {c : PV} {u : Value} {b : Bool} {Q : Box PK} (z : ExcC K C) (h1 : clsP c = some u) (h2 : PySem.W.kitOne K (.ref C) u = some b) : @isVB K [.eo a C d y, c] M Q = Q.v (.bl b) M := propext
  ⟨fun ⟨_, _, _, _, _, _, _, h, _, g1, g2, q⟩ => by cases h; rw [h1] at g1; cases g1; rw [h2] at g2; cases g2; exact q, fun q => ⟨_, _, _, _, _, _, _, rfl, z, h1, h2, q⟩⟩
theorem isN_e {a D : Addr} {d : Option Addr} : bIsN false (.eo a D d y) .non M Q = Q (.bl false) M := rfl
theorem notN_e {a D : Addr} {d : Option Addr} : bIsN true (.eo a D d y) .non M Q = Q (.bl true) M := rfl
def sigVP (C : Addr) (x : PV) (M : Mem) [Q : Box PK] : Prop := ∃ a d y, x = .eo a C (some d) y ∧ Q.v y M
theorem e_qSigV {te : QT} : qSigV C te env M Q E = te env M (fun x M1 => @sigVP C x M1 ⟨Q⟩) E := rfl
theorem sigVP_eo {a d : Addr} {Q : Box PK} : @sigVP C (.eo a C (some d) y) M Q = Q.v y M := propext ⟨fun ⟨_, _, _, h, q⟩ => by cases h; exact q, fun q => ⟨_, _, _, rfl, q⟩⟩
theorem lisM_of {zs : List PV} (h : sq M x = some zs) (q : ∀ p, M p = none → Q (.ref p) (mset M p (.lst zs))) : cLisM [x] M Q := ⟨x, zs, rfl, h, q⟩
theorem e_cLisT : cLisT [.tup ys] M Q = Q (.lst ys) M := propext ⟨fun ⟨_, h, q⟩ => by cases h; exact q, fun q => ⟨_, rfl, q⟩⟩
end
end TN

/-! a walk over enumerate(a list); an error made by hand -/
namespace TQ
open PySem PySem.Spec PyProof.Rows L2
theorem for_enumL {K : PySem.W.Frag} {a : Addr} {xs : List V} {g : TG} {tb : TS} {D : Ends} {σ : L2.St} {H : Hp} (Pv : Nat → L2.St → Hp → Prop) (h0 : Pv 0 σ H) (hq : ∀ i σ H, Pv i σ H → SqL K H a xs)
    (hs : ∀ (i : Nat) (x : V) (T : Addr) (σ : L2.St) (H : Hp), xs[i]? = some x → Pv i σ H → H T = none → g (.ref T) σ (upd H T (.tup [.int (i : Nat), x])) fun σ2 H2 => tb { D with nx := Pv (i + 1), ct := Pv (i + 1), bk := D.nx } σ2 H2) (hd : ∀ σ H, Pv xs.length σ H → D.nx σ H) :
    ∃ W : Nat → Nat → L2.St → Hp → Prop, (∃ m, W 0 m σ H) ∧ ∀ i m σ H, W i m σ H →
      ((Ite K a).stop i H ∧ D.nx σ H) ∨ ((Ite K a).go i H ∧ ∃ N : L2.St → Hp → Prop, (∀ σ' H', N σ' H' → ∃ m', m' < m ∧ W (i + 1) m' σ' H') ∧ ∀ v H', (Ite K a).yld i H v H' → g v σ H' fun σ2 H2 => tb { D with nx := N, ct := N, bk := D.nx } σ2 H2) := by
  refine ⟨fun i m σ H => m = xs.length - i ∧ i ≤ xs.length ∧ Pv i σ H, ⟨xs.length, rfl, Nat.zero_le _, h0⟩, ?_⟩
  rintro i m σ H ⟨rfl, hi, p⟩
  have qx := hq i σ H p
  by_cases hlt : i < xs.length
  · have hx : xs[i]? = some xs[i] := List.getElem?_eq_getElem hlt
    refine .inr ⟨⟨xs, _, qx, hx⟩, Pv (i + 1), fun σ' H' p' => ⟨xs.length - (i + 1), by omega, rfl, hlt, p'⟩, fun v H' y => ?_⟩
    obtain ⟨T, x', rfl, hT, rfl, f1⟩ := y
    exact hs i x' T σ H (f1 xs qx) p hT
  · have e : i = xs.length := by omega
    subst e
    exact .inl ⟨⟨xs, qx, Nat.le_refl _⟩, hd σ H p⟩
def enP (g : QTG) (b : QS) (D : QEnds) (env : Sl) (x : PV) (M1 : Mem) : Prop := ∃ xs, x = .lst xs ∧ forI xs.length (fun i y => ∃ u, xs[i]? = some u ∧ y = .tup [.int (i : Nat), u]) (fun _ => True) g b D env M1
def sForEn (t : QT) (g : QTG) (b : QS) : QS := fun D env M => t env M (fun x M1 => enP g b D env x M1) (exE D env)
section
variable {X : Cx} {W : WX} {pos : Pos}
theorem qs_forEn {a : Expr} {body : List Stmt} {t : QT} {g : QTG} {b : QS} {p pos' tpos : Pos} {elts : List Expr} {kk : Nat} (po : PassesOwn (model X.prog X.w) X.A X.env X.xe) (hc : X.calm = true) (hm : X.mg "enumerate" = none) (ha : QE X W a t) (hgt : QPG X (.Tuple elts kk tpos) g) (hb : QPSs X W body b) (hg : Gl X "enumerate" := by rfl)
    (hs : starEach [a] X.env = [(false, eval a X.env)] := by rfl) (hfs : ∀ x, foldedSetIterable (.Call (.Name "enumerate" p) [a] [] pos') X.env x = pure x := by intro _; rfl) :
    QPS X W (.For (.Tuple elts kk tpos) (.Call (.Name "enumerate" p) [a] [] pos') body [] pos) (sForEn t g b) :=
  (ps_for po hc (pi_enum hg hm (qa_cons ha qa_nil hs) hs) hgt hb hfs).imp fun D σ H ⟨env, M, G, D0, S, q, L⟩ => by
    refine ⟨env, M, G, fun zs M1 => ∃ x, zs = [x] ∧ enP g b D0 env x M1, exE D0 env, S, ?_, fun zs M1 vs H1 G1 e1 w1 r1 q1 => ?_, liftX_E S.env L.ex⟩
    · have e : (fun (x : PV) (M1 : Mem) => ∃ y, [x] = [y] ∧ enP g b D0 env y M1) = fun x M1 => enP g b D0 env x M1 := by
        funext x M1
        exact propext ⟨fun ⟨_, e, h⟩ => by cases e; exact h, fun h => ⟨_, rfl, h⟩⟩
      show t env M (fun x M1 => ∃ y, [x] = [y] ∧ enP g b D0 env y M1) (exE D0 env)
      rw [e]
      exact q
    obtain ⟨x, rfl, xs, rfl, I, i0, _, hs, hd⟩ := q1
    obtain ⟨u, rfl, ru⟩ := reps1 r1
    obtain ⟨a, us, rfl, h1, ra⟩ := ru
    refine ⟨a, us, rfl, SqL.of (w1.sub _ _ h1), for_enumL (PvQ X.K G1 I) ⟨env, M1, G1, Ext.refl _, S.to e1 w1, i0⟩ (fun i σ H ⟨env, M, G2, e2, S2, q2⟩ => SqL.of (S2.wf.sub _ _ (e2 _ _ h1)))
      (fun i x T σ H hx ⟨env, M, G2, e2, S2, q2⟩ hT => ?_) (fun σ H ⟨env, M, G2, e2, S2, q2⟩ => L.nx env M σ H G2 (e1.trans e2) S2 (hd env M (by rw [ra.length]; exact q2)))⟩
    obtain ⟨x', hx', rx⟩ := ra.getV hx
    have eT : Ext G2 (upd G2 T (.tup [.int (i : Nat), x])) := Ext.new (S2.wf.free hT)
    have S3 : Sim X.K env M (upd G2 T (.tup [.int (i : Nat), x])) σ (upd H T (.tup [.int (i : Nat), x])) := ⟨S2.env.mono eT, S2.wf.newG hT⟩
    exact turnQ (L.mono e1) (e2.trans eT) S3 (x := .tup [.int (i : Nat), x']) ⟨T, _, rfl, SqT.of upd_same, Reps.cons (x := .int (i : Nat)) rfl (Reps.cons (Rep.mono (e2.trans eT) _ _ rx) Reps.nil)⟩ (hs i _ env M (List.getElem?_eq_some_iff.mp hx').1 ⟨_, hx', rfl⟩ q2)
/-- Trapped(e), as a value -/
def qTrapV (C : Addr) (t : QA) : QT := fun env M Q E => t env M (fun xs M1 => ∃ x, xs = [x] ∧ ∀ a d, M1 a = none → Q (.eo a C (some d) x) M1) E
theorem qe_trapV {C fI B : Addr} {a : Expr} {t : QA} {p : Pos} {k : Nat} (T : PySem.TrapX.TrapTxt X.K X.mg C fI B) (hr : L2H.RoomH k X.A) (ha : QPA X W [a] t) (hg : Gl X "Trapped" := by rfl)
    (he : starEach (a :: []) X.env = (false, eval a X.env) :: starEach [] X.env := by rfl) (hpl : (backTo pos (starEach [] X.env)).any (·.1) = false := by rfl) :
    QE X W (.Call (.Name "Trapped" p) [a] [] pos) (qTrapV C t) := by
  have P := pmk_trap (p := p) T hr ha hg he hpl
  refine ⟨fun pins sh σ H Q I ⟨env, M, G, Q0, E0, S, q, L, LE⟩ => ?_⟩
  refine wpAny_mono (P pins sh σ H (fun cls d H2 => cls = .ref C ∧ ∃ dd M1 G1 x v, d = some dd ∧ Ext G G1 ∧ Wf X.K M1 H2 G1 ∧ G1 dd = some (.xd [(("signal" : Str), v)]) ∧ Rep X.K G1 x v ∧ ∀ a, M1 a = none → Q0 (.eo a C (some dd) x) M1) I ?_) (fun u s1 hu => ?_) fun _ _ z => z
  · refine ⟨env, M, G, _, _, S, q, fun xs M1 vs H1 G1 e1 w1 r1 q1 => ?_, LE⟩
    obtain ⟨x, rfl, q1⟩ := q1
    obtain ⟨v, rfl, rv⟩ := reps1 r1
    refine ⟨v, rfl, fun d hd => ?_⟩
    have hG := Ext.new (o := HO.xd [(("signal" : Str), v)]) (w1.free hd)
    exact ⟨rfl, d, M1, _, x, v, rfl, e1.trans hG, w1.newG hd, upd_same, Rep.mono hG _ _ rv, fun a ha => q1 a d ha⟩
  · obtain ⟨a, oe, vs, sI, H', cls, d, rfl, J, k, hne, ha, hz, hd, h1, na, os, ag, r, rfl, dd, M1, G1, x, v, rfl, e1, w1, hg1, rv, q1⟩ := hu
    have J2 := J.laidN (h' := s1.heap) (t' := s1.toks) (o := ExV (.ref C) (some dd) a) k hne na ⟨⟨oe, vs, ha, hz, hd⟩, ⟨oe, ha⟩, fun h1 h2 ⟨o, v, q, r⟩ k => ⟨o, v, k o q, r⟩⟩
    have J3 : Inv X pins σ (upd H' a (ExV (.ref C) (some dd) a)) s1 := ⟨J2.ok, os.trans J.os, ag, J2.base, J2.loc, J2.cell, J2.free, J2.freeC, J2.pin, J2.hok, J2.len⟩
    have hG := Ext.new (o := ExV (.ref C) (some dd) a) (w1.free na)
    refine ⟨.ref a, _, J3, rfl, L (.eo a C (some dd) x) M1 (.ref a) _ _ (e1.trans hG) (w1.newG na (fun ps z => by cases z)) ⟨rfl, upd_same, fun dd' e => ?_⟩ (q1 a (w1.freeM na))⟩
    cases e
    exact ⟨v, hG _ _ hg1, Rep.mono hG _ _ rv⟩
end
end TQ
namespace TN
open PySem PySem.Spec PyProof.Rows L2 TQ TM
section
variable {env : Sl} {M : Mem} {Q : PK} {E : EK} {D : QEnds} {x : PV} {xs : List PV} {C : Addr}
theorem e_sForEn {t : QT} {g : QTG} {b : QS} : sForEn t g b D env M = t env M (fun x M1 => enP g b D env x M1) (exE D env) := rfl
theorem enP_lst {g : QTG} {b : QS} : enP g b D env (.lst xs) M = forI xs.length (fun i y => ∃ u, xs[i]? = some u ∧ y = .tup [.int (i : Nat), u]) (fun _ => True) g b D env M := propext ⟨fun ⟨_, e, h⟩ => by cases e; exact h, fun h => ⟨_, rfl, h⟩⟩
def trpV (C : Addr) (xs : List PV) (M : Mem) [Q : Box PK] : Prop := ∃ x, xs = [x] ∧ ∀ a d, M a = none → Q.v (.eo a C (some d) x) M
theorem e_qTrapV {t : QA} : qTrapV C t env M Q E = t env M (fun xs M1 => @trpV C xs M1 ⟨Q⟩) E := rfl
theorem trpV_of {Q : Box PK} (h : ∀ a d, M a = none → Q.v (.eo a C (some d) x) M) : @trpV C [x] M Q := ⟨x, rfl, h⟩
end
end TN

/-! a dict against a text; a dict of one pair whose key is no literal -/
namespace TQ
open PySem PySem.Spec PyProof.Rows L2 PySem.SeqAt
section
theorem str_eq_dict (b : Str) (u : Tok) (l : Addr) (c : Value) (es : Array DictEntry) (n : Nat) (dd : Option Addr) (sl : Array (Option Value)) :
    Meets (Builtin.«str.__eq__» ⟨[.str b u, .ref l], []⟩) (fun _ R s => s.heap.get? l = some { cls := c, dict := dd, data := .dict es n, slots := sl } ∧ R (.ok (.ret .notImplemented)) s) :=
  .of_wp fun prog w A R s h => by obtain ⟨hp, g, d, tk, os⟩ := s; obtain ⟨hl, h⟩ := h; wp_walk using AutoSeq1.wpAny_loadPart' hl, wpAny_load hl; exact ⟨_, rfl, h⟩
variable {A : Around} {s : Shared} {prog : Program} {w : World} {E Q : Value → Shared → Prop}
theorem dict_eq_str {l : Addr} {o : Obj} {b : Str} {u : Tok} (ho : s.heap.get? l = some o) (hc : o.cls = .type "dict") (h : Q .notImplemented s) : wpAny (model prog w) A (call (.builtin "dict.__eq__") [.ref l, .str b u]) Q E s := by
  have ty : s.TypeIs (.ref l) "dict" := ⟨o, ho, hc⟩
  refine wpAny_call_entry PySem.F.slot_dict_eq ty PySem.F.entry_dict_eq ?_ (PySem.F.args_dict_eq_2 _ _)
  show wpAny _ _ (Builtin.Dict.dictSlotArgs "__eq__" ⟨[.ref l, .str b u], []⟩ >>= _) _ _ s
  refine wpAny_bind ?_
  unfold Builtin.Dict.dictSlotArgs
  refine wpAny_bind (wpAny_notOrdered_dict ty ?_)
  show wpAny _ _ (pure (Value.ref l, Value.str b u)) _ _ s
  refine wpAny_pure ?_
  refine wpAny_bind (wpAny_isInstance (T := "str") (typeIs_str s b u) PySem.F.sub_str_dict ?_)
  simp only [Bool.not_false, if_true]
  refine wpAny_bind (wpAny_rule ?_)
  refine wpAny_bind (wpAny_pure (wpAny_pure ?_))
  exact ⟨_, rfl, h⟩
theorem rc_dict_str {l : Addr} {o : Obj} {b : Str} {u : Tok} (ho : s.heap.get? l = some o) (hc : o.cls = .type "dict") {es : Array DictEntry} {n : Nat} (hd : o.data = .dict es n) (hu : A.units < cLine) (h : Q (.bool false) s) : wpAny (model prog w) A (richCompare .Eq (.ref l) (.str b u)) Q E s := by
  obtain ⟨cls, dd, data, sl⟩ := o
  simp only at hc hd
  subst hc hd
  exact rc_eq_decline_or (k := false) ⟨_, ho, rfl⟩ (typeIs_str s b u) (by decide) F.sub_str_dict F.slot_dict_eq F.slot_str_eq_refl
    (fun _ hq => dict_eq_str ho rfl hq)
    (fun _ hq => call_meets F.slot_str_eq_refl (typeIs_str s b u) F.entry_str_eq (F.args_str_eq_2 _ _) (str_eq_dict b u l (.type "dict") es n dd sl) ⟨ho, hq⟩)
    (fun _ hq => wpAny_of_eq (rfl : isSame (.ref l) (.str b u) = pure false) hq) (.inr hu) h
end
section
variable {X : Cx} {W : WX} {pos : Pos}
def bEqD : F2 := fun x y M Q => (∃ d ks vs s, x = .ref d ∧ M d = some (.dic ks vs) ∧ y = .str s ∧ Q (.bl false) M) ∨ bEq x y M Q
theorem oq_eqD (hu : X.A.units + 64 < cLine) : OpQ X (compareOp .Eq) bEqD := by
  intro pins s σ H a b v u Q I ra rb ⟨x, y, M, G, Q0, rx, ry, w, q, L⟩
  rcases q with ⟨d, ks, vs, t, rfl, hm, rfl, q⟩ | q
  · cases rx
    cases ry
    obtain ⟨_, us, h1, _, _⟩ := w.mem d _ hm
    obtain rfl : v = Value.ref d := ra
    obtain ⟨tt, rfl⟩ := rb
    obtain ⟨_, ya, va, r1, da⟩ := (show ObjOk X.prog X.w H s.heap d (.dK (ks.zip us)) from I.hok d _ h1)
    obtain ⟨o, es, n, ho, hc, hdt, _⟩ := da
    exact rc_dict_str ho hc.1 hdt (by omega) ⟨.bl false, H, I, rfl, L (.bl false) M _ H G (Ext.refl G) w rfl q⟩
  · exact oq_eq hu pins s σ H a b v u Q I ra rb ⟨x, y, M, G, Q0, rx, ry, w, q, L⟩
/-- {k: v}, k a text -/
def qDsp1 (tk tv : QT) : QT := fun env M Q E => ∀ p, M p = none → tk env (mset M p (.dic [] [])) (fun k M1 => ∃ s, k = .str s ∧ tv env M1 (fun x M2 => M2 p = some (.dic [] []) ∧ Q (.ref p) (mset M2 p (.dic [Sum.inr s] [x]))) E) E
theorem qe_dsp1 {k v : Expr} {tk tv : QT} (hk : QE X W k tk) (hv : QE X W v tv) : QE X W (.Dict [some k] [v] pos) (qDsp1 tk tv) :=
  (pe_disp (pps_cons hk hv pps_nil) rfl rfl (List.cons_ne_nil _ _) (by show 1 ≤ 15; decide)).imp fun σ H Q ⟨env, M, G, Q0, E0, S, q, L, LE⟩ => fun p hp => by
  have hG := S.wf.free hp
  have w1 := S.wf.put (p := p) (o := .dK []) (m := .dic [] []) hG ⟨[], upd_same, rfl, Reps.nil⟩
  refine ⟨env, _, G, _, E0, ⟨S.env, w1⟩, q p (S.wf.freeM hp), fun x M1 u H1 G1 e1 w1' r1 q1 => ?_, LE⟩
  obtain ⟨s, rfl, q1⟩ := q1
  cases r1
  refine ⟨env, M1, G1, _, E0, S.env.mono e1 |> fun z => ⟨z, w1'⟩, q1, fun y M2 v2 H2 G2 e2 w2 r2 q2 => ?_, LE.mono e1⟩
  obtain ⟨h1, q2⟩ := q2
  obtain ⟨g, us, h2, h3, h4⟩ := w2.mem p _ h1
  cases h4
  refine ⟨h2, [(Sum.inr s, v2)], rfl, by show 1 ≤ 15; decide, ?_⟩
  exact L (.ref p) _ _ _ G2 (e1.trans e2) (w2.put (m := .dic [Sum.inr s] [y]) g ⟨[v2], upd_same, rfl, Reps.cons r2 Reps.nil⟩) rfl q2
end
end TQ

/-! a token is out: e.replace of two written texts -/
namespace CwR
open PySem PySem.Spec PyProof.Rows L2
section
variable {X : Cx} {a b e : Expr} {ta tb te : TE} {pos : Pos}
def PEB (X : Cx) (e : Expr) (t : TE) : Prop := ∀ (pins : List (Addr × Obj)) (s : Shared) (σ : L2.St) (H : Hp) (Q : VK), Inv X pins σ H s → t σ H Q → wpAny (model X.prog X.w) X.A (eval e X.env) (fun v s' => 1 ≤ s'.toks ∧ EP X pins σ Q v s') X.xe s
def PAB (X : Cx) (es : List Expr) (t : TA) : Prop := ∀ (pos : Pos) (pins : List (Addr × Obj)) (s : Shared) (σ : L2.St) (H : Hp) (Q : List V → Hp → Prop), Inv X pins σ H s → t σ H Q → wpAny (model X.prog X.w) X.A (spliced (backTo pos (starEach es X.env))) (fun vs s' => 1 ≤ s'.toks ∧ AP X pins σ Q vs s') X.xe s
theorem peb_opC {op : Operator} {r : R2} {c : Str} {j : Nat} {p : Pos} (ho : OpR X (binaryOp op) r) (ha : PE X a ta) : PEB X (.BinOp a op (.Constant (.str c) j p) pos) (tOp r ta (tC (.str c))) := by
  intro pins s σ H Q I h
  refine wpAny_BinOp (thn (ha.run pins s σ H _ I h) fun v s1 ⟨x, H1, I1, r1, q1⟩ => ?_)
  refine Calls.Constant_str ?_
  refine wpAny_mono (PySem.wpAny_toks (ho pins { s1 with toks := s1.toks + 1 } σ H1 x (.str c) v (.str c s1.toks) Q (I1.tok _) r1 ⟨_, rfl⟩ q1)) (fun w s2 q => ⟨?_, q.2⟩) fun _ _ z => z.2
  have hk : s1.toks + 1 ≤ s2.toks := q.1
  omega
theorem peb_op {op : Operator} {r : R2} (ho : OpR X (binaryOp op) r) (ha : PEB X a ta) (hb : PE X b tb) : PEB X (.BinOp a op b pos) (tOp r ta tb) := by
  intro pins s σ H Q I h
  refine wpAny_BinOp (wpAny_mono (ha pins s σ H _ I h) (fun v s1 q => ?_) fun _ _ z => z)
  obtain ⟨hk, x, H1, I1, r1, q1⟩ := q
  refine wpAny_mono (PySem.wpAny_toks (hb.run pins s1 σ H1 _ I1 q1)) (fun u s2 q => ?_) fun _ _ z => z.2
  obtain ⟨hk2, y, H2, I2, r2, q2⟩ := q
  refine wpAny_mono (PySem.wpAny_toks (ho pins s2 σ H2 x y v u Q I2 r1 r2 q2)) (fun w s3 q => ⟨Nat.le_trans hk (Nat.le_trans hk2 q.1), q.2⟩) fun _ _ z => z.2
theorem pab_cons {es : List Expr} {tr : TA} (he : PEB X e te) (hr : PA X es tr) (hs : starEach (e :: es) X.env = (false, eval e X.env) :: starEach es X.env := by rfl) : PAB X (e :: es) (tCons te tr) := by
  intro pos pins s σ H Q I h
  rw [hs]
  show wpAny _ _ (spliced ((false, eval e X.env) :: backTo pos (starEach es X.env))) _ _ s
  refine Calls.spliced_cons (wpAny_mono (he pins s σ H _ I h) (fun v s1 q => ?_) fun _ _ z => z)
  obtain ⟨hk, x, H1, I1, r1, q1⟩ := q
  refine wpAny_mono (PySem.wpAny_toks (hr.run pos pins s1 σ H1 _ I1 q1)) (fun us s2 q => ?_) fun _ _ z => z.2
  obtain ⟨hk2, xs, H2, I2, r2, q2⟩ := q
  exact ⟨Nat.le_trans hk hk2, x :: xs, H2, I2, .cons r1 r2, q2⟩
theorem peb_lst {es : List Expr} {t : TA} (h : PAB X es t) : PEB X (.List es pos) (tLst t) := by
  intro pins s σ H Q I hq
  refine wpAny_List_spliced (wpAny_mono (h pos pins s σ H _ I hq) (fun us s1 q => ?_) fun _ _ z => z)
  obtain ⟨hk, xs, H1, I1, r, z, q⟩ := q
  refine ⟨by rw [← r.length]; exact z, hk, ?_⟩
  have hf : H1 s1.heap.objs.size = none := I1.hok.fresh (Nat.le_refl _)
  refine ⟨.ref s1.heap.objs.size, upd H1 s1.heap.objs.size (.lst xs), I1.laid (t' := s1.toks) (fun b u e => Heap.get?_push_of_some _ e) (Nat.le_refl _) ?_, rfl, q _ hf⟩
  exact ⟨z, us, 0, r, Heap.get?_push_size _ rfl⟩
theorem pss_bump {i : Nat} {x : Str} {pos' : Pos} {rest : List Stmt} {u : TS} (hN : X.N.Nodup) (hi : X.N[i]? = some x) (hx : Loc X.env.scope x) (he : PEB X e te) (h2 : PSsT X rest u) (hs : swapsWith e (some (.Name x pos')) pos.line X.env = pure false := by rfl)
    (hf : X.fn x = true ∨ X.env.scope.names.lookup x = some .local := by first | exact .inl rfl | exact .inr rfl | assumption) : PSs X (.Assign [.Name x pos'] e pos :: rest) (tSeq (tAsg te (gName i)) u) := by
  refine ⟨fun pins s σ H D I h => ?_⟩
  have h : te σ H (fun x H1 => gName i x σ H1 (u D)) := h
  refine wpAny_execs_cons (wpAny_Assign_Name (wpAny_mono (he pins s σ H _ I h) (fun v s1 q => ?_) fun _ _ z => z) hs)
  obtain ⟨hk, y, H1, I1, r1, q1⟩ := q
  refine wpAny_mono (PySem.wpAny_toks (store_ok (Q := fun _ s2 => Inv X pins (σ.set i (some y)) H1 s2) I1 hN hi hx r1 (fun s2 I2 => I2) hf)) (fun _ s2 q => ?_) fun _ _ z => z.2
  exact h2 pins s2 _ H1 D (Nat.le_trans hk q.1) q.2 q1
theorem pst_set {i : Nat} {x : Str} {pos' : Pos} (hN : X.N.Nodup) (hi : X.N[i]? = some x) (hx : Loc X.env.scope x) (he : PET X e te) (hs : swapsWith e (some (.Name x pos')) pos.line X.env = pure false := by rfl)
    (hf : X.fn x = true ∨ X.env.scope.names.lookup x = some .local := by first | exact .inl rfl | exact .inr rfl | assumption) : PST X (.Assign [.Name x pos'] e pos) (tAsg te (gName i)) := by
  intro pins s σ H D h0 I h
  refine wpAny_Assign_Name (thn (he pins s σ H _ h0 I h) fun v s1 ⟨y, H1, I1, r1, q1⟩ => ?_) hs
  exact store_ok I1 hN hi hx r1 (fun s2 I2 => ⟨_, H1, I2, q1⟩) hf
theorem pet_ix {r : R2} (hr : IxR X r) (ha : PET X a ta) (hb : PE X b tb) (hs : PlainIx b) : PET X (.Subscript a b pos) (tOp r ta tb) := by
  intro pins s σ H Q h0 I h
  refine Subscript_ ?_
  refine thn (ha pins s σ H _ h0 I h) fun v s1 ⟨x, H1, I1, r1, q1⟩ => ?_
  refine thn (hb.run pins s1 σ H1 _ I1 q1) fun u s2 ⟨y, H2, I2, r2, q2⟩ => ?_
  exact hr a b pins s2 σ H2 x y v u Q I2 r1 r2 q2 (hs _ _)
theorem PET.imp {t t' : TE} (h : PET X e t) (f : ∀ σ H Q, t' σ H Q → t σ H Q) : PET X e t' := fun pins s σ H Q h0 I q => h pins s σ H Q h0 I (f σ H Q q)
theorem PEB.imp {t t' : TE} (h : PEB X e t) (f : ∀ σ H Q, t' σ H Q → t σ H Q) : PEB X e t' := fun pins s σ H Q I q => h pins s σ H Q I (f σ H Q q)
theorem PAT.imp {es : List Expr} {t t' : TA} (h : PAT X es t) (f : ∀ σ H Q, t' σ H Q → t σ H Q) : PAT X es t' := fun pos pins s σ H Q h0 I q => h pos pins s σ H Q h0 I (f σ H Q q)
theorem PAB.imp {es : List Expr} {t t' : TA} (h : PAB X es t) (f : ∀ σ H Q, t' σ H Q → t σ H Q) : PAB X es t' := fun pos pins s σ H Q I q => h pos pins s σ H Q I (f σ H Q q)
theorem PST.imp {st : Stmt} {t t' : TS} (h : PST X st t) (f : ∀ D σ H, t' D σ H → t D σ H) : PST X st t' := fun pins s σ H D h0 I q => h pins s σ H D h0 I (f D σ H q)
theorem PSsT.imp {st : List Stmt} {t t' : TS} (h : PSsT X st t) (f : ∀ D σ H, t' D σ H → t D σ H) : PSsT X st t' := fun pins s σ H D h0 I q => h pins s σ H D h0 I (f D σ H q)
end
end CwR
namespace TQ
open PySem PySem.Spec PyProof.Rows L2 CwR
section
variable {X : Cx} {W : WX} {pos : Pos} {a b e : Expr} {ta tb t : QT} {es : List Expr} {r : QA} {f : F2}
abbrev QET (X : Cx) (W : WX) (e : Expr) (t : QT) : Prop := PET X e (tie X.K W t)
abbrev QPAT (X : Cx) (W : WX) (es : List Expr) (t : QA) : Prop := PAT X es (tieA X.K W t)
abbrev QPST (X : Cx) (W : WX) (st : Stmt) (t : QS) : Prop := PST X st (tieS X.K W t)
abbrev QPSsT (X : Cx) (W : WX) (st : List Stmt) (t : QS) : Prop := PSsT X st (tieS X.K W t)
abbrev QEB (X : Cx) (W : WX) (e : Expr) (t : QT) : Prop := PEB X e (tie X.K W t)
def qRepl (y z : Str) (to : QT) : QT := fun env M Q E => to env M (fun x M1 => ∃ s, x = .str s ∧ s.length + (s.length + 1) * z.length ≤ 16777216 ∧ Q (.str (Txt.replace s y z)) M1) E
theorem qet_repl {o : Expr} {to : QT} {y z : Str} {j k : Nat} {c0 c1 apos : Pos} (ho : QE X W o to) (hyz : (y == z) = false := by decide)
    (hst : starEach [.Constant (.str y) j c0, .Constant (.str z) k c1] X.env = [(false, eval (.Constant (.str y) j c0) X.env), (false, eval (.Constant (.str z) k c1) X.env)] := by rfl)
    (hbase : attributeBase o "replace" X.env (eval o X.env) = eval o X.env := by rfl) (hline : (apos.endLine == pos.line) = true := by rfl) :
    QET X W (.Call (.Attribute o "replace" apos) [.Constant (.str y) j c0, .Constant (.str z) k c1] [] pos) (qRepl y z to) := CwR.PET.imp (pet_replC ho hyz hst hbase hline) fun σ H Q ⟨env, M, G, Q0, E0, S, q, L, LE⟩ => by
  refine ⟨env, M, G, _, E0, S, q, fun x M1 v H1 G1 e1 w1 r1 q1 => ?_, LE⟩
  obtain ⟨s, rfl, hb, q1⟩ := q1
  exact ⟨s, r1, hb, L (.str _) M1 _ H1 G1 e1 w1 rfl q1⟩
theorem qet_bin {op : Operator} (ho : OpQ X (binaryOp op) f) (ha : QET X W a ta) (hb : QET X W b tb) : QET X W (.BinOp a op b pos) (q2 f ta tb) := CwR.PET.imp (pet_op ho ha hb) fun σ H Q h => tie2 (fun _ _ _ _ z => z) h
theorem qet_of (h : QE X W e t) : QET X W e t := PET.of h
theorem qat_nil : QPAT X W [] qNil := CwR.PAT.imp pat_nil fun σ H Q ⟨env, M, G, Q0, E0, S, q, L, LE⟩ => L [] M [] H G (Ext.refl G) S.wf Reps.nil q
theorem qat_cons (h : QET X W e t) (k : QPAT X W es r) (hs : starEach (e :: es) X.env = (false, eval e X.env) :: starEach es X.env := by rfl) : QPAT X W (e :: es) (qCons t r) :=
  CwR.PAT.imp (pat_cons h k hs) fun σ H Q ⟨env, M, G, Q0, E0, S, q, L, LE⟩ => by
    refine ⟨env, M, G, _, E0, S, q, fun x M1 v H1 G1 e1 w1 r1 q1 => ?_, LE⟩
    refine ⟨env, M1, G1, _, E0, S.to e1 w1, q1, fun xs M2 vs H2 G2 e2 w2 r2 q2 => ?_, LE.mono e1⟩
    exact L (x :: xs) M2 (v :: vs) H2 G2 (e1.trans e2) w2 (Reps.cons (Rep.mono e2 x v r1) r2) q2
theorem qet_lst (h : QPAT X W es r) : QET X W (.List es pos) (qLst r) := CwR.PET.imp (pet_lst h) fun σ H Q ⟨env, M, G, Q0, E0, S, q, L, LE⟩ => by
  refine ⟨env, M, G, _, E0, S, q, fun xs M1 vs H1 G1 e1 w1 r1 q1 => ?_, LE⟩
  exact ⟨by rw [← r1.length]; exact q1.1, fun p hp => give_lst (L.mono e1) w1 hp r1 q1.2⟩
theorem qet_ix (ha : QET X W a ta) (hb : QE X W b tb) (hp : PlainIx b := by exact fun _ _ => rfl) : QET X W (.Subscript a b pos) (q2 bIx ta tb) := CwR.PET.imp (CwR.pet_ix ixq ha hb hp) fun σ H Q h => tie2 (fun _ _ _ _ z => z) h
theorem qst_set (i : Nat) {x : Str} {pos' : Pos} (hN : X.N.Nodup) (he : QET X W e t) (hi : X.N[i]? = some x := by rfl) (hx : Loc X.env.scope x := by first | exact Or.inl rfl | exact Or.inr rfl) (hs : swapsWith e (some (.Name x pos')) pos.line X.env = pure false := by rfl)
    (hf : X.fn x = true ∨ X.env.scope.names.lookup x = some .local := by first | exact .inl rfl | exact .inr rfl | assumption) : QPST X W (.Assign [.Name x pos'] e pos) (sAsg t (gNm i)) :=
  CwR.PST.imp (pst_set hN hi hx he hs hf) fun D σ H h => tieNm (tieAsg h) fun _ _ _ _ k z => tie_mono k z
theorem tieSeq {t u : QS} {D : Ends} {σ : L2.St} {H : Hp} (h : tieS X.K W (sSeq t u) D σ H) : tSeq (tieS X.K W t) (tieS X.K W u) D σ H := by
  obtain ⟨env, M, G, D0, S, q, L⟩ := h
  exact ⟨env, M, G, _, S, q, ⟨fun env' M' σ' H' G' e S1 q1 => ⟨env', M', G', D0, S1, q1, L.mono e⟩, L.rt, L.bk, L.ct, L.ex⟩⟩
theorem qsst_cons {st : Stmt} {rest : List Stmt} {t u : QS} (h : QPST X W st t) (k : QPSsT X W rest u) : QPSsT X W (st :: rest) (sSeq t u) := CwR.PSsT.imp (psst_cons h k) fun D σ H h => tieSeq h
theorem qsst_of {rest : List Stmt} {u : QS} (h : QPSs X W rest u) : QPSsT X W rest u := PSsT.of h
theorem qst_of {st : Stmt} {u : QS} (h : QPS X W st u) : QPST X W st u := PST.of h
theorem tie_C {c : PV} {v : V} {σ : L2.St} {H : Hp} {Q : VK} (hr : ∀ K G, Rep K G c v) : tie X.K W (qC c) σ H Q → tC v σ H Q := fun ⟨env, M, G, Q0, E0, S, q, L, LE⟩ => L c M v H G (Ext.refl G) S.wf (hr _ _) q
theorem qeb_binC {op : Operator} {c : Str} {j : Nat} {p : Pos} (ho : OpQ X (binaryOp op) f) (ha : QE X W a ta) : QEB X W (.BinOp a op (.Constant (.str c) j p) pos) (q2 f ta (qC (.str c))) :=
  CwR.PEB.imp (peb_opC ho ha) fun σ H Q ⟨env, M, G, Q0, E0, S, q, L, LE⟩ => by
    refine ⟨env, M, G, _, E0, S, q, fun x M1 v H1 G1 e1 w1 r1 q1 => ?_, LE⟩
    exact ⟨x, .str c, M1, G1, Q0, r1, rfl, w1, q1, L.mono e1⟩
theorem qeb_bin {op : Operator} (ho : OpQ X (binaryOp op) f) (ha : QEB X W a ta) (hb : QE X W b tb) : QEB X W (.BinOp a op b pos) (q2 f ta tb) := CwR.PEB.imp (peb_op ho ha hb) fun σ H Q h => tie2 (fun _ _ _ _ z => z) h
theorem qeb_lst (h : QEB X W e t) (k : QPA X W es r) (hs : starEach (e :: es) X.env = (false, eval e X.env) :: starEach es X.env := by rfl) : QEB X W (.List (e :: es) pos) (qLst (qCons t r)) :=
  CwR.PEB.imp (peb_lst (pab_cons h k hs)) fun σ H Q ⟨env, M, G, Q0, E0, S, q, L, LE⟩ => by
    refine ⟨env, M, G, _, E0, S, q, fun x M1 v H1 G1 e1 w1 r1 q1 => ?_, LE⟩
    refine ⟨env, M1, G1, _, E0, S.to e1 w1, q1, fun xs M2 vs H2 G2 e2 w2 r2 q2 => ?_, LE.mono e1⟩
    exact ⟨by have := q2.1; rw [List.length_cons] at this ⊢; rw [← r2.length]; exact this, fun p hp => give_lst (L.mono (e1.trans e2)) w2 hp (Reps.cons (Rep.mono e2 x v r1) r2) q2.2⟩
theorem qeb_lstM (h : QEB X W e t) (k : QPA X W es r) (hs : starEach (e :: es) X.env = (false, eval e X.env) :: starEach es X.env := by rfl) : QEB X W (.List (e :: es) pos) (qLstM (qCons t r)) :=
  CwR.PEB.imp (peb_lst (pab_cons h k hs)) fun σ H Q ⟨env, M, G, Q0, E0, S, q, L, LE⟩ => by
    refine ⟨env, M, G, _, E0, S, q, fun x M1 v H1 G1 e1 w1 r1 q1 => ?_, LE⟩
    refine ⟨env, M1, G1, _, E0, S.to e1 w1, q1, fun xs M2 vs H2 G2 e2 w2 r2 q2 => ?_, LE.mono e1⟩
    exact ⟨by have := q2.1; rw [List.length_cons] at this ⊢; rw [← r2.length]; exact this, fun p hp => give_ref (L.mono (e1.trans e2)) w2 (w2.free hp) (mok_lst (Reps.cons (Rep.mono e2 x v r1) r2)) (q2.2 p (w2.freeM hp))⟩
theorem qss_bump (i : Nat) {x : Str} {pos' : Pos} {rest : List Stmt} {u : QS} (hN : X.N.Nodup) (he : QEB X W e t) (h2 : QPSsT X W rest u) (hi : X.N[i]? = some x := by rfl) (hx : Loc X.env.scope x := by first | exact Or.inl rfl | exact Or.inr rfl) (hs : swapsWith e (some (.Name x pos')) pos.line X.env = pure false := by rfl)
    (hf : X.fn x = true ∨ X.env.scope.names.lookup x = some .local := by first | exact .inl rfl | exact .inr rfl | assumption) : QPSs X W (.Assign [.Name x pos'] e pos :: rest) (sSeq (sAsg t (gNm i)) u) :=
  (pss_bump hN hi hx he h2 hs hf).imp fun D σ H h => tieNm (i := i) (D := { D with nx := _ }) (tieAsg (D := { D with nx := _ }) (tieSeq h)) fun _ _ _ _ k z => tie_mono k z
end
end TQ
namespace TN
open PySem PySem.Spec PyProof.Rows L2 TQ TM
section
variable {env : Sl} {M : Mem} {Q : PK} {E : EK} {x : PV}
def replP (y z : Str) (x : PV) (M : Mem) [Q : Box PK] : Prop := ∃ s, x = .str s ∧ s.length + (s.length + 1) * z.length ≤ 16777216 ∧ Q.v (.str (Txt.replace s y z)) M
theorem e_qRepl {y z : Str} {to : QT} : qRepl y z to env M Q E = to env M (fun x M1 => @replP y z x M1 ⟨Q⟩) E := rfl
theorem replP_s {y z s : Str} {Q : Box PK} : @replP y z (.str s) M Q = (s.length + (s.length + 1) * z.length ≤ 16777216 ∧ Q.v (.str (Txt.replace s y z)) M) := propext ⟨fun ⟨_, h, q⟩ => by cases h; exact q, fun q => ⟨_, rfl, q⟩⟩
def dsp1B (tv : QT) (env : Sl) (p : Addr) (x : PV) (M : Mem) [Q : Box PK] [E : Box EK] : Prop := ∃ s, x = .str s ∧ tv env M (fun y M2 => M2 p = some (.dic [] []) ∧ Q.v (.ref p) (mset M2 p (.dic [Sum.inr s] [y]))) E.v
def dsp1A (tk tv : QT) (env : Sl) (M : Mem) [Q : Box PK] [E : Box EK] : Prop := ∀ p, M p = none → tk env (mset M p (.dic [] [])) (fun x M1 => @dsp1B tv env p x M1 Q E) E.v
theorem e_qDsp1 {tk tv : QT} : qDsp1 tk tv env M Q E = @dsp1A tk tv env M ⟨Q⟩ ⟨E⟩ := rfl
theorem dsp1_of {tk tv : QT} {Q : Box PK} {E : Box EK} (h : ∀ p, M p = none → tk env (mset M p (.dic [] [])) (fun x M1 => @dsp1B tv env p x M1 Q E) E.v) : @dsp1A tk tv env M Q E := h
theorem dsp1_s {tv : QT} {p : Addr} {s : Str} {Q : Box PK} {E : Box EK} : @dsp1B tv env p (.str s) M Q E = tv env M (fun y M2 => M2 p = some (.dic [] []) ∧ Q.v (.ref p) (mset M2 p (.dic [Sum.inr s] [y]))) E.v := propext ⟨fun ⟨_, h, q⟩ => by cases h; exact q, fun q => ⟨_, rfl, q⟩⟩
theorem bEqD_no {y : PV} (h : bEq x y M Q) : bEqD x y M Q := .inr h
theorem bEqD_dic {d : Addr} {ks : List Key} {vs : List PV} {s : Str} (h : M d = some (.dic ks vs)) (q : Q (.bl false) M) : bEqD (.ref d) (.str s) M Q := .inl ⟨d, ks, vs, s, rfl, h, rfl, q⟩
end
end TN

/-! a dict that is being walked: it stands still (MO.fdc) -/
namespace TQ
open PySem PySem.Spec PyProof.Rows L2
section
variable {K : PySem.W.Frag} {G H : Hp} {M : Mem} {d : Addr} {ks : List Key} {xs : List PV} {vs : List V} {od : Obj}
/-- taken still -/
theorem Wf.still_d (w : Wf K M H G) (hm : M d = some (.dic ks xs)) (od : Obj) (h1 : H d = some (.dK (ks.zip vs))) (h2 : ks.length = vs.length) (h3 : Reps K G xs vs) : Wf K (mset M d (.fdc od ks vs xs)) (upd H d (.frz od (.dK (ks.zip vs)))) G :=
  w.put (w.mem d _ hm).1 ⟨upd_same, h2, h3⟩ (.inr ⟨_, h1, fun z => z⟩)
/-- let go -/
theorem Wf.go_d (w : Wf K M H G) (hm : M d = some (.fdc od ks vs xs)) : H d = some (.frz od (.dK (ks.zip vs))) ∧ Wf K (mset M d (.dic ks xs)) (upd H d (.dK (ks.zip vs))) G := by
  obtain ⟨g, h1, h2, h3⟩ := w.mem d _ hm
  refine ⟨h1, fun b o e => ?_, fun a m e => ?_, w.ntb⟩
  · rw [upd_ne (by rintro rfl; rw [g] at e; cases e)]
    exact w.sub b o e
  · by_cases ha : a = d
    · subst ha
      rw [mset_same] at e
      cases e
      exact ⟨g, vs, upd_same, h2, h3⟩
    · rw [mset_ne ha] at e
      obtain ⟨g', k⟩ := w.mem a m e
      refine ⟨g', ?_⟩
      have hk : ∀ b u, H b = some u → u ≠ .frz od (.dK (ks.zip vs)) → upd H d (.dK (ks.zip vs)) b = some u := fun b u hb hu => by
        rw [upd_ne (by rintro rfl; rw [h1] at hb; cases hb; exact hu rfl)]
        exact hb
      have hh : upd H d (.dK (ks.zip vs)) a = H a := upd_ne ha
      cases m with
      | lst xs => obtain ⟨vs, h1, h2⟩ := k; exact ⟨vs, hh.trans h1, h2⟩
      | dic ks xs => obtain ⟨vs, h1, h2, h3⟩ := k; exact ⟨vs, hh.trans h1, h2, h3⟩
      | ins C ns xs => obtain ⟨dx, vs, h1, h2⟩ := k; exact ⟨dx, vs, hh.trans h1, h2⟩
      | lam L cl vals =>
        obtain ⟨c', h1, h2, h3, h4⟩ := k
        refine ⟨c', hk _ _ h1 (fun z => by cases z), hk _ _ h2 (fun z => by cases z), h3, fun xs hx => ⟨(h4 xs hx).1, fun i y c x e1 e2 => ?_⟩⟩
        obtain ⟨g, o, z, v, q1, q2, q3, q4⟩ := (h4 xs hx).2 i y c x e1 e2
        exact ⟨g, o, z, v, hk _ _ q1 (fun z => by cases z), q2, q3, q4⟩
      | tab q =>
        obtain ⟨ps, h1, h2, h3⟩ := k
        refine ⟨ps, hh.trans h1, h2, fun pos cv hc => ?_⟩
        obtain ⟨c, e1, e2⟩ := h3 pos cv hc
        exact ⟨c, e1, hk _ _ e2 (fun z => by cases z)⟩
      | fdc od ks vs xs => obtain ⟨h1, h2, h3⟩ := k; exact ⟨hh.trans h1, h2, h3⟩
end
section
variable {X : Cx} {W : WX} {pos : Pos}
/-- for .. in d.values() -/
def lockE (d : Addr) (od : Obj) (ks : List Key) (us : List V) (xs : List PV) (D : QEnds) : QEnds :=
  ⟨fun e M => M d = some (.fdc od ks us xs) ∧ D.nx e (mset M d (.dic ks xs)), fun v M => M d = some (.fdc od ks us xs) ∧ D.rt v (mset M d (.dic ks xs)), fun e M => M d = some (.fdc od ks us xs) ∧ D.bk e (mset M d (.dic ks xs)), fun e M => M d = some (.fdc od ks us xs) ∧ D.ct e (mset M d (.dic ks xs)), fun _ _ _ _ => False⟩
def sForVals (i : Nat) (g : QTG) (b : QS) : QS := fun D env M => ∃ d ks xs, env[i]? = some (some (.ref d)) ∧ M d = some (.dic ks xs) ∧ ∀ od us,
  forI xs.length (fun k x => xs[k]? = some x) (fun M' => M' d = some (.fdc od ks us xs)) g b (lockE d od ks us xs D) env (mset M d (.fdc od ks us xs))
theorem for_valsK {d : Addr} {o : Obj} {kvs : List (Key × V)} {g : TG} {tb : TS} {D : Ends} {σ : L2.St} {H : Hp} (Pv : Nat → L2.St → Hp → Prop) (h0 : Pv 0 σ H) (hq : ∀ i σ H, i ≤ kvs.length → Pv i σ H → H d = some (.frz o (.dK kvs)))
    (hs : ∀ (i : Nat) (k : Key) (x : V) (σ : L2.St) (H : Hp), kvs[i]? = some (k, x) → Pv i σ H → g x σ H fun σ2 H2 => tb { D with nx := Pv (i + 1), ct := Pv (i + 1), bk := D.nx } σ2 H2) (hd : ∀ σ H, Pv kvs.length σ H → D.nx σ H) :
    ∃ W : Nat → Nat → L2.St → Hp → Prop, (∃ m, W 0 m σ H) ∧ ∀ i m σ H, W i m σ H →
      ((Itd d o kvs).stop i H ∧ D.nx σ H) ∨ ((Itd d o kvs).go i H ∧ ∃ N : L2.St → Hp → Prop, (∀ σ' H', N σ' H' → ∃ m', m' < m ∧ W (i + 1) m' σ' H') ∧ ∀ v H', (Itd d o kvs).yld i H v H' → g v σ H' fun σ2 H2 => tb { D with nx := N, ct := N, bk := D.nx } σ2 H2) := by
  refine ⟨fun i m σ H => m = kvs.length - i ∧ i ≤ kvs.length ∧ Pv i σ H, ⟨kvs.length, rfl, Nat.zero_le _, h0⟩, ?_⟩
  rintro i m σ H ⟨rfl, hi, p⟩
  have qx := hq i σ H hi p
  by_cases hlt : i < kvs.length
  · refine .inr ⟨⟨qx, hlt⟩, Pv (i + 1), fun σ' H' p' => ⟨kvs.length - (i + 1), by omega, rfl, hlt, p'⟩, fun v H' y => ?_⟩
    obtain ⟨rfl, k, hk⟩ := y
    exact hs i k v σ _ hk p
  · have e : i = kvs.length := by omega
    subst e
    exact .inl ⟨⟨qx, Nat.le_refl _⟩, hd σ H p⟩
theorem qs_forVals (i : Nat) {x : Str} {px apos cpos : Pos} {tg : Expr} {body : List Stmt} {g : QTG} {b : QS} (po : PassesOwn (model X.prog X.w) X.A X.env X.xe) (hc : X.calm = true) (hgt : QPG X tg g) (hb : QPSs X W body b) (hN : X.N[i]? = some x := by rfl) (hv : Vis X.env.scope x := by first | exact Or.inl rfl | exact Or.inr (Or.inl rfl) | exact Or.inr (Or.inr rfl))
    (hd : (x == ("__debug__" : Str)) = false := by decide) (hcd : (x == ("__classdict__" : Str)) = false := by decide) (hbase : attributeBase (.Name x px) "values" X.env (eval (.Name x px) X.env) = eval (.Name x px) X.env := by rfl) (hline : (apos.endLine == cpos.line) = true := by rfl)
    (hfs : ∀ y, foldedSetIterable (.Call (.Attribute (.Name x px) "values" apos) [] [] cpos) X.env y = pure y := by intro _; rfl) :
    QPS X W (.For tg (.Call (.Attribute (.Name x px) "values" apos) [] [] cpos) body [] pos) (sForVals i g b) :=
  (ps_lock (ps_for po hc (pi_values (pe_var (i := i) hN hv hd hcd) hbase hline) hgt hb hfs)).imp fun D σ H ⟨env, M, G, D0, S, q, L⟩ => by
    obtain ⟨d, ks, xs, he, hm, q⟩ := q
    obtain ⟨v, h1, rfl⟩ := S.env.get _ _ he
    obtain ⟨_, vs, h2, h3, h4⟩ := S.wf.mem d _ hm
    refine ⟨d, .dK (ks.zip vs), h2, trivial, fun od => ?_⟩
    have w1 := S.wf.still_d hm od h2 h3 h4
    obtain ⟨I, i0, hst, hs, hd⟩ := q od vs
    have hlen : (ks.zip vs).length = xs.length := by rw [List.length_zip, h3, Nat.min_self, h4.length]
    have LL : LiftD X.K W G (lockE d od ks vs xs D0) ⟨fun σ' H' => H' d = some (.frz od (.dK (ks.zip vs))) ∧ D.nx σ' (upd H' d (.dK (ks.zip vs))), fun v H' => H' d = some (.frz od (.dK (ks.zip vs))) ∧ D.rt v (upd H' d (.dK (ks.zip vs))), fun σ' H' => H' d = some (.frz od (.dK (ks.zip vs))) ∧ D.bk σ' (upd H' d (.dK (ks.zip vs))), fun σ' H' => H' d = some (.frz od (.dK (ks.zip vs))) ∧ D.ct σ' (upd H' d (.dK (ks.zip vs)))⟩ := by
      refine ⟨fun env' M' σ' H' G' e S' z => ?_, fun y M' v' H' G' e w' r' z => ?_, fun env' M' σ' H' G' e S' z => ?_, fun env' M' σ' H' G' e S' z => ?_, fun _ _ _ _ _ _ _ _ _ _ _ z => z.elim⟩
      · obtain ⟨z1, z2⟩ := z
        obtain ⟨g1, g2⟩ := S'.wf.go_d z1
        exact ⟨g1, L.nx _ _ _ _ _ e ⟨S'.env, g2⟩ z2⟩
      · obtain ⟨z1, z2⟩ := z
        obtain ⟨g1, g2⟩ := w'.go_d z1
        exact ⟨g1, L.rt _ _ _ _ _ e g2 r' z2⟩
      · obtain ⟨z1, z2⟩ := z
        obtain ⟨g1, g2⟩ := S'.wf.go_d z1
        exact ⟨g1, L.bk _ _ _ _ _ e ⟨S'.env, g2⟩ z2⟩
      · obtain ⟨z1, z2⟩ := z
        obtain ⟨g1, g2⟩ := S'.wf.go_d z1
        exact ⟨g1, L.ct _ _ _ _ _ e ⟨S'.env, g2⟩ z2⟩
    refine ⟨.ref d, h1, d, od, ks.zip vs, rfl, upd_same, for_valsK (PvQ X.K G I) ⟨env, _, G, Ext.refl _, ⟨S.env, w1⟩, i0⟩ (fun k σ H hk ⟨env, M, G2, e2, S2, q2⟩ => ?_) (fun k kk x σ H hx ⟨env, M, G2, e2, S2, q2⟩ => ?_) (fun σ H ⟨env, M, G2, e2, S2, q2⟩ => ?_)⟩
    · exact (S2.wf.go_d (hst k env M (by omega) q2)).1
    · have hv2 : vs[k]? = some x := by
        rw [List.getElem?_zip_eq_some] at hx
        exact hx.2
      obtain ⟨y, hy, ry⟩ := h4.getV hv2
      exact turnQ LL e2 S2 (Rep.mono e2 _ _ ry) (hs k _ env M (List.getElem?_eq_some_iff.mp hy).1 hy q2)
    · exact LL.nx env M σ H G2 e2 S2 (hd env M (by rw [← hlen]; exact q2))
/-! ### [.. for x in d.values()], [.. for k in d] -/
theorem lc_itd {d : Addr} {o : Obj} {kvs : List (Key × V)} {g : TG} {tt : TT} {te : TE} {vs : List Nat} {σ : L2.St} {H1 : Hp} {D : Addr} {Qd : Hp → Prop} (Pv : Nat → Hp → Prop) (h0 : Pv 0 (upd H1 D (.lst []))) (hl : ∀ i H, i ≤ kvs.length → Pv i H → H d = some (.frz o (.dK kvs)))
    (hs : ∀ i k x H, kvs[i]? = some (k, x) → Pv i H → g x (L2.wipe σ vs) H fun σ2 H2 => L2.wipe σ2 vs = L2.wipe σ vs ∧ tt σ2 H2 fun b H3 =>
      if b = true then te σ2 H3 fun y H4 => ∃ acc, H4 D = some (.lst acc) ∧ acc.length < sizeLine ∧ Pv (i + 1) (upd H4 D (.lst (acc ++ [y]))) else Pv (i + 1) H3) (hd : ∀ H, Pv kvs.length H → Qd H) :
    ∃ W : Nat → Nat → Hp → Prop, (∃ m, W 0 m (upd H1 D (.lst []))) ∧ ∀ i m H, W i m H →
      ((Itd d o kvs).stop i H ∧ Qd H) ∨ ((Itd d o kvs).go i H ∧ ∃ Nx : Hp → Prop, (∀ H', Nx H' → ∃ m', m' < m ∧ W (i + 1) m' H') ∧ ∀ x H', (Itd d o kvs).yld i H x H' → g x (L2.wipe σ vs) H' fun σ2 H2 => L2.wipe σ2 vs = L2.wipe σ vs ∧ tt σ2 H2 fun b H3 =>
        if b = true then te σ2 H3 fun y H4 => ∃ acc, H4 D = some (.lst acc) ∧ acc.length < sizeLine ∧ Nx (upd H4 D (.lst (acc ++ [y]))) else Nx H3) := by
  refine ⟨fun i m H => m = kvs.length - i ∧ i ≤ kvs.length ∧ Pv i H, ⟨kvs.length, by simp, Nat.zero_le _, h0⟩, ?_⟩
  rintro i m H ⟨rfl, hi, p⟩
  have q := hl i H hi p
  by_cases hlt : i < kvs.length
  · refine .inr ⟨⟨q, hlt⟩, Pv (i + 1), fun H' p' => ⟨kvs.length - (i + 1), by omega, rfl, hlt, p'⟩, fun x H' y => ?_⟩
    obtain ⟨e, k, hk⟩ := y
    subst e
    exact hs i k x _ hk p
  · have e : i = kvs.length := by omega
    subst e
    exact .inl ⟨⟨q, Nat.le_refl _⟩, hd H p⟩
theorem lc_itk {d : Addr} {o : Obj} {kvs : List (Key × V)} {g : TG} {tt : TT} {te : TE} {vs : List Nat} {σ : L2.St} {H1 : Hp} {D : Addr} {Qd : Hp → Prop} (Pv : Nat → Hp → Prop) (h0 : Pv 0 (upd H1 D (.lst []))) (hl : ∀ i H, i ≤ kvs.length → Pv i H → H d = some (.frz o (.dK kvs)))
    (hs : ∀ i k x H, kvs[i]? = some (k, x) → Pv i H → g (kV k) (L2.wipe σ vs) H fun σ2 H2 => L2.wipe σ2 vs = L2.wipe σ vs ∧ tt σ2 H2 fun b H3 =>
      if b = true then te σ2 H3 fun y H4 => ∃ acc, H4 D = some (.lst acc) ∧ acc.length < sizeLine ∧ Pv (i + 1) (upd H4 D (.lst (acc ++ [y]))) else Pv (i + 1) H3) (hd : ∀ H, Pv kvs.length H → Qd H) :
    ∃ W : Nat → Nat → Hp → Prop, (∃ m, W 0 m (upd H1 D (.lst []))) ∧ ∀ i m H, W i m H →
      ((Itk d o kvs).stop i H ∧ Qd H) ∨ ((Itk d o kvs).go i H ∧ ∃ Nx : Hp → Prop, (∀ H', Nx H' → ∃ m', m' < m ∧ W (i + 1) m' H') ∧ ∀ x H', (Itk d o kvs).yld i H x H' → g x (L2.wipe σ vs) H' fun σ2 H2 => L2.wipe σ2 vs = L2.wipe σ vs ∧ tt σ2 H2 fun b H3 =>
        if b = true then te σ2 H3 fun y H4 => ∃ acc, H4 D = some (.lst acc) ∧ acc.length < sizeLine ∧ Nx (upd H4 D (.lst (acc ++ [y]))) else Nx H3) := by
  refine ⟨fun i m H => m = kvs.length - i ∧ i ≤ kvs.length ∧ Pv i H, ⟨kvs.length, by simp, Nat.zero_le _, h0⟩, ?_⟩
  rintro i m H ⟨rfl, hi, p⟩
  have q := hl i H hi p
  by_cases hlt : i < kvs.length
  · refine .inr ⟨⟨q, hlt⟩, Pv (i + 1), fun H' p' => ⟨kvs.length - (i + 1), by omega, rfl, hlt, p'⟩, fun x H' y => ?_⟩
    obtain ⟨e, k, v, hk, ex⟩ := y
    subst e ex
    exact hs i k v _ hk p
  · have e : i = kvs.length := by omega
    subst e
    exact .inl ⟨⟨q, Nat.le_refl _⟩, hd H p⟩
def kP : Key → PV
  | .inl i => .int i
  | .inr s => .str s
theorem kP_rep {K : PySem.W.Frag} {G : Hp} (k : Key) : Rep K G (kP k) (kV k) := by cases k <;> rfl
def lockK (d : Addr) (od : Obj) (ks : List Key) (us : List V) (xs : List PV) (Q : PK) : PK := fun v M => M d = some (.fdc od ks us xs) ∧ Q v (mset M d (.dic ks xs))
def qLcVals (i j : Nat) (vs : List Nat) (tt : QB) (te : QT) : QT := fun env M Q _ => ∃ d ks xs, env[i]? = some (some (.ref d)) ∧ M d = some (.dic ks xs) ∧ ∀ od us,
  lcQ xs (fun y => some ((wipeQ env vs).set j (some y))) tt te (mset M d (.fdc od ks us xs)) (lockK d od ks us xs Q)
def qLcKeys (i j : Nat) (vs : List Nat) (tt : QB) (te : QT) : QT := fun env M Q _ => ∃ d ks xs, env[i]? = some (some (.ref d)) ∧ M d = some (.dic ks xs) ∧ ∀ od us,
  lcQ (ks.map kP) (fun y => some ((wipeQ env vs).set j (some y))) tt te (mset M d (.fdc od ks us xs)) (lockK d od ks us xs Q)
theorem lockK_lift {d : Addr} {od : Obj} {ks : List Key} {us : List V} {xs : List PV} {G : Hp} {Q0 : PK} {Q : VK} (L : LiftV X.K G Q0 Q) : LiftV X.K G (lockK d od ks us xs Q0) fun v H' => H' d = some (.frz od (.dK (ks.zip us))) ∧ Q v (upd H' d (.dK (ks.zip us))) := fun y M' v' H' G' e w' r' z => by
  obtain ⟨z1, z2⟩ := z
  obtain ⟨g1, g2⟩ := w'.go_d z1
  exact ⟨g1, L _ _ _ _ _ e g2 r' z2⟩
theorem lcVals_imp {own : List Nat} {i j : Nat} {tt : QB} {te : QT} {σ : L2.St} {H : Hp} {Q : VK} (hj : j ∈ own) (h : tie X.K W (qLcVals i j own tt te) σ H Q) : tLockE (tLc (iVals (tVar i)) (gName j) (tieB X.K W0 tt) (tie X.K W0 te) own) σ H Q := by
  obtain ⟨env, M, G, Q0, E0, S, ⟨d, ks, xs, he, hm, q⟩, L, LE⟩ := h
  obtain ⟨v, h1, rfl⟩ := S.env.get _ _ he
  obtain ⟨_, vs, h2, h3, h4⟩ := S.wf.mem d _ hm
  refine ⟨d, .dK (ks.zip vs), h2, trivial, fun od => ?_⟩
  have w1 := S.wf.still_d hm od h2 h3 h4
  obtain ⟨hn, r, hr, q1⟩ := q od vs
  have hlen : (ks.zip vs).length = xs.length := by rw [List.length_zip, h3, Nat.min_self, h4.length]
  refine ⟨.ref d, h1, d, od, ks.zip vs, rfl, upd_same, fun D hD => ?_⟩
  have hM := w1.freeM hD
  have dD : d ≠ D := by rintro rfl; rw [mset_same] at hM; cases hM
  refine lc_itd (lcP X.K G (mset M d (.fdc od ks vs xs)) D xs r) ⟨G, Ext.refl _, w1.put (w1.free hD) (mok_lst Reps.nil)⟩ (fun k H _ ⟨G', e', w'⟩ => ?_) (fun k kk v H hv ⟨G', e', w'⟩ => ?_)
    (fun H hp => lc_end (lockK_lift L) hM (by rw [← hlen]; exact hp) q1)
  · exact (w'.mem d _ ((mset_ne dD).trans mset_same)).2.1
  · have hv2 : vs[k]? = some v := by
      rw [List.getElem?_zip_eq_some] at hv
      exact hv.2
    obtain ⟨z, hx, rz⟩ := h4.getV hv2
    refine ⟨wipe_set hj, ?_⟩
    have S2 : Sim X.K ((wipeQ env own).set j (some z)) _ G' ((L2.wipe σ own).set j (some v)) H := ⟨((S.env.mono e').wipe _).set (Rep.mono e' _ _ rz), w'⟩
    refine lc_turnQ hn hx e' hM S2 (fun M2 hM2 => ?_) (fun H' h => h)
    obtain ⟨env2, ee, q2⟩ := hr _ (List.mem_of_getElem? hx) M2 hM2
    cases ee
    exact q2
theorem lcKeys_imp {own : List Nat} {i j : Nat} {tt : QB} {te : QT} {σ : L2.St} {H : Hp} {Q : VK} (hj : j ∈ own) (h : tie X.K W (qLcKeys i j own tt te) σ H Q) : tLockE (tLc (iKeys (tVar i)) (gName j) (tieB X.K W0 tt) (tie X.K W0 te) own) σ H Q := by
  obtain ⟨env, M, G, Q0, E0, S, ⟨d, ks, xs, he, hm, q⟩, L, LE⟩ := h
  obtain ⟨v, h1, rfl⟩ := S.env.get _ _ he
  obtain ⟨_, vs, h2, h3, h4⟩ := S.wf.mem d _ hm
  refine ⟨d, .dK (ks.zip vs), h2, trivial, fun od => ?_⟩
  have w1 := S.wf.still_d hm od h2 h3 h4
  obtain ⟨hn, r, hr, q1⟩ := q od vs
  have hlen : (ks.zip vs).length = (ks.map kP).length := by rw [List.length_zip, List.length_map, h3, Nat.min_self]
  refine ⟨.ref d, h1, d, od, rfl, .inl ⟨ks.zip vs, upd_same, fun D hD => ?_⟩⟩
  have hM := w1.freeM hD
  have dD : d ≠ D := by rintro rfl; rw [mset_same] at hM; cases hM
  refine lc_itk (lcP X.K G (mset M d (.fdc od ks vs xs)) D (ks.map kP) r) ⟨G, Ext.refl _, w1.put (w1.free hD) (mok_lst Reps.nil)⟩ (fun k H _ ⟨G', e', w'⟩ => ?_) (fun k kk v H hv ⟨G', e', w'⟩ => ?_)
    (fun H hp => lc_end (lockK_lift L) hM (by rw [← hlen]; exact hp) q1)
  · exact (w'.mem d _ ((mset_ne dD).trans mset_same)).2.1
  · have hk2 : ks[k]? = some kk := by
      rw [List.getElem?_zip_eq_some] at hv
      exact hv.1
    have hx : (ks.map kP)[k]? = some (kP kk) := by rw [List.getElem?_map, hk2]; rfl
    refine ⟨wipe_set hj, ?_⟩
    have S2 : Sim X.K ((wipeQ env own).set j (some (kP kk))) _ G' ((L2.wipe σ own).set j (some (kV kk))) H := ⟨((S.env.mono e').wipe _).set (kP_rep kk), w'⟩
    refine lc_turnQ hn hx e' hM S2 (fun M2 hM2 => ?_) (fun H' h => h)
    obtain ⟨env2, ee, q2⟩ := hr _ (List.mem_of_getElem? hx) M2 hM2
    cases ee
    exact q2
theorem qe_lcVals (i : Nat) {elt : Expr} {x n : Str} {px pn apos cpos : Pos} {ifs : List Expr} {scope : Scope} {own : List (Str × Nat)} {j : Nat} {tt : QB} {te : QT} (hc : X.calm = true) (hN : X.N.Nodup) (hj : j ∈ own.map (·.2))
    (ok : BlkOk X.N X.env.scope scope own) (hg : ∀ (s : Shared) (H : Hp) (C : Addr) (cl : List (Str × Addr)) (fp : List Addr) (xe : Value → Shared → Prop), PG (TC.blkX X s H scope (compEnvC scope cl C X.env) fp xe) (.Name x px) (gName j))
    (ht : ∀ (s : Shared) (H : Hp) (C : Addr) (cl : List (Str × Addr)) (fp : List Addr) (xe : Value → Shared → Prop), QPTs (TC.blkX X s H scope (compEnvC scope cl C X.env) fp xe) ifs tt)
    (he : ∀ (s : Shared) (H : Hp) (C : Addr) (cl : List (Str × Addr)) (fp : List Addr) (xe : Value → Shared → Prop), QE (TC.blkX X s H scope (compEnvC scope cl C X.env) fp xe) W0 elt te)
    (hi : X.N[i]? = some n := by rfl) (hv : Vis X.env.scope n := by first | exact Or.inl rfl | exact Or.inr (Or.inl rfl) | exact Or.inr (Or.inr rfl)) (hd : (n == ("__debug__" : Str)) = false := by decide) (hcd : (n == ("__classdict__" : Str)) = false := by decide)
    (hbase : attributeBase (.Name n pn) "values" X.env (eval (.Name n pn) X.env) = eval (.Name n pn) X.env := by rfl) (hline : (apos.endLine == cpos.line) = true := by rfl) (hfs : ∀ v, foldedSetIterable (.Call (.Attribute (.Name n pn) "values" apos) [] [] cpos) X.env v = pure v := by intro _; rfl) :
    QE X W (.ListComp elt [{ target := .Name x px, iter := .Call (.Attribute (.Name n pn) "values" apos) [] [] cpos, ifs := ifs, is_async := 0 }] scope pos) (qLcVals i j (own.map (·.2)) tt te) :=
  (pe_lock (TC.pe_lcX (C := TC.Calm) (Wb := W0) (tt := tieB X.K W0 tt) (te := tie X.K W0 te) hc hN (TC.pic_of (pi_values (pe_var (i := i) hi hv hd hcd) hbase hline)) ok hg (fun s H c cl fp xe _ => ht s H c cl fp xe) (fun s H c cl fp xe _ => he s H c cl fp xe) (fun _ _ _ _ _ _ => TC.blkTk_none) hfs)).imp fun σ H Q h => lcVals_imp hj h
theorem qe_lcKeys (i : Nat) {elt : Expr} {x n : Str} {px pn : Pos} {ifs : List Expr} {scope : Scope} {own : List (Str × Nat)} {j : Nat} {tt : QB} {te : QT} (hc : X.calm = true) (hN : X.N.Nodup) (hj : j ∈ own.map (·.2))
    (ok : BlkOk X.N X.env.scope scope own) (hg : ∀ (s : Shared) (H : Hp) (C : Addr) (cl : List (Str × Addr)) (fp : List Addr) (xe : Value → Shared → Prop), PG (TC.blkX X s H scope (compEnvC scope cl C X.env) fp xe) (.Name x px) (gName j))
    (ht : ∀ (s : Shared) (H : Hp) (C : Addr) (cl : List (Str × Addr)) (fp : List Addr) (xe : Value → Shared → Prop), QPTs (TC.blkX X s H scope (compEnvC scope cl C X.env) fp xe) ifs tt)
    (he : ∀ (s : Shared) (H : Hp) (C : Addr) (cl : List (Str × Addr)) (fp : List Addr) (xe : Value → Shared → Prop), QE (TC.blkX X s H scope (compEnvC scope cl C X.env) fp xe) W0 elt te)
    (hi : X.N[i]? = some n := by rfl) (hv : Vis X.env.scope n := by first | exact Or.inl rfl | exact Or.inr (Or.inl rfl) | exact Or.inr (Or.inr rfl)) (hd : (n == ("__debug__" : Str)) = false := by decide) (hcd : (n == ("__classdict__" : Str)) = false := by decide)
    (hfs : ∀ v, foldedSetIterable (.Name n pn) X.env v = pure v := by intro _; rfl) :
    QE X W (.ListComp elt [{ target := .Name x px, iter := .Name n pn, ifs := ifs, is_async := 0 }] scope pos) (qLcKeys i j (own.map (·.2)) tt te) :=
  (pe_lock (TC.pe_lcX (C := TC.Calm) (Wb := W0) (tt := tieB X.K W0 tt) (te := tie X.K W0 te) hc hN (TC.pic_of (pi_keys (pe_var (i := i) hi hv hd hcd))) ok hg (fun s H c cl fp xe _ => ht s H c cl fp xe) (fun s H c cl fp xe _ => he s H c cl fp xe) (fun _ _ _ _ _ _ => TC.blkTk_none) hfs)).imp fun σ H Q h => lcKeys_imp hj h
theorem qs_lcVals (i0 i : Nat) {z : Str} {pz spos : Pos} {elt : Expr} {x n : Str} {px pn apos cpos : Pos} {ifs : List Expr} {scope : Scope} {own : List (Str × Nat)} {j : Nat} {tt : QB} {te : QT} (hc : X.calm = true) (hN : X.N.Nodup) (hj : j ∈ own.map (·.2))
    (ok : BlkOk X.N X.env.scope scope own) (hg : ∀ (s : Shared) (H : Hp) (C : Addr) (cl : List (Str × Addr)) (fp : List Addr) (xe : Value → Shared → Prop), PG (TC.blkX X s H scope (compEnvC scope cl C X.env) fp xe) (.Name x px) (gName j))
    (ht : ∀ (s : Shared) (H : Hp) (C : Addr) (cl : List (Str × Addr)) (fp : List Addr) (xe : Value → Shared → Prop), QPTs (TC.blkX X s H scope (compEnvC scope cl C X.env) fp xe) ifs tt)
    (he : ∀ (s : Shared) (H : Hp) (C : Addr) (cl : List (Str × Addr)) (fp : List Addr) (xe : Value → Shared → Prop), QE (TC.blkX X s H scope (compEnvC scope cl C X.env) fp xe) W0 elt te)
    (hi : X.N[i]? = some n := by rfl) (hv : Vis X.env.scope n := by first | exact Or.inl rfl | exact Or.inr (Or.inl rfl) | exact Or.inr (Or.inr rfl)) (hd : (n == ("__debug__" : Str)) = false := by decide) (hcd : (n == ("__classdict__" : Str)) = false := by decide)
    (hbase : attributeBase (.Name n pn) "values" X.env (eval (.Name n pn) X.env) = eval (.Name n pn) X.env := by rfl) (hline : (apos.endLine == cpos.line) = true := by rfl) (hfs : ∀ v, foldedSetIterable (.Call (.Attribute (.Name n pn) "values" apos) [] [] cpos) X.env v = pure v := by intro _; rfl)
    (hlo : X.env.scope.names.lookup z = some .local := by rfl) (hi0 : X.N[i0]? = some z := by rfl)
    (hsw : swapsWith (.ListComp elt [{ target := .Name x px, iter := .Call (.Attribute (.Name n pn) "values" apos) [] [] cpos, ifs := ifs, is_async := 0 }] scope pos) (some (.Name z pz)) spos.line X.env = pure true := by exact sw_true rfl rfl rfl (by decide +kernel)) :
    QPS X W (.Assign [.Name z pz] (.ListComp elt [{ target := .Name x px, iter := .Call (.Attribute (.Name n pn) "values" apos) [] [] cpos, ifs := ifs, is_async := 0 }] scope pos) spos) (sAsg (qLcVals i j (own.map (·.2)) tt te) (gNm i0)) :=
  (ps_lock (TC.ps_setLcX (C := TC.Calm) (Wb := W0) (tt := tieB X.K W0 tt) (te := tie X.K W0 te) hc hN hi0 hlo hsw (TC.pic_of (pi_values (pe_var (i := i) hi hv hd hcd) hbase hline)) ok hg (fun s H c cl fp xe _ => ht s H c cl fp xe) (fun s H c cl fp xe _ => he s H c cl fp xe) (fun _ _ _ _ _ _ _ => TC.blkTk_none) hfs)).imp fun D σ H h =>
    (show tLockE (tLc (iVals (tVar i)) (gName j) (tieB X.K W0 tt) (tie X.K W0 te) (own.map (·.2))) σ H (fun v H1 => gName i0 v σ H1 D.nx) from lcVals_imp hj (tieNm (tieAsg h) fun _ _ _ _ k z => tie_mono k z))
/-! ### d[k], d walked; d.update(o) -/
def dgetF (x k : PV) (M : Mem) (Q : PK) : Prop := dgetP x k M Q ∨ ∃ a od ks us xs kk v, x = .ref a ∧ M a = some (.fdc od ks us xs) ∧ keyP k = some kk ∧ getX kk ks xs = some v ∧ Q v M
def qDGetF (td ty : QT) : QT := fun env M Q E => td env M (fun x M1 => ty env M1 (fun k M2 => dgetF x k M2 Q) E) E
theorem qe_dgetF {o i : Expr} {td ty : QT} (hu : X.A.units + 1 < cLine) (ho : QE X W o td) (hi : QE X W i ty) (hs : NoSl i := by exact fun _ _ => rfl) : QE X W (.Subscript o i pos) (qDGetF td ty) := (pe_dget hu ho hi hs).imp fun σ H Q ⟨env, M, G, Q0, E0, S, q, L, LE⟩ => by
  refine ⟨env, M, G, _, E0, S, q, fun x M1 u H1 G1 e1 w1 r1 q1 => ?_, LE⟩
  refine ⟨env, M1, G1, _, E0, S.to e1 w1, q1, fun k M2 kv H2 G2 e2 w2 r2 q2 => ?_, LE.mono e1⟩
  rcases q2 with ⟨a, ks, xs, kk, v, rfl, hm, hk, hg, q2⟩ | ⟨a, od, ks, us, xs, kk, v, rfl, hm, hk, hg, q2⟩
  · cases r1
    obtain ⟨g, vs, h1, h2, h3⟩ := w2.mem a _ hm
    have ek := keyP_V hk r2
    subst ek
    obtain ⟨u, hu', ru⟩ := getX_rep hg h3
    refine ⟨a, u, rfl, ?_, give (L.mono (e1.trans e2)) w2 ru q2⟩
    have := DGet.k (k := kk) h1
    rw [valV_zip, hu'] at this
    exact this
  · cases r1
    obtain ⟨g, h1, h2, h3⟩ := w2.mem a _ hm
    have ek := keyP_V hk r2
    subst ek
    obtain ⟨u, hu', ru⟩ := getX_rep hg h3
    refine ⟨a, u, rfl, ?_, give (L.mono (e1.trans e2)) w2 ru q2⟩
    have : DGet H2 a (kV kk) (valV (ks.zip us) kk) := .inl ⟨_, kk, .inr ⟨od, h1⟩, rfl, rfl⟩
    rw [valV_zip, hu'] at this
    exact this
def rDUpd : V → List V → Hp → VK → Prop := fun x vs H Q => ∃ d o ks ls, x = .ref d ∧ vs = [.ref o] ∧ d ≠ o ∧ H d = some (.dK ks) ∧ H o = some (.dK ls) ∧ ks.length + ls.length ≤ sizeLine ∧ Q .non (upd H d (.dK (mergeK ks ls)))
theorem mtd_update : MtR X "dict.update" rDUpd := by
  intro pins s σ H x vs v us Q I rx rv h
  obtain ⟨d, o, ks, ls, rfl, rfl, ne, e1, e2, hz, q⟩ := h
  obtain rfl : v = Value.ref d := rx
  obtain ⟨u, rfl, ru⟩ := Vals.one rv
  obtain rfl : u = Value.ref o := ru
  obtain ⟨z, hd, vs, rel, dd⟩ := dk_of I.hok e1
  obtain ⟨z2, hd2, ws, rel2, dd2⟩ := dk_of I.hok e2
  have l1 := rel.length
  have l2 := rel2.length
  refine call_meetsIn F.slot_dict_update dd.typeIs F.entry_dict_update (F.args_dict_update_2 _ _) (meets_dict_update (mixKind X.prog X.w) d o ne hd2) ⟨vs, ws, dd, dd2, by rw [← l1, ← l2]; exact hz, fun h' d1 d2 hs => ?_⟩
  have r3 := KV.merge rel2 rel
  have hl : (mergeK ks ls).length ≤ sizeLine := by
    have := merged_length_le vs ws
    rw [r3.length]
    omega
  have he : ∃ q, h'.get? d = some q := let ⟨q, _, _, hq, _⟩ := d1; ⟨q, hq⟩
  exact ⟨.non, _, d_write (t' := s.toks) I (by rw [e1]; exact True.intro) hs he (dk_new hl hd r3 d1), rfl, q⟩
def qDUpd (to ta : QT) : QT := fun env M Q E => to env M (fun x M1 => (∃ a ks xs, x = .ref a ∧ M1 a = some (.dic ks xs)) ∧ ta env M1 (fun y M2 => ∃ d o ks xs ls ys, x = .ref d ∧ y = .ref o ∧ d ≠ o ∧ M2 d = some (.dic ks xs) ∧ M2 o = some (.dic ls ys) ∧ ks.Nodup ∧ ks.length + ls.length ≤ sizeLine ∧ Q .non (mset M2 d (.dic (mgP ks xs (ls.zip ys)).1 (mgP ks xs (ls.zip ys)).2))) E) E
theorem qe_dupd {o e : Expr} {to ta : QT} {apos cpos : Pos} (ho : QE X W o to) (ha : QE X W e ta) (hb : attributeBase o "update" X.env (eval o X.env) = eval o X.env := by rfl)
    (hfew : ((backTo cpos (starEach (e :: []) X.env)).all (fun x => !x.1) && (backToKw cpos (keywordEach [] X.env)).all (fun x => x.1.isSome)
      && decide ((e :: []).length + ([] : List Keyword).length + (if ([] : List Keyword).isEmpty then 0 else 1) < 30)) = true := by rfl)
    (hline : (apos.endLine == cpos.line) = true := by rfl) (hs : starEach (e :: []) X.env = (false, eval e X.env) :: starEach [] X.env := by rfl) (hplain : (backTo cpos (starEach [] X.env)).any (·.1) = false := by rfl) :
    QE X W (.Call (.Attribute o "update" apos) [e] [] cpos) (qDUpd to ta) :=
  (pe_bm PySem.F.plainAttrs_dict PySem.F.slot_dict_update PySem.F.type_dict_update mtd_update ho (pa_cons ha pa_nil hs) hb hfew hline hs hplain).imp fun σ H Q ⟨env, M, G, Q0, E0, S, q, L, LE⟩ => by
    refine ⟨env, M, G, _, E0, S, q, fun x M1 v H1 G1 e1 w1 r1 q1 => ?_, LE⟩
    obtain ⟨⟨a, ks0, xs0, rfl, hm0⟩, q1⟩ := q1
    have r1' := r1
    cases r1
    obtain ⟨_, vs0, h0, _⟩ := w1.mem a _ hm0
    refine ⟨.inr (.inr (.inl ⟨rfl, .inl ⟨_, h0⟩⟩)), env, M1, G1, _, E0, S.to e1 w1, q1, fun y M2 u H2 G2 e2 w2 r2 q2 => ?_, LE.mono e1⟩
    obtain ⟨d, o, ks, xs, ls, ys, hx, rfl, ne, hm1, hm2, nd, hz, q2⟩ := q2
    cases hx
    cases r2
    obtain ⟨g, vs, h1, h2, h3⟩ := w2.mem a _ hm1
    obtain ⟨g2, ws, h4, h5, h6⟩ := w2.mem o _ hm2
    have hzz := mgP_zip (ls.zip ws) ks vs nd h2
    have hr := mgP_reps (K := X.K) (G := G2) ls ys ws ks xs vs (by rw [h5, h6.length]) h6 (by rw [h2, h3.length]) h3
    refine ⟨a, o, ks.zip vs, ls.zip ws, rfl, rfl, ne, h1, h4, ?_, ?_⟩
    · rw [List.length_zip, List.length_zip]
      omega
    · rw [hzz.1]
      exact L .non _ .non _ G2 (e1.trans e2) (w2.put (m := .dic _ _) g ⟨_, by rw [upd_same, hr.1], by rw [hr.1]; exact hzz.2, hr.2⟩ (.inr ⟨_, h1, fun z => z⟩)) rfl q2
end
end TQ
namespace TN
open PySem PySem.Spec PyProof.Rows L2 TQ TM
section
variable {env : Sl} {M : Mem} {Q : PK} {E : EK} {D : QEnds} {x : PV} {xs : List PV} {d : Addr} {ks : List Key}
def fvP (o : Option (Option PV)) (g : QTG) (b : QS) (D : QEnds) (env : Sl) (M : Mem) : Prop := ∃ d ks xs, o = some (some (.ref d)) ∧ M d = some (.dic ks xs) ∧ ∀ od us,
  forI xs.length (fun k x => xs[k]? = some x) (fun M' => M' d = some (.fdc od ks us xs)) g b (lockE d od ks us xs D) env (mset M d (.fdc od ks us xs))
theorem e_sForVals {i : Nat} {g : QTG} {b : QS} : sForVals i g b D env M = fvP env[i]? g b D env M := rfl
theorem fvP_of {g : QTG} {b : QS} (h : M d = some (.dic ks xs)) (q : ∀ od us, forI xs.length (fun k x => xs[k]? = some x) (fun M' => M' d = some (.fdc od ks us xs)) g b (lockE d od ks us xs D) env (mset M d (.fdc od ks us xs))) : fvP (some (some (.ref d))) g b D env M := ⟨d, ks, xs, rfl, h, q⟩
def lcVP (o : Option (Option PV)) (j : Nat) (vs : List Nat) (tt : QB) (te : QT) (env : Sl) (M : Mem) [Q : Box PK] : Prop := ∃ d ks xs, o = some (some (.ref d)) ∧ M d = some (.dic ks xs) ∧ ∀ od us,
  lcQ xs (fun y => some ((wipeQ env vs).set j (some y))) tt te (mset M d (.fdc od ks us xs)) (lockK d od ks us xs Q.v)
theorem e_lcVals {i j : Nat} {vs : List Nat} {tt : QB} {te : QT} : qLcVals i j vs tt te env M Q E = @lcVP env[i]? j vs tt te env M ⟨Q⟩ := rfl
theorem mset_back {o : MO} (h : M d = some o) {o' : MO} : mset (mset M d o') d o = M := by
  funext b
  by_cases hb : b = d
  · rw [hb, mset_same, h]
  · rw [mset_ne hb, mset_ne hb]
theorem lcVals_of {j : Nat} {vs : List Nat} {tt : QB} {te : QT} {Q : Box PK} (h : M d = some (.dic ks xs)) (r : PV → Option PV) (hn : xs.length ≤ 100000)
    (hr : ∀ x ∈ xs, ∀ od us M2, MExt (mset M d (.fdc od ks us xs)) M2 → lcEl tt te ((wipeQ env vs).set j (some x)) M2 (r x)) (q : Q.v (.lst (xs.filterMap r)) M) : @lcVP (some (some (.ref d))) j vs tt te env M Q :=
  ⟨d, ks, xs, rfl, h, fun od us => ⟨hn, r, fun x hx M2 hM => ⟨_, rfl, hr x hx od us M2 hM⟩, mset_same, by rw [mset_back h]; exact q⟩⟩
def lcKP (o : Option (Option PV)) (j : Nat) (vs : List Nat) (tt : QB) (te : QT) (env : Sl) (M : Mem) [Q : Box PK] : Prop := ∃ d ks xs, o = some (some (.ref d)) ∧ M d = some (.dic ks xs) ∧ ∀ od us,
  lcQ (ks.map kP) (fun y => some ((wipeQ env vs).set j (some y))) tt te (mset M d (.fdc od ks us xs)) (lockK d od ks us xs Q.v)
theorem e_lcKeys {i j : Nat} {vs : List Nat} {tt : QB} {te : QT} : qLcKeys i j vs tt te env M Q E = @lcKP env[i]? j vs tt te env M ⟨Q⟩ := rfl
theorem lcKeys_of {j : Nat} {vs : List Nat} {tt : QB} {te : QT} {Q : Box PK} (h : M d = some (.dic ks xs)) (r : PV → Option PV) (hn : ks.length ≤ 100000)
    (hr : ∀ x ∈ ks.map kP, ∀ od us M2, MExt (mset M d (.fdc od ks us xs)) M2 → lcEl tt te ((wipeQ env vs).set j (some x)) M2 (r x)) (q : Q.v (.lst ((ks.map kP).filterMap r)) M) : @lcKP (some (some (.ref d))) j vs tt te env M Q :=
  ⟨d, ks, xs, rfl, h, fun od us => ⟨by rw [List.length_map]; exact hn, r, fun x hx M2 hM => ⟨_, rfl, hr x hx od us M2 hM⟩, mset_same, by rw [mset_back h]; exact q⟩⟩
def dgetFB (x k : PV) (M : Mem) [Q : Box PK] : Prop := dgetF x k M Q.v
theorem e_qDGetF {td ty : QT} : qDGetF td ty env M Q E = td env M (fun x M1 => ty env M1 (fun k M2 => @dgetFB x k M2 ⟨Q⟩) E) E := rfl
theorem dgetF_dic {k v : PV} {kk : Key} {Q : Box PK} (h : M d = some (.dic ks xs)) (hk : keyP k = some kk) (hg : getX kk ks xs = some v) (q : Q.v v M) : @dgetFB (.ref d) k M Q := .inl ⟨d, ks, xs, kk, v, rfl, h, hk, hg, q⟩
theorem dgetF_fdc {k v : PV} {kk : Key} {od : Obj} {us : List V} {Q : Box PK} (h : M d = some (.fdc od ks us xs)) (hk : keyP k = some kk) (hg : getX kk ks xs = some v) (q : Q.v v M) : @dgetFB (.ref d) k M Q := .inr ⟨d, od, ks, us, xs, kk, v, rfl, h, hk, hg, q⟩
def dupdA (x : PV) (M : Mem) [R : Box Prop] : Prop := (∃ a ks xs, x = .ref a ∧ M a = some (.dic ks xs)) ∧ R.v
def dupdB (x y : PV) (M : Mem) [Q : Box PK] : Prop := ∃ d o ks xs ls ys, x = .ref d ∧ y = .ref o ∧ d ≠ o ∧ M d = some (.dic ks xs) ∧ M o = some (.dic ls ys) ∧ ks.Nodup ∧ ks.length + ls.length ≤ sizeLine ∧ Q.v .non (mset M d (.dic (mgP ks xs (ls.zip ys)).1 (mgP ks xs (ls.zip ys)).2))
theorem e_qDUpd {to ta : QT} : qDUpd to ta env M Q E = to env M (fun x M1 => @dupdA x M1 ⟨ta env M1 (fun y M2 => @dupdB x y M2 ⟨Q⟩) E⟩) E := rfl
theorem dupdA_of {R : Box Prop} (h : M d = some (.dic ks xs)) (q : R.v) : @dupdA (.ref d) M R := ⟨⟨d, ks, xs, rfl, h⟩, q⟩
theorem dupdB_of {o : Addr} {ls : List Key} {ys : List PV} {Q : Box PK} (ne : d ≠ o) (h : M d = some (.dic ks xs)) (h2 : M o = some (.dic ls ys)) (nd : ks.Nodup) (l : ks.length + ls.length ≤ sizeLine) (q : Q.v .non (mset M d (.dic (mgP ks xs (ls.zip ys)).1 (mgP ks xs (ls.zip ys)).2))) : @dupdB (.ref d) (.ref o) M Q := ⟨d, o, ks, xs, ls, ys, rfl, rfl, ne, h, h2, nd, l, q⟩
end
end TN

/-! xs.extend(ys) -/
namespace TQ
open PySem PySem.Spec PyProof.Rows L2
section
variable {X : Cx} {W : WX} {pos : Pos}
def extP (x y : PV) (M : Mem) (Q : PK) : Prop := ∃ a xs ys, x = .ref a ∧ M a = some (.lst xs) ∧ (y = .lst ys ∨ ∃ b, y = .ref b ∧ M b = some (.lst ys)) ∧ xs.length + ys.length ≤ sizeLine ∧ Q .non (mset M a (.lst (xs ++ ys)))
def qExt (to te : QT) : QT := fun env M Q E => to env M (fun x M1 => (∃ a ys, x = .ref a ∧ M1 a = some (.lst ys)) ∧ te env M1 (fun y M2 => extP x y M2 Q) E) E
theorem qe_ext {o e : Expr} {to te : QT} {apos : Pos} (ho : QE X W o to) (he : QE X W e te) (hb : attributeBase o "extend" X.env (eval o X.env) = eval o X.env := by rfl)
    (h2 : (((backTo pos (starEach [e] X.env)).all fun x => !x.fst) && (backToKw pos (keywordEach [] X.env)).all fun x => x.fst.isSome) = true := by rfl) (h3 : (apos.endLine == pos.line) = true := by rfl)
    (h4 : starEach [e] X.env = (false, eval e X.env) :: starEach [] X.env := by rfl) (h5 : (backTo pos (starEach [] X.env)).any (·.1) = false := by rfl) : QE X W (.Call (.Attribute o "extend" apos) [e] [] pos) (qExt to te) :=
  (pe_bm PySem.F.plainAttrs_list PySem.F.slot_list_extend PySem.F.type_list_extend mt_extend ho (pa_cons he pa_nil h4) hb (by rw [Bool.and_eq_true]; exact ⟨h2, rfl⟩) h3 h4 h5).imp fun σ H Q ⟨env, M, G, Q0, E0, S, q, L, LE⟩ => by
    refine ⟨env, M, G, _, E0, S, q, fun x M1 v H1 G1 e1 w1 r1 q1 => ?_, LE⟩
    obtain ⟨⟨a, ys0, rfl, hm⟩, q1⟩ := q1
    cases r1
    obtain ⟨_, vs, h1, _⟩ := w1.mem a _ hm
    refine ⟨.inl ⟨rfl, _, SqL.of h1⟩, env, M1, G1, _, E0, S.to e1 w1, q1, fun y M2 u H2 G2 e2 w2 r2 q2 => ?_, LE.mono e1⟩
    obtain ⟨a', xs, ys, hx, hm2, hy, hz, q2⟩ := q2
    cases hx
    obtain ⟨g2, ws, h2, r3⟩ := w2.mem a _ hm2
    obtain ⟨b, zs, rfl, h5, r4⟩ : ∃ b zs, u = V.ref b ∧ H2 b = some (.lst zs) ∧ Reps X.K G2 ys zs := by
      rcases hy with rfl | ⟨b, rfl, hb⟩
      · obtain ⟨b, zs, rfl, h5, r4⟩ := r2
        exact ⟨b, zs, rfl, w2.sub _ _ h5, r4⟩
      · cases r2
        obtain ⟨_, zs, h5, r4⟩ := w2.mem b _ hb
        exact ⟨b, zs, rfl, h5, r4⟩
    refine ⟨a, b, ws, zs, rfl, rfl, h2, h5, by rw [← r3.length, ← r4.length]; exact hz, ?_⟩
    exact L .non _ .non _ G2 (e1.trans e2) (w2.put g2 (mok_lst (r3.append r4))) rfl q2
end
end TQ
namespace TN
open PySem PySem.Spec PyProof.Rows L2 TQ TM
section
variable {env : Sl} {M : Mem} {Q : PK} {E : EK} {a : Addr} {xs ys : List PV}
def extA (x : PV) (M : Mem) [R : Box Prop] : Prop := (∃ a ys, x = .ref a ∧ M a = some (.lst ys)) ∧ R.v
def extB (x y : PV) (M : Mem) [Q : Box PK] : Prop := extP x y M Q.v
theorem e_qExt {to te : QT} : qExt to te env M Q E = to env M (fun x M1 => @extA x M1 ⟨te env M1 (fun y M2 => @extB x y M2 ⟨Q⟩) E⟩) E := rfl
theorem extA_of {R : Box Prop} (h : M a = some (.lst xs)) (q : R.v) : @extA (.ref a) M R := ⟨⟨a, xs, rfl, h⟩, q⟩
theorem extB_l {Q : Box PK} (h : M a = some (.lst xs)) (l : xs.length + ys.length ≤ sizeLine) (q : Q.v .non (mset M a (.lst (xs ++ ys)))) : @extB (.ref a) (.lst ys) M Q := ⟨a, xs, ys, rfl, h, .inl rfl, l, q⟩
theorem extB_r {b : Addr} {Q : Box PK} (h : M a = some (.lst xs)) (h2 : M b = some (.lst ys)) (l : xs.length + ys.length ≤ sizeLine) (q : Q.v .non (mset M a (.lst (xs ++ ys)))) : @extB (.ref a) (.ref b) M Q := ⟨a, xs, ys, rfl, h, .inr ⟨b, rfl, h2⟩, l, q⟩
end
end TN

/-! repr(x): data, and dicts of data -/
namespace TQ
open PySem PySem.Spec PyProof.Rows L2
def keyD : Key → PyData
  | .inl i => .int i
  | .inr s => .str s
mutual
inductive Dx (K : PySem.W.Frag) (H : Hp) : V → PyData → Prop
  | non : Dx K H .non .none
  | bl (b : Bool) : Dx K H (.bl b) (.bool b)
  | int (i : Int) : Dx K H (.int i) (.int i)
  | str (x : Str) : Dx K H (.str x) (.str x)
  | lst {a : Addr} {xs : List V} {ds : List PyData} : SqL K H a xs → DxAll K H xs ds → Dx K H (.ref a) (.list ds)
  | tup {a : Addr} {xs : List V} {ds : List PyData} : SqT K H a xs → DxAll K H xs ds → Dx K H (.ref a) (.tuple ds)
  | dic {a : Addr} {ks : List Key} {xs : List V} {ds : List PyData} : H a = some (.dK (ks.zip xs)) → ks.length = xs.length → DxAll K H xs ds → Dx K H (.ref a) (.dict ((ks.map keyD).zip ds))
inductive DxAll (K : PySem.W.Frag) (H : Hp) : List V → List PyData → Prop
  | nil : DxAll K H [] []
  | cons {v : V} {vs : List V} {d : PyData} {ds : List PyData} : Dx K H v d → DxAll K H vs ds → DxAll K H (v :: vs) (d :: ds)
end
theorem DxAll.length {K : PySem.W.Frag} {H : Hp} : ∀ {vs : List V} {ds : List PyData}, DxAll K H vs ds → vs.length = ds.length
  | [], _, h => by cases h; rfl
  | v :: vs, _, h => by cases h with
    | cons _ h => rw [List.length_cons, List.length_cons, h.length]
/-- sys.modules lies in the part that is looked at, a dict -/
def SysM (K : PySem.W.Frag) : Prop := (K.lookup sysModules).map (·.cls) = some (.type "dict")
section
variable {X : Cx} {pins : List (Addr × Obj)} {σ : L2.St} {H : Hp} {s : Shared}
theorem not_sys (hS : SysM X.K) (I : Inv X pins σ H s) {a : Addr} {o : Obj} (h : s.heap.get? a = some o) (hc : o.cls = .type "list") : a ≠ sysModules := by
  rintro rfl
  unfold SysM at hS
  cases e : X.K.lookup sysModules with
  | none => rw [e] at hS; cases hS
  | some ob =>
    rw [e] at hS
    have := I.kIn _ _ e
    rw [this] at h
    cases h
    have hh : o.cls = Value.type "dict" := Option.some.inj hS
    rw [hc] at hh
    exact absurd hh (by intro z; injection z with z; exact absurd z (by decide))
theorem keys_read {h : Heap} {P : Program} {w : World} : ∀ {es : List DictEntry} {vs : List (Key × Value)}, Pairs (mixKind P w) es vs → ReadsAll h (es.map (·.key)) (vs.map fun kv => keyD kv.1) []
  | _, _, .nil => .nil
  | _, _, .cons hk hv r => by
    have rr := keys_read (h := h) r
    rename_i e kv es kvs
    obtain ⟨k, v⟩ := kv
    rcases keyIs_shape hk with ⟨i, t, rfl, ek⟩ | ⟨x, t, rfl, ek⟩
    · rw [List.map_cons, List.map_cons, ek]
      exact ReadsAll.cons (as := []) (bs := []) (Reads.int i t) rr
    · rw [List.map_cons, List.map_cons, ek]
      exact ReadsAll.cons (as := []) (bs := []) (Reads.str x t) rr
theorem vals_read {es : List DictEntry} {vs : List (Key × Value)} {P : Program} {w : World} (h : Pairs (mixKind P w) es vs) : es.map (·.val) = vs.map (·.2) := by
  induction h with
  | nil => rfl
  | cons hk hv r ih => rw [List.map_cons, List.map_cons, hv, ih]
theorem kv_split : ∀ {ks : List Key} {xs : List V} {vs : List (Key × Value)}, ks.length = xs.length → KV (ks.zip xs) vs → vs.map (·.1) = ks ∧ Vals xs (vs.map (·.2))
  | [], [], _, _, h => by cases h; exact ⟨rfl, .nil⟩
  | k :: ks, x :: xs, _, hl, h => by
    cases h with
    | cons h1 h2 =>
      obtain ⟨e1, e2⟩ := kv_split (by simpa using hl) h2
      rename_i q qs
      obtain ⟨k', v⟩ := q
      obtain ⟨h3, h4⟩ := h1
      refine ⟨?_, ?_⟩
      · rw [List.map_cons, e1]
        exact congrArg (· :: ks) h3.symm
      · exact .cons h4 e2
  | [], x :: xs, _, h, _ => by cases h
  | k :: ks, [], _, h, _ => by cases h
mutual
theorem Dx.reads (hS : SysM X.K) (I : Inv X pins σ H s) : ∀ {v : V} {d : PyData} (_ : Dx X.K H v d) (u : Value), RelV v u → ∃ as, Reads s.heap u d as ∧ sysModules ∉ as
  | _, _, .non, _, r => by
    cases r
    exact ⟨_, Reads.none, List.not_mem_nil⟩
  | _, _, .bl b, _, r => by
    cases r
    exact ⟨_, Reads.bool b, List.not_mem_nil⟩
  | _, _, .int i, _, r => by
    obtain ⟨t, rfl⟩ := r
    exact ⟨_, Reads.int i t, List.not_mem_nil⟩
  | _, _, .str x, _, r => by
    obtain ⟨t, rfl⟩ := r
    exact ⟨_, Reads.str x t, List.not_mem_nil⟩
  | _, _, .lst hs ha, _, r => by
    cases r
    obtain ⟨its, rv, ⟨o, n, ho, hc, _, hd⟩, _⟩ := I.list hs
    obtain ⟨as, hr, hn⟩ := Dx.readsAll hS I ha its rv
    exact ⟨_, Reads.list ho hc hd hr, fun z => (List.mem_cons.mp z).elim (fun e => not_sys hS I ho hc e.symm) hn⟩
  | _, _, .tup hs ha, _, r => by
    cases r
    obtain ⟨its, rv, ⟨o, ho, hc, n, hd⟩, _⟩ := I.tuple hs
    obtain ⟨as, hr, hn⟩ := Dx.readsAll hS I ha its rv
    exact ⟨_, Reads.tuple ho hc hd hr, hn⟩
  | _, _, .dic (ks := ks) (xs := xs) (ds := ds) h1 h2 ha, _, r => by
    cases r
    obtain ⟨z, hd, vs, rel, o, es, n, ho, hc, hdt, hk, hp, hn⟩ := dk_of I.hok h1
    obtain ⟨e1, e2⟩ := kv_split h2 rel
    obtain ⟨bs, hr, hb⟩ := Dx.readsAll hS I ha _ e2
    have k1 := keys_read (h := s.heap) hp
    rw [← vals_read hp] at hr
    have hl := ha.length
    have ek : (vs.map fun kv => keyD kv.1) = (((ks.map keyD).zip ds).map (·.1)) := by
      rw [List.map_fst_zip (by rw [List.length_map]; omega), ← e1, List.map_map]
      rfl
    have ev : ds = (((ks.map keyD).zip ds).map (·.2)) := by rw [List.map_snd_zip (by rw [List.length_map]; omega)]
    rw [ek] at k1
    rw [ev] at hr
    refine ⟨_, Reads.dict ho hc.1 hdt k1 hr, fun z => ?_⟩
    rcases List.mem_cons.mp z with e | z
    · rw [e] at hd
      simp at hd
    · exact hb (by simpa using z)
theorem Dx.readsAll (hS : SysM X.K) (I : Inv X pins σ H s) : ∀ {vs : List V} {ds : List PyData} (_ : DxAll X.K H vs ds) (us : List Value), Vals vs us → ∃ as, ReadsAll s.heap us ds as ∧ sysModules ∉ as
  | _, _, .nil, _, r => by
    cases r
    exact ⟨_, ReadsAll.nil, List.not_mem_nil⟩
  | _, _, .cons h1 h2, _, r => by
    cases r with
    | cons r1 r2 =>
      obtain ⟨as, e1, n1⟩ := Dx.reads hS I h1 _ r1
      obtain ⟨bs, e2, n2⟩ := Dx.readsAll hS I h2 _ r2
      exact ⟨_, ReadsAll.cons e1 e2, fun z => (List.mem_append.mp z).elim n1 n2⟩
end
end
mutual
inductive Px (M : Mem) : PV → PyData → Prop
  | non : Px M .non .none
  | bl (b : Bool) : Px M (.bl b) (.bool b)
  | int (i : Int) : Px M (.int i) (.int i)
  | str (x : Str) : Px M (.str x) (.str x)
  | lst {xs : List PV} {ds : List PyData} : PxAll M xs ds → Px M (.lst xs) (.list ds)
  | tup {xs : List PV} {ds : List PyData} : PxAll M xs ds → Px M (.tup xs) (.tuple ds)
  | rl {a : Addr} {xs : List PV} {ds : List PyData} : M a = some (.lst xs) → PxAll M xs ds → Px M (.ref a) (.list ds)
  | rd {a : Addr} {ks : List Key} {xs : List PV} {ds : List PyData} : M a = some (.dic ks xs) → PxAll M xs ds → Px M (.ref a) (.dict ((ks.map keyD).zip ds))
inductive PxAll (M : Mem) : List PV → List PyData → Prop
  | nil : PxAll M [] []
  | cons {x : PV} {xs : List PV} {d : PyData} {ds : List PyData} : Px M x d → PxAll M xs ds → PxAll M (x :: xs) (d :: ds)
end
section
variable {K : PySem.W.Frag} {M : Mem} {H G : Hp}
mutual
theorem Px.dx (w : Wf K M H G) : ∀ {x : PV} {d : PyData} (_ : Px M x d) (v : V), Rep K G x v → Dx K H v d
  | _, _, .non, _, r => by cases r; exact .non
  | _, _, .bl b, _, r => by cases r; exact .bl b
  | _, _, .int i, _, r => by cases r; exact .int i
  | _, _, .str x, _, r => by cases r; exact .str x
  | _, _, .lst h, _, r => by
    obtain ⟨a, vs, rfl, h1, r1⟩ := r
    exact .lst (SqL.of (w.sub _ _ h1)) (Px.dxAll w h vs r1)
  | _, _, .tup h, _, r => by
    obtain ⟨a, vs, rfl, h1, r1⟩ := r
    exact .tup (ext_t w.sub h1) (Px.dxAll w h vs r1)
  | _, _, .rl hm h, _, r => by
    cases r
    obtain ⟨_, vs, h1, r1⟩ := w.mem _ _ hm
    exact .lst (SqL.of h1) (Px.dxAll w h vs r1)
  | _, _, .rd hm h, _, r => by
    cases r
    obtain ⟨_, vs, h1, h2, r1⟩ := w.mem _ _ hm
    exact .dic h1 h2 (Px.dxAll w h vs r1)
theorem Px.dxAll (w : Wf K M H G) : ∀ {xs : List PV} {ds : List PyData} (_ : PxAll M xs ds) (vs : List V), Reps K G xs vs → DxAll K H vs ds
  | _, _, .nil, _, r => by cases r; exact .nil
  | _, _, .cons h1 h2, _, r => by
    obtain ⟨v, ws, rfl, r1, r2⟩ := r
    exact .cons (Px.dx w h1 v r1) (Px.dxAll w h2 ws r2)
end
end
section
variable {X : Cx}
/-- repr(x) -/
def cRepr : FC := fun xs M Q => ∃ x d, xs = [x] ∧ Px M x d ∧ d.showable = true ∧ d.shown.length ≤ sizeLine ∧ d.depth ≤ 8 ∧ (∀ i, d = .int i → i.natAbs.log2 < 1920) ∧ Q (.str d.shown) M
theorem cq_repr (hS : SysM X.K) (hg : X.A.guards = some []) (hu : X.A.units + 64 < cLine) : CallQ X (.builtin "repr") cRepr := by
  intro pins s σ H vs us Q I r ⟨xs, M, G, Q0, rx, w, q, L⟩
  obtain ⟨x, d, rfl, hp, h2, h4, h5, h6, q⟩ := q
  obtain ⟨v, rfl, r1⟩ := reps1 rx
  have hx := Px.dx w hp v r1
  cases r with
  | cons rv rr =>
    cases rr
    have fin : ∀ (h' : Heap) (u : Tok) (tk : Nat), (∀ b o, s.heap.get? b = some o → h'.get? b = some o) → EP X pins σ Q (.str d.shown u) { s with heap := h', toks := tk } := fun h' u tk hk =>
      ⟨.str d.shown, H, I.kept (t' := tk) hk, ⟨u, rfl⟩, give L w (x := .str _) rfl q⟩
    cases hx with
    | non => cases rv; exact PySem.P.repr_of_none (fin _ _ _ fun _ _ z => z)
    | bl b => cases rv; exact PySem.P.repr_of_bool (fin _ _ _ fun _ _ z => z)
    | int i => obtain ⟨t, rfl⟩ := rv; exact PySem.P.repr_of_int (h6 i rfl) (fin _ _ _ fun _ _ z => z)
    | str x => obtain ⟨t, rfl⟩ := rv; exact PySem.P.repr_of_str (fin _ _ _ fun _ _ z => z) (hsz := h4)
    | lst h1 h3 =>
      have hx := Dx.lst h1 h3
      obtain ⟨as, rd, ns⟩ := hx.reads hS I _ rv
      cases rv
      exact repr_of_reads' rd h2 (fun _ => ns) hg (by omega) (fun _ _ e => e) (fun h' u tk hk => fin h' u tk hk) h4
    | tup h1 h3 =>
      have hx := Dx.tup h1 h3
      obtain ⟨as, rd, ns⟩ := hx.reads hS I _ rv
      cases rv
      exact repr_of_reads' rd h2 (fun _ => ns) hg (by omega) (fun _ _ e => e) (fun h' u tk hk => fin h' u tk hk) h4
    | dic h0 h1 h3 =>
      have hx := Dx.dic h0 h1 h3
      obtain ⟨as, rd, ns⟩ := hx.reads hS I _ rv
      cases rv
      exact repr_of_reads' rd h2 (fun _ => ns) hg (by omega) (fun _ _ e => e) (fun h' u tk hk => fin h' u tk hk) h4
end
end TQ

/-! list(reversed(list)) -/
namespace LR
open PySem PySem.Spec PyProof.Rows L2 RT
section
variable {prog : Program} {w : World} {A : Around} {E : Value → Shared → Prop} {s : Shared}
theorem extend_rev {R : Result → Shared → Prop} {it l : Addr} {items : Array Value} (hh : A.handled = none) (hit : s.heap.IsRevIter it l ((items.size : Int) - 1)) (hl : s.heap.IsList l items) (hne : l ≠ it) (hn : items.size ≤ sizeLine)
    (S : Addr) (res : Value) (c₀ : Nat) (hS : s.heap.get? S = some { cls := .type "list", data := .seq #[] c₀ }) (hSi : S ≠ it) (hSl : S ≠ l)
    (hR : ∀ h' tk acc' c', (∀ b o, b ≠ S → b ≠ it → s.heap.get? b = some o → h'.get? b = some o) → h'.get? S = some { cls := .type "list", dict := none, data := .seq acc' c', slots := #[] } →
      ItemsOf (fun i v => items[items.size - 1 - i]? = some v) acc' items.size → R (.ok (.ret res)) { s with heap := h', toks := tk }) :
    wpAny (model prog w) A.in1 (Builtin.List.listExtendWith (.ref S) (.ref it) res)
      (fun fin s' => match fin with | .done f => R (.ok f) s' | .again c' => c'.quiet = true ∧ codeAny (model prog w) A c' R s') (fun e s' => R (.error e) s') s := by
  have W := (Walks.listRev (prog := prog) (w := w) (A := A.in1) hh it l hne items).toS
  have hSf : S ∉ [it, l] := by simp only [List.mem_cons, List.not_mem_nil, or_false, not_or]; exact ⟨hSi, hSl⟩
  have hT : s.TypeIs (.ref it) "list_reverseiterator" := Heap.IsRevIter.typeIs hit
  have h1 : Builtin.List.listSameRef (.ref S) (.ref it) = false := by simp [Builtin.List.listSameRef, hSi]
  unfold Builtin.List.listExtendWith
  refine wpAny_bind (wpAny_typeOf hT ?_)
  rw [if_neg (by rw [h1]; decide)]
  refine wpAny_bind (wpAny_pyIter_revIter hit ?_)
  refine wpAny_bind (wpAny_holding ?_)
  unfold Builtin.List.listLengthHint
  refine wpAny_bind (wpAny_specialOf hT nolen_lri ?_)
  show wpAny _ A.in1 (specialOf (Value.ref it) (Str.ofString "__length_hint__") >>= _) _ _ _
  refine wpAny_bind (wpAny_specialOf hT hint_lri ?_)
  generalize hid : ("list_reverseiterator.__length_hint__" : String) = id0
  wp_delta
  rw [show splitId id0 = some ("list_reverseiterator", "__length_hint__") from by subst hid; decide +kernel]
  subst hid
  refine wpAny_bind (wpAny_isInstance (b := true) hT (by rw [isSubtype_type]; kernel_rfl) ?_)
  refine wpAny_pure ?_
  rw [if_neg (by decide)]
  have e0 : ((items.size : Nat) : Int) - 1 - ((0 : Nat) : Int) = (items.size : Int) - 1 := by omega
  refine wpAny_pure ⟨plainId_quiet F.plain_extend_loop _, codeAny_extend_loopS W hn _ hSf _ items.size 0 _ _ _ rfl (Nat.zero_le _) ⟨Nat.zero_le _, by rw [e0]; exact hit, hl⟩ hS (ItemsOf.nil _) fun s' acc' c' hm hS' hacc => ?_⟩
  rw [Moved.eq_with hm]
  refine hR s'.heap s'.toks acc' c' (fun b o hb hb2 e => hm.heap b o (fun hmem => ?_) e) hS' hacc
  rcases List.mem_cons.mp hmem with e' | hmem
  · exact hb e'
  · exact hb2 (List.mem_singleton.mp hmem)
theorem list_init_rev {R : Result → Shared → Prop} {it l : Addr} {items : Array Value} (hh : A.handled = none) (hit : s.heap.IsRevIter it l ((items.size : Int) - 1)) (hl : s.heap.IsList l items) (hne : l ≠ it) (hn : items.size ≤ sizeLine)
    (S : Addr) (hS : s.heap.get? S = some { cls := .type "list", data := .seq #[] }) (hSi : S ≠ it) (hSl : S ≠ l)
    (hR : ∀ h' tk acc' c', (∀ b o, b ≠ S → b ≠ it → s.heap.get? b = some o → h'.get? b = some o) → h'.get? S = some { cls := .type "list", dict := none, data := .seq acc' c', slots := #[] } →
      ItemsOf (fun i v => items[items.size - 1 - i]? = some v) acc' items.size → R (.ok (.ret .none)) { s with heap := h', toks := tk }) :
    wpAny (model prog w) A.in1 (Builtin.«list.__init__» ⟨[.ref S, .ref it], []⟩)
      (fun fin s' => match fin with | .done f => R (.ok f) s' | .again c' => c'.quiet = true ∧ codeAny (model prog w) A c' R s') (fun e s' => R (.error e) s') s := by
  show wpAny _ _ (do let old ← Builtin.List.listItems (.ref S); Builtin.List.listUpdate (.ref S) (fun _ => #[]); letGo old.toList.reverse; Builtin.List.listExtendWith (.ref S) (.ref it) .none) _ _ s
  refine wpAny_bind ?_
  unfold Builtin.List.listItems
  refine wpAny_bind (wpAny_seqItems hS rfl (wpAny_pure ?_))
  show wpAny _ _ (updateSeq S (fun _ => #[]) >>= fun _ => letGo (#[] : Array Value).toList.reverse >>= fun _ => Builtin.List.listExtendWith (.ref S) (.ref it) .none) _ _ s
  refine wpAny_bind (wpAny_updateSeq hS rfl ?_)
  have hS₂ := Heap.get?_update_self (Obj.mapSeq (fun _ => (#[] : Array Value))) hS rfl
  have oth : ∀ b o, b ≠ S → s.heap.get? b = some o → (s.heap.update S (Obj.mapSeq (fun _ => (#[] : Array Value)))).get? b = some o :=
    fun b o hb e => (Heap.get?_update_other _ _ (Ne.symm hb)).trans e
  refine wpAny_bind (wpAny_letGo ?_)
  obtain ⟨ol, hol, rl⟩ := id hl
  refine extend_rev (s := { s with heap := s.heap.update S (Obj.mapSeq (fun _ => (#[] : Array Value))) }) hh (hit.at fun o e => oth it o (Ne.symm hSi) e) ⟨ol, oth l _ (Ne.symm hSl) hol, rl⟩ hne hn S .none _ hS₂ hSi hSl fun h' tk acc' c' hk hS' hacc => ?_
  exact hR h' tk acc' c' (fun b o hb hb2 e => hk b o hb hb2 (oth b o hb e)) hS' hacc
theorem call_list_rev {Q : Value → Shared → Prop} {it l : Addr} {items : Array Value} (hh : A.handled = none) (hit : s.heap.IsRevIter it l ((items.size : Int) - 1)) (hl : s.heap.IsList l items) (hne : l ≠ it) (hn : items.size ≤ sizeLine)
    (hQ : ∀ h' tk acc' c', (∀ b o, b ≠ it → s.heap.get? b = some o → h'.get? b = some o) →
      h'.get? s.heap.objs.size = some { cls := .type "list", dict := none, data := .seq acc' c', slots := #[] } → ItemsOf (fun i v => items[items.size - 1 - i]? = some v) acc' items.size → Q (.ref s.heap.objs.size) { s with heap := h', toks := tk }) :
    wpAny (model prog w) A (call (.type "list") [.ref it]) Q E s := by
  obtain ⟨oi, hoi, _⟩ := id hit
  obtain ⟨ol, hol, _⟩ := id hl
  refine callType_codes (Q₁ := fun obj s₁ => obj = .ref s.heap.objs.size ∧ s₁ = { s with heap := s.heap.push { cls := .type "list", data := .seq #[] } }) F.called_list (F.typeCall_list_1 _) F.entry_list_init
    (code_list_new _ ⟨rfl, rfl⟩) fun obj s₁ h₁ => ?_
  obtain ⟨rfl, rfl⟩ := h₁
  have hS : (s.heap.push { cls := .type "list", data := .seq #[] }).get? s.heap.objs.size = some { cls := .type "list", data := .seq #[] } := Heap.get?_push_size _ rfl
  refine ⟨⟨_, hS, rfl⟩, F.args_list_init_2 _ _, list_init_rev (A := A.in1) (s := { s with heap := s.heap.push { cls := .type "list", data := .seq #[] } }) hh (hit.at fun o e => Heap.get?_push_of_some _ e) (hl.push _) hne hn _ hS (Nat.ne_of_gt (Heap.lt_size hoi)) (Nat.ne_of_gt (Heap.lt_size hol)) fun h' tk acc' c' hk hS' hacc => ?_⟩
  exact ⟨rfl, hQ h' tk acc' c' (fun b o hb e => hk b o (Nat.ne_of_lt (Heap.lt_size e)) hb (Heap.get?_push_of_some _ e)) hS' hacc⟩
end
/-- list(reversed(x)), x a list: a new list -/
def tListRev (K : PySem.W.Frag) (te : TE) : TE := fun σ H Q => te σ H fun v H1 => ∃ (a : Addr) (xs : List V), v = .ref a ∧ SqL K H1 a xs ∧ ∀ q, H1 q = none → Q (.ref q) (upd H1 q (.lst xs.reverse))
section
variable {X : Cx}
theorem pe_listRev {e : Expr} {te : TE} {p p2 pos pos2 : Pos} (hc : X.calm = true) (hg : Gl X "list") (hm : X.mg "list" = none) (hg2 : Gl X "reversed") (hm2 : X.mg "reversed" = none) (he : PE X e te)
    (hs : starEach [e] X.env = (false, eval e X.env) :: starEach [] X.env := by rfl)
    (hs2 : starEach [.Call (.Name "reversed" p2) [e] [] pos2] X.env = (false, eval (.Call (.Name "reversed" p2) [e] [] pos2) X.env) :: starEach [] X.env := by rfl) :
    PE X (.Call (.Name "list" p) [.Call (.Name "reversed" p2) [e] [] pos2] [] pos) (tListRev X.K te) := by
  refine ⟨fun pins s σ H Q I h => ?_⟩
  refine Call_ (ld_blt I hg hm boot_list (PyProof.Rows.callWith_type1 (args_cons (Call_ (ld_blt I hg2 hm2 PyProof.Rows.boot_reversed (PyProof.Rows.callWith_type1 (args_cons (thn (he.run pins s σ H _ I h) fun u s1 ⟨v, H1, I1, r1, q1⟩ => args_nil ?_) hs) hs rfl))) hs2) hs2 rfl))
  obtain ⟨a, xs, ev, hq, q⟩ := q1
  subst ev
  obtain rfl : u = Value.ref a := r1
  obtain ⟨its, rv, p', hz⟩ := I1.list hq
  refine call_reversed_list p'.isList (args_nil ?_)
  have k0 : ∀ b o, s1.heap.get? b = some o → (s1.heap.push (revObj a ((its.toArray.size : Int) - 1))).get? b = some o := fun b o e => Heap.get?_push_of_some _ e
  have I2 : Inv X pins σ H1 { s1 with heap := s1.heap.push (revObj a ((its.toArray.size : Int) - 1)) } := I1.kept (t' := s1.toks) k0
  have ff := I1.fpOk (H' := H1) (b := s1.heap.objs.size) (Nat.le_refl _) (I1.hok.fresh (Nat.le_refl _))
  have hl := p'.isList
  obtain ⟨ol, hol, _⟩ := id hl
  have hne : a ≠ s1.heap.objs.size := Nat.ne_of_lt (Heap.lt_size hol)
  have hn : its.toArray.size ≤ sizeLine := by rw [List.size_toArray, ← rv.length]; exact hz
  refine call_list_rev (s := { s1 with heap := s1.heap.push (revObj a ((its.toArray.size : Int) - 1)) }) (I1.ok.hd hc) ⟨_, Heap.get?_push_size _ rfl, rfl, rfl⟩ (hl.push _) hne hn fun h' tk acc c' hk hn' hi => ?_
  have hf : H1 (s1.heap.push (revObj a ((its.toArray.size : Int) - 1))).objs.size = none := I2.hok.fresh (Nat.le_refl _)
  refine ⟨.ref (s1.heap.push (revObj a ((its.toArray.size : Int) - 1))).objs.size, upd H1 (s1.heap.push (revObj a ((its.toArray.size : Int) - 1))).objs.size (.lst xs.reverse), ?_, rfl, q _ hf⟩
  exact I2.turnedNew (t' := tk) (ch := [s1.heap.objs.size]) (fun b o hb e => hk b o (fun z => hb (by simp [z])) e) (fun b hb => by rw [List.mem_singleton.mp hb]; exact ff) (Nat.le_refl _) (show ObjOk X.prog X.w _ _ _ (.lst xs.reverse) from ⟨by rw [List.length_reverse]; exact hz, acc.toList, c', vals_rev rv hi, by rw [Array.toArray_toList]; exact hn'⟩)
end
end LR
namespace TQ
open PySem PySem.Spec PyProof.Rows L2
section
variable {X : Cx} {W : WX}
def qLRev (te : QT) : QT := fun env M Q E => te env M (fun x M1 => ∃ xs, sq M1 x = some xs ∧ Q (.lst xs.reverse) M1) E
theorem qe_listRev {e : Expr} {te : QT} {p p2 pos pos2 : Pos} (hc : X.calm = true) (hm : X.mg "list" = none) (hm2 : X.mg "reversed" = none) (he : QE X W e te) (hg : Gl X "list" := by rfl) (hg2 : Gl X "reversed" := by rfl)
    (hs : starEach [e] X.env = (false, eval e X.env) :: starEach [] X.env := by rfl)
    (hs2 : starEach [.Call (.Name "reversed" p2) [e] [] pos2] X.env = (false, eval (.Call (.Name "reversed" p2) [e] [] pos2) X.env) :: starEach [] X.env := by rfl) :
    QE X W (.Call (.Name "list" p) [.Call (.Name "reversed" p2) [e] [] pos2] [] pos) (qLRev te) :=
  (LR.pe_listRev hc hg hm hg2 hm2 he hs hs2).imp fun σ H Q ⟨env, M, G, Q0, E0, S, q, L, LE⟩ => by
    refine ⟨env, M, G, _, E0, S, q, fun x M1 v H1 G1 e1 w1 r1 q1 => ?_, LE⟩
    obtain ⟨xs, hx, q1⟩ := q1
    obtain ⟨a, vs, rfl, h1, r1⟩ := sq_H hx r1 w1
    exact ⟨a, vs, rfl, SqL.of h1, fun p hp => give_lst (L.mono e1) w1 hp (reps_rev r1) q1⟩
end
end TQ
namespace TN
open PySem PySem.Spec PyProof.Rows L2 TQ TM
section
variable {env : Sl} {M : Mem} {Q : PK} {E : EK} {x : PV} {xs : List PV}
def lrvP (x : PV) (M : Mem) [Q : Box PK] : Prop := ∃ xs, sq M x = some xs ∧ Q.v (.lst xs.reverse) M
theorem e_qLRev {te : QT} : qLRev te env M Q E = te env M (fun x M1 => @lrvP x M1 ⟨Q⟩) E := rfl
theorem lrvP_lst {Q : Box PK} : @lrvP (.lst xs) M Q = Q.v (.lst xs.reverse) M := propext ⟨fun ⟨_, h, q⟩ => by cases h; exact q, fun q => ⟨_, rfl, q⟩⟩
theorem reprP_of {d : PyData} (hp : Px M x d) (h2 : d.showable = true) (h4 : d.shown.length ≤ sizeLine) (h5 : d.depth ≤ 8) (h6 : ∀ i, d = .int i → i.natAbs.log2 < 1920) (q : Q (.str d.shown) M) : cRepr [x] M Q := ⟨x, d, rfl, hp, h2, h4, h5, h6, q⟩
end
end TN

namespace K08
open PySem PySem.Spec PyProof.Rows L2 TQ TM TN
def top (i : Nat) : Stmt := PySem.Challenge.pw_tenreckon_k08_traps_refused.main.body.getD i (.Pass ⟨0, 0, 0, 0⟩)
abbrev s_is_whole : Stmt := (top 9)
abbrev s_Way_name : Stmt := (inClass (top 12) 0)
abbrev s_Up_name : Stmt := (inClass (top 14) 0)
abbrev s_Floor_name : Stmt := (inClass (top 15) 0)
abbrev s_Ceiling_name : Stmt := (inClass (top 16) 0)
abbrev s_HalfUp_name : Stmt := (inClass (top 17) 0)
abbrev s_HalfDown_name : Stmt := (inClass (top 18) 0)
abbrev s_HalfEven_name : Stmt := (inClass (top 19) 0)
abbrev s_FiveUp_name : Stmt := (inClass (top 20) 0)
abbrev s_half_way : Stmt := (top 21)
abbrev s_way_of : Stmt := (top 22)
abbrev s_need : Stmt := (top 27)
abbrev s_is_signal : Stmt := (top 28)
abbrev s_Context___init__ : Stmt := (inClass (top 29) 0)
abbrev s_Context_flags : Stmt := (inClass (top 29) 3)
abbrev s_Context_clear : Stmt := (inClass (top 29) 4)
abbrev s_Context_trap : Stmt := (inClass (top 29) 5)
abbrev s_Context_traps : Stmt := (inClass (top 29) 6)
abbrev s_Context_raised : Stmt := (inClass (top 29) 7)
abbrev s__law_cell_at : Stmt := (top 31)
abbrev s__law_mixed : Stmt := (top 32)
abbrev s__law_signals : Stmt := (top 33)
abbrev s__law_word : Stmt := (top 34)
abbrev s__law_trap : Stmt := (top 35)
abbrev s__law_odd : Stmt := (top 36)
abbrev s_law : Stmt := (top 37)
theorem sc_is_whole : FnScope ["thing", "least", "most"] ["thing", "least", "most"] (defScope s_is_whole) := ⟨rfl, rfl, rfl, by decide +kernel, rfl, by decide +kernel, by decide +kernel⟩
theorem sc_Way_name : FnScope ["self"] ["self"] (defScope s_Way_name) := ⟨rfl, rfl, rfl, by decide +kernel, rfl, by decide +kernel, by decide +kernel⟩
theorem sc_Up_name : FnScope ["self"] ["self"] (defScope s_Up_name) := ⟨rfl, rfl, rfl, by decide +kernel, rfl, by decide +kernel, by decide +kernel⟩
theorem sc_Floor_name : FnScope ["self"] ["self"] (defScope s_Floor_name) := ⟨rfl, rfl, rfl, by decide +kernel, rfl, by decide +kernel, by decide +kernel⟩
theorem sc_Ceiling_name : FnScope ["self"] ["self"] (defScope s_Ceiling_name) := ⟨rfl, rfl, rfl, by decide +kernel, rfl, by decide +kernel, by decide +kernel⟩
theorem sc_HalfUp_name : FnScope ["self"] ["self"] (defScope s_HalfUp_name) := ⟨rfl, rfl, rfl, by decide +kernel, rfl, by decide +kernel, by decide +kernel⟩
theorem sc_HalfDown_name : FnScope ["self"] ["self"] (defScope s_HalfDown_name) := ⟨rfl, rfl, rfl, by decide +kernel, rfl, by decide +kernel, by decide +kernel⟩
theorem sc_HalfEven_name : FnScope ["self"] ["self"] (defScope s_HalfEven_name) := ⟨rfl, rfl, rfl, by decide +kernel, rfl, by decide +kernel, by decide +kernel⟩
theorem sc_FiveUp_name : FnScope ["self"] ["self"] (defScope s_FiveUp_name) := ⟨rfl, rfl, rfl, by decide +kernel, rfl, by decide +kernel, by decide +kernel⟩
theorem sc_half_way : FnScope ["name"] ["name"] (defScope s_half_way) := ⟨rfl, rfl, rfl, by decide +kernel, rfl, by decide +kernel, by decide +kernel⟩
theorem sc_way_of : FnScope ["name"] ["name"] (defScope s_way_of) := ⟨rfl, rfl, rfl, by decide +kernel, rfl, by decide +kernel, by decide +kernel⟩
theorem sc_need : FnScope ["good"] ["good"] (defScope s_need) := ⟨rfl, rfl, rfl, by decide +kernel, rfl, by decide +kernel, by decide +kernel⟩
theorem sc_is_signal : FnScope ["thing"] ["thing"] (defScope s_is_signal) := ⟨rfl, rfl, rfl, by decide +kernel, rfl, by decide +kernel, by decide +kernel⟩
theorem sc_Context___init__ : FnScope ["self", "room", "way", "least", "most"] ["self", "room", "way", "least", "most"] (defScope s_Context___init__) := ⟨rfl, rfl, rfl, by decide +kernel, rfl, by decide +kernel, by decide +kernel⟩
theorem sc_Context_flags : FnScope ["self", "name"] ["self"] (defScope s_Context_flags) := ⟨rfl, rfl, rfl, by decide +kernel, rfl, by decide +kernel, by decide +kernel⟩
theorem sc_Context_clear : FnScope ["self"] ["self"] (defScope s_Context_clear) := ⟨rfl, rfl, rfl, by decide +kernel, rfl, by decide +kernel, by decide +kernel⟩
theorem sc_Context_trap : FnScope ["self", "names", "name"] ["self", "names"] (defScope s_Context_trap) := ⟨rfl, rfl, rfl, by decide +kernel, rfl, by decide +kernel, by decide +kernel⟩
theorem sc_Context_traps : FnScope ["self", "name"] ["self"] (defScope s_Context_traps) := ⟨rfl, rfl, rfl, by decide +kernel, rfl, by decide +kernel, by decide +kernel⟩
theorem sc_Context_raised : FnScope ["self", "names", "name"] ["self", "names"] (defScope s_Context_raised) := ⟨rfl, rfl, rfl, by decide +kernel, rfl, by decide +kernel, by decide +kernel⟩
theorem sc__law_cell_at : FnScope ["_law_script", "_law_k"] ["_law_script", "_law_k"] (defScope s__law_cell_at) := ⟨rfl, rfl, rfl, by decide +kernel, rfl, by decide +kernel, by decide +kernel⟩
theorem sc__law_mixed : FnScope ["_law_cell", "_law_k"] ["_law_cell", "_law_k"] (defScope s__law_mixed) := ⟨rfl, rfl, rfl, by decide +kernel, rfl, by decide +kernel, by decide +kernel⟩
theorem sc__law_signals : FnScope [] [] (defScope s__law_signals) := ⟨rfl, rfl, rfl, by decide +kernel, rfl, by decide +kernel, by decide +kernel⟩
theorem sc__law_word : FnScope ["_law_e", "_law_found"] ["_law_e"] (defScope s__law_word) := ⟨rfl, rfl, rfl, by decide +kernel, rfl, by decide +kernel, by decide +kernel⟩
theorem sc__law_trap : FnScope ["_law_context", "_law_names", "_law_e"] ["_law_context", "_law_names"] (defScope s__law_trap) := ⟨rfl, rfl, rfl, by decide +kernel, rfl, by decide +kernel, by decide +kernel⟩
theorem sc__law_odd : FnScope ["_law_number", "_law_names", "_law_name", "_law_at", "_law_wrong", "_law_some"] ["_law_number", "_law_names"] (defScope s__law_odd) := ⟨rfl, rfl, rfl, by decide +kernel, rfl, by decide +kernel, by decide +kernel⟩
theorem sc_law : FnScope ["_law_script", "_law_context", "_law_number", "_law_kept", "_law_more", "_law_up", "_law_k", "_law_names", "_law_odd_here", "_law_shape", "_law_name"] ["_law_script"] (defScope s_law) := ⟨rfl, rfl, rfl, by decide +kernel, rfl, by decide +kernel, by decide +kernel⟩
abbrev gl_SIGNALS : List PV := [.str "void", .str "split", .str "burst", .str "sunk", .str "faint", .str "off", .str "cut"]
abbrev gl_WAYS : List PV := [.str "down", .str "up", .str "floor", .str "ceiling", .str "half up", .str "half down", .str "half even", .str "five up"]
/-- no whole number -/
def NotInt (M : Mem) (x : PV) : Prop := ∃ n, n ∈ (["NoneType", "bool", "str", "tuple", "list", "dict"] : List String) ∧ tyP M x = some (.type n)
def whP (x : PV) (lo hi : Int) (M : Mem) (Q : TQ.PK) : Prop := match x with
  | .int n => Q (.bl (decide (lo ≤ n ∧ n ≤ hi))) M
  | x => NotInt M x ∧ Q (.bl false) M
theorem whP_i {n lo hi : Int} {M : Mem} {Q : TQ.PK} : whP (.int n) lo hi M Q = Q (.bl (decide (lo ≤ n ∧ n ≤ hi))) M := rfl
theorem NotInt.no {M : Mem} {i : Int} (h : NotInt M (.int i)) : False := by
  obtain ⟨n, hn, ht⟩ := h
  cases ht
  revert hn
  decide
theorem whP_not {x : PV} {lo hi : Int} {M : Mem} {Q : TQ.PK} (h : NotInt M x) (q : Q (.bl false) M) : whP x lo hi M Q := by
  cases x with
  | int i => exact (NotInt.no h).elim
  | _ => exact ⟨h, q⟩

set_option genSizeOf false
set_option genInjectivity false
/-- what the top has written -/
structure Tx (K : PySem.W.Frag) (mg : Str → Option Value) where
  t_is_whole : TopF K mg "is_whole" "is_whole" "is_whole" s_is_whole ["thing", "least", "most"]
  t_Way_name : TopM K "name" "Way.name" s_Way_name ["self"]
  t_Up_name : TopM K "name" "Up.name" s_Up_name ["self"]
  t_Floor_name : TopM K "name" "Floor.name" s_Floor_name ["self"]
  t_Ceiling_name : TopM K "name" "Ceiling.name" s_Ceiling_name ["self"]
  t_HalfUp_name : TopM K "name" "HalfUp.name" s_HalfUp_name ["self"]
  t_HalfDown_name : TopM K "name" "HalfDown.name" s_HalfDown_name ["self"]
  t_HalfEven_name : TopM K "name" "HalfEven.name" s_HalfEven_name ["self"]
  t_FiveUp_name : TopM K "name" "FiveUp.name" s_FiveUp_name ["self"]
  t_half_way : TopF K mg "half_way" "half_way" "half_way" s_half_way ["name"]
  t_way_of : TopF K mg "way_of" "way_of" "way_of" s_way_of ["name"]
  t_need : TopF K mg "need" "need" "need" s_need ["good"]
  t_is_signal : TopF K mg "is_signal" "is_signal" "is_signal" s_is_signal ["thing"]
  t_Context___init__ : TopD K "__init__" "Context.__init__" s_Context___init__ [V.int 9, V.str "half even", V.non, V.int 60]
  t_Context_flags : TopM K "flags" "Context.flags" s_Context_flags ["self"]
  t_Context_clear : TopM K "clear" "Context.clear" s_Context_clear ["self"]
  t_Context_trap : TopM K "trap" "Context.trap" s_Context_trap ["self", "names"]
  t_Context_traps : TopM K "traps" "Context.traps" s_Context_traps ["self"]
  t_Context_raised : TopM K "raised" "Context.raised" s_Context_raised ["self", "names"]
  t__law_cell_at : TopF K mg "_law_cell_at" "_law_cell_at" "_law_cell_at" s__law_cell_at ["_law_script", "_law_k"]
  t__law_mixed : TopF K mg "_law_mixed" "_law_mixed" "_law_mixed" s__law_mixed ["_law_cell", "_law_k"]
  t__law_signals : TopF K mg "_law_signals" "_law_signals" "_law_signals" s__law_signals []
  t__law_word : TopF K mg "_law_word" "_law_word" "_law_word" s__law_word ["_law_e"]
  t__law_trap : TopF K mg "_law_trap" "_law_trap" "_law_trap" s__law_trap ["_law_context", "_law_names"]
  t__law_odd : TopF K mg "_law_odd" "_law_odd" "_law_odd" s__law_odd ["_law_number", "_law_names"]
  t_law : TopF K mg "law" "law" "law" s_law ["_law_script"]
  c_ReckonError : Addr
  c_BadNumber : Addr
  c_NoText : Addr
  c_BadContext : Addr
  c_BadCount : Addr
  c_Trapped : Addr
  c_Way : Addr
  c_Down : Addr
  c_Up : Addr
  c_Floor : Addr
  c_Ceiling : Addr
  c_HalfUp : Addr
  c_HalfDown : Addr
  c_HalfEven : Addr
  c_FiveUp : Addr
  c_Context : Addr
  t_MOST_LEAD : Tok
  t_MOST_ROOM : Tok
  ta_SIGNALS : Addr
  ta_WAYS : Addr
  m_ReckonError : mg "ReckonError" = some (.ref c_ReckonError)
  m_BadNumber : mg "BadNumber" = some (.ref c_BadNumber)
  m_NoText : mg "NoText" = some (.ref c_NoText)
  m_BadContext : mg "BadContext" = some (.ref c_BadContext)
  m_BadCount : mg "BadCount" = some (.ref c_BadCount)
  m_Trapped : mg "Trapped" = some (.ref c_Trapped)
  m_Way : mg "Way" = some (.ref c_Way)
  i_Way : ClsI K c_Way
  m_Down : mg "Down" = some (.ref c_Down)
  i_Down : ClsI K c_Down
  m_Up : mg "Up" = some (.ref c_Up)
  i_Up : ClsI K c_Up
  m_Floor : mg "Floor" = some (.ref c_Floor)
  i_Floor : ClsI K c_Floor
  m_Ceiling : mg "Ceiling" = some (.ref c_Ceiling)
  i_Ceiling : ClsI K c_Ceiling
  m_HalfUp : mg "HalfUp" = some (.ref c_HalfUp)
  i_HalfUp : ClsI K c_HalfUp
  m_HalfDown : mg "HalfDown" = some (.ref c_HalfDown)
  i_HalfDown : ClsI K c_HalfDown
  m_HalfEven : mg "HalfEven" = some (.ref c_HalfEven)
  i_HalfEven : ClsI K c_HalfEven
  m_FiveUp : mg "FiveUp" = some (.ref c_FiveUp)
  i_FiveUp : ClsI K c_FiveUp
  m_Context : mg "Context" = some (.ref c_Context)
  i_Context : ClsI K c_Context
  mk_Context : Mk K c_Context t_Context___init__.a
  no_Context_manner : NoAttr K c_Context "manner"
  no_Context_room : NoAttr K c_Context "room"
  no_Context_least : NoAttr K c_Context "least"
  no_Context_most : NoAttr K c_Context "most"
  no_Context_standing : NoAttr K c_Context "standing"
  no_Context_caught : NoAttr K c_Context "caught"
  n_ValueError : mg "ValueError" = none
  n_all : mg "all" = none
  n_bool : mg "bool" = none
  n_dict : mg "dict" = none
  n_enumerate : mg "enumerate" = none
  n_int : mg "int" = none
  n_isinstance : mg "isinstance" = none
  n_len : mg "len" = none
  n_list : mg "list" = none
  n_range : mg "range" = none
  n_repr : mg "repr" = none
  n_reversed : mg "reversed" = none
  n_str : mg "str" = none
  n_tuple : mg "tuple" = none
  b_Context_0 : ∃ ds, Vals [V.int 9, V.str "half even", V.non, V.int 60] ds ∧ Binds K t_Context___init__.d ["self", "room", "way", "least", "most"] ds
  x_BadContext : ExcX K c_BadContext
  ec_BadContext : ExcC K c_BadContext
  exk_BadContext_BadContext : PySem.W.kitOne K (.ref c_BadContext) (.ref c_BadContext) = some true
  exk_BadContext_BadCount : PySem.W.kitOne K (.ref c_BadContext) (.ref c_BadCount) = some false
  exk_BadContext_BadNumber : PySem.W.kitOne K (.ref c_BadContext) (.ref c_BadNumber) = some false
  exk_BadContext_NoText : PySem.W.kitOne K (.ref c_BadContext) (.ref c_NoText) = some false
  exk_BadContext_Trapped : PySem.W.kitOne K (.ref c_BadContext) (.ref c_Trapped) = some false
  exk_BadContext_ValueError : PySem.W.kitOne K (.ref c_BadContext) (.type "ValueError") = some true
  exm_BadContext_ReckonError : PySem.W.exmOne K (.ref c_BadContext) (.ref c_ReckonError) = some true
  k0_Ceiling : Mk0 K c_Ceiling
  k0_Down : Mk0 K c_Down
  k0_FiveUp : Mk0 K c_FiveUp
  k0_Floor : Mk0 K c_Floor
  k0_HalfDown : Mk0 K c_HalfDown
  k0_HalfEven : Mk0 K c_HalfEven
  k0_HalfUp : Mk0 K c_HalfUp
  k0_Up : Mk0 K c_Up
  M_Ceiling_name : Meth K c_Ceiling "name" t_Ceiling_name.a
  M_Context_flags : Meth K c_Context "flags" t_Context_flags.a
  M_Context_raised : Meth K c_Context "raised" t_Context_raised.a
  M_Context_trap : Meth K c_Context "trap" t_Context_trap.a
  M_Context_traps : Meth K c_Context "traps" t_Context_traps.a
  M_Down_name : Meth K c_Down "name" t_Way_name.a
  M_FiveUp_name : Meth K c_FiveUp "name" t_FiveUp_name.a
  M_Floor_name : Meth K c_Floor "name" t_Floor_name.a
  M_HalfDown_name : Meth K c_HalfDown "name" t_HalfDown_name.a
  M_HalfEven_name : Meth K c_HalfEven "name" t_HalfEven_name.a
  M_HalfUp_name : Meth K c_HalfUp "name" t_HalfUp_name.a
  M_Up_name : Meth K c_Up "name" t_Up_name.a
  sysm : SysM K
  isi_Down_Way : PySem.W.kitOne K (.ref c_Down) (.ref c_Way) = some true
  isi_Up_Way : PySem.W.kitOne K (.ref c_Up) (.ref c_Way) = some true
  isi_Floor_Way : PySem.W.kitOne K (.ref c_Floor) (.ref c_Way) = some true
  isi_Ceiling_Way : PySem.W.kitOne K (.ref c_Ceiling) (.ref c_Way) = some true
  isi_HalfUp_Way : PySem.W.kitOne K (.ref c_HalfUp) (.ref c_Way) = some true
  isi_HalfDown_Way : PySem.W.kitOne K (.ref c_HalfDown) (.ref c_Way) = some true
  isi_HalfEven_Way : PySem.W.kitOne K (.ref c_HalfEven) (.ref c_Way) = some true
  isi_FiveUp_Way : PySem.W.kitOne K (.ref c_FiveUp) (.ref c_Way) = some true
  g_MOST_LEAD : mg "MOST_LEAD" = some (.int 60 t_MOST_LEAD)
  g_MOST_ROOM : mg "MOST_ROOM" = some (.int 24 t_MOST_ROOM)
  g_SIGNALS : mg "SIGNALS" = some (.ref ta_SIGNALS)
  k_SIGNALS : ∀ G : Hp, ∃ vs, SqT K G ta_SIGNALS vs ∧ Reps K G gl_SIGNALS vs
  g_WAYS : mg "WAYS" = some (.ref ta_WAYS)
  k_WAYS : ∀ G : Hp, ∃ vs, SqT K G ta_WAYS vs ∧ Reps K G gl_WAYS vs
abbrev Tx.a_is_whole {K : PySem.W.Frag} {mg : Str → Option Value} (T : Tx K mg) : Addr := T.t_is_whole.a
abbrev Tx.d_is_whole {K : PySem.W.Frag} {mg : Str → Option Value} (T : Tx K mg) : FuncData := T.t_is_whole.d
theorem Tx.m_is_whole {K : PySem.W.Frag} {mg : Str → Option Value} (T : Tx K mg) : mg "is_whole" = some (.ref T.a_is_whole) := T.t_is_whole.m
theorem Tx.F_is_whole {K : PySem.W.Frag} {mg : Str → Option Value} (T : Tx K mg) : Fun K "is_whole" "is_whole" s_is_whole T.a_is_whole T.d_is_whole := T.t_is_whole.F
theorem Tx.b_is_whole {K : PySem.W.Frag} {mg : Str → Option Value} (T : Tx K mg) : Binds K T.d_is_whole ["thing", "least", "most"] [] := T.t_is_whole.b
abbrev Tx.a_Way_name {K : PySem.W.Frag} {mg : Str → Option Value} (T : Tx K mg) : Addr := T.t_Way_name.a
abbrev Tx.d_Way_name {K : PySem.W.Frag} {mg : Str → Option Value} (T : Tx K mg) : FuncData := T.t_Way_name.d
theorem Tx.F_Way_name {K : PySem.W.Frag} {mg : Str → Option Value} (T : Tx K mg) : Fun K "name" "Way.name" s_Way_name T.a_Way_name T.d_Way_name := T.t_Way_name.F
theorem Tx.b_Way_name {K : PySem.W.Frag} {mg : Str → Option Value} (T : Tx K mg) : Binds K T.d_Way_name ["self"] [] := T.t_Way_name.b
abbrev Tx.a_Up_name {K : PySem.W.Frag} {mg : Str → Option Value} (T : Tx K mg) : Addr := T.t_Up_name.a
abbrev Tx.d_Up_name {K : PySem.W.Frag} {mg : Str → Option Value} (T : Tx K mg) : FuncData := T.t_Up_name.d
theorem Tx.F_Up_name {K : PySem.W.Frag} {mg : Str → Option Value} (T : Tx K mg) : Fun K "name" "Up.name" s_Up_name T.a_Up_name T.d_Up_name := T.t_Up_name.F
theorem Tx.b_Up_name {K : PySem.W.Frag} {mg : Str → Option Value} (T : Tx K mg) : Binds K T.d_Up_name ["self"] [] := T.t_Up_name.b
abbrev Tx.a_Floor_name {K : PySem.W.Frag} {mg : Str → Option Value} (T : Tx K mg) : Addr := T.t_Floor_name.a
abbrev Tx.d_Floor_name {K : PySem.W.Frag} {mg : Str → Option Value} (T : Tx K mg) : FuncData := T.t_Floor_name.d
theorem Tx.F_Floor_name {K : PySem.W.Frag} {mg : Str → Option Value} (T : Tx K mg) : Fun K "name" "Floor.name" s_Floor_name T.a_Floor_name T.d_Floor_name := T.t_Floor_name.F
theorem Tx.b_Floor_name {K : PySem.W.Frag} {mg : Str → Option Value} (T : Tx K mg) : Binds K T.d_Floor_name ["self"] [] := T.t_Floor_name.b
abbrev Tx.a_Ceiling_name {K : PySem.W.Frag} {mg : Str → Option Value} (T : Tx K mg) : Addr := T.t_Ceiling_name.a
abbrev Tx.d_Ceiling_name {K : PySem.W.Frag} {mg : Str → Option Value} (T : Tx K mg) : FuncData := T.t_Ceiling_name.d
theorem Tx.F_Ceiling_name {K : PySem.W.Frag} {mg : Str → Option Value} (T : Tx K mg) : Fun K "name" "Ceiling.name" s_Ceiling_name T.a_Ceiling_name T.d_Ceiling_name := T.t_Ceiling_name.F
theorem Tx.b_Ceiling_name {K : PySem.W.Frag} {mg : Str → Option Value} (T : Tx K mg) : Binds K T.d_Ceiling_name ["self"] [] := T.t_Ceiling_name.b
abbrev Tx.a_HalfUp_name {K : PySem.W.Frag} {mg : Str → Option Value} (T : Tx K mg) : Addr := T.t_HalfUp_name.a
abbrev Tx.d_HalfUp_name {K : PySem.W.Frag} {mg : Str → Option Value} (T : Tx K mg) : FuncData := T.t_HalfUp_name.d
theorem Tx.F_HalfUp_name {K : PySem.W.Frag} {mg : Str → Option Value} (T : Tx K mg) : Fun K "name" "HalfUp.name" s_HalfUp_name T.a_HalfUp_name T.d_HalfUp_name := T.t_HalfUp_name.F
theorem Tx.b_HalfUp_name {K : PySem.W.Frag} {mg : Str → Option Value} (T : Tx K mg) : Binds K T.d_HalfUp_name ["self"] [] := T.t_HalfUp_name.b
abbrev Tx.a_HalfDown_name {K : PySem.W.Frag} {mg : Str → Option Value} (T : Tx K mg) : Addr := T.t_HalfDown_name.a
abbrev Tx.d_HalfDown_name {K : PySem.W.Frag} {mg : Str → Option Value} (T : Tx K mg) : FuncData := T.t_HalfDown_name.d
theorem Tx.F_HalfDown_name {K : PySem.W.Frag} {mg : Str → Option Value} (T : Tx K mg) : Fun K "name" "HalfDown.name" s_HalfDown_name T.a_HalfDown_name T.d_HalfDown_name := T.t_HalfDown_name.F
theorem Tx.b_HalfDown_name {K : PySem.W.Frag} {mg : Str → Option Value} (T : Tx K mg) : Binds K T.d_HalfDown_name ["self"] [] := T.t_HalfDown_name.b
abbrev Tx.a_HalfEven_name {K : PySem.W.Frag} {mg : Str → Option Value} (T : Tx K mg) : Addr := T.t_HalfEven_name.a
abbrev Tx.d_HalfEven_name {K : PySem.W.Frag} {mg : Str → Option Value} (T : Tx K mg) : FuncData := T.t_HalfEven_name.d
theorem Tx.F_HalfEven_name {K : PySem.W.Frag} {mg : Str → Option Value} (T : Tx K mg) : Fun K "name" "HalfEven.name" s_HalfEven_name T.a_HalfEven_name T.d_HalfEven_name := T.t_HalfEven_name.F
theorem Tx.b_HalfEven_name {K : PySem.W.Frag} {mg : Str → Option Value} (T : Tx K mg) : Binds K T.d_HalfEven_name ["self"] [] := T.t_HalfEven_name.b
abbrev Tx.a_FiveUp_name {K : PySem.W.Frag} {mg : Str → Option Value} (T : Tx K mg) : Addr := T.t_FiveUp_name.a
abbrev Tx.d_FiveUp_name {K : PySem.W.Frag} {mg : Str → Option Value} (T : Tx K mg) : FuncData := T.t_FiveUp_name.d
theorem Tx.F_FiveUp_name {K : PySem.W.Frag} {mg : Str → Option Value} (T : Tx K mg) : Fun K "name" "FiveUp.name" s_FiveUp_name T.a_FiveUp_name T.d_FiveUp_name := T.t_FiveUp_name.F
theorem Tx.b_FiveUp_name {K : PySem.W.Frag} {mg : Str → Option Value} (T : Tx K mg) : Binds K T.d_FiveUp_name ["self"] [] := T.t_FiveUp_name.b
abbrev Tx.a_half_way {K : PySem.W.Frag} {mg : Str → Option Value} (T : Tx K mg) : Addr := T.t_half_way.a
abbrev Tx.d_half_way {K : PySem.W.Frag} {mg : Str → Option Value} (T : Tx K mg) : FuncData := T.t_half_way.d
theorem Tx.m_half_way {K : PySem.W.Frag} {mg : Str → Option Value} (T : Tx K mg) : mg "half_way" = some (.ref T.a_half_way) := T.t_half_way.m
theorem Tx.F_half_way {K : PySem.W.Frag} {mg : Str → Option Value} (T : Tx K mg) : Fun K "half_way" "half_way" s_half_way T.a_half_way T.d_half_way := T.t_half_way.F
theorem Tx.b_half_way {K : PySem.W.Frag} {mg : Str → Option Value} (T : Tx K mg) : Binds K T.d_half_way ["name"] [] := T.t_half_way.b
abbrev Tx.a_way_of {K : PySem.W.Frag} {mg : Str → Option Value} (T : Tx K mg) : Addr := T.t_way_of.a
abbrev Tx.d_way_of {K : PySem.W.Frag} {mg : Str → Option Value} (T : Tx K mg) : FuncData := T.t_way_of.d
theorem Tx.m_way_of {K : PySem.W.Frag} {mg : Str → Option Value} (T : Tx K mg) : mg "way_of" = some (.ref T.a_way_of) := T.t_way_of.m
theorem Tx.F_way_of {K : PySem.W.Frag} {mg : Str → Option Value} (T : Tx K mg) : Fun K "way_of" "way_of" s_way_of T.a_way_of T.d_way_of := T.t_way_of.F
theorem Tx.b_way_of {K : PySem.W.Frag} {mg : Str → Option Value} (T : Tx K mg) : Binds K T.d_way_of ["name"] [] := T.t_way_of.b
abbrev Tx.a_need {K : PySem.W.Frag} {mg : Str → Option Value} (T : Tx K mg) : Addr := T.t_need.a
abbrev Tx.d_need {K : PySem.W.Frag} {mg : Str → Option Value} (T : Tx K mg) : FuncData := T.t_need.d
theorem Tx.m_need {K : PySem.W.Frag} {mg : Str → Option Value} (T : Tx K mg) : mg "need" = some (.ref T.a_need) := T.t_need.m
theorem Tx.F_need {K : PySem.W.Frag} {mg : Str → Option Value} (T : Tx K mg) : Fun K "need" "need" s_need T.a_need T.d_need := T.t_need.F
theorem Tx.b_need {K : PySem.W.Frag} {mg : Str → Option Value} (T : Tx K mg) : Binds K T.d_need ["good"] [] := T.t_need.b
abbrev Tx.a_is_signal {K : PySem.W.Frag} {mg : Str → Option Value} (T : Tx K mg) : Addr := T.t_is_signal.a
abbrev Tx.d_is_signal {K : PySem.W.Frag} {mg : Str → Option Value} (T : Tx K mg) : FuncData := T.t_is_signal.d
theorem Tx.m_is_signal {K : PySem.W.Frag} {mg : Str → Option Value} (T : Tx K mg) : mg "is_signal" = some (.ref T.a_is_signal) := T.t_is_signal.m
theorem Tx.F_is_signal {K : PySem.W.Frag} {mg : Str → Option Value} (T : Tx K mg) : Fun K "is_signal" "is_signal" s_is_signal T.a_is_signal T.d_is_signal := T.t_is_signal.F
theorem Tx.b_is_signal {K : PySem.W.Frag} {mg : Str → Option Value} (T : Tx K mg) : Binds K T.d_is_signal ["thing"] [] := T.t_is_signal.b
abbrev Tx.a_Context___init__ {K : PySem.W.Frag} {mg : Str → Option Value} (T : Tx K mg) : Addr := T.t_Context___init__.a
abbrev Tx.d_Context___init__ {K : PySem.W.Frag} {mg : Str → Option Value} (T : Tx K mg) : FuncData := T.t_Context___init__.d
theorem Tx.F_Context___init__ {K : PySem.W.Frag} {mg : Str → Option Value} (T : Tx K mg) : FunD K "__init__" "Context.__init__" (defArgs s_Context___init__) (defBody s_Context___init__) (defScope s_Context___init__) [V.int 9, V.str "half even", V.non, V.int 60] [] T.a_Context___init__ T.d_Context___init__ := T.t_Context___init__.F
abbrev Tx.a_Context_flags {K : PySem.W.Frag} {mg : Str → Option Value} (T : Tx K mg) : Addr := T.t_Context_flags.a
abbrev Tx.d_Context_flags {K : PySem.W.Frag} {mg : Str → Option Value} (T : Tx K mg) : FuncData := T.t_Context_flags.d
theorem Tx.F_Context_flags {K : PySem.W.Frag} {mg : Str → Option Value} (T : Tx K mg) : Fun K "flags" "Context.flags" s_Context_flags T.a_Context_flags T.d_Context_flags := T.t_Context_flags.F
theorem Tx.b_Context_flags {K : PySem.W.Frag} {mg : Str → Option Value} (T : Tx K mg) : Binds K T.d_Context_flags ["self"] [] := T.t_Context_flags.b
abbrev Tx.a_Context_clear {K : PySem.W.Frag} {mg : Str → Option Value} (T : Tx K mg) : Addr := T.t_Context_clear.a
abbrev Tx.d_Context_clear {K : PySem.W.Frag} {mg : Str → Option Value} (T : Tx K mg) : FuncData := T.t_Context_clear.d
theorem Tx.F_Context_clear {K : PySem.W.Frag} {mg : Str → Option Value} (T : Tx K mg) : Fun K "clear" "Context.clear" s_Context_clear T.a_Context_clear T.d_Context_clear := T.t_Context_clear.F
theorem Tx.b_Context_clear {K : PySem.W.Frag} {mg : Str → Option Value} (T : Tx K mg) : Binds K T.d_Context_clear ["self"] [] := T.t_Context_clear.b
abbrev Tx.a_Context_trap {K : PySem.W.Frag} {mg : Str → Option Value} (T : Tx K mg) : Addr := T.t_Context_trap.a
abbrev Tx.d_Context_trap {K : PySem.W.Frag} {mg : Str → Option Value} (T : Tx K mg) : FuncData := T.t_Context_trap.d
theorem Tx.F_Context_trap {K : PySem.W.Frag} {mg : Str → Option Value} (T : Tx K mg) : Fun K "trap" "Context.trap" s_Context_trap T.a_Context_trap T.d_Context_trap := T.t_Context_trap.F
theorem Tx.b_Context_trap {K : PySem.W.Frag} {mg : Str → Option Value} (T : Tx K mg) : Binds K T.d_Context_trap ["self", "names"] [] := T.t_Context_trap.b
abbrev Tx.a_Context_traps {K : PySem.W.Frag} {mg : Str → Option Value} (T : Tx K mg) : Addr := T.t_Context_traps.a
abbrev Tx.d_Context_traps {K : PySem.W.Frag} {mg : Str → Option Value} (T : Tx K mg) : FuncData := T.t_Context_traps.d
theorem Tx.F_Context_traps {K : PySem.W.Frag} {mg : Str → Option Value} (T : Tx K mg) : Fun K "traps" "Context.traps" s_Context_traps T.a_Context_traps T.d_Context_traps := T.t_Context_traps.F
theorem Tx.b_Context_traps {K : PySem.W.Frag} {mg : Str → Option Value} (T : Tx K mg) : Binds K T.d_Context_traps ["self"] [] := T.t_Context_traps.b
abbrev Tx.a_Context_raised {K : PySem.W.Frag} {mg : Str → Option Value} (T : Tx K mg) : Addr := T.t_Context_raised.a
abbrev Tx.d_Context_raised {K : PySem.W.Frag} {mg : Str → Option Value} (T : Tx K mg) : FuncData := T.t_Context_raised.d
theorem Tx.F_Context_raised {K : PySem.W.Frag} {mg : Str → Option Value} (T : Tx K mg) : Fun K "raised" "Context.raised" s_Context_raised T.a_Context_raised T.d_Context_raised := T.t_Context_raised.F
theorem Tx.b_Context_raised {K : PySem.W.Frag} {mg : Str → Option Value} (T : Tx K mg) : Binds K T.d_Context_raised ["self", "names"] [] := T.t_Context_raised.b
abbrev Tx.a__law_cell_at {K : PySem.W.Frag} {mg : Str → Option Value} (T : Tx K mg) : Addr := T.t__law_cell_at.a
abbrev Tx.d__law_cell_at {K : PySem.W.Frag} {mg : Str → Option Value} (T : Tx K mg) : FuncData := T.t__law_cell_at.d
theorem Tx.m__law_cell_at {K : PySem.W.Frag} {mg : Str → Option Value} (T : Tx K mg) : mg "_law_cell_at" = some (.ref T.a__law_cell_at) := T.t__law_cell_at.m
theorem Tx.F__law_cell_at {K : PySem.W.Frag} {mg : Str → Option Value} (T : Tx K mg) : Fun K "_law_cell_at" "_law_cell_at" s__law_cell_at T.a__law_cell_at T.d__law_cell_at := T.t__law_cell_at.F
theorem Tx.b__law_cell_at {K : PySem.W.Frag} {mg : Str → Option Value} (T : Tx K mg) : Binds K T.d__law_cell_at ["_law_script", "_law_k"] [] := T.t__law_cell_at.b
abbrev Tx.a__law_mixed {K : PySem.W.Frag} {mg : Str → Option Value} (T : Tx K mg) : Addr := T.t__law_mixed.a
abbrev Tx.d__law_mixed {K : PySem.W.Frag} {mg : Str → Option Value} (T : Tx K mg) : FuncData := T.t__law_mixed.d
theorem Tx.m__law_mixed {K : PySem.W.Frag} {mg : Str → Option Value} (T : Tx K mg) : mg "_law_mixed" = some (.ref T.a__law_mixed) := T.t__law_mixed.m
theorem Tx.F__law_mixed {K : PySem.W.Frag} {mg : Str → Option Value} (T : Tx K mg) : Fun K "_law_mixed" "_law_mixed" s__law_mixed T.a__law_mixed T.d__law_mixed := T.t__law_mixed.F
theorem Tx.b__law_mixed {K : PySem.W.Frag} {mg : Str → Option Value} (T : Tx K mg) : Binds K T.d__law_mixed ["_law_cell", "_law_k"] [] := T.t__law_mixed.b
abbrev Tx.a__law_signals {K : PySem.W.Frag} {mg : Str → Option Value} (T : Tx K mg) : Addr := T.t__law_signals.a
abbrev Tx.d__law_signals {K : PySem.W.Frag} {mg : Str → Option Value} (T : Tx K mg) : FuncData := T.t__law_signals.d
theorem Tx.m__law_signals {K : PySem.W.Frag} {mg : Str → Option Value} (T : Tx K mg) : mg "_law_signals" = some (.ref T.a__law_signals) := T.t__law_signals.m
theorem Tx.F__law_signals {K : PySem.W.Frag} {mg : Str → Option Value} (T : Tx K mg) : Fun K "_law_signals" "_law_signals" s__law_signals T.a__law_signals T.d__law_signals := T.t__law_signals.F
theorem Tx.b__law_signals {K : PySem.W.Frag} {mg : Str → Option Value} (T : Tx K mg) : Binds K T.d__law_signals [] [] := T.t__law_signals.b
abbrev Tx.a__law_word {K : PySem.W.Frag} {mg : Str → Option Value} (T : Tx K mg) : Addr := T.t__law_word.a
abbrev Tx.d__law_word {K : PySem.W.Frag} {mg : Str → Option Value} (T : Tx K mg) : FuncData := T.t__law_word.d
theorem Tx.m__law_word {K : PySem.W.Frag} {mg : Str → Option Value} (T : Tx K mg) : mg "_law_word" = some (.ref T.a__law_word) := T.t__law_word.m
theorem Tx.F__law_word {K : PySem.W.Frag} {mg : Str → Option Value} (T : Tx K mg) : Fun K "_law_word" "_law_word" s__law_word T.a__law_word T.d__law_word := T.t__law_word.F
theorem Tx.b__law_word {K : PySem.W.Frag} {mg : Str → Option Value} (T : Tx K mg) : Binds K T.d__law_word ["_law_e"] [] := T.t__law_word.b
abbrev Tx.a__law_trap {K : PySem.W.Frag} {mg : Str → Option Value} (T : Tx K mg) : Addr := T.t__law_trap.a
abbrev Tx.d__law_trap {K : PySem.W.Frag} {mg : Str → Option Value} (T : Tx K mg) : FuncData := T.t__law_trap.d
theorem Tx.m__law_trap {K : PySem.W.Frag} {mg : Str → Option Value} (T : Tx K mg) : mg "_law_trap" = some (.ref T.a__law_trap) := T.t__law_trap.m
theorem Tx.F__law_trap {K : PySem.W.Frag} {mg : Str → Option Value} (T : Tx K mg) : Fun K "_law_trap" "_law_trap" s__law_trap T.a__law_trap T.d__law_trap := T.t__law_trap.F
theorem Tx.b__law_trap {K : PySem.W.Frag} {mg : Str → Option Value} (T : Tx K mg) : Binds K T.d__law_trap ["_law_context", "_law_names"] [] := T.t__law_trap.b
abbrev Tx.a__law_odd {K : PySem.W.Frag} {mg : Str → Option Value} (T : Tx K mg) : Addr := T.t__law_odd.a
abbrev Tx.d__law_odd {K : PySem.W.Frag} {mg : Str → Option Value} (T : Tx K mg) : FuncData := T.t__law_odd.d
theorem Tx.m__law_odd {K : PySem.W.Frag} {mg : Str → Option Value} (T : Tx K mg) : mg "_law_odd" = some (.ref T.a__law_odd) := T.t__law_odd.m
theorem Tx.F__law_odd {K : PySem.W.Frag} {mg : Str → Option Value} (T : Tx K mg) : Fun K "_law_odd" "_law_odd" s__law_odd T.a__law_odd T.d__law_odd := T.t__law_odd.F
theorem Tx.b__law_odd {K : PySem.W.Frag} {mg : Str → Option Value} (T : Tx K mg) : Binds K T.d__law_odd ["_law_number", "_law_names"] [] := T.t__law_odd.b
abbrev Tx.a_law {K : PySem.W.Frag} {mg : Str → Option Value} (T : Tx K mg) : Addr := T.t_law.a
abbrev Tx.d_law {K : PySem.W.Frag} {mg : Str → Option Value} (T : Tx K mg) : FuncData := T.t_law.d
theorem Tx.m_law {K : PySem.W.Frag} {mg : Str → Option Value} (T : Tx K mg) : mg "law" = some (.ref T.a_law) := T.t_law.m
theorem Tx.F_law {K : PySem.W.Frag} {mg : Str → Option Value} (T : Tx K mg) : Fun K "law" "law" s_law T.a_law T.d_law := T.t_law.F
theorem Tx.b_law {K : PySem.W.Frag} {mg : Str → Option Value} (T : Tx K mg) : Binds K T.d_law ["_law_script"] [] := T.t_law.b
abbrev ns_Context : List Str := ["manner", "room", "least", "most", "standing", "caught"]
theorem fldw_Context_manner {K : PySem.W.Frag} {mg : Str → Option Value} (T : Tx K mg) {o_manner o_room o_least o_most o_standing o_caught : PV} {M : Mem} {a : Addr} {Q : Box PK} (h : M a = some (.ins T.c_Context ns_Context [o_manner, o_room, o_least, o_most, o_standing, o_caught])) : @fldB K "manner" (.ref a) M Q = Q.v o_manner M := fldB_own (own_ref h) T.i_Context.cl T.no_Context_manner (by simp (decide := true) [lk])
theorem fldw_Context_room {K : PySem.W.Frag} {mg : Str → Option Value} (T : Tx K mg) {o_manner o_room o_least o_most o_standing o_caught : PV} {M : Mem} {a : Addr} {Q : Box PK} (h : M a = some (.ins T.c_Context ns_Context [o_manner, o_room, o_least, o_most, o_standing, o_caught])) : @fldB K "room" (.ref a) M Q = Q.v o_room M := fldB_own (own_ref h) T.i_Context.cl T.no_Context_room (by simp (decide := true) [lk])
theorem fldw_Context_least {K : PySem.W.Frag} {mg : Str → Option Value} (T : Tx K mg) {o_manner o_room o_least o_most o_standing o_caught : PV} {M : Mem} {a : Addr} {Q : Box PK} (h : M a = some (.ins T.c_Context ns_Context [o_manner, o_room, o_least, o_most, o_standing, o_caught])) : @fldB K "least" (.ref a) M Q = Q.v o_least M := fldB_own (own_ref h) T.i_Context.cl T.no_Context_least (by simp (decide := true) [lk])
theorem fldw_Context_most {K : PySem.W.Frag} {mg : Str → Option Value} (T : Tx K mg) {o_manner o_room o_least o_most o_standing o_caught : PV} {M : Mem} {a : Addr} {Q : Box PK} (h : M a = some (.ins T.c_Context ns_Context [o_manner, o_room, o_least, o_most, o_standing, o_caught])) : @fldB K "most" (.ref a) M Q = Q.v o_most M := fldB_own (own_ref h) T.i_Context.cl T.no_Context_most (by simp (decide := true) [lk])
theorem fldw_Context_standing {K : PySem.W.Frag} {mg : Str → Option Value} (T : Tx K mg) {o_manner o_room o_least o_most o_standing o_caught : PV} {M : Mem} {a : Addr} {Q : Box PK} (h : M a = some (.ins T.c_Context ns_Context [o_manner, o_room, o_least, o_most, o_standing, o_caught])) : @fldB K "standing" (.ref a) M Q = Q.v o_standing M := fldB_own (own_ref h) T.i_Context.cl T.no_Context_standing (by simp (decide := true) [lk])
theorem fldw_Context_caught {K : PySem.W.Frag} {mg : Str → Option Value} (T : Tx K mg) {o_manner o_room o_least o_most o_standing o_caught : PV} {M : Mem} {a : Addr} {Q : Box PK} (h : M a = some (.ins T.c_Context ns_Context [o_manner, o_room, o_least, o_most, o_standing, o_caught])) : @fldB K "caught" (.ref a) M Q = Q.v o_caught M := fldB_own (own_ref h) T.i_Context.cl T.no_Context_caught (by simp (decide := true) [lk])
theorem mthw_Context_flags {K : PySem.W.Frag} {mg : Str → Option Value} (T : Tx K mg) {os : List PV} {M : Mem} {a : Addr} {R : Box Prop} (h : M a = some (.ins T.c_Context ns_Context os)) : @mthB T.c_Context "flags" (.ref a) M R = R.v := mthB_own (own_ref h) (by decide)
theorem mthw_Context_raised {K : PySem.W.Frag} {mg : Str → Option Value} (T : Tx K mg) {os : List PV} {M : Mem} {a : Addr} {R : Box Prop} (h : M a = some (.ins T.c_Context ns_Context os)) : @mthB T.c_Context "raised" (.ref a) M R = R.v := mthB_own (own_ref h) (by decide)
theorem mthw_Context_trap {K : PySem.W.Frag} {mg : Str → Option Value} (T : Tx K mg) {os : List PV} {M : Mem} {a : Addr} {R : Box Prop} (h : M a = some (.ins T.c_Context ns_Context os)) : @mthB T.c_Context "trap" (.ref a) M R = R.v := mthB_own (own_ref h) (by decide)
theorem mthw_Context_traps {K : PySem.W.Frag} {mg : Str → Option Value} (T : Tx K mg) {os : List PV} {M : Mem} {a : Addr} {R : Box Prop} (h : M a = some (.ins T.c_Context ns_Context os)) : @mthB T.c_Context "traps" (.ref a) M R = R.v := mthB_own (own_ref h) (by decide)
theorem isi_Down_Way {K : PySem.W.Frag} {mg : Str → Option Value} (T : Tx K mg) {ns : List Str} {xs : List PV} {M : Mem} {Q : Box PK} : @isiB K (.obj T.c_Down ns xs) (.ref T.c_Way) M Q = Q.v (.bl true) M := isiP rfl T.i_Down rfl T.isi_Down_Way
theorem isi_Up_Way {K : PySem.W.Frag} {mg : Str → Option Value} (T : Tx K mg) {ns : List Str} {xs : List PV} {M : Mem} {Q : Box PK} : @isiB K (.obj T.c_Up ns xs) (.ref T.c_Way) M Q = Q.v (.bl true) M := isiP rfl T.i_Up rfl T.isi_Up_Way
theorem isi_Floor_Way {K : PySem.W.Frag} {mg : Str → Option Value} (T : Tx K mg) {ns : List Str} {xs : List PV} {M : Mem} {Q : Box PK} : @isiB K (.obj T.c_Floor ns xs) (.ref T.c_Way) M Q = Q.v (.bl true) M := isiP rfl T.i_Floor rfl T.isi_Floor_Way
theorem isi_Ceiling_Way {K : PySem.W.Frag} {mg : Str → Option Value} (T : Tx K mg) {ns : List Str} {xs : List PV} {M : Mem} {Q : Box PK} : @isiB K (.obj T.c_Ceiling ns xs) (.ref T.c_Way) M Q = Q.v (.bl true) M := isiP rfl T.i_Ceiling rfl T.isi_Ceiling_Way
theorem isi_HalfUp_Way {K : PySem.W.Frag} {mg : Str → Option Value} (T : Tx K mg) {ns : List Str} {xs : List PV} {M : Mem} {Q : Box PK} : @isiB K (.obj T.c_HalfUp ns xs) (.ref T.c_Way) M Q = Q.v (.bl true) M := isiP rfl T.i_HalfUp rfl T.isi_HalfUp_Way
theorem isi_HalfDown_Way {K : PySem.W.Frag} {mg : Str → Option Value} (T : Tx K mg) {ns : List Str} {xs : List PV} {M : Mem} {Q : Box PK} : @isiB K (.obj T.c_HalfDown ns xs) (.ref T.c_Way) M Q = Q.v (.bl true) M := isiP rfl T.i_HalfDown rfl T.isi_HalfDown_Way
theorem isi_HalfEven_Way {K : PySem.W.Frag} {mg : Str → Option Value} (T : Tx K mg) {ns : List Str} {xs : List PV} {M : Mem} {Q : Box PK} : @isiB K (.obj T.c_HalfEven ns xs) (.ref T.c_Way) M Q = Q.v (.bl true) M := isiP rfl T.i_HalfEven rfl T.isi_HalfEven_Way
theorem isi_FiveUp_Way {K : PySem.W.Frag} {mg : Str → Option Value} (T : Tx K mg) {ns : List Str} {xs : List PV} {M : Mem} {Q : Box PK} : @isiB K (.obj T.c_FiveUp ns xs) (.ref T.c_Way) M Q = Q.v (.bl true) M := isiP rfl T.i_FiveUp rfl T.isi_FiveUp_Way
/-! ### short words of this text -/
local macro_rules | `(tactic| walk_at "q") => `(tactic| simp (config := { maxSteps := 1000000 }) only [↓e_qLRev, ↓lrvP_lst, ↓e_qExt, ↓e_sForVals, ↓e_lcVals, ↓e_lcKeys, ↓e_qDGetF, ↓e_qDUpd, ↓e_qRepl, ↓replP_s, ↓e_qDsp1, ↓dsp1_s, ↓e_bAddT, ↓e_sForEn, enP_lst, ↓e_qTrapV, ↓e_sTryKeep, ↓e_cIsV, ↓e_qSigV, sigVP_eo, ↓e_cLisT, ↓e_qMakeWK, ↓isN_e, ↓notN_e,  ↓e_qT0, ↓e_qT1, ↓txP_s, e_lowF, e_uppF, e_stripF, e_lstripF, e_findF, e_zfillF, e_partF, e_splitF, ↓e_qVar, ↓e_qC, ↓e_q2, ↓e_qTst, ↓e_qAnd, ↓e_qOr, ↓e_qNot, ↓e_qAndV, ↓e_qOrV, ↓e_qNotV, ↓e_qIf, ↓e_qNil, ↓e_qCons, ↓e_qTup, ↓e_qLst, ↓e_qLstM, ↓tup_0, ↓tup_1, ↓tup_2, ↓tup_3, ↓tup_4, ↓tup_5, ↓lis_0, ↓lis_1, ↓lis_2, ↓lis_3, ↓lis_4, ↓lis_5, ↓lis_6, ↓lis_7, ↓lis_8, ↓e_qCB, ↓e_cLen, ↓e_cMax, ↓e_cMin, ↓e_cMin5, ↓e_bInS, ↓e_cAbs, ↓e_cInt_i, ↓e_cInt_d, ↓e_cInt_nd, ↓e_qBits2, ↓e_cInt_s, ↓e_cStr, ↓e_cDivmod, ↓e_cIsi, ↓e_qNeg, ↓e_qSl, ↓e_qoNone, ↓e_qoSome, ↓e_qCall, ↓e_qFld, ↓e_qMeth, ↓e_qMake, ↓e_qMakeK, ↓e_qOrC, ↓e_qTru, ↓e_qChain, ↓e_qApp, ↓b_add_i, ↓b_add_s, ↓b_add_l, ↓b_sub, ↓b_mul_i, ↓b_mul_s, ↓b_div, ↓b_mod, ↓b_pow, ↓b_lt, ↓b_le, ↓b_gt, ↓b_ge, ↓i_add_i, ↓i_add_s, ↓i_mul_i, ↓xi_lst, ↓xi_scr, ↓xi_tup, ↓e_ixR, ↓e_sNext, ↓e_sSeq, ↓e_sRet, ↓e_sDrop, ↓e_sIf, ↓e_sAsg, ↓e_sPar, parP_2, ↓e_sTrap, trapP_1, ↓e_qSig, ↓e_sTryAs, ↓e_sTryAsE, ↓e_sTryAsN, ↓e_cIsN, ↓e_bInD, ↓e_lcLT, ↓e_lcZ, ↓e_lcLTW, ↓e_lcLX, setP_nil, setP_cons, sigP_exc, ↓e_cIsE, ↓e_sAug, ↓e_sBreak, ↓e_sCont, ↓e_gNm, ↓e_gTu, ↓e_gsNil, ↓e_gsCons, ↓e_lcEn, ↓e_lcEnL, ↓e_lcTM, ↓e_qDGet, ↓e_cDictP, ↓e_qDsp, ↓e_qPs_c, ↓e_qPs_0, ↓e_qClr, ↓e_qDClr, ↓e_qRev, rev_lst, ↓e_bAddM, ↓e_bShr, ↓e_sForR3, ↓e_sForZ, ↓e_lcLW, ↓isR3_eq, isB_ll, isB_tl, ↓sl_tupQ, ↓e_sForR1, ↓e_sForR2, ↓e_sForT, ↓e_sForL, ↓e_sForS, ↓e_qYes, ↓e_lcEl, ↓e_lcT, ↓e_lcL, ↓e_lcR1,
  lsm_eq, vP_some, ixP_some, nxP_eq, box_v, iteP_true, iteP_false, ↓iteB_dec, ↓iteB_t, ↓iteB_f, ↓iteB_not, ↓iteB_and, ↓iteB_or, ↓iteB_beq, ↓iteB_bne, ↓blP_bl, ↓intP_int, truP_int, truP_bl, truP_non, if_int, app1_mset, app2_mset, at_0, at_1, at_2, at_3, ↓isR1_eq, ↓isR2_eq, forP_tup, forLP_lst, wipe_0, wipe_1, isB_ii, isB_ib, isB_is, isB_it, isB_bi, isB_bb, isB_ss, isB_st, isB_tt, isB_nt,
  whP_i, ↓e_cTup, tupB_lst, isB_si, isB_sb, isB_sl, isB_li, isB_lb, isB_ls, isB_lt, isB_ti, isB_tb, isB_ts, isB_ni, isB_nb, isB_ns, isB_nl, isi_Down_Way, isi_Up_Way, isi_Floor_Way, isi_Ceiling_Way, isi_HalfUp_Way, isi_HalfDown_Way, isi_HalfEven_Way, isi_FiveUp_Way, ↓e_sFldQ, ↓e_sDPutQ, ↓e_sLSet, ↓e_qDict0, ↓e_bIn, inB_f, inB_t, inP_tup, inP_lst, ↓e_bAnd, ↓e_bXor, ↓e_bShl, ↓e_iAddG, iadd_i, iadd_s, iadd_mset, ↓e_lcLM, ↓e_lcR1M, ↓e_lcR1I, ↓b_mul_l, ↓e_gLu2, sqB_some, sq_lst, ↓e_cInt_tt, ↓e_cInt_ff, ↓sl_lst, ↓e_qMake0, ↓isN_i, ↓notN_i, ↓isN_s, ↓notN_s, ↓isN_b, ↓notN_b, ↓isN_o, ↓notN_o, ↓isN_r, ↓notN_r, ↓isN_t, ↓notN_t, ↓isN_l, ↓notN_l, ↓isN_n, ↓notN_n,  ↓e_qMethD, ↓e_qMakeW, ↓e_sRaise, ↓e_qSw2, strP_s, swP_s, bEq_int, bNe_int, bEq_str, bNe_str, bEq_bl, bNe_bl, len_scr, len_lst, len_tup, len_mset, ixR_mset, sqA_scr, sqA_lst, sqA_mset, mset_same, mset_mset, start_eq, List.map_cons, List.map_nil, List.length_cons, List.length_nil, List.replicate, List.cons_append, List.nil_append, List.append_nil, Nat.reduceAdd, Nat.reduceSub, List.getElem?_cons_zero, List.getElem?_cons_succ, List.set_cons_zero, List.set_cons_succ,
  Int.reduceLT, Int.reduceLE, Int.reduceEq, Int.reduceNeg, dec_t, dec_f, c_0, c_1, c_2, c_3, c_4, Bool.not_true, Bool.not_false, Nat.reduceEqDiff, ofS, String.reduceEq, eq_self, true_and, and_true, reduceCtorEq, bEq_nil, bNe_pair, makP_2, makP_3, makP_4])
local macro_rules | `(tactic| walk_at "s") => `(tactic| simp (config := { maxSteps := 1000000 }) only [↓e_qLRev, ↓lrvP_lst, ↓e_qExt, ↓e_sForVals, ↓e_lcVals, ↓e_lcKeys, ↓e_qDGetF, ↓e_qDUpd, ↓e_qRepl, ↓replP_s, ↓e_qDsp1, ↓dsp1_s, ↓e_bAddT, ↓e_sForEn, enP_lst, ↓e_qTrapV, ↓e_sTryKeep, ↓e_cIsV, ↓e_qSigV, sigVP_eo, ↓e_cLisT, ↓e_qMakeWK, ↓isN_e, ↓notN_e,  ↓e_qT0, ↓e_qT1, ↓txP_s, e_lowF, e_uppF, e_stripF, e_lstripF, e_findF, e_zfillF, e_partF, e_splitF, ↓e_qVar, ↓e_qC, ↓e_q2, ↓e_qTst, ↓e_qAnd, ↓e_qOr, ↓e_qNot, ↓e_qAndV, ↓e_qOrV, ↓e_qNotV, ↓e_qIf, ↓e_qNil, ↓e_qCons, ↓e_qTup, ↓e_qLst, ↓e_qLstM, ↓tup_0, ↓tup_1, ↓tup_2, ↓tup_3, ↓tup_4, ↓tup_5, ↓lis_0, ↓lis_1, ↓lis_2, ↓lis_3, ↓lis_4, ↓lis_5, ↓lis_6, ↓lis_7, ↓lis_8, ↓e_qCB, ↓e_cLen, ↓e_cMax, ↓e_cMin, ↓e_cMin5, ↓e_bInS, ↓e_cAbs, ↓e_cInt_i, ↓e_cInt_d, ↓e_cInt_nd, ↓e_qBits2, ↓e_cInt_s, ↓e_cStr, ↓e_cDivmod, ↓e_cIsi, ↓e_qNeg, ↓e_qSl, ↓e_qoNone, ↓e_qoSome, ↓e_qCall, ↓e_qFld, ↓e_qMeth, ↓e_qMake, ↓e_qMakeK, ↓e_qOrC, ↓e_qTru, ↓e_qChain, ↓e_qApp, ↓b_add_i, ↓b_add_s, ↓b_add_l, ↓b_sub, ↓b_mul_i, ↓b_mul_s, ↓b_div, ↓b_mod, ↓b_pow, ↓b_lt, ↓b_le, ↓b_gt, ↓b_ge, ↓i_add_i, ↓i_add_s, ↓i_mul_i, ↓xi_lst, ↓xi_scr, ↓xi_tup, ↓e_ixR, ↓e_sNext, ↓s_fldq, ↓s_dput, ↓s_lset, ↓s_asg, ↓s_par, ↓s_aug, ↓s_drop, ↓e_sRet, ↓e_sDrop, ↓e_sIf, ↓e_sAsg, ↓e_sPar, parP_2, ↓e_sTrap, trapP_1, ↓e_qSig, ↓e_sTryAs, ↓e_sTryAsE, ↓e_sTryAsN, ↓e_cIsN, ↓e_bInD, ↓e_lcLT, ↓e_lcZ, ↓e_lcLTW, ↓e_lcLX, setP_nil, setP_cons, sigP_exc, ↓e_cIsE, ↓e_sAug, ↓e_sBreak, ↓e_sCont, ↓e_gNm, ↓e_gTu, ↓e_gsNil, ↓e_gsCons, ↓e_lcEn, ↓e_lcEnL, ↓e_lcTM, ↓e_qDGet, ↓e_cDictP, ↓e_qDsp, ↓e_qPs_c, ↓e_qPs_0, ↓e_qClr, ↓e_qDClr, ↓e_qRev, rev_lst, ↓e_bAddM, ↓e_bShr, ↓e_sForR3, ↓e_sForZ, ↓e_lcLW, ↓isR3_eq, isB_ll, isB_tl, ↓sl_tupQ, ↓e_sForR1, ↓e_sForR2, ↓e_sForT, ↓e_sForL, ↓e_sForS, ↓e_qYes, ↓e_lcEl, ↓e_lcT, ↓e_lcL, ↓e_lcR1,
  lsm_eq, vP_some, ixP_some, nxP_eq, box_v, iteP_true, iteP_false, ↓iteB_dec, ↓iteB_t, ↓iteB_f, ↓iteB_not, ↓iteB_and, ↓iteB_or, ↓iteB_beq, ↓iteB_bne, ↓blP_bl, ↓intP_int, truP_int, truP_bl, truP_non, if_int, app1_mset, app2_mset, at_0, at_1, at_2, at_3, ↓isR1_eq, ↓isR2_eq, forP_tup, forLP_lst, wipe_0, wipe_1, isB_ii, isB_ib, isB_is, isB_it, isB_bi, isB_bb, isB_ss, isB_st, isB_tt, isB_nt,
  whP_i, ↓e_cTup, tupB_lst, isB_si, isB_sb, isB_sl, isB_li, isB_lb, isB_ls, isB_lt, isB_ti, isB_tb, isB_ts, isB_ni, isB_nb, isB_ns, isB_nl, isi_Down_Way, isi_Up_Way, isi_Floor_Way, isi_Ceiling_Way, isi_HalfUp_Way, isi_HalfDown_Way, isi_HalfEven_Way, isi_FiveUp_Way, ↓e_sFldQ, ↓e_sDPutQ, ↓e_sLSet, ↓e_qDict0, ↓e_bIn, inB_f, inB_t, inP_tup, inP_lst, ↓e_bAnd, ↓e_bXor, ↓e_bShl, ↓e_iAddG, iadd_i, iadd_s, iadd_mset, ↓e_lcLM, ↓e_lcR1M, ↓e_lcR1I, ↓b_mul_l, ↓e_gLu2, sqB_some, sq_lst, ↓e_cInt_tt, ↓e_cInt_ff, ↓sl_lst, ↓e_qMake0, ↓isN_i, ↓notN_i, ↓isN_s, ↓notN_s, ↓isN_b, ↓notN_b, ↓isN_o, ↓notN_o, ↓isN_r, ↓notN_r, ↓isN_t, ↓notN_t, ↓isN_l, ↓notN_l, ↓isN_n, ↓notN_n,  ↓e_qMethD, ↓e_qMakeW, ↓e_sRaise, ↓e_qSw2, strP_s, swP_s, bEq_int, bNe_int, bEq_str, bNe_str, bEq_bl, bNe_bl, len_scr, len_lst, len_tup, len_mset, ixR_mset, sqA_scr, sqA_lst, sqA_mset, mset_same, mset_mset, start_eq, List.map_cons, List.map_nil, List.length_cons, List.length_nil, List.replicate, List.cons_append, List.nil_append, List.append_nil, Nat.reduceAdd, Nat.reduceSub, List.getElem?_cons_zero, List.getElem?_cons_succ, List.set_cons_zero, List.set_cons_succ,
  Int.reduceLT, Int.reduceLE, Int.reduceEq, Int.reduceNeg, dec_t, dec_f, c_0, c_1, c_2, c_3, c_4, Bool.not_true, Bool.not_false, Nat.reduceEqDiff, ofS, String.reduceEq, eq_self, true_and, and_true, reduceCtorEq, bEq_nil, bNe_pair, makP_2, makP_3, makP_4])
local macro_rules | `(tactic| mul_fits) => `(tactic| first | exact mul_ok_l (by decide) (by decide) | exact mul_ok_r (by decide) (by decide) | exact mul_ok_l (by omega) (by omega) | exact mul_ok_r (by omega) (by omega) | exact divw (n := 63) (by decide) (by decide))

/-- a cell of the script -/
def cell (ns : List Int) (k : Int) : Int := ns.getD k.toNat 0
theorem cell_at {ns : List Int} {k : Int} (h : 0 ≤ k) (h1 : k < (ns.map PV.int).length) : atI (ns.map PV.int) k = some (.int (cell ns k)) := by
  rw [List.length_map] at h1
  have : k.toNat < ns.length := by omega
  rw [atI_in h (by rw [List.length_map]; exact h1), List.getElem?_map, List.getElem?_eq_getElem this]
  unfold cell
  rw [List.getD_eq_getElem?_getD, List.getElem?_eq_getElem this]
  rfl
theorem cell_no {ns : List Int} {k : Int} (h : 0 ≤ k) (h1 : ¬ k < (ns.map PV.int).length) : cell ns k = 0 := by
  rw [List.length_map] at h1
  unfold cell
  rw [List.getD_eq_getElem?_getD, List.getElem?_eq_none (by omega)]
  rfl
def mixed (c k : Int) : Int := (c * (48271 + 2 * k * k) + 69621 * k + 11) % 2147483647 * 69621 % 2147483629
theorem mixed_range (c k : Int) : 0 ≤ mixed c k ∧ mixed c k < 2147483629 := ⟨Int.emod_nonneg _ (by decide), Int.emod_lt_of_pos _ (by decide)⟩

/-- which part a rest is -/
def prt (r b : Nat) : Nat := if r = 0 then 0 else if 2 * r < b then 1 else if 2 * r = b then 2 else 3
theorem prt_eq (r b : Nat) (h : r ≠ 0) : (2 : Int) + (if (b : Int) < 2 * (r : Int) then 1 else 0) - (if 2 * (r : Int) < (b : Int) then 1 else 0) = (prt r b : Int) := by
  unfold prt
  rw [if_neg h]
  by_cases h1 : 2 * r < b
  · rw [if_pos h1, if_neg (by omega), if_pos (by omega)]; rfl
  · by_cases h2 : 2 * r = b
    · rw [if_neg h1, if_pos h2, if_neg (by omega), if_neg (by omega)]; rfl
    · rw [if_neg h1, if_neg h2, if_pos (by omega), if_neg (by omega)]; rfl
theorem prt_sum (r b : Nat) (h : r < b) : (if (0 : Int) < (r : Int) then (1 : Int) else 0) + (if (b : Int) ≤ 2 * (r : Int) then 1 else 0) + (if (b : Int) < 2 * (r : Int) then 1 else 0) = (prt r b : Int) := by
  unfold prt
  by_cases h0 : r = 0
  · rw [if_pos h0, if_neg (by omega), if_neg (by omega), if_neg (by omega)]; rfl
  · rw [if_neg h0, if_pos (by omega)]
    by_cases h1 : 2 * r < b
    · rw [if_pos h1, if_neg (by omega), if_neg (by omega)]; rfl
    · by_cases h2 : 2 * r = b
      · rw [if_neg h1, if_pos h2, if_pos (by omega), if_neg (by omega)]; rfl
      · rw [if_neg h1, if_neg h2, if_pos (by omega), if_pos (by omega)]; rfl
theorem prt_le (r b : Nat) : prt r b ≤ 3 := by
  unfold prt
  split
  · decide
  · split
    · decide
    · split <;> decide
theorem at_self {n : Nat} (h : n ≤ 3) : atI [PV.int 0, PV.int 1, PV.int 2, PV.int 3] (n : Int) = some (.int n) := by
  match n, h with
  | 0, _ => rfl
  | 1, _ => rfl
  | 2, _ => rfl
  | 3, _ => rfl
/-- top and bottom, moved by so many places -/
def sideH (t : Nat) (s : Int) : Nat := t * 10 ^ s.toNat
def sideL (b : Nat) (s : Int) : Nat := b * 10 ^ (-s).toNat
theorem sideL_pos {b : Nat} (h : 1 ≤ b) (s : Int) : 0 < sideL b s := Nat.mul_pos h (ten_pos _)
theorem side_le {t b : Nat} {s N : Int} (h0 : 0 ≤ N) (h : 0 ≤ N + s) : sideL b s ≤ sideH t s ↔ b * 10 ^ N.toNat ≤ t * 10 ^ (N + s).toNat := by
  unfold sideL sideH
  rcases Int.le_total 0 s with z | z
  · have e1 : (-s).toNat = 0 := by omega
    have e2 : (N + s).toNat = s.toNat + N.toNat := by omega
    rw [e1, e2, Nat.pow_zero, Nat.mul_one, Nat.pow_add, ← Nat.mul_assoc]
    exact (Nat.mul_le_mul_right_iff (ten_pos _)).symm
  · have e1 : s.toNat = 0 := by omega
    have e2 : N.toNat = (-s).toNat + (N + s).toNat := by omega
    rw [e1, e2, Nat.pow_zero, Nat.mul_one, Nat.pow_add, ← Nat.mul_assoc]
    exact (Nat.mul_le_mul_right_iff (ten_pos _)).symm
theorem side_ten {t b : Nat} {s : Int} : (sideH t s < 10 * sideL b s) ↔ sideH t (s - 1) < sideL b (s - 1) := by
  unfold sideL sideH
  by_cases z : 1 ≤ s
  · have e1 : (-s).toNat = 0 := by omega
    have e2 : (-(s - 1)).toNat = 0 := by omega
    have e3 : s.toNat = (s - 1).toNat + 1 := by omega
    have e4 : t * 10 ^ ((s - 1).toNat + 1) = (t * 10 ^ (s - 1).toNat) * 10 := by rw [Nat.pow_succ, Nat.mul_assoc]
    rw [e1, e2, e3, e4, Nat.pow_zero, Nat.mul_one]
    generalize t * 10 ^ (s - 1).toNat = z
    omega
  · have e1 : s.toNat = 0 := by omega
    have e2 : (s - 1).toNat = 0 := by omega
    have e3 : (-(s - 1)).toNat = (-s).toNat + 1 := by omega
    have e4 : b * 10 ^ ((-s).toNat + 1) = (b * 10 ^ (-s).toNat) * 10 := by rw [Nat.pow_succ, Nat.mul_assoc]
    rw [e1, e2, e3, e4, Nat.pow_zero, Nat.mul_one]
    generalize b * 10 ^ (-s).toNat = z
    omega
theorem side_bits {t k : Nat} {s : Int} {n : Nat} (h : t < 10 ^ k) (hs : s ≤ n) : sideH t s < 10 ^ (k + n) := by
  unfold sideH
  rw [Nat.pow_add]
  exact Nat.mul_lt_mul_of_lt_of_le h (pow10_le (by omega)) (ten_pos _)
theorem sideL_bits {b k : Nat} {s : Int} {n : Nat} (h : b < 10 ^ k) (hs : -s ≤ n) : sideL b s < 10 ^ (k + n) := side_bits (s := -s) h hs
/-- the power of the first figure of t / b -/
def fst (t b : Nat) : Int := if sideH t (-((nd t : Int) - nd b)) < sideL b (-((nd t : Int) - nd b)) then (nd t : Int) - nd b - 1 else (nd t : Int) - nd b
theorem fst_spec {t b : Nat} (ht : 1 ≤ t) (hb : 1 ≤ b) : sideL b (-fst t b) ≤ sideH t (-fst t b) ∧ sideH t (-fst t b) < 10 * sideL b (-fst t b) := by
  have t1 := nd_lt t
  have t2 := nd_le ht
  have b1 := nd_lt b
  have b2 := nd_le hb
  have tp := nd_pos t
  have bp := nd_pos b
  rw [side_ten]
  unfold fst
  generalize nd t = x at *
  generalize nd b = y at *
  split
  · rename_i h
    refine ⟨?_, by rw [show (-((x : Int) - y - 1) - 1) = -((x : Int) - y) by omega]; exact h⟩
    rw [side_le (N := x + y) (by omega) (by omega), show ((x : Int) + y).toNat = x + y by omega, show ((x : Int) + y + -((x : Int) - y - 1)).toNat = y + y + 1 by omega]
    have e1 : b * 10 ^ (x + y) ≤ 10 ^ y * 10 ^ (x + y) := Nat.mul_le_mul_right _ (Nat.le_of_lt b1)
    have e2 : 10 ^ (x - 1) * 10 ^ (y + y + 1) ≤ t * 10 ^ (y + y + 1) := Nat.mul_le_mul_right _ t2
    rw [← Nat.pow_add] at e1 e2
    rw [show x - 1 + (y + y + 1) = y + (x + y) by omega] at e2
    omega
  · rename_i h
    refine ⟨Nat.not_lt.mp h, ?_⟩
    refine Nat.not_le.mp fun z => ?_
    rw [side_le (N := x + y + 1) (by omega) (by omega), show ((x : Int) + y + 1).toNat = x + y + 1 by omega, show ((x : Int) + y + 1 + (-((x : Int) - y) - 1)).toNat = y + y by omega] at z
    have e1 : t * 10 ^ (y + y) < 10 ^ x * 10 ^ (y + y) := Nat.mul_lt_mul_of_pos_right t1 (ten_pos _)
    have e2 : 10 ^ (y - 1) * 10 ^ (x + y + 1) ≤ b * 10 ^ (x + y + 1) := Nat.mul_le_mul_right _ b2
    rw [← Nat.pow_add] at e1 e2
    rw [show y - 1 + (x + y + 1) = x + (y + y) by omega] at e2
    omega
theorem fst_range {t b k l : Nat} (hk : 1 ≤ k) (hl : 1 ≤ l) (ht : t < 10 ^ k) (hb : b < 10 ^ l) : -(l : Int) ≤ fst t b ∧ fst t b < k := by
  have h1 := nd_le_of hk ht
  have h2 := nd_le_of hl hb
  have := nd_pos t
  have := nd_pos b
  unfold fst
  split <;> omega

/-- the ways -/
inductive Wy where
  | down | up | floor | ceiling | halfUp | halfDown | halfEven | fiveUp
def Wy.name : Wy → String
  | .down => "down" | .up => "up" | .floor => "floor" | .ceiling => "ceiling" | .halfUp => "half up" | .halfDown => "half down" | .halfEven => "half even" | .fiveUp => "five up"
def Wy.goes : Wy → Int → Int → Int → Bool
  | .down, _, _, _ => false
  | .up, _, _, _ => true
  | .floor, s, _, _ => decide (s = 1)
  | .ceiling, s, _, _ => decide (s = 0)
  | .halfUp, _, _, p => decide (2 ≤ p)
  | .halfDown, _, _, p => decide (2 < p)
  | .halfEven, _, l, p => decide (2 < p) || (decide (p = 2) && decide (Builtin.bitAnd l 1 = 1))
  | .fiveUp, _, l, _ => decide (l ∈ [(0 : Int), 5])
def Wy.toEnd : Wy → Int → Bool
  | .down, _ => false
  | .floor, s => decide (s = 1)
  | .ceiling, s => decide (s = 0)
  | .fiveUp, _ => false
  | _, _ => true
theorem Wy.name_inj {a b : Wy} (h : a.name = b.name) : a = b := by
  cases a <;> cases b <;> first | rfl | (exact absurd h (by decide))
def Wy.cls {K : PySem.W.Frag} {mg : Str → Option Value} (T : Tx K mg) : Wy → Addr
  | .down => T.c_Down | .up => T.c_Up | .floor => T.c_Floor | .ceiling => T.c_Ceiling | .halfUp => T.c_HalfUp | .halfDown => T.c_HalfDown | .halfEven => T.c_HalfEven | .fiveUp => T.c_FiveUp
/-- a way, made -/
abbrev wayP {K : PySem.W.Frag} {mg : Str → Option Value} (T : Tx K mg) (y : Wy) : PV := .obj (y.cls T) [] []
theorem ways_in (y : Wy) : inPs (.str (Str.ofString y.name)) gl_WAYS = some true := by cases y <;> decide +kernel
def Wy.half : Wy → Bool
  | .halfUp => true
  | .halfDown => true
  | .halfEven => true
  | _ => false
theorem half_start (y : Wy) : Txt.startswith (Str.ofString y.name) "half" = y.half := by cases y <;> decide +kernel

/-! ### contexts -/
abbrev sigs : List Str := ["void", "split", "burst", "sunk", "faint", "off", "cut"]
def sk : Str → Key := Sum.inr
theorem sk_put (n : Str) (F : List Str) : putN (sk n) (F.map sk) = (putN n F).map sk := by
  unfold putN
  have : sk n ∈ F.map sk ↔ n ∈ F := by
    rw [List.mem_map]
    exact ⟨fun ⟨a, h, e⟩ => by cases e; exact h, fun h => ⟨n, h, rfl⟩⟩
  by_cases h : n ∈ F
  · rw [if_pos h, if_pos (this.mpr h)]
  · rw [if_neg h, if_neg (fun z => h (this.mp z)), List.map_append]; rfl
theorem sk_mem (n : Str) (F : List Str) : memK (sk n) (F.map sk) = decide (n ∈ F) := by
  unfold memK
  have : sk n ∈ F.map sk ↔ n ∈ F := by
    rw [List.mem_map]
    exact ⟨fun ⟨a, h, e⟩ => by cases e; exact h, fun h => ⟨n, h, rfl⟩⟩
  simp only [this]
theorem sk_nodup {F : List Str} (h : F.Nodup) : (F.map sk).Nodup := by
  rw [List.Nodup, List.pairwise_map]
  exact h.imp fun hn z => hn (by cases z; rfl)
/-- a context at its address; its dicts at d1 (flags) and d2 (traps) -/
structure Ctx {K : PySem.W.Frag} {mg : Str → Option Value} (T : Tx K mg) (M : Mem) (a d1 d2 : Addr) (y : Wy) (r l m : Int) (F C : List Str) : Prop where
  self : M a = some (.ins T.c_Context ns_Context [.str (Str.ofString y.name), .int r, .int l, .int m, .ref d1, .ref d2])
  fl : ∃ vs, M d1 = some (.dic (F.map sk) vs)
  ca : ∃ vs, M d2 = some (.dic (C.map sk) vs)
  ne : d1 ≠ d2
  nf : F.Nodup
  lf : F.length ≤ 1000
  room : 1 ≤ r ∧ r ≤ 24
  least : -60 ≤ l ∧ l ≤ 0
  most : 0 ≤ m ∧ m ≤ 60
theorem Ctx.ne1 {K : PySem.W.Frag} {mg : Str → Option Value} {T : Tx K mg} {M : Mem} {a d1 d2 : Addr} {y : Wy} {r l m : Int} {F C : List Str} (c : Ctx T M a d1 d2 y r l m F C) : a ≠ d1 := by
  rintro rfl
  obtain ⟨vs, h⟩ := c.fl
  rw [c.self] at h
  cases h
theorem Ctx.ne2 {K : PySem.W.Frag} {mg : Str → Option Value} {T : Tx K mg} {M : Mem} {a d1 d2 : Addr} {y : Wy} {r l m : Int} {F C : List Str} (c : Ctx T M a d1 d2 y r l m F C) : a ≠ d2 := by
  rintro rfl
  obtain ⟨vs, h⟩ := c.ca
  rw [c.self] at h
  cases h
theorem Ctx.ext {K : PySem.W.Frag} {mg : Str → Option Value} {T : Tx K mg} {M M' : Mem} {a d1 d2 : Addr} {y : Wy} {r l m : Int} {F C : List Str} (c : Ctx T M a d1 d2 y r l m F C) (h : MExt M M') : Ctx T M' a d1 d2 y r l m F C := by
  obtain ⟨vs, h1⟩ := c.fl
  obtain ⟨ws, h2⟩ := c.ca
  exact ⟨h _ _ c.self, ⟨vs, h _ _ h1⟩, ⟨ws, h _ _ h2⟩, c.ne, c.nf, c.lf, c.room, c.least, c.most⟩
/-- names raised -/
def raiseF (F N : List Str) : List Str := N.foldl (fun F n => putN n F) F
theorem raise_next {F N : List Str} {i : Nat} {n : Str} (h : N[i]? = some n) : raiseF F (N.take (i + 1)) = putN n (raiseF F (N.take i)) := by
  unfold raiseF
  rw [List.take_add_one, h, List.foldl_append]
  rfl
theorem raise_nodup {F : List Str} : ∀ {N : List Str}, F.Nodup → (raiseF F N).Nodup := fun {N} h => by
  unfold raiseF
  induction N generalizing F with
  | nil => exact h
  | cons n N ih => exact ih (nodup_putN h)
theorem putN_mem {n x : Str} {F : List Str} : x ∈ putN n F ↔ x = n ∨ x ∈ F := by
  unfold putN
  split
  · rename_i h
    exact ⟨.inr, fun z => z.elim (fun e => e ▸ h) id⟩
  · rw [List.mem_append, List.mem_singleton]
    exact ⟨fun z => z.symm, fun z => z.symm⟩
theorem raise_mem {x : Str} : ∀ {N F : List Str}, x ∈ raiseF F N ↔ x ∈ N ∨ x ∈ F
  | [], F => by simp [raiseF]
  | n :: N, F => by
    show x ∈ raiseF (putN n F) N ↔ _
    rw [raise_mem, putN_mem, List.mem_cons]
    constructor
    · rintro (h | h | h)
      · exact .inl (.inr h)
      · exact .inl (.inl h)
      · exact .inr h
    · rintro ((h | h) | h)
      · exact .inr (.inl h)
      · exact .inl h
      · exact .inr (.inr h)
theorem raise_length {F N : List Str} : (raiseF F N).length ≤ F.length + N.length := by
  unfold raiseF
  induction N generalizing F with
  | nil => exact Nat.le_refl _
  | cons n N ih =>
    refine Nat.le_trans ih ?_
    rw [putN_length, List.length_cons]
    split <;> omega
theorem Ctx.flag {K : PySem.W.Frag} {mg : Str → Option Value} {T : Tx K mg} {M : Mem} {a d1 d2 : Addr} {y : Wy} {r l m : Int} {F C : List Str} (c : Ctx T M a d1 d2 y r l m F C) {n : Str} (x : PV) (hl : (putN n F).length ≤ 1000) {vs : List PV} :
    Ctx T (mset M d1 (.dic (putN (sk n) (F.map sk)) vs)) a d1 d2 y r l m (putN n F) C := by
  obtain ⟨ws, h2⟩ := c.ca
  exact ⟨by rw [mset_ne c.ne1]; exact c.self, ⟨_, by rw [mset_same, sk_put]⟩, ⟨ws, by rw [mset_ne c.ne.symm]; exact h2⟩, c.ne, nodup_putN c.nf, hl, c.room, c.least, c.most⟩
/-- the told ones, in order -/
def flagsOf (F : List Str) : List Str := sigs.filter fun s => decide (s ∈ F)
def keepS (F : List Str) : PV → Option PV
  | .str s => if s ∈ F then some (.str s) else none
  | _ => none
theorem keepS_map (F : List Str) : ∀ ss : List Str, (ss.map PV.str).filterMap (keepS F) = (ss.filter fun s => decide (s ∈ F)).map PV.str
  | [] => rfl
  | s :: ss => by
    rw [List.map_cons, List.filter_cons]
    by_cases h : s ∈ F
    · rw [List.filterMap_cons_some (show keepS F (.str s) = some (.str s) from if_pos h), if_pos (decide_eq_true h), List.map_cons, keepS_map F ss]
    · rw [List.filterMap_cons_none (show keepS F (.str s) = none from if_neg h), if_neg (by simp [h]), keepS_map F ss]
theorem gl_sigs : gl_SIGNALS = sigs.map PV.str := rfl

/-! ### the law's own words -/
theorem nd_small {n : Nat} (h : n < 10) : nd n = 1 := by
  have := nd_le_of (c := 1) (Nat.le_refl 1) (by simpa using h)
  have := nd_pos n
  omega
theorem nd_step {n : Nat} (h : 10 ≤ n) : nd n = nd (n / 10) + 1 := by
  have h1 := nd_le (n := n / 10) (by omega)
  have h2 := nd_lt (n / 10)
  have h3 := nd_pos (n / 10)
  refine nd_of (by omega) ?_ ?_
  · rw [show nd (n / 10) + 1 - 1 = (nd (n / 10) - 1) + 1 by omega, Nat.pow_succ]; omega
  · rw [Nat.pow_succ]; omega
def longN (c : Int) : Nat → Int
  | 0 => 0
  | k + 1 => longN c k * 2147483629 + mixed c k
theorem longN_r (c : Int) : ∀ k, 0 ≤ longN c k ∧ longN c k < 2 ^ (31 * k)
  | 0 => ⟨by show (0 : Int) ≤ 0; decide, by show (0 : Int) < 2 ^ (31 * 0); decide⟩
  | k + 1 => by
    obtain ⟨h1, h2⟩ := longN_r c k
    have hm := mixed_range c k
    have e : (2 : Int) ^ (31 * (k + 1)) = 2 ^ (31 * k) * 2147483648 := by
      rw [show 31 * (k + 1) = 31 * k + 31 by omega, Int.pow_add]; rfl
    show 0 ≤ longN c k * 2147483629 + mixed c k ∧ longN c k * 2147483629 + mixed c k < _
    rw [e]
    omega
/-- the drawn figures -/
def fgM (c most : Int) : Int := if mixed c 7 % 3 = 0 then 1 + mixed c 7 / 8 % most else if mixed c 7 % 3 = 1 then 1 + mixed c 7 / 8 % min 4 most else most
def fg0 (c most : Int) : Int := longN c 7 % ((10 ^ (fgM c most).toNat : Nat) : Int)
def fg1 (c most : Int) : Int := if mixed c 7 / 480 % 9 = 1 then ((10 ^ (fgM c most).toNat : Nat) : Int) - 1 else fg0 c most
def fgB (c most : Int) : Int := ((10 ^ (mixed c 7 / 4320 % fgM c most).toNat : Nat) : Int)
def fg2 (c most : Int) : Int := if mixed c 7 / 480 % 9 = 2 then fg1 c most / fgB c most * fgB c most else fg1 c most
def fg3 (c most : Int) : Int := if mixed c 7 / 480 % 9 = 3 then fgB c most else fg2 c most
def lfig (c most : Int) : Int := if mixed c 7 / 480 % 9 = 4 then 0 else fg3 c most
theorem fgM_r {c most : Int} (h : 1 ≤ most ∧ most ≤ 60) : 1 ≤ fgM c most ∧ fgM c most ≤ most := by
  unfold fgM
  have hm := mixed_range c 7
  have h1 : 0 ≤ mixed c 7 / 8 % most ∧ mixed c 7 / 8 % most < most := ⟨Int.emod_nonneg _ (by omega), Int.emod_lt_of_pos _ (by omega)⟩
  have h2 : 0 ≤ mixed c 7 / 8 % min 4 most ∧ mixed c 7 / 8 % min 4 most < min 4 most := ⟨Int.emod_nonneg _ (by omega), Int.emod_lt_of_pos _ (by omega)⟩
  split
  · omega
  · split <;> omega
theorem lfig_r {c most : Int} (h : 1 ≤ most ∧ most ≤ 60) : 0 ≤ lfig c most ∧ lfig c most < ((10 ^ most.toNat : Nat) : Int) := by
  have hm := fgM_r (c := c) h
  have hx := mixed_range c 7
  have hb : 0 ≤ mixed c 7 / 4320 % fgM c most ∧ mixed c 7 / 4320 % fgM c most < fgM c most := ⟨Int.emod_nonneg _ (by omega), Int.emod_lt_of_pos _ (by omega)⟩
  have p1 := ten_pos (fgM c most).toNat
  have p2 : 10 ^ (fgM c most).toNat ≤ 10 ^ most.toNat := pow10_le (by omega)
  have p3 := ten_pos (mixed c 7 / 4320 % fgM c most).toNat
  have p4 : 10 ^ (mixed c 7 / 4320 % fgM c most).toNat < 10 ^ (fgM c most).toNat := pow10_lt (by omega)
  have h0 : 0 ≤ fg0 c most ∧ fg0 c most < ((10 ^ (fgM c most).toNat : Nat) : Int) := ⟨Int.emod_nonneg _ (by omega), Int.emod_lt_of_pos _ (by omega)⟩
  have h1 : 0 ≤ fg1 c most ∧ fg1 c most < ((10 ^ (fgM c most).toNat : Nat) : Int) := by unfold fg1; split <;> omega
  have h2 : 0 ≤ fg2 c most ∧ fg2 c most < ((10 ^ (fgM c most).toNat : Nat) : Int) := by
    unfold fg2
    split
    · have hB : 0 < fgB c most := by unfold fgB; omega
      have hle : fg1 c most / fgB c most * fgB c most ≤ fg1 c most := Int.ediv_mul_le _ (by omega)
      have hnn : 0 ≤ fg1 c most / fgB c most * fgB c most := Int.mul_nonneg (Int.ediv_nonneg h1.1 (by omega)) (by omega)
      omega
    · exact h1
  have h3 : 0 ≤ fg3 c most ∧ fg3 c most < ((10 ^ (fgM c most).toNat : Nat) : Int) := by
    unfold fg3
    split
    · unfold fgB; omega
    · exact h2
  unfold lfig
  split <;> omega
theorem fg1_r {c most : Int} (h : 1 ≤ most ∧ most ≤ 60) : 0 ≤ fg1 c most ∧ fg1 c most < 2 ^ 300 := by
  have hm := fgM_r (c := c) h
  have p1 := ten_pos (fgM c most).toNat
  have p2 : 10 ^ (fgM c most).toNat ≤ 10 ^ 60 := pow10_le (by omega)
  have h0 : 0 ≤ fg0 c most ∧ fg0 c most < ((10 ^ (fgM c most).toNat : Nat) : Int) := ⟨Int.emod_nonneg _ (by omega), Int.emod_lt_of_pos _ (by omega)⟩
  unfold fg1
  split <;> omega

/-! ### texts of figures, their length -/
theorem str_len (n : Nat) : (Str.ofString (toString ((n : Nat) : Int))).length = nd n := by
  have e : (Str.ofString (toString ((n : Nat) : Int))).length = (Nat.toDigits 10 n).length := by
    have h : (Str.ofString (toString ((n : Nat) : Int))).cps.toList.length = (Nat.toDigits 10 n).length := by rw [PySem.W.KIN.signs_num, List.length_map]
    rw [Array.length_toList] at h
    exact h
  rw [e]
  have h1 : ∀ k, 0 < k → ((Nat.toDigits 10 n).length ≤ k ↔ n < 10 ^ k) := fun k hk => Nat.length_toDigits_le_iff (by decide) hk
  have h2 := (h1 (nd n) (nd_pos n)).mpr (nd_lt n)
  have h3 : 0 < (Nat.toDigits 10 n).length := Nat.length_toDigits_pos
  have h4 := nd_le_of h3 ((h1 _ h3).mp (Nat.le_refl _))
  omega
theorem log_big {z : Nat} (h : z < 10 ^ 570) : ((z : Nat) : Int).natAbs.log2 < 1920 := by
  rw [Int.natAbs_natCast]
  rcases Nat.eq_zero_or_pos z with q | q
  · rw [q]; decide
  · rw [Nat.log2_lt (by omega)]
    exact Nat.lt_of_lt_of_le h (by decide +kernel)
theorem len_str' {z : Str} {M : Mem} {Q : TQ.PK} (h : z.length ≤ sizeLine ∧ Q (.int z.length) M) : len1 (.str z) M Q := h
theorem len_big {z : Nat} {M : Mem} {Q : TQ.PK} (h : z < 10 ^ 570) (q : Q (.int (nd z : Nat)) M) : ((z : Nat) : Int).natAbs.log2 < 1920 ∧ len1 (.str (Str.ofString (toString ((z : Nat) : Int)))) M Q := by
  have hn := nd_le_of (c := 570) (by decide) h
  refine ⟨log_big h, ?_⟩
  refine len_str' ?_
  rw [str_len]
  exact ⟨len_ok (by omega), q⟩

/-! ### what no context is made of -/
def oddS : List String := ["NoneType", "int", "bool", "tuple", "list", "dict"]
def NotStr (M : Mem) (x : PV) : Prop := ∃ n, n ∈ oddS ∧ tyP M x = some (.type n)
theorem not_str {K : PySem.W.Frag} {M : Mem} {x : PV} {Q : Box TQ.PK} (h : NotStr M x) : @isiB K x (.ty "str") M Q = Q.v (.bl false) M := by
  obtain ⟨n, hn, ht⟩ := h
  simp only [oddS, List.mem_cons, List.not_mem_nil, or_false] at hn
  rcases hn with rfl | rfl | rfl | rfl | rfl | rfl <;> exact isiP ht trivial rfl rfl
/-- no name of a way -/
def NoWay (M : Mem) (x : PV) : Prop := (∃ s : Str, x = .str s ∧ inPs (.str s) gl_WAYS = some false) ∨ NotStr M x
/-- no whole number between two -/
def NotWh (M : Mem) (x : PV) (lo hi : Int) : Prop := (∃ n : Int, x = .int n ∧ ¬ (lo ≤ n ∧ n ≤ hi)) ∨ NotInt M x
theorem ty_ext {M M2 : Mem} {x : PV} {v : Value} (h : tyP M x = some v) (e : ∀ a o, x = .ref a → M a = some o → ∃ o', M2 a = some o' ∧ ((∃ xs ys, o = .lst xs ∧ o' = .lst ys) ∨ (∃ ks xs ks' xs', o = .dic ks xs ∧ o' = .dic ks' xs') ∨ ∃ C ns xs ns' xs', o = .ins C ns xs ∧ o' = .ins C ns' xs')) : tyP M2 x = some v := by
  cases x with
  | ref a =>
    replace h : (match M a with
      | some (.lst _) => some (Value.type "list")
      | some (.dic _ _) => some (.type "dict")
      | some (.ins C _ _) => some (.ref C)
      | _ => none) = some v := h
    show (match M2 a with
      | some (.lst _) => some (Value.type "list")
      | some (.dic _ _) => some (.type "dict")
      | some (.ins C _ _) => some (.ref C)
      | _ => none) = some v
    cases hm : M a with
    | none => rw [hm] at h; cases h
    | some o =>
      obtain ⟨o', e1, e2⟩ := e a o rfl hm
      rw [hm] at h
      rw [e1]
      rcases e2 with ⟨xs, ys, rfl, rfl⟩ | ⟨ks, xs, ks', xs', rfl, rfl⟩ | ⟨C, ns, xs, ns', xs', rfl, rfl⟩ <;> exact h
  | _ => exact h
theorem NotInt.put {M : Mem} {x : PV} {a C : Addr} {ns ns' : List Str} {vs vs' : List PV} (h : NotInt M x) (e : M a = some (.ins C ns vs)) : NotInt (mset M a (.ins C ns' vs')) x := by
  obtain ⟨n, hn, ht⟩ := h
  refine ⟨n, hn, ty_ext ht fun b o _ hb => ?_⟩
  by_cases z : b = a
  · subst z
    rw [e] at hb
    cases hb
    exact ⟨_, mset_same, .inr (.inr ⟨_, _, _, _, _, rfl, rfl⟩)⟩
  · refine ⟨o, by rw [mset_ne z]; exact hb, ?_⟩
    cases o with
    | lst xs => exact .inl ⟨_, _, rfl, rfl⟩
    | dic ks xs => exact .inr (.inl ⟨_, _, _, _, rfl, rfl⟩)
    | ins C ns xs => exact .inr (.inr ⟨_, _, _, _, _, rfl, rfl⟩)
    | lam L cl vs =>
      exfalso
      rename_i hx
      subst hx
      replace ht : (match M b with
        | some (.lst _) => some (Value.type "list")
        | some (.dic _ _) => some (.type "dict")
        | some (.ins C _ _) => some (.ref C)
        | _ => none) = some (.type n) := ht
      rw [hb] at ht
      cases ht
    | tab q =>
      exfalso
      rename_i hx
      subst hx
      replace ht : (match M b with
        | some (.lst _) => some (Value.type "list")
        | some (.dic _ _) => some (.type "dict")
        | some (.ins C _ _) => some (.ref C)
        | _ => none) = some (.type n) := ht
      rw [hb] at ht
      cases ht
    | fdc od ks us xs =>
      exfalso
      rename_i hx
      subst hx
      replace ht : (match M b with
        | some (.lst _) => some (Value.type "list")
        | some (.dic _ _) => some (.type "dict")
        | some (.ins C _ _) => some (.ref C)
        | _ => none) = some (.type n) := ht
      rw [hb] at ht
      cases ht
theorem NotWh.put {M : Mem} {x : PV} {a C : Addr} {ns ns' : List Str} {vs vs' : List PV} {lo hi : Int} (h : NotWh M x lo hi) (e : M a = some (.ins C ns vs)) : NotWh (mset M a (.ins C ns' vs')) x lo hi := h.imp id fun z => z.put e
theorem NotWh.wh {M : Mem} {x : PV} {lo hi : Int} {Q : TQ.PK} (h : NotWh M x lo hi) (q : Q (.bl false) M) : whP x lo hi M Q := by
  rcases h with ⟨n, rfl, hn⟩ | h
  · show Q (.bl (decide _)) M
    rw [decide_eq_false hn]
    exact q
  · exact whP_not h q
theorem isN_ne {x : PV} {M : Mem} {Q : TQ.PK} (h : x ≠ .non) : bIsN false x .non M Q = Q (.bl false) M := by
  cases x <;> first | rfl | exact absurd rfl h
/-- four things, one of them wrong -/
def Bad4 (M : Mem) (xr xw xl xm : PV) : Prop := NotWh M xr 1 24 ∨ (∃ r : Int, xr = .int r ∧ 1 ≤ r ∧ r ≤ 24) ∧ (NoWay M xw ∨ (∃ y : Wy, xw = .str (Str.ofString y.name)) ∧ ((xl ≠ .non ∧ NotWh M xl (-60) 0) ∨ (∃ l : Int, xl = .int l ∧ -60 ≤ l ∧ l ≤ 0) ∧ NotWh M xm 0 60))
theorem ty_mext {M M2 : Mem} {x : PV} {v : Value} (h : tyP M x = some v) (e : MExt M M2) : tyP M2 x = some v := by
  cases x with
  | ref a =>
    replace h : (match M a with
      | some (.lst _) => some (Value.type "list")
      | some (.dic _ _) => some (.type "dict")
      | some (.ins C _ _) => some (.ref C)
      | _ => none) = some v := h
    show (match M2 a with
      | some (.lst _) => some (Value.type "list")
      | some (.dic _ _) => some (.type "dict")
      | some (.ins C _ _) => some (.ref C)
      | _ => none) = some v
    cases hm : M a with
    | none => rw [hm] at h; cases h
    | some o =>
      rw [hm] at h
      rw [e _ _ hm]
      exact h
  | _ => exact h
theorem NotInt.ext {M M2 : Mem} {x : PV} (h : NotInt M x) (e : MExt M M2) : NotInt M2 x := by
  obtain ⟨n, hn, ht⟩ := h
  exact ⟨n, hn, ty_mext ht e⟩
theorem NotStr.ext {M M2 : Mem} {x : PV} (h : NotStr M x) (e : MExt M M2) : NotStr M2 x := by
  obtain ⟨n, hn, ht⟩ := h
  exact ⟨n, hn, ty_mext ht e⟩
theorem NoWay.ext {M M2 : Mem} {x : PV} (h : NoWay M x) (e : MExt M M2) : NoWay M2 x := h.imp id fun z => z.ext e
theorem NotWh.ext {M M2 : Mem} {x : PV} {lo hi : Int} (h : NotWh M x lo hi) (e : MExt M M2) : NotWh M2 x lo hi := h.imp id fun z => z.ext e
theorem Bad4.ext {M M2 : Mem} {xr xw xl xm : PV} (h : Bad4 M xr xw xl xm) (e : MExt M M2) : Bad4 M2 xr xw xl xm := by
  rcases h with h | ⟨h1, h | ⟨h2, ⟨h3, h⟩ | ⟨h3, h⟩⟩⟩
  · exact .inl (h.ext e)
  · exact .inr ⟨h1, .inl (h.ext e)⟩
  · exact .inr ⟨h1, .inr ⟨h2, .inl ⟨h3, h.ext e⟩⟩⟩
  · exact .inr ⟨h1, .inr ⟨h2, .inr ⟨h3, h.ext e⟩⟩⟩

abbrev frm (r : Int) (y : Wy) (l m : Int) : PV := .tup [.int r, .str (Str.ofString y.name), .int l, .int m]
def sgX (x : PV) : Bool := match x with
  | .str s => decide (s ∈ sigs)
  | _ => false
def NotLst (M : Mem) (x : PV) : Prop := ∃ n, n ∈ (["NoneType", "int", "bool", "str", "tuple", "dict"] : List String) ∧ tyP M x = some (.type n)
theorem not_lst {K : PySem.W.Frag} {M : Mem} {x : PV} {Q : Box TQ.PK} (h : NotLst M x) : @isiB K x (.ty "list") M Q = Q.v (.bl false) M := by
  obtain ⟨n, hn, ht⟩ := h
  simp only [List.mem_cons, List.not_mem_nil, or_false] at hn
  rcases hn with rfl | rfl | rfl | rfl | rfl | rfl <;> exact isiP ht trivial rfl rfl
theorem NotLst.ext {M M2 : Mem} {x : PV} (h : NotLst M x) (e : MExt M M2) : NotLst M2 x := by
  obtain ⟨n, hn, ht⟩ := h
  exact ⟨n, hn, ty_mext ht e⟩
/-- an element of a list of names, perhaps a wrong one -/
def Elm (M : Mem) (y : PV) : Prop := (∃ s, y = .str s) ∨ NotStr M y
def BadTrap (M : Mem) (x : PV) : Prop := NotLst M x ∨ ∃ p ys, x = .ref p ∧ M p = some (.lst ys) ∧ ys.length ≤ 100 ∧ (∀ y ∈ ys, Elm M y) ∧ ∃ y ∈ ys, sgX y = false
/-! what is shown -/
structure OkD (d : PyData) : Prop where
  sh : d.showable = true
  ls : d.leavesShort 13 = true
  bk : d.bulk ≤ 100
  dp : d.depth ≤ 4
theorem okAll : ∀ {ds : List PyData}, (∀ d ∈ ds, OkD d) → PyData.showableAll ds = true ∧ PyData.leavesShortAll 13 ds = true ∧ PyData.bulkAll ds ≤ 101 * ds.length ∧ PyData.depthAll ds ≤ 4
  | [], _ => ⟨rfl, rfl, Nat.le_refl _, Nat.zero_le _⟩
  | d :: ds, h => by
    obtain ⟨a, b, c, e⟩ := okAll (ds := ds) fun x hx => h x (List.mem_cons_of_mem _ hx)
    have hd := h d List.mem_cons_self
    refine ⟨?_, ?_, ?_, ?_⟩
    · simp only [PyData.showableAll, hd.sh, a, Bool.and_self]
    · simp only [PyData.leavesShortAll, hd.ls, b, Bool.and_self]
    · have := hd.bk
      simp only [PyData.bulkAll, List.length_cons]
      omega
    · have := hd.dp
      simp only [PyData.depthAll]
      omega
/-- what a thing that is handed to repr must keep -/
structure OkS (d : PyData) : Prop where
  sh : d.showable = true
  sz : d.shown.length ≤ sizeLine
  dp : d.depth ≤ 8
theorem OkD.s {d : PyData} (h : OkD d) : OkS d := ⟨h.sh, PyData.shown_fits_bulk (B := 13) (by decide) (by decide) h.ls (by have := h.bk; omega), by have := h.dp; omega⟩
theorem OkS.list {ds : List PyData} (h : ∀ d ∈ ds, OkD d) (hl : ds.length ≤ 1000) : OkS (.list ds) := by
  obtain ⟨a, b, c, e⟩ := okAll h
  refine ⟨by simp only [PyData.showable, a], PyData.shown_fits_bulk (B := 13) (by decide) (by decide) (by simp only [PyData.leavesShort, b]) (by simp only [PyData.bulk]; omega), ?_⟩
  simp only [PyData.depth]
  omega
theorem OkS.int {d : PyData} (h : OkS d) (i : Int) (e : d = .int i) : i.natAbs.log2 < 1920 := by
  have := h.sh
  rw [e] at this
  simpa [PyData.showable] using this
theorem okd_sig {n : Str} (h : n ∈ sigs) : OkD (.str n) := by
  simp only [sigs, List.mem_cons, List.not_mem_nil, or_false] at h
  rcases h with rfl | rfl | rfl | rfl | rfl | rfl | rfl <;> exact ⟨by decide +kernel, by decide +kernel, by decide +kernel, by decide +kernel⟩
mutual
theorem px_ext {M M2 : Mem} (e : MExt M M2) : ∀ {x : PV} {d : PyData}, Px M x d → Px M2 x d
  | _, _, .non => .non
  | _, _, .bl b => .bl b
  | _, _, .int i => .int i
  | _, _, .str x => .str x
  | _, _, .lst h => .lst (pxa_ext e h)
  | _, _, .tup h => .tup (pxa_ext e h)
  | _, _, .rl h1 h => .rl (e _ _ h1) (pxa_ext e h)
  | _, _, .rd h1 h => .rd (e _ _ h1) (pxa_ext e h)
theorem pxa_ext {M M2 : Mem} (e : MExt M M2) : ∀ {xs : List PV} {ds : List PyData}, PxAll M xs ds → PxAll M2 xs ds
  | _, _, .nil => .nil
  | _, _, .cons h1 h2 => .cons (px_ext e h1) (pxa_ext e h2)
end
theorem pxa_app {M : Mem} : ∀ {xs ys : List PV} {ds es : List PyData}, PxAll M xs ds → PxAll M ys es → PxAll M (xs ++ ys) (ds ++ es)
  | _, _, _, _, .nil, h => h
  | _, _, _, _, .cons h1 h2, h => .cons h1 (pxa_app h2 h)
theorem pxa_strs {M : Mem} : ∀ ss : List Str, PxAll M (ss.map PV.str) (ss.map PyData.str)
  | [] => .nil
  | s :: ss => .cons (.str s) (pxa_strs ss)
/-- a wrong thing among names -/
structure Wr (M : Mem) (w : PV) : Prop where
  px : ∃ d, Px M w d ∧ OkD d
  no : sgX w = false
  el : Elm M w
theorem okd_l {ds : List PyData} (h : ∀ d ∈ ds, OkD d ∧ d.bulk ≤ 40 ∧ d.depth ≤ 0) (hl : ds.length ≤ 2) : OkD (.list ds) ∧ OkD (.tuple ds) := by
  have q : ∀ {ds : List PyData}, (∀ d ∈ ds, OkD d ∧ d.bulk ≤ 40 ∧ d.depth ≤ 0) → PyData.bulkAll ds ≤ 41 * ds.length ∧ PyData.depthAll ds ≤ 0 := fun {ds} => by
    induction ds with
    | nil => exact fun _ => ⟨Nat.le_refl _, Nat.le_refl _⟩
    | cons d ds ih =>
      intro h
      obtain ⟨c, e⟩ := ih fun x hx => h x (List.mem_cons_of_mem _ hx)
      obtain ⟨_, h1, h2⟩ := h d List.mem_cons_self
      refine ⟨?_, ?_⟩
      · simp only [PyData.bulkAll, List.length_cons]; omega
      · simp only [PyData.depthAll]; omega
  obtain ⟨a, b, _, _⟩ := okAll fun d hd => (h d hd).1
  obtain ⟨c, e⟩ := q h
  refine ⟨⟨?_, ?_, ?_, ?_⟩, ⟨?_, ?_, ?_, ?_⟩⟩
  all_goals simp only [PyData.showable, PyData.leavesShort, PyData.bulk, PyData.depth, a, b]
  all_goals omega
theorem sig_small {n : Str} (h : n ∈ sigs) : OkD (.str n) ∧ (PyData.str n).bulk ≤ 40 ∧ (PyData.str n).depth ≤ 0 := by
  refine ⟨okd_sig h, ?_⟩
  simp only [sigs, List.mem_cons, List.not_mem_nil, or_false] at h
  rcases h with rfl | rfl | rfl | rfl | rfl | rfl | rfl <;> exact ⟨by decide +kernel, by decide +kernel⟩
theorem wr_s {M : Mem} {s : Str} (h : decide (s ∈ sigs) = false) (o : OkD (.str s)) : Wr M (.str s) := ⟨⟨_, .str s, o⟩, h, .inl ⟨s, rfl⟩⟩
theorem sl_str {z : Str} {lo hi : Option Int} {M : Mem} {Q : TQ.PK} (l : z.length ≤ sizeLine) (q : Q (.str (cutS z lo hi)) M) : bSl lo hi (.str z) M Q := ⟨l, q⟩
theorem add_str {a b : Str} {M : Mem} {Q : TQ.PK} (l : a.length + b.length ≤ sizeLine) (q : Q (.str (a ++ b)) M) : bAdd (.str a) (.str b) M Q := ⟨l, q⟩
theorem sig_words : ∀ n ∈ sigs, n.length ≤ 10 ∧ (n ++ Str.ofString " ").length ≤ 20 ∧ decide (n ++ Str.ofString " " ∈ sigs) = false ∧ decide (cutS n (some 1) none ∈ sigs) = false ∧ decide (Txt.upper n ∈ sigs) = false ∧ decide (n ++ n ∈ sigs) = false := by decide +kernel
theorem okd_dec {d : PyData} (h : (d.showable && d.leavesShort 13 && decide (d.bulk ≤ 100) && decide (d.depth ≤ 4)) = true) : OkD d := by
  simp only [Bool.and_eq_true, decide_eq_true_eq] at h
  exact ⟨h.1.1.1, h.1.1.2, h.1.2, h.2⟩
theorem sig_okd : ∀ n ∈ sigs, ∀ d ∈ [PyData.str (n ++ Str.ofString " "), .str (cutS n (some 1) none), .str (Txt.upper n), .str (n ++ n), .list [.str n], .tuple [.str n], .dict [(.str n, .bool true)]], (d.showable && d.leavesShort 13 && decide (d.bulk ≤ 100) && decide (d.depth ≤ 4)) = true := by decide +kernel
theorem Wr.ext {M M2 : Mem} {w : PV} (h : Wr M w) (e : MExt M M2) : Wr M2 w := by
  obtain ⟨⟨d, h1, h2⟩, h3, h4⟩ := h
  exact ⟨⟨d, px_ext e h1, h2⟩, h3, h4.imp id fun z => z.ext e⟩
/-- what _law_odd tells -/
structure OddT (M0 M : Mem) (x : PV) : Prop where
  bad : BadTrap M x
  px : ∃ d, Px M x d ∧ OkS d
  ki : NotLst M x ∨ ∃ p ys, x = .ref p ∧ M0 p = none ∧ M p = some (.lst ys)
theorem ix_mem {xs : List PV} {i : Int} {M : Mem} {Q : TQ.PK} (h0 : 0 ≤ i) (h1 : i < xs.length) (q : ∀ v ∈ xs, Q v M) : bIx (.lst xs) (.int i) M Q := by
  obtain ⟨v, hv, e⟩ := atI_mem h0 h1
  show @ixP (atI xs i) M ⟨Q⟩
  rw [e]
  exact ⟨v, rfl, q v hv⟩
/-! flags and traps as lists -/
theorem flags_of {C : List Str} {P : Str → Bool} (h : ∀ s ∈ sigs, s ∈ C ↔ P s = true) : flagsOf C = sigs.filter P := by
  unfold flagsOf
  exact List.filter_congr fun s hs => by rw [Bool.eq_iff_iff, decide_eq_true_eq]; exact h s hs
/-- the k-th name of those whose bit stands -/
def bitK (z : Int) : PV → Option PV
  | .tup [.int k, x] => if z / 2 ^ k.toNat % 2 = 1 then some x else none
  | _ => none
def bitF (z : Int) : Nat → List Str → List Str
  | _, [] => []
  | k, x :: xs => if z / 2 ^ ((k : Nat) : Int).toNat % 2 = 1 then x :: bitF z (k + 1) xs else bitF z (k + 1) xs
theorem bitK_map (z : Int) : ∀ (xs : List Str) (k : Nat), (enumF k (xs.map PV.str)).filterMap (bitK z) = (bitF z k xs).map PV.str
  | [], k => rfl
  | x :: xs, k => by
    rw [List.map_cons]
    show ((.tup [.int (k : Nat), .str x]) :: enumF (k + 1) (xs.map PV.str)).filterMap (bitK z) = _
    unfold bitF
    by_cases h : z / 2 ^ ((k : Nat) : Int).toNat % 2 = 1
    · rw [List.filterMap_cons_some (show bitK z (.tup [.int (k : Nat), .str x]) = some (.str x) from if_pos h), if_pos h, bitK_map z xs (k + 1)]
      rfl
    · rw [List.filterMap_cons_none (show bitK z (.tup [.int (k : Nat), .str x]) = none from if_neg h), if_neg h, bitK_map z xs (k + 1)]
theorem bitF_sub (z : Int) : ∀ (xs : List Str) (k : Nat), List.Sublist (bitF z k xs) xs
  | [], _ => .slnil
  | x :: xs, k => by
    unfold bitF
    split
    · exact (bitF_sub z xs (k + 1)).cons_cons x
    · exact (bitF_sub z xs (k + 1)).cons x
theorem sub_filter {N S : List Str} (h : List.Sublist N S) (nd : S.Nodup) : (S.filter fun x => decide (x ∈ N)) = N := by
  induction h with
  | slnil => rfl
  | @cons N S a h ih =>
    rw [List.nodup_cons] at nd
    rw [List.filter_cons_of_neg (by simp only [decide_eq_true_eq]; exact fun z => nd.1 (h.subset z))]
    exact ih nd.2
  | @cons_cons N S a h ih =>
    rw [List.nodup_cons] at nd
    rw [List.filter_cons_of_pos (by simp)]
    congr 1
    refine Eq.trans (List.filter_congr fun x hx => ?_) (ih nd.2)
    rw [decide_eq_decide, List.mem_cons]
    exact ⟨fun z => z.resolve_left (fun e => nd.1 (e ▸ hx)), .inr⟩
theorem cl_lst {xs : List PV} {M : Mem} {Q : TQ.PK} (q : Q (.lst xs) M) : cList [.lst xs] M Q := q
theorem flags_sub {C A : List Str} (h : List.Sublist A sigs) (e : ∀ x, x ∈ C ↔ x ∈ A) : flagsOf C = A := by
  refine (flags_of (P := fun x => decide (x ∈ A)) fun s _ => ?_).trans (sub_filter h (by decide +kernel))
  rw [e s, decide_eq_true_eq]
theorem mem_raise0 {x : Str} {N : List Str} : x ∈ raiseF [] N ↔ x ∈ N := by rw [raise_mem]; simp
theorem bits7 {j : Nat} (hj : j < 7) : atI [PV.int 1, PV.int 2, PV.int 4, PV.int 8, PV.int 16, PV.int 32, PV.int 64] ((j : Nat) : Int) = some (.int (2 ^ ((j : Nat) : Int).toNat)) := by
  rcases (by omega : j = 0 ∨ j = 1 ∨ j = 2 ∨ j = 3 ∨ j = 4 ∨ j = 5 ∨ j = 6) with rfl | rfl | rfl | rfl | rfl | rfl | rfl <;> rfl
theorem bits7b {j : Nat} (hj : j < 7) : 0 < (2 : Int) ^ ((j : Nat) : Int).toNat ∧ (2 : Int) ^ ((j : Nat) : Int).toNat ≤ 64 := by
  rcases (by omega : j = 0 ∨ j = 1 ∨ j = 2 ∨ j = 3 ∨ j = 4 ∨ j = 5 ∨ j = 6) with rfl | rfl | rfl | rfl | rfl | rfl | rfl <;> decide

section
variable {P : Program} {w : World} {K : PySem.W.Frag} {mg : Str → Option Value} {base : Heap}
/-! is_whole -/
def sp_is_whole : SpQ := fun xs M Q _ => ∃ (x : PV) (lo hi : Int), xs = [x, .int lo, .int hi] ∧ whP x lo hi M Q
theorem tyne {a b : String} (h : some (Value.type a) = some (Value.type b)) (hn : a ≠ b) : False := hn (Value.type.inj (Option.some.inj h))
theorem ty_bool {M : Mem} {x : PV} (h : tyP M x = some (.type "bool")) : ∃ b, x = .bl b := by
  cases x with
  | bl b => exact ⟨b, rfl⟩
  | ref a =>
    replace h : (match M a with
      | some (.lst _) => some (Value.type "list")
      | some (.dic _ _) => some (.type "dict")
      | some (.ins C _ _) => some (.ref C)
      | _ => none) = some (.type "bool") := h
    split at h
    · exact (tyne h (by decide)).elim
    · exact (tyne h (by decide)).elim
    · cases h
    · cases h
  | _ => first | exact (tyne h (by decide)).elim | cases h
theorem ni_int {K : PySem.W.Frag} {M : Mem} {x : PV} {n : String} {Q : Box TQ.PK} (hn : n ∈ (["NoneType", "bool", "str", "tuple", "list", "dict"] : List String)) (ht : tyP M x = some (.type n)) (hb : ∀ b, x ≠ .bl b) : @isiB K x (.ty "int") M Q = Q.v (.bl false) M := by
  simp only [List.mem_cons, List.not_mem_nil, or_false] at hn
  rcases hn with rfl | rfl | rfl | rfl | rfl | rfl
  · exact isiP ht trivial rfl rfl
  · obtain ⟨b, e⟩ := ty_bool ht
    exact absurd e (hb b)
  · exact isiP ht trivial rfl rfl
  · exact isiP ht trivial rfl rfl
  · exact isiP ht trivial rfl rfl
  · exact isiP ht trivial rfl rfl
theorem sp_is_whole_len : ∀ xs M Q E, sp_is_whole xs M Q E → xs.length = 3 := fun xs M Q E ⟨_, _, _, h, _⟩ => by rw [h]; rfl
theorem ok_is_whole (T : Tx K mg) : FnQ P w K mg base 1 T.a_is_whole T.d_is_whole ["thing", "least", "most"] sp_is_whole := by
  refine okQ T.F_is_whole sc_is_whole sp_is_whole_len (fun cdv A outer s0 H0 E hr => ?_)
  have tk := L2N.takes_of (X := cxOf (L2N.CX P w) P w K mg base ["thing", "least", "most"] "is_whole" (defScope s_is_whole) T.a_is_whole cdv A outer s0 H0 E) (E := E) rfl rfl rfl rfl
  have po := passes_of (X := cxOf (L2N.CX P w) P w K mg base ["thing", "least", "most"] "is_whole" (defScope s_is_whole) T.a_is_whole cdv A outer s0 H0 E) rfl
  refine ⟨_, (qss_one (qs_ret (qe_and (qe_callB (id := "isinstance") (cq_isiK (K := K) rfl) T.n_isinstance (qa_cons (qv 0) (qa_cons (qe_ty (n := "int") T.n_int) qa_nil))) (qe_and (qe_not (qe_callB (id := "isinstance") (cq_isiK (K := K) rfl) T.n_isinstance (qa_cons (qv 0) (qa_cons (qe_ty (n := "bool") T.n_bool) qa_nil)))) (qe_one (qe_chain oq_le oq_le (qv 1) (qv 0) (qv 2))))))), ?_⟩
  clear tk po
  clear hr
  rintro xs M Q E ⟨x, lo, hi, rfl, k⟩
  cases x with
  | int n =>
    replace k : Q (.bl (decide (lo ≤ n ∧ n ≤ hi))) M := k
    walk_at "q"
    refine iteP_of (fun h => ?_) (fun h => ?_)
    · walk_at "q"
      simpa only [h, true_and] using k
    · walk_at "q"
      simpa only [h, false_and, dec_f] using k
  | bl b =>
    obtain ⟨_, k⟩ := k
    walk_at "q"
    exact k
  | _ =>
    obtain ⟨⟨n, hn, ht⟩, k⟩ := k
    walk_at "q"
    try
      rw [ni_int hn ht (fun b e => nomatch e)]
      walk_at "q"
    exact k

/-! Way_name -/
def sp_Way_name : SpQ := fun xs M Q _ => ∃ x : PV, xs = [x] ∧ Q (.str (Wy.down.name : String)) M
theorem sp_Way_name_len : ∀ xs M Q E, sp_Way_name xs M Q E → xs.length = 1 := fun xs M Q E ⟨_, h, _⟩ => by rw [h]; rfl
theorem ok_Way_name (T : Tx K mg) : FnQ P w K mg base 1 T.a_Way_name T.d_Way_name ["self"] sp_Way_name := by
  refine okQ T.F_Way_name sc_Way_name sp_Way_name_len (fun cdv A outer s0 H0 E hr => ?_)
  have tk := L2N.takes_of (X := cxOf (L2N.CX P w) P w K mg base ["self"] "Way.name" (defScope s_Way_name) T.a_Way_name cdv A outer s0 H0 E) (E := E) rfl rfl rfl rfl
  have po := passes_of (X := cxOf (L2N.CX P w) P w K mg base ["self"] "Way.name" (defScope s_Way_name) T.a_Way_name cdv A outer s0 H0 E) rfl
  refine ⟨_, (qss_one (qs_ret qe_str)), ?_⟩
  clear tk po
  clear hr
  rintro xs M Q E ⟨x, rfl, k⟩
  walk_at "q"
  exact k

/-! Up_name -/
def sp_Up_name : SpQ := fun xs M Q _ => ∃ x : PV, xs = [x] ∧ Q (.str (Wy.up.name : String)) M
theorem sp_Up_name_len : ∀ xs M Q E, sp_Up_name xs M Q E → xs.length = 1 := fun xs M Q E ⟨_, h, _⟩ => by rw [h]; rfl
theorem ok_Up_name (T : Tx K mg) : FnQ P w K mg base 1 T.a_Up_name T.d_Up_name ["self"] sp_Up_name := by
  refine okQ T.F_Up_name sc_Up_name sp_Up_name_len (fun cdv A outer s0 H0 E hr => ?_)
  have tk := L2N.takes_of (X := cxOf (L2N.CX P w) P w K mg base ["self"] "Up.name" (defScope s_Up_name) T.a_Up_name cdv A outer s0 H0 E) (E := E) rfl rfl rfl rfl
  have po := passes_of (X := cxOf (L2N.CX P w) P w K mg base ["self"] "Up.name" (defScope s_Up_name) T.a_Up_name cdv A outer s0 H0 E) rfl
  refine ⟨_, (qss_one (qs_ret qe_str)), ?_⟩
  clear tk po
  clear hr
  rintro xs M Q E ⟨x, rfl, k⟩
  walk_at "q"
  exact k

/-! Floor_name -/
def sp_Floor_name : SpQ := fun xs M Q _ => ∃ x : PV, xs = [x] ∧ Q (.str (Wy.floor.name : String)) M
theorem sp_Floor_name_len : ∀ xs M Q E, sp_Floor_name xs M Q E → xs.length = 1 := fun xs M Q E ⟨_, h, _⟩ => by rw [h]; rfl
theorem ok_Floor_name (T : Tx K mg) : FnQ P w K mg base 1 T.a_Floor_name T.d_Floor_name ["self"] sp_Floor_name := by
  refine okQ T.F_Floor_name sc_Floor_name sp_Floor_name_len (fun cdv A outer s0 H0 E hr => ?_)
  have tk := L2N.takes_of (X := cxOf (L2N.CX P w) P w K mg base ["self"] "Floor.name" (defScope s_Floor_name) T.a_Floor_name cdv A outer s0 H0 E) (E := E) rfl rfl rfl rfl
  have po := passes_of (X := cxOf (L2N.CX P w) P w K mg base ["self"] "Floor.name" (defScope s_Floor_name) T.a_Floor_name cdv A outer s0 H0 E) rfl
  refine ⟨_, (qss_one (qs_ret qe_str)), ?_⟩
  clear tk po
  clear hr
  rintro xs M Q E ⟨x, rfl, k⟩
  walk_at "q"
  exact k

/-! Ceiling_name -/
def sp_Ceiling_name : SpQ := fun xs M Q _ => ∃ x : PV, xs = [x] ∧ Q (.str (Wy.ceiling.name : String)) M
theorem sp_Ceiling_name_len : ∀ xs M Q E, sp_Ceiling_name xs M Q E → xs.length = 1 := fun xs M Q E ⟨_, h, _⟩ => by rw [h]; rfl
theorem ok_Ceiling_name (T : Tx K mg) : FnQ P w K mg base 1 T.a_Ceiling_name T.d_Ceiling_name ["self"] sp_Ceiling_name := by
  refine okQ T.F_Ceiling_name sc_Ceiling_name sp_Ceiling_name_len (fun cdv A outer s0 H0 E hr => ?_)
  have tk := L2N.takes_of (X := cxOf (L2N.CX P w) P w K mg base ["self"] "Ceiling.name" (defScope s_Ceiling_name) T.a_Ceiling_name cdv A outer s0 H0 E) (E := E) rfl rfl rfl rfl
  have po := passes_of (X := cxOf (L2N.CX P w) P w K mg base ["self"] "Ceiling.name" (defScope s_Ceiling_name) T.a_Ceiling_name cdv A outer s0 H0 E) rfl
  refine ⟨_, (qss_one (qs_ret qe_str)), ?_⟩
  clear tk po
  clear hr
  rintro xs M Q E ⟨x, rfl, k⟩
  walk_at "q"
  exact k

/-! HalfUp_name -/
def sp_HalfUp_name : SpQ := fun xs M Q _ => ∃ x : PV, xs = [x] ∧ Q (.str (Wy.halfUp.name : String)) M
theorem sp_HalfUp_name_len : ∀ xs M Q E, sp_HalfUp_name xs M Q E → xs.length = 1 := fun xs M Q E ⟨_, h, _⟩ => by rw [h]; rfl
theorem ok_HalfUp_name (T : Tx K mg) : FnQ P w K mg base 1 T.a_HalfUp_name T.d_HalfUp_name ["self"] sp_HalfUp_name := by
  refine okQ T.F_HalfUp_name sc_HalfUp_name sp_HalfUp_name_len (fun cdv A outer s0 H0 E hr => ?_)
  have tk := L2N.takes_of (X := cxOf (L2N.CX P w) P w K mg base ["self"] "HalfUp.name" (defScope s_HalfUp_name) T.a_HalfUp_name cdv A outer s0 H0 E) (E := E) rfl rfl rfl rfl
  have po := passes_of (X := cxOf (L2N.CX P w) P w K mg base ["self"] "HalfUp.name" (defScope s_HalfUp_name) T.a_HalfUp_name cdv A outer s0 H0 E) rfl
  refine ⟨_, (qss_one (qs_ret qe_str)), ?_⟩
  clear tk po
  clear hr
  rintro xs M Q E ⟨x, rfl, k⟩
  walk_at "q"
  exact k

/-! HalfDown_name -/
def sp_HalfDown_name : SpQ := fun xs M Q _ => ∃ x : PV, xs = [x] ∧ Q (.str (Wy.halfDown.name : String)) M
theorem sp_HalfDown_name_len : ∀ xs M Q E, sp_HalfDown_name xs M Q E → xs.length = 1 := fun xs M Q E ⟨_, h, _⟩ => by rw [h]; rfl
theorem ok_HalfDown_name (T : Tx K mg) : FnQ P w K mg base 1 T.a_HalfDown_name T.d_HalfDown_name ["self"] sp_HalfDown_name := by
  refine okQ T.F_HalfDown_name sc_HalfDown_name sp_HalfDown_name_len (fun cdv A outer s0 H0 E hr => ?_)
  have tk := L2N.takes_of (X := cxOf (L2N.CX P w) P w K mg base ["self"] "HalfDown.name" (defScope s_HalfDown_name) T.a_HalfDown_name cdv A outer s0 H0 E) (E := E) rfl rfl rfl rfl
  have po := passes_of (X := cxOf (L2N.CX P w) P w K mg base ["self"] "HalfDown.name" (defScope s_HalfDown_name) T.a_HalfDown_name cdv A outer s0 H0 E) rfl
  refine ⟨_, (qss_one (qs_ret qe_str)), ?_⟩
  clear tk po
  clear hr
  rintro xs M Q E ⟨x, rfl, k⟩
  walk_at "q"
  exact k

/-! HalfEven_name -/
def sp_HalfEven_name : SpQ := fun xs M Q _ => ∃ x : PV, xs = [x] ∧ Q (.str (Wy.halfEven.name : String)) M
theorem sp_HalfEven_name_len : ∀ xs M Q E, sp_HalfEven_name xs M Q E → xs.length = 1 := fun xs M Q E ⟨_, h, _⟩ => by rw [h]; rfl
theorem ok_HalfEven_name (T : Tx K mg) : FnQ P w K mg base 1 T.a_HalfEven_name T.d_HalfEven_name ["self"] sp_HalfEven_name := by
  refine okQ T.F_HalfEven_name sc_HalfEven_name sp_HalfEven_name_len (fun cdv A outer s0 H0 E hr => ?_)
  have tk := L2N.takes_of (X := cxOf (L2N.CX P w) P w K mg base ["self"] "HalfEven.name" (defScope s_HalfEven_name) T.a_HalfEven_name cdv A outer s0 H0 E) (E := E) rfl rfl rfl rfl
  have po := passes_of (X := cxOf (L2N.CX P w) P w K mg base ["self"] "HalfEven.name" (defScope s_HalfEven_name) T.a_HalfEven_name cdv A outer s0 H0 E) rfl
  refine ⟨_, (qss_one (qs_ret qe_str)), ?_⟩
  clear tk po
  clear hr
  rintro xs M Q E ⟨x, rfl, k⟩
  walk_at "q"
  exact k

/-! FiveUp_name -/
def sp_FiveUp_name : SpQ := fun xs M Q _ => ∃ x : PV, xs = [x] ∧ Q (.str (Wy.fiveUp.name : String)) M
theorem sp_FiveUp_name_len : ∀ xs M Q E, sp_FiveUp_name xs M Q E → xs.length = 1 := fun xs M Q E ⟨_, h, _⟩ => by rw [h]; rfl
theorem ok_FiveUp_name (T : Tx K mg) : FnQ P w K mg base 1 T.a_FiveUp_name T.d_FiveUp_name ["self"] sp_FiveUp_name := by
  refine okQ T.F_FiveUp_name sc_FiveUp_name sp_FiveUp_name_len (fun cdv A outer s0 H0 E hr => ?_)
  have tk := L2N.takes_of (X := cxOf (L2N.CX P w) P w K mg base ["self"] "FiveUp.name" (defScope s_FiveUp_name) T.a_FiveUp_name cdv A outer s0 H0 E) (E := E) rfl rfl rfl rfl
  have po := passes_of (X := cxOf (L2N.CX P w) P w K mg base ["self"] "FiveUp.name" (defScope s_FiveUp_name) T.a_FiveUp_name cdv A outer s0 H0 E) rfl
  refine ⟨_, (qss_one (qs_ret qe_str)), ?_⟩
  clear tk po
  clear hr
  rintro xs M Q E ⟨x, rfl, k⟩
  walk_at "q"
  exact k

/-! half_way -/
def sp_half_way (T : Tx K mg) : SpQ := fun xs M Q _ => ∃ y : Wy, xs = [.str (y.name : String)] ∧ (y = .halfUp ∨ y = .halfDown ∨ y = .halfEven) ∧ Q (wayP T y) M
theorem sp_half_way_len (T : Tx K mg) : ∀ xs M Q E, sp_half_way T xs M Q E → xs.length = 1 := fun xs M Q E ⟨_, h, _⟩ => by rw [h]; rfl
theorem ok_half_way (T : Tx K mg) : FnQ P w K mg base 1 T.a_half_way T.d_half_way ["name"] (sp_half_way T) := by
  refine okQ T.F_half_way sc_half_way (sp_half_way_len T) (fun cdv A outer s0 H0 E hr => ?_)
  have tk := L2N.takes_of (X := cxOf (L2N.CX P w) P w K mg base ["name"] "half_way" (defScope s_half_way) T.a_half_way cdv A outer s0 H0 E) (E := E) rfl rfl rfl rfl
  have po := passes_of (X := cxOf (L2N.CX P w) P w K mg base ["name"] "half_way" (defScope s_half_way) T.a_half_way cdv A outer s0 H0 E) rfl
  refine ⟨_, (qss_cons (qs_if (qt_cmp (oq_eq hr.units) (qv 0) qe_str)
  (qss_one (qs_ret (qe_make00 T.k0_HalfUp T.m_HalfUp)))
  qss_nil)
  (qss_cons (qs_if (qt_cmp (oq_eq hr.units) (qv 0) qe_str)
  (qss_one (qs_ret (qe_make00 T.k0_HalfDown T.m_HalfDown)))
  qss_nil)
  (qss_one (qs_ret (qe_make00 T.k0_HalfEven T.m_HalfEven))))), ?_⟩
  clear tk po
  clear hr
  rintro xs M Q E ⟨y, rfl, h, k⟩
  rcases h with rfl | rfl | rfl <;> simp only [Wy.name] <;> walk_at "q" <;> exact k

/-! way_of -/
def sp_way_of (T : Tx K mg) : SpQ := fun xs M Q E => ∃ x : PV, xs = [x] ∧ ((∃ y : Wy, x = .str (Str.ofString y.name) ∧ Q (wayP T y) M) ∨ (NoWay M x ∧ E (.ref T.c_BadContext) none M))
theorem sp_way_of_len (T : Tx K mg) : ∀ xs M Q E, sp_way_of T xs M Q E → xs.length = 1 := fun xs M Q E ⟨_, h, _⟩ => by rw [h]; rfl
theorem ok_way_of (T : Tx K mg) : FnQ P w K mg base 2 T.a_way_of T.d_way_of ["name"] (sp_way_of T) := by
  refine okQ T.F_way_of sc_way_of (sp_way_of_len T) (fun cdv A outer s0 H0 E hr => ?_)
  have tk := L2N.takes_of (X := cxOf (L2N.CX P w) P w K mg base ["name"] "way_of" (defScope s_way_of) T.a_way_of cdv A outer s0 H0 E) (E := E) rfl rfl rfl rfl
  have po := passes_of (X := cxOf (L2N.CX P w) P w K mg base ["name"] "way_of" (defScope s_way_of) T.a_way_of cdv A outer s0 H0 E) rfl
  refine ⟨_, (qss_cons (qs_if (qt_w (qw_or (qt_not (qt_val (qe_callB (id := "isinstance") (cq_isiK (K := K) rfl) T.n_isinstance (qa_cons (qv 0) (qa_cons (qe_ty (n := "str") T.n_str) qa_nil))))) (qw_one_or (qt_cmp (oq_notIn hr.units) (qv 0) (qe_gtup (ys := gl_WAYS) T.g_WAYS T.k_WAYS)))))
  (qss_one (qs_raise (h := false) T.x_BadContext (.inl rfl) tk T.m_BadContext))
  qss_nil)
  (qss_cons (qs_if (qt_val (qe_startswith (qv 0) qe_str))
  (qss_one (qs_ret (qe_call (ok_half_way T) hr (.inl rfl) T.m_half_way T.F_half_way.kp T.b_half_way tk (qa_cons (qv 0) qa_nil))))
  qss_nil)
  (qss_cons (qs_if (qt_cmp (oq_eq hr.units) (qv 0) qe_str)
  (qss_one (qs_ret (qe_make00 T.k0_Up T.m_Up)))
  qss_nil)
  (qss_cons (qs_if (qt_cmp (oq_eq hr.units) (qv 0) qe_str)
  (qss_one (qs_ret (qe_make00 T.k0_Floor T.m_Floor)))
  qss_nil)
  (qss_cons (qs_if (qt_cmp (oq_eq hr.units) (qv 0) qe_str)
  (qss_one (qs_ret (qe_make00 T.k0_Ceiling T.m_Ceiling)))
  qss_nil)
  (qss_cons (qs_if (qt_cmp (oq_eq hr.units) (qv 0) qe_str)
  (qss_one (qs_ret (qe_make00 T.k0_FiveUp T.m_FiveUp)))
  qss_nil)
  (qss_one (qs_ret (qe_make00 T.k0_Down T.m_Down))))))))), ?_⟩
  clear tk po
  clear hr
  rintro xs M Q E ⟨x, rfl, ⟨y, rfl, k⟩ | ⟨h, k⟩⟩
  · have hw := ways_in y
    have hh := half_start y
    cases y <;> simp only [Wy.name, Wy.half] at hw hh ⊢ <;> walk_at "q" <;> rw [hw] <;> walk_at "q" <;> rw [hh] <;> walk_at "q"
    case halfUp => exact ⟨.halfUp, rfl, .inl rfl, k⟩
    case halfDown => exact ⟨.halfDown, rfl, .inr (.inl rfl), k⟩
    case halfEven => exact ⟨.halfEven, rfl, .inr (.inr rfl), k⟩
    all_goals exact k
  · rcases h with ⟨s, rfl, hs⟩ | h
    · walk_at "q"
      rw [hs]
      walk_at "q"
      exact k
    · walk_at "q"
      rw [not_str h]
      walk_at "q"
      exact k

/-! need -/
def sp_need (T : Tx K mg) : SpQ := fun xs M Q E => ∃ b : Bool, xs = [.bl b] ∧ if b = true then Q .non M else E (.ref T.c_BadContext) none M
theorem sp_need_len (T : Tx K mg) : ∀ xs M Q E, sp_need T xs M Q E → xs.length = 1 := fun xs M Q E ⟨_, h, _⟩ => by rw [h]; rfl
theorem ok_need (T : Tx K mg) : FnQ P w K mg base 1 T.a_need T.d_need ["good"] (sp_need T) := by
  refine okQ T.F_need sc_need (sp_need_len T) (fun cdv A outer s0 H0 E hr => ?_)
  have tk := L2N.takes_of (X := cxOf (L2N.CX P w) P w K mg base ["good"] "need" (defScope s_need) T.a_need cdv A outer s0 H0 E) (E := E) rfl rfl rfl rfl
  have po := passes_of (X := cxOf (L2N.CX P w) P w K mg base ["good"] "need" (defScope s_need) T.a_need cdv A outer s0 H0 E) rfl
  refine ⟨_, (qss_one (qs_if (qt_not (qt_val (qv 0)))
  (qss_one (qs_raise (h := false) T.x_BadContext (.inl rfl) tk T.m_BadContext))
  qss_nil)), ?_⟩
  clear tk po
  clear hr
  rintro xs M Q E ⟨b, rfl, k⟩
  walk_at "q"
  cases b
  · walk_at "q"
    exact k
  · walk_at "q"
    exact k

/-! is_signal -/
def sp_is_signal : SpQ := fun xs M Q _ => ∃ x : PV, xs = [x] ∧ ((∃ s : Str, x = .str s) ∨ NotStr M x) ∧ Q (.bl (sgX x)) M
theorem sp_is_signal_len : ∀ xs M Q E, sp_is_signal xs M Q E → xs.length = 1 := fun xs M Q E ⟨_, h, _⟩ => by rw [h]; rfl
theorem ok_is_signal (T : Tx K mg) : FnQ P w K mg base 1 T.a_is_signal T.d_is_signal ["thing"] sp_is_signal := by
  refine okQ T.F_is_signal sc_is_signal sp_is_signal_len (fun cdv A outer s0 H0 E hr => ?_)
  have tk := L2N.takes_of (X := cxOf (L2N.CX P w) P w K mg base ["thing"] "is_signal" (defScope s_is_signal) T.a_is_signal cdv A outer s0 H0 E) (E := E) rfl rfl rfl rfl
  have po := passes_of (X := cxOf (L2N.CX P w) P w K mg base ["thing"] "is_signal" (defScope s_is_signal) T.a_is_signal cdv A outer s0 H0 E) rfl
  refine ⟨_, (qss_one (qs_ret (qe_and (qe_callB (id := "isinstance") (cq_isiK (K := K) rfl) T.n_isinstance (qa_cons (qv 0) (qa_cons (qe_ty (n := "str") T.n_str) qa_nil))) (qe_one (qe_cmp (oq_in hr.units) (qv 0) (qe_gtup (ys := gl_SIGNALS) T.g_SIGNALS T.k_SIGNALS)))))), ?_⟩
  clear tk po
  clear hr
  rintro xs M Q E ⟨x, rfl, ⟨s, rfl⟩ | h, k⟩
  · walk_at "q"
    rw [gl_sigs, inPs_s]
    walk_at "q"
    exact k
  · walk_at "q"
    rw [not_str h]
    walk_at "q"
    have e : sgX x = false := by
      cases x with
      | str s =>
        exfalso
        obtain ⟨n, hn, ht⟩ := h
        have e2 : n = "str" := by
          have := Option.some.inj ht
          injection this with z
          exact z.symm
        subst e2
        exact absurd hn (by decide)
      | _ => rfl
    rw [e] at k
    exact k

/-! Context___init__ -/
theorem name_md (T : Tx K mg) (y : Wy) {M : Mem} {R : Box (SpQ → Prop)} (q : ∀ z : SpQ, (∀ {M : Mem} {Q : TQ.PK} {E : EK}, Q (.str (Str.ofString y.name)) M → z [wayP T y] M Q E) → R.v z) : @mdB [(T.c_Down, sp_Way_name), (T.c_Up, sp_Up_name), (T.c_Floor, sp_Floor_name), (T.c_Ceiling, sp_Ceiling_name), (T.c_HalfUp, sp_HalfUp_name), (T.c_HalfDown, sp_HalfDown_name), (T.c_HalfEven, sp_HalfEven_name), (T.c_FiveUp, sp_FiveUp_name)] "name" (wayP T y) M R := by
    cases y
    · exact mdB_of (C := T.c_Down) (s := sp_Way_name) (by simp) rfl (by simp) (q _ (fun k => ⟨_, rfl, k⟩))
    · exact mdB_of (C := T.c_Up) (s := sp_Up_name) (by simp) rfl (by simp) (q _ (fun k => ⟨_, rfl, k⟩))
    · exact mdB_of (C := T.c_Floor) (s := sp_Floor_name) (by simp) rfl (by simp) (q _ (fun k => ⟨_, rfl, k⟩))
    · exact mdB_of (C := T.c_Ceiling) (s := sp_Ceiling_name) (by simp) rfl (by simp) (q _ (fun k => ⟨_, rfl, k⟩))
    · exact mdB_of (C := T.c_HalfUp) (s := sp_HalfUp_name) (by simp) rfl (by simp) (q _ (fun k => ⟨_, rfl, k⟩))
    · exact mdB_of (C := T.c_HalfDown) (s := sp_HalfDown_name) (by simp) rfl (by simp) (q _ (fun k => ⟨_, rfl, k⟩))
    · exact mdB_of (C := T.c_HalfEven) (s := sp_HalfEven_name) (by simp) rfl (by simp) (q _ (fun k => ⟨_, rfl, k⟩))
    · exact mdB_of (C := T.c_FiveUp) (s := sp_FiveUp_name) (by simp) rfl (by simp) (q _ (fun k => ⟨_, rfl, k⟩))
def sp_Context___init__ (T : Tx K mg) : SpQ := fun xs M Q E => ∃ (a : Addr) (xr xw xl xm : PV), xs = [.ref a, xr, xw, xl, xm] ∧ M a = some (.ins T.c_Context [] []) ∧ ((∃ (y : Wy) (r l m : Int), (xr = .int r ∧ xw = .str (Str.ofString y.name) ∧ (xl = .int l ∨ (xl = .non ∧ l = -60)) ∧ xm = .int m) ∧ (1 ≤ r ∧ r ≤ 24) ∧ (-60 ≤ l ∧ l ≤ 0) ∧ (0 ≤ m ∧ m ≤ 60) ∧
  ∀ d1 d2 M', (∀ b, b ≠ a → M b ≠ none → M' b = M b) → M d1 = none → M d2 = none → Ctx T M' a d1 d2 y r l m [] [] → Q .non M') ∨ (Bad4 M xr xw xl xm ∧ ∀ M', (∀ b, b ≠ a → M' b = M b) → E (.ref T.c_BadContext) none M'))
theorem sp_Context___init___len (T : Tx K mg) : ∀ xs M Q E, sp_Context___init__ T xs M Q E → xs.length = 5 := fun xs M Q E ⟨_, _, _, _, _, h, _⟩ => by rw [h]; rfl
theorem ok_Context___init__ (T : Tx K mg) : FnQ P w K mg base 3 T.a_Context___init__ T.d_Context___init__ ["self", "room", "way", "least", "most"] (sp_Context___init__ T) := by
  refine okQD T.F_Context___init__ sc_Context___init__ (sp_Context___init___len T) (fun cdv A outer s0 H0 E hr => ?_)
  have tk := L2N.takes_of (X := cxOf (L2N.CX P w) P w K mg base ["self", "room", "way", "least", "most"] "Context.__init__" (defScope s_Context___init__) T.a_Context___init__ cdv A outer s0 H0 E) (E := E) rfl rfl rfl rfl
  have po := passes_of (X := cxOf (L2N.CX P w) P w K mg base ["self", "room", "way", "least", "most"] "Context.__init__" (defScope s_Context___init__) T.a_Context___init__ cdv A outer s0 H0 E) rfl
  refine ⟨_, (qss_cons (qs_if (qt_cmp oq_isN (qv 3) qe_non)
  (qss_one (qs_set 3 sc_Context___init__.nd (qe_bin oq_sub qe_int (qe_gint T.g_MOST_LEAD))))
  qss_nil)
  (qss_cons (qs_expr (qe_call (ok_need T) (hr.mono (by decide)) (.inl rfl) T.m_need T.F_need.kp T.b_need tk (qa_cons (qe_call (ok_is_whole T) (hr.mono (by decide)) (.inl rfl) T.m_is_whole T.F_is_whole.kp T.b_is_whole tk (qa_cons (qv 1) (qa_cons qe_int (qa_cons (qe_gint T.g_MOST_ROOM) qa_nil)))) qa_nil)))
  (qss_cons (qs_fld (K := K) rfl (qv 0) (qe_methD0 (qe_call (ok_way_of T) hr (.inl rfl) T.m_way_of T.F_way_of.kp T.b_way_of tk (qa_cons (qv 2) qa_nil)) (mok_cons T.i_Down.cl T.M_Down_name (ok_Way_name T) (hr.mono (by decide)) (.inl rfl) T.b_Way_name (mok_cons T.i_Up.cl T.M_Up_name (ok_Up_name T) (hr.mono (by decide)) (.inl rfl) T.b_Up_name (mok_cons T.i_Floor.cl T.M_Floor_name (ok_Floor_name T) (hr.mono (by decide)) (.inl rfl) T.b_Floor_name (mok_cons T.i_Ceiling.cl T.M_Ceiling_name (ok_Ceiling_name T) (hr.mono (by decide)) (.inl rfl) T.b_Ceiling_name (mok_cons T.i_HalfUp.cl T.M_HalfUp_name (ok_HalfUp_name T) (hr.mono (by decide)) (.inl rfl) T.b_HalfUp_name (mok_cons T.i_HalfDown.cl T.M_HalfDown_name (ok_HalfDown_name T) (hr.mono (by decide)) (.inl rfl) T.b_HalfDown_name (mok_cons T.i_HalfEven.cl T.M_HalfEven_name (ok_HalfEven_name T) (hr.mono (by decide)) (.inl rfl) T.b_HalfEven_name (mok_cons T.i_FiveUp.cl T.M_FiveUp_name (ok_FiveUp_name T) (hr.mono (by decide)) (.inl rfl) T.b_FiveUp_name mok_nil)))))))) tk))
  (qss_cons (qs_expr (qe_call (ok_need T) (hr.mono (by decide)) (.inl rfl) T.m_need T.F_need.kp T.b_need tk (qa_cons (qe_and (qe_call (ok_is_whole T) (hr.mono (by decide)) (.inl rfl) T.m_is_whole T.F_is_whole.kp T.b_is_whole tk (qa_cons (qv 3) (qa_cons (qe_neg (qe_gint T.g_MOST_LEAD)) (qa_cons qe_int qa_nil)))) (qe_one (qe_call (ok_is_whole T) (hr.mono (by decide)) (.inl rfl) T.m_is_whole T.F_is_whole.kp T.b_is_whole tk (qa_cons (qv 4) (qa_cons qe_int (qa_cons (qe_gint T.g_MOST_LEAD) qa_nil)))))) qa_nil)))
  (qss_cons (qs_fld (K := K) rfl (qv 0) (qv 1))
  (qss_cons (qs_fld (K := K) rfl (qv 0) (qv 3))
  (qss_cons (qs_fld (K := K) rfl (qv 0) (qv 4))
  (qss_cons (qs_fld (K := K) rfl (qv 0) qe_dict0)
  (qss_one (qs_fld (K := K) rfl (qv 0) qe_dict0)))))))))), ?_⟩
  clear tk po
  clear hr
  rintro xs M Q E ⟨a, xr, xw, xl, xm, rfl, ha, ⟨y, r, l, m, ⟨rfl, rfl, hxl, rfl⟩, hr, hl, hm, k⟩ | ⟨hb, k⟩⟩
  · rcases hxl with rfl | ⟨rfl, rfl⟩
    all_goals
      walk_at "q"
      try rw [show (0 : Int) - 60 = -60 from rfl]
      refine ⟨_, _, _, rfl, ?_⟩
      unfold whP
      walk_at "q"
      rw [decide_eq_true hr]
      refine ⟨_, rfl, ?_⟩
      rw [if_pos rfl]
      walk_at "q"
      refine ⟨_, rfl, .inl ⟨y, rfl, ?_⟩⟩
      walk_at "q"
      refine name_md T y (fun z hz => ?_)
      walk_at "q"
      refine hz ?_
      walk_at "q"
      refine sto_ins ha T.i_Context.cl T.no_Context_manner rfl (by decide) ?_
      walk_at "q"
      refine ⟨_, _, _, rfl, ?_⟩
      walk_at "q"
      try
        refine iteP_t hl ?_
        walk_at "q"
      refine ⟨_, _, _, rfl, ?_⟩
      walk_at "q"
      rw [decide_eq_true hm]
      refine ⟨_, rfl, ?_⟩
      rw [if_pos rfl]
      walk_at "q"
      refine sto_ins mset_same T.i_Context.cl T.no_Context_room rfl (by decide) ?_
      walk_at "q"
      refine sto_ins mset_same T.i_Context.cl T.no_Context_least rfl (by decide) ?_
      walk_at "q"
      refine sto_ins mset_same T.i_Context.cl T.no_Context_most rfl (by decide) ?_
      walk_at "q"
      refine dicB_of fun p hp => ?_
      have ap : a ≠ p := by rintro rfl; rw [mset_same] at hp; cases hp
      have hp0 : M p = none := by rw [mset_ne ap.symm] at hp; exact hp
      walk_at "q"
      refine sto_ins ((mset_ne ap).trans mset_same) T.i_Context.cl T.no_Context_standing rfl (by decide) ?_
      walk_at "q"
      refine dicB_of fun q hq => ?_
      have aq : a ≠ q := by rintro rfl; rw [mset_same] at hq; cases hq
      have hq1 := hq
      rw [mset_ne aq.symm] at hq
      have pq : p ≠ q := by rintro rfl; rw [mset_same] at hq; cases hq
      have hq0 : M q = none := by rw [mset_ne pq.symm, mset_ne aq.symm] at hq; exact hq
      walk_at "q"
      refine sto_ins ((mset_ne aq).trans mset_same) T.i_Context.cl T.no_Context_caught rfl (by decide) ?_
      walk_at "q"
      refine k p q _ (fun b hb hn => ?_) hp0 hq0 ⟨?_, ⟨[], ?_⟩, ⟨[], ?_⟩, pq, List.nodup_nil, by decide, hr, hl, hm⟩
      · have bp : b ≠ p := by rintro rfl; exact hn hp0
        have bq : b ≠ q := by rintro rfl; exact hn hq0
        simp only [mset_ne hb, mset_ne bp, mset_ne bq]
      · rw [mset_same]
        simp (decide := true) [putN, putX]
      · rw [mset_ne ap.symm, mset_ne pq, mset_ne ap.symm, mset_same]
        rfl
      · rw [mset_ne aq.symm, mset_same]
        rfl
  · have k0 := k M fun _ _ => rfl
    have k1 : ∀ o, E (.ref T.c_BadContext) none (mset M a o) := fun o => k _ fun b hb => mset_ne hb
    clear k
    walk_at "s"
    refine seq_cut (fun env M2 => M2 = M ∧ ∃ xl' : PV, ((xl = .non ∧ xl' = .int (-60)) ∨ (xl ≠ .non ∧ xl' = xl)) ∧ env = [some (.ref a), some xr, some xw, some xl', some xm]) (fun R hR => ?_) ?_
    · walk_at "q"
      by_cases hx : xl = .non
      · subst hx
        walk_at "q"
        exact hR _ _ ⟨rfl, _, .inl ⟨rfl, rfl⟩, rfl⟩
      · rw [isN_ne hx]
        walk_at "q"
        exact hR _ _ ⟨rfl, _, .inr ⟨hx, rfl⟩, rfl⟩
    rintro _ M2 ⟨rfl, xl', hxl, rfl⟩
    rcases hb with hb | ⟨⟨r, rfl, hr⟩, hb⟩
    · walk_at "q"
      refine ⟨_, _, _, rfl, hb.wh ?_⟩
      walk_at "q"
      refine ⟨_, rfl, ?_⟩
      rw [if_neg (by decide)]
      exact k0
    · walk_at "q"
      refine ⟨_, _, _, rfl, ?_⟩
      unfold whP
      walk_at "q"
      rw [decide_eq_true hr]
      refine ⟨_, rfl, ?_⟩
      rw [if_pos rfl]
      walk_at "q"
      rcases hb with hb | ⟨⟨y, rfl⟩, hb⟩
      · exact ⟨_, rfl, .inr ⟨hb, k0⟩⟩
      · refine ⟨_, rfl, .inl ⟨y, rfl, ?_⟩⟩
        walk_at "q"
        refine name_md T y (fun z hz => ?_)
        walk_at "q"
        refine hz ?_
        walk_at "q"
        refine sto_ins ha T.i_Context.cl T.no_Context_manner rfl (by decide) ?_
        rcases hb with ⟨hn, hb⟩ | ⟨⟨l, rfl, hl⟩, hb⟩
        · obtain ⟨_, rfl⟩ := hxl.resolve_left (fun z => hn z.1)
          walk_at "q"
          refine ⟨_, _, _, rfl, (hb.put ha).wh ?_⟩
          walk_at "q"
          refine ⟨_, rfl, ?_⟩
          rw [if_neg (by decide)]
          exact k1 _
        · obtain ⟨_, rfl⟩ := hxl.resolve_left (fun z => by cases z.1)
          walk_at "q"
          refine ⟨_, _, _, rfl, ?_⟩
          walk_at "q"
          refine iteP_t hl ?_
          walk_at "q"
          refine ⟨_, _, _, rfl, (hb.put ha).wh ?_⟩
          walk_at "q"
          refine ⟨_, rfl, ?_⟩
          rw [if_neg (by decide)]
          exact k1 _

/-! Context_flags -/
def sp_Context_flags (T : Tx K mg) : SpQ := fun xs M Q _ => ∃ (a d1 d2 : Addr) (y : Wy) (r l m : Int) (F C : List Str), xs = [.ref a] ∧ Ctx T M a d1 d2 y r l m F C ∧ Q (.lst ((flagsOf F).map PV.str)) M
theorem sp_Context_flags_len (T : Tx K mg) : ∀ xs M Q E, sp_Context_flags T xs M Q E → xs.length = 1 := fun xs M Q E ⟨_, _, _, _, _, _, _, _, _, h, _⟩ => by rw [h]; rfl
theorem ok_Context_flags (T : Tx K mg) : FnQ P w K mg base 1 T.a_Context_flags T.d_Context_flags ["self"] (sp_Context_flags T) := by
  refine okQ T.F_Context_flags sc_Context_flags (sp_Context_flags_len T) (fun cdv A outer s0 H0 E hr => ?_)
  have tk := L2N.takes_of (X := cxOf (L2N.CX P w) P w K mg base ["self", "name"] "Context.flags" (defScope s_Context_flags) T.a_Context_flags cdv A outer s0 H0 E) (E := E) rfl rfl rfl rfl
  have po := passes_of (X := cxOf (L2N.CX P w) P w K mg base ["self", "name"] "Context.flags" (defScope s_Context_flags) T.a_Context_flags cdv A outer s0 H0 E) rfl
  refine ⟨_, (qss_one (qs_ret (qe_lcT (own := [("name", 1)]) (j := 1) (.inl rfl) sc_Context_flags.nd (qe_gtup (ys := gl_SIGNALS) T.g_SIGNALS T.k_SIGNALS) (by decide) (blkOk_by (own := [("name", 1)]) (N := ["self", "name"]) (sc := defScope s_Context_flags) (by decide +kernel)) (fun _ _ _ _ _ _ => pg_name (i := 1) sc_Context_flags.nd rfl (Or.inl rfl)) (fun _ _ _ _ _ _ => (qts_one (qt_cmp (oq_in hr.units) (qv 1) (qe_fldK (K := K) rfl (qv 0))))) (fun _ _ _ _ _ _ => (qv 1))))), ?_⟩
  clear tk po
  clear hr
  rintro xs M Q E ⟨a, d1, d2, y, r, l, m, F, C, rfl, c, k⟩
  walk_at "q"
  refine lcT_of (keepS F) (by decide) (fun x hx M2 hM2 => ?_) ?_
  · rw [gl_sigs] at hx
    obtain ⟨s, _, rfl⟩ := List.mem_map.mp hx
    have c2 := c.ext hM2
    obtain ⟨vs, h1⟩ := c2.fl
    walk_at "q"
    rw [fldw_Context_standing T c2.self]
    walk_at "q"
    rw [inP_rd h1, show (keyP (.str s)).map (fun k => memK k (F.map sk)) = some (decide (s ∈ F)) from congrArg some (sk_mem s F)]
    walk_at "q"
    refine iteP_of (fun h => ?_) (fun h => ?_)
    · walk_at "q"
      exact if_pos h
    · walk_at "q"
      exact if_neg h
  · walk_at "q"
    rw [gl_sigs, keepS_map]
    exact k

/-! Context_clear -/
def sp_Context_clear (T : Tx K mg) : SpQ := fun xs M Q _ => ∃ (a d1 d2 : Addr) (y : Wy) (r l m : Int) (F C : List Str), xs = [.ref a] ∧ Ctx T M a d1 d2 y r l m F C ∧ ∀ p M', M p = none → (∀ b, b ≠ a → M b ≠ none → M' b = M b) → Ctx T M' a p d2 y r l m [] C → Q .non M'
theorem sp_Context_clear_len (T : Tx K mg) : ∀ xs M Q E, sp_Context_clear T xs M Q E → xs.length = 1 := fun xs M Q E ⟨_, _, _, _, _, _, _, _, _, h, _⟩ => by rw [h]; rfl
theorem ok_Context_clear (T : Tx K mg) : FnQ P w K mg base 1 T.a_Context_clear T.d_Context_clear ["self"] (sp_Context_clear T) := by
  refine okQ T.F_Context_clear sc_Context_clear (sp_Context_clear_len T) (fun cdv A outer s0 H0 E hr => ?_)
  have tk := L2N.takes_of (X := cxOf (L2N.CX P w) P w K mg base ["self"] "Context.clear" (defScope s_Context_clear) T.a_Context_clear cdv A outer s0 H0 E) (E := E) rfl rfl rfl rfl
  have po := passes_of (X := cxOf (L2N.CX P w) P w K mg base ["self"] "Context.clear" (defScope s_Context_clear) T.a_Context_clear cdv A outer s0 H0 E) rfl
  refine ⟨_, (qss_one (qs_fld (K := K) rfl (qv 0) qe_dict0)), ?_⟩
  clear tk po
  clear hr
  rintro xs M Q E ⟨a, d1, d2, y, r, l, m, F, C, rfl, c, k⟩
  walk_at "q"
  refine dicB_of fun p hp => ?_
  walk_at "q"
  have ap : a ≠ p := by rintro rfl; rw [c.self] at hp; cases hp
  have hs : mset M p (.dic [] []) a = _ := (mset_ne ap).trans c.self
  refine sto_ins hs T.i_Context.cl T.no_Context_standing rfl (by decide) ?_
  walk_at "q"
  obtain ⟨ws, h2⟩ := c.ca
  have d2p : d2 ≠ p := by rintro rfl; rw [h2] at hp; cases hp
  refine k p _ hp (fun b hb hn => ?_) ⟨by rw [mset_same]; rfl, ⟨[], by rw [mset_ne ap.symm, mset_same]; rfl⟩, ⟨ws, by rw [mset_ne c.ne2.symm, mset_ne d2p]; exact h2⟩, d2p.symm, List.nodup_nil, by decide, c.room, c.least, c.most⟩
  rw [mset_ne hb, mset_ne (by rintro rfl; exact hn hp)]

/-! Context_trap -/
def sgP (x : PV) : Option PV := some (.bl (sgX x))
def prP : PV → Option PV
  | .str s => some (.tup [.str s, .bl true])
  | _ => none
theorem mg_sk : ∀ (N F : List Str) (us : List PV), (mgP (F.map sk) us (N.map fun n => (sk n, PV.bl true))).1 = (raiseF F N).map sk
  | [], F, us => rfl
  | n :: N, F, us => by
    rw [List.map_cons]
    show (mgP (putN (sk n) (F.map sk)) _ (N.map fun n => (sk n, PV.bl true))).1 = _
    rw [sk_put]
    exact mg_sk N _ _
theorem bls_map : ∀ bs : List Bool, bls (bs.map PV.bl) = some bs
  | [] => rfl
  | b :: bs => by
    rw [List.map_cons]
    show (bls (bs.map PV.bl)).map (b :: ·) = _
    rw [bls_map bs]
    rfl
theorem all_lst {bs : List Bool} {M : Mem} {Q : TQ.PK} (q : Q (.bl (bs.all id)) M) : cAll [.lst (bs.map PV.bl)] M Q := ⟨bs, bls_map bs, q⟩
theorem fm_sg (ys : List PV) : ys.filterMap sgP = (ys.map sgX).map PV.bl := by
  rw [List.map_map, ← List.filterMap_eq_map]
  rfl
def sp_Context_trap (T : Tx K mg) : SpQ := fun xs M Q E => ∃ (a : Addr) (x : PV) (d1 d2 : Addr) (y : Wy) (r l m : Int) (F C : List Str), xs = [.ref a, x] ∧ Ctx T M a d1 d2 y r l m F C ∧
  ((∃ N : List Str, (x = .lst (N.map PV.str) ∨ ∃ p, x = .ref p ∧ M p = some (.lst (N.map PV.str))) ∧ (∀ n ∈ N, n ∈ sigs) ∧ N.length ≤ 100 ∧
    ∀ q M', M q = none → (∀ b, b ≠ a → M b ≠ none → M' b = M b) → Ctx T M' a d1 q y r l m F (raiseF [] N) → Q .non M') ∨ (BadTrap M x ∧ E (.ref T.c_BadContext) none M))
theorem sp_Context_trap_len (T : Tx K mg) : ∀ xs M Q E, sp_Context_trap T xs M Q E → xs.length = 2 := fun xs M Q E ⟨_, _, _, _, _, _, _, _, _, _, h, _⟩ => by rw [h]; rfl
theorem ok_Context_trap (T : Tx K mg) : FnQ P w K mg base 2 T.a_Context_trap T.d_Context_trap ["self", "names"] (sp_Context_trap T) := by
  refine okQ T.F_Context_trap sc_Context_trap (sp_Context_trap_len T) (fun cdv A outer s0 H0 E hr => ?_)
  have tk := L2N.takes_of (X := cxOf (L2N.CX P w) P w K mg base ["self", "names", "name"] "Context.trap" (defScope s_Context_trap) T.a_Context_trap cdv A outer s0 H0 E) (E := E) rfl rfl rfl rfl
  have po := passes_of (X := cxOf (L2N.CX P w) P w K mg base ["self", "names", "name"] "Context.trap" (defScope s_Context_trap) T.a_Context_trap cdv A outer s0 H0 E) rfl
  refine ⟨_, (qss_cons (qs_expr (qe_call (ok_need T) hr (.inl rfl) T.m_need T.F_need.kp T.b_need tk (qa_cons (qe_and (qe_callB (id := "isinstance") (cq_isiK (K := K) rfl) T.n_isinstance (qa_cons (qv 1) (qa_cons (qe_ty (n := "list") T.n_list) qa_nil))) (qe_one (qe_callB (id := "all") (cq_all (.inl rfl)) T.n_all (qa_cons (qe_lcL (own := [("name", 2)]) (j := 2) (.inl rfl) sc_Context_trap.nd (qv 1) (by decide) (blkOk_by (own := [("name", 2)]) (N := ["self", "names", "name"]) (sc := defScope s_Context_trap) (by decide +kernel)) (fun _ _ _ _ _ _ => pg_name (i := 2) sc_Context_trap.nd rfl (Or.inl rfl)) (fun _ _ _ _ _ _ => qts_nil) (fun _ _ _ _ _ _ => (qe_call (ok_is_signal T) hr (.inl rfl) T.m_is_signal T.F_is_signal.kp T.b_is_signal takesN0 (qa_cons (qv 2) qa_nil)))) qa_nil)))) qa_nil)))
  (qss_one (qs_fld (K := K) rfl (qv 0) (qe_callT (T := "dict") (cq_dict (.inl rfl)) T.n_dict (qa_cons (qe_lcL (own := [("name", 2)]) (j := 2) (.inl rfl) sc_Context_trap.nd (qv 1) (by decide) (blkOk_by (own := [("name", 2)]) (N := ["self", "names", "name"]) (sc := defScope s_Context_trap) (by decide +kernel)) (fun _ _ _ _ _ _ => pg_name (i := 2) sc_Context_trap.nd rfl (Or.inl rfl)) (fun _ _ _ _ _ _ => qts_nil) (fun _ _ _ _ _ _ => (qe_tup (qa_cons (qv 2) (qa_cons qe_bl qa_nil))))) qa_nil))))), ?_⟩
  clear tk po
  clear hr
  rintro xs M Q E ⟨a, x, d1, d2, y, r, l, m, F, C, rfl, c, ⟨N, hx, hN, hl, k⟩ | ⟨hb, k⟩⟩
  · have hsq : sqA M x = some (N.map PV.str) := by
      rcases hx with rfl | ⟨p, rfl, hp⟩
      · rfl
      · exact sqA_ref hp
    have his : ∀ {R : Box TQ.PK}, R.v (.bl true) M → @isiB K x (.ty "list") M R := fun {R} q => by
      rcases hx with rfl | ⟨p, rfl, hp⟩
      · rw [isB_ll]; exact q
      · rw [isB_rl hp]; exact q
    walk_at "q"
    refine his ?_
    walk_at "q"
    rw [hsq]
    refine lcL_of sgP (by rw [List.length_map]; omega) (fun x hx M2 hM2 => ?_) ?_
    · obtain ⟨s, _, rfl⟩ := List.mem_map.mp hx
      walk_at "q"
      refine ⟨_, rfl, .inl ⟨s, rfl⟩, ?_⟩
      walk_at "q"
      rfl
    rw [fm_sg]
    walk_at "q"
    refine all_lst ?_
    rw [show ((N.map PV.str).map sgX).all id = true from by rw [List.map_map, List.all_map, List.all_eq_true]; exact fun x hx => decide_eq_true (hN x hx)]
    refine ⟨true, rfl, ?_⟩
    rw [if_pos rfl]
    walk_at "q"
    rw [hsq]
    refine lcL_of prP (by rw [List.length_map]; omega) (fun x hx M2 hM2 => ?_) ?_
    · obtain ⟨s, _, rfl⟩ := List.mem_map.mp hx
      walk_at "q"
      rfl
    have e2 : (N.map PV.str).filterMap prP = (N.map fun n => (sk n, PV.bl true)).map pairP := by
      rw [List.filterMap_map, List.map_map, ← List.filterMap_eq_map]
      rfl
    rw [e2]
    walk_at "q"
    refine dict_of (N.map fun n => (sk n, PV.bl true)) rfl (fun q hq => ?_)
    walk_at "q"
    have cq : Ctx T (mset M q (.dic (mgP [] [] (N.map fun n => (sk n, PV.bl true))).1 (mgP [] [] (N.map fun n => (sk n, PV.bl true))).2)) a d1 d2 y r l m F C := c.ext (mext_set hq)
    have ap : a ≠ q := by rintro rfl; rw [c.self] at hq; cases hq
    refine sto_ins cq.self T.i_Context.cl T.no_Context_caught rfl (by decide) ?_
    walk_at "q"
    obtain ⟨ws, h1⟩ := c.fl
    have d1q : d1 ≠ q := by rintro rfl; rw [h1] at hq; cases hq
    have em : (mgP [] [] (N.map fun n => (sk n, PV.bl true))).1 = (raiseF [] N).map sk := mg_sk N [] []
    refine k q _ hq (fun b hb hn => ?_) ⟨by rw [mset_same]; rfl, ⟨ws, by rw [mset_ne c.ne1.symm, mset_ne d1q]; exact h1⟩, ⟨_, by rw [mset_ne ap.symm, mset_same, em]⟩, d1q, c.nf, c.lf, c.room, c.least, c.most⟩
    rw [mset_ne hb, mset_ne (by rintro rfl; exact hn hq)]
  · rcases hb with hb | ⟨p, ys, rfl, hp, hl, he, hf⟩
    · walk_at "q"
      rw [not_lst hb]
      walk_at "q"
      refine ⟨_, rfl, ?_⟩
      rw [if_neg (by decide)]
      exact k
    · walk_at "q"
      rw [isB_rl hp]
      walk_at "q"
      rw [sqA_ref hp]
      refine lcL_of sgP (by omega) (fun x hx M2 hM2 => ?_) ?_
      · walk_at "q"
        refine ⟨_, rfl, (he x hx).imp id fun z => z.ext hM2, ?_⟩
        walk_at "q"
        rfl
      rw [fm_sg]
      walk_at "q"
      refine all_lst ?_
      rw [show (ys.map sgX).all id = false from by
        obtain ⟨z, hz, e⟩ := hf
        rw [List.all_map, Bool.eq_false_iff]
        intro h
        have := List.all_eq_true.mp h z hz
        rw [Function.comp, id, e] at this
        cases this]
      refine ⟨_, rfl, ?_⟩
      rw [if_neg (by decide)]
      exact k

/-! Context_traps -/
def sp_Context_traps (T : Tx K mg) : SpQ := fun xs M Q _ => ∃ (a d1 d2 : Addr) (y : Wy) (r l m : Int) (F C : List Str), xs = [.ref a] ∧ Ctx T M a d1 d2 y r l m F C ∧ Q (.lst ((flagsOf C).map PV.str)) M
theorem sp_Context_traps_len (T : Tx K mg) : ∀ xs M Q E, sp_Context_traps T xs M Q E → xs.length = 1 := fun xs M Q E ⟨_, _, _, _, _, _, _, _, _, h, _⟩ => by rw [h]; rfl
theorem ok_Context_traps (T : Tx K mg) : FnQ P w K mg base 1 T.a_Context_traps T.d_Context_traps ["self"] (sp_Context_traps T) := by
  refine okQ T.F_Context_traps sc_Context_traps (sp_Context_traps_len T) (fun cdv A outer s0 H0 E hr => ?_)
  have tk := L2N.takes_of (X := cxOf (L2N.CX P w) P w K mg base ["self", "name"] "Context.traps" (defScope s_Context_traps) T.a_Context_traps cdv A outer s0 H0 E) (E := E) rfl rfl rfl rfl
  have po := passes_of (X := cxOf (L2N.CX P w) P w K mg base ["self", "name"] "Context.traps" (defScope s_Context_traps) T.a_Context_traps cdv A outer s0 H0 E) rfl
  refine ⟨_, (qss_one (qs_ret (qe_lcT (own := [("name", 1)]) (j := 1) (.inl rfl) sc_Context_traps.nd (qe_gtup (ys := gl_SIGNALS) T.g_SIGNALS T.k_SIGNALS) (by decide) (blkOk_by (own := [("name", 1)]) (N := ["self", "name"]) (sc := defScope s_Context_traps) (by decide +kernel)) (fun _ _ _ _ _ _ => pg_name (i := 1) sc_Context_traps.nd rfl (Or.inl rfl)) (fun _ _ _ _ _ _ => (qts_one (qt_cmp (oq_in hr.units) (qv 1) (qe_fldK (K := K) rfl (qv 0))))) (fun _ _ _ _ _ _ => (qv 1))))), ?_⟩
  clear tk po
  clear hr
  rintro xs M Q E ⟨a, d1, d2, y, r, l, m, F, C, rfl, c, k⟩
  walk_at "q"
  refine lcT_of (keepS C) (by decide) (fun x hx M2 hM2 => ?_) ?_
  · rw [gl_sigs] at hx
    obtain ⟨s, _, rfl⟩ := List.mem_map.mp hx
    have c2 := c.ext hM2
    obtain ⟨vs, h1⟩ := c2.ca
    walk_at "q"
    rw [fldw_Context_caught T c2.self]
    walk_at "q"
    rw [inP_rd h1, show (keyP (.str s)).map (fun k => memK k (C.map sk)) = some (decide (s ∈ C)) from congrArg some (sk_mem s C)]
    walk_at "q"
    refine iteP_of (fun h => ?_) (fun h => ?_)
    · walk_at "q"
      exact if_pos h
    · walk_at "q"
      exact if_neg h
  · walk_at "q"
    rw [gl_sigs, keepS_map]
    exact k

/-! Context_raised -/
def sp_Context_raised (T : Tx K mg) : SpQ := fun xs M Q _ => ∃ (a d1 d2 : Addr) (y : Wy) (r l m : Int) (F C N : List Str), xs = [.ref a, .lst (N.map PV.str)] ∧ Ctx T M a d1 d2 y r l m F C ∧ F.length + N.length ≤ 1000 ∧ (∀ n ∈ N, n ∉ C) ∧
  ∀ M', (∀ b, b ≠ d1 → M' b = M b) → Ctx T M' a d1 d2 y r l m (raiseF F N) C → Q .non M'
theorem sp_Context_raised_len (T : Tx K mg) : ∀ xs M Q E, sp_Context_raised T xs M Q E → xs.length = 2 := fun xs M Q E ⟨_, _, _, _, _, _, _, _, _, _, h, _⟩ => by rw [h]; rfl
theorem ok_Context_raised (T : Tx K mg) : FnQ P w K mg base 1 T.a_Context_raised T.d_Context_raised ["self", "names"] (sp_Context_raised T) := by
  refine okQ T.F_Context_raised sc_Context_raised (sp_Context_raised_len T) (fun cdv A outer s0 H0 E hr => ?_)
  have tk := L2N.takes_of (X := cxOf (L2N.CX P w) P w K mg base ["self", "names", "name"] "Context.raised" (defScope s_Context_raised) T.a_Context_raised cdv A outer s0 H0 E) (E := E) rfl rfl rfl rfl
  have po := passes_of (X := cxOf (L2N.CX P w) P w K mg base ["self", "names", "name"] "Context.raised" (defScope s_Context_raised) T.a_Context_raised cdv A outer s0 H0 E) rfl
  refine ⟨_, (qss_cons (qs_forL po (.inl rfl) (qv 1) (qg_name (i := 2) sc_Context_raised.nd)
  (qss_one (qs_dput (hu1 hr) (qe_fldK (K := K) rfl (qv 0)) (qv 2) qe_bl)))
  (qss_one (qs_forT po (.inl rfl) (qe_gtup (ys := gl_SIGNALS) T.g_SIGNALS T.k_SIGNALS) (qg_name (i := 2) sc_Context_raised.nd)
  (qss_one (qs_if (qt_w (qw_and (qt_cmp (oq_in hr.units) (qv 2) (qv 1)) (qw_one_and (qt_cmp (oq_in hr.units) (qv 2) (qe_fldK (K := K) rfl (qv 0))))))
  (qss_one qs_never)
  qss_nil))))), ?_⟩
  clear tk po
  clear hr
  rintro xs M Q E ⟨a, d1, d2, y, r, l, m, F, C, N, rfl, c, hl, hN, k⟩
  walk_at "q"
  refine forI_of (fun i env M' => ∃ o : Option PV, env = [some (.ref a), some (.lst (N.map PV.str)), o] ∧ (∀ b, b ≠ d1 → M' b = M b) ∧ Ctx T M' a d1 d2 y r l m (raiseF F (N.take i)) C) ⟨none, rfl, fun _ _ => rfl, c⟩ (fun _ _ _ _ _ => trivial) ?_ ?_
  · rintro i x env M' hi hx ⟨o, rfl, hM, c'⟩
    rw [List.getElem?_map] at hx
    cases hn : N[i]? with
    | none => rw [hn] at hx; cases hx
    | some n =>
      rw [hn] at hx
      cases hx
      walk_at "q"
      rw [fldw_Context_standing T c'.self]
      walk_at "q"
      obtain ⟨vs, h1⟩ := c'.fl
      have ll := c'.lf
      have hll : (putN n (raiseF F (N.take i))).length ≤ 1000 := by
        rw [← raise_next hn]
        refine Nat.le_trans raise_length ?_
        have := List.length_take_le (i + 1) N
        have := List.length_take_le' (i + 1) N
        omega
      refine put_dic h1 rfl (sk_nodup c'.nf) (len_lt' (by rw [List.length_map]; exact ll)) ?_
      walk_at "q"
      refine ⟨_, rfl, fun b hb => by rw [mset_ne hb]; exact hM b hb, ?_⟩
      rw [raise_next hn]
      exact c'.flag .non hll
  · rintro env M' ⟨o, rfl, hM, c'⟩
    rw [List.length_map, List.take_length] at c'
    walk_at "q"
    refine forI_of (fun i env M2 => M2 = M' ∧ ∃ o : Option PV, env = [some (.ref a), some (.lst (N.map PV.str)), o]) ⟨rfl, o, rfl⟩ (fun _ _ _ _ _ => trivial) ?_ ?_
    · rintro i x env M2 hi hx ⟨rfl, o, rfl⟩
      rw [gl_sigs, List.getElem?_map] at hx
      cases hn : sigs[i]? with
      | none => rw [hn] at hx; cases hx
      | some n =>
        rw [hn] at hx
        cases hx
        walk_at "q"
        rw [inPs_s]
        walk_at "q"
        refine iteP_of (fun h => ?_) (fun h => ?_)
        · walk_at "q"
          rw [fldw_Context_caught T c'.self]
          walk_at "q"
          obtain ⟨ws, h2⟩ := c'.ca
          rw [inP_rd h2, show (keyP (.str n)).map (fun k => memK k (C.map sk)) = some (decide (n ∈ C)) from congrArg some (sk_mem n C)]
          walk_at "q"
          refine iteP_f (hN n h) ?_
          walk_at "q"
          exact ⟨_, rfl⟩
        · walk_at "q"
          exact ⟨_, rfl⟩
    · rintro env M2 ⟨rfl, o, rfl⟩
      walk_at "q"
      exact k _ hM c'

/-! _law_cell_at -/
def sp__law_cell_at : SpQ := fun xs M Q _ => ∃ (ns : List Int) (k : Int), xs = [.scr ns, .int k] ∧ 0 ≤ k ∧ Q (.int (cell ns k)) M
theorem sp__law_cell_at_len : ∀ xs M Q E, sp__law_cell_at xs M Q E → xs.length = 2 := fun xs M Q E ⟨_, _, h, _⟩ => by rw [h]; rfl
theorem ok__law_cell_at (T : Tx K mg) : FnQ P w K mg base 1 T.a__law_cell_at T.d__law_cell_at ["_law_script", "_law_k"] sp__law_cell_at := by
  refine okQ T.F__law_cell_at sc__law_cell_at sp__law_cell_at_len (fun cdv A outer s0 H0 E hr => ?_)
  have tk := L2N.takes_of (X := cxOf (L2N.CX P w) P w K mg base ["_law_script", "_law_k"] "_law_cell_at" (defScope s__law_cell_at) T.a__law_cell_at cdv A outer s0 H0 E) (E := E) rfl rfl rfl rfl
  have po := passes_of (X := cxOf (L2N.CX P w) P w K mg base ["_law_script", "_law_k"] "_law_cell_at" (defScope s__law_cell_at) T.a__law_cell_at cdv A outer s0 H0 E) rfl
  refine ⟨_, (qss_cons (qs_if (qt_cmp oq_lt (qv 1) (qe_callB (id := "len") cq_len T.n_len (qa_cons (qv 0) qa_nil)))
  (qss_one (qs_ret (qe_ix (qv 0) (qv 1))))
  qss_nil)
  (qss_one (qs_ret qe_int))), ?_⟩
  clear tk po
  clear hr
  rintro xs M Q E ⟨ns, k, rfl, hk, h⟩
  walk_at "q"
  refine iteP_of (fun h1 => ?_) (fun h1 => ?_)
  · walk_at "q"
    rw [cell_at hk h1]
    walk_at "q"
    exact h
  · walk_at "q"
    rw [cell_no hk h1] at h
    exact h

/-! _law_mixed -/
def sp__law_mixed : SpQ := fun xs M Q _ => ∃ c k : Int, xs = [.int c, .int k] ∧ (0 ≤ k ∧ k ≤ 1000) ∧ Q (.int (mixed c k)) M
theorem sp__law_mixed_len : ∀ xs M Q E, sp__law_mixed xs M Q E → xs.length = 2 := fun xs M Q E ⟨_, _, h, _⟩ => by rw [h]; rfl
theorem ok__law_mixed (T : Tx K mg) : FnQ P w K mg base 1 T.a__law_mixed T.d__law_mixed ["_law_cell", "_law_k"] sp__law_mixed := by
  refine okQ T.F__law_mixed sc__law_mixed sp__law_mixed_len (fun cdv A outer s0 H0 E hr => ?_)
  have tk := L2N.takes_of (X := cxOf (L2N.CX P w) P w K mg base ["_law_cell", "_law_k"] "_law_mixed" (defScope s__law_mixed) T.a__law_mixed cdv A outer s0 H0 E) (E := E) rfl rfl rfl rfl
  have po := passes_of (X := cxOf (L2N.CX P w) P w K mg base ["_law_cell", "_law_k"] "_law_mixed" (defScope s__law_mixed) T.a__law_mixed cdv A outer s0 H0 E) rfl
  refine ⟨_, (qss_one (qs_ret (qe_bin oq_mod (qe_bin oq_mul (qe_bin oq_mod (qe_bin oq_add (qe_bin oq_add (qe_bin oq_mul (qv 0) (qe_bin oq_add qe_int (qe_bin oq_mul (qe_bin oq_mul qe_int (qv 1)) (qv 1)))) (qe_bin oq_mul qe_int (qv 1))) qe_int) qe_int) qe_int) qe_int))), ?_⟩
  clear tk po
  clear hr
  rintro xs M Q E ⟨c, k, rfl, hk, h⟩
  walk_at "q"
  have h1 : k * k ≤ 1000 * k := Int.mul_le_mul_of_nonneg_right hk.2 hk.1
  have h0 : 0 ≤ k * k := Int.mul_nonneg hk.1 hk.1
  have e2 : 2 * k * k = 2 * (k * k) := Int.mul_assoc 2 k k
  exact ⟨by mul_fits, by mul_fits, by mul_fits, by mul_fits, by mul_fits, h⟩

/-! _law_signals -/
def sp__law_signals : SpQ := fun xs M Q _ => xs = [] ∧ Q (.lst (sigs.map PV.str)) M
theorem sp__law_signals_len : ∀ xs M Q E, sp__law_signals xs M Q E → xs.length = 0 := fun xs M Q E h => by rw [h.1]; rfl
theorem ok__law_signals (T : Tx K mg) : FnQ P w K mg base 1 T.a__law_signals T.d__law_signals [] sp__law_signals := by
  refine okQ T.F__law_signals sc__law_signals sp__law_signals_len (fun cdv A outer s0 H0 E hr => ?_)
  have tk := L2N.takes_of (X := cxOf (L2N.CX P w) P w K mg base [] "_law_signals" (defScope s__law_signals) T.a__law_signals cdv A outer s0 H0 E) (E := E) rfl rfl rfl rfl
  have po := passes_of (X := cxOf (L2N.CX P w) P w K mg base [] "_law_signals" (defScope s__law_signals) T.a__law_signals cdv A outer s0 H0 E) rfl
  refine ⟨_, (qss_one (qs_ret (qe_lst (qa_cons qe_str (qa_cons qe_str (qa_cons qe_str (qa_cons qe_str (qa_cons qe_str (qa_cons qe_str (qa_cons qe_str qa_nil)))))))))), ?_⟩
  clear tk po
  clear hr
  rintro xs M Q E ⟨rfl, k⟩
  walk_at "q"
  exact k

/-! _law_word -/
def sp__law_word (T : Tx K mg) : Addr → Addr → SpQ := fun D ea xs M Q _ => xs = [.ref ea] ∧ D = T.c_BadContext ∧ ∀ M', MExt M M' → Q (.str "context") M'
theorem sp__law_word_len (T : Tx K mg) : ∀ D ea xs M Q E, sp__law_word T D ea xs M Q E → xs.length = 1 := fun D ea xs M Q E ⟨h, _⟩ => by rw [h]; rfl
theorem okE__law_word (T : Tx K mg) : FnE P w K mg base 1 T.a__law_word T.d__law_word ["_law_e"] (sp__law_word T) := by
  refine okE T.F__law_word sc__law_word (sp__law_word_len T) (fun D ea oe hD hz hv cdv A outer s0 H0 E hr cw => ?_)
  have tk := L2N.takes_of (X := cxB P w K mg base ["_law_e", "_law_found"] "_law_word" (defScope s__law_word) T.a__law_word cdv A outer s0 H0 E false [(ea, oe)]) (E := E) rfl rfl rfl rfl
  have po := passes_of (X := cxB P w K mg base ["_law_e", "_law_found"] "_law_word" (defScope s__law_word) T.a__law_word cdv A outer s0 H0 E false [(ea, oe)]) rfl
  refine ⟨_, (qss_cons (qs_set 1 sc__law_word.nd (qe_bin oq_addM (qe_bin oq_mul (qe_lst (qa_cons qe_str qa_nil)) (qe_callT (T := "int") cq_int T.n_int (qa_cons (qe_callB (id := "isinstance") (cq_isP (List.mem_singleton_self _) hD hz hv) T.n_isinstance (qa_cons (qv 0) (qa_cons (qe_cls T.m_BadContext) qa_nil))) qa_nil))) (qe_bin oq_mul (qe_lst (qa_cons qe_str qa_nil)) (qe_callT (T := "int") cq_int T.n_int (qa_cons (qe_callB (id := "isinstance") (cq_isP (List.mem_singleton_self _) hD hz hv) T.n_isinstance (qa_cons (qv 0) (qa_cons (qe_cls T.m_BadNumber) qa_nil))) qa_nil)))))
  (qss_cons (qs_aug 1 sc__law_word.nd iq_addG (qe_bin oq_add (qe_bin oq_mul (qe_lst (qa_cons qe_str qa_nil)) (qe_callT (T := "int") cq_int T.n_int (qa_cons (qe_callB (id := "isinstance") (cq_isP (List.mem_singleton_self _) hD hz hv) T.n_isinstance (qa_cons (qv 0) (qa_cons (qe_cls T.m_NoText) qa_nil))) qa_nil))) (qe_bin oq_mul (qe_lst (qa_cons qe_str qa_nil)) (qe_callT (T := "int") cq_int T.n_int (qa_cons (qe_callB (id := "isinstance") (cq_isP (List.mem_singleton_self _) hD hz hv) T.n_isinstance (qa_cons (qv 0) (qa_cons (qe_cls T.m_BadCount) qa_nil))) qa_nil)))))
  (qss_cons (qs_aug 1 sc__law_word.nd iq_addG (qe_bin oq_add (qe_bin oq_mul (qe_lst (qa_cons qe_str qa_nil)) (qe_callT (T := "int") cq_int T.n_int (qa_cons (qe_callB (id := "isinstance") (cq_isP (List.mem_singleton_self _) hD hz hv) T.n_isinstance (qa_cons (qv 0) (qa_cons (qe_cls T.m_Trapped) qa_nil))) qa_nil))) (qe_bin oq_mul (qe_lst (qa_cons qe_str qa_nil)) (qe_callT (T := "int") cq_int T.n_int (qa_cons (qe_not (qe_callB (id := "isinstance") (cq_isP (List.mem_singleton_self _) hD hz hv) T.n_isinstance (qa_cons (qv 0) (qa_cons (qe_ty (n := "ValueError") T.n_ValueError) qa_nil)))) qa_nil)))))
  (qss_one (qs_ret (qe_join qe_str (qv 1))))))), ?_⟩
  clear tk po cw
  clear hr
  rintro xs M Q E ⟨rfl, rfl, k⟩
  walk_at "s"
  refine cast (isNB_of (K := K) rfl T.exk_BadContext_BadContext).symm ?_
  walk_at "s"
  refine ⟨by decide, cast (isNB_of (K := K) rfl T.exk_BadContext_BadNumber).symm ?_⟩
  walk_at "s"
  refine ⟨by decide, ?_⟩
  refine ⟨_, _, rfl, rfl, len_ok (by decide), fun p hp => ?_⟩
  walk_at "s"
  refine cast (isNB_of (K := K) rfl T.exk_BadContext_NoText).symm ?_
  walk_at "s"
  refine ⟨by decide, cast (isNB_of (K := K) rfl T.exk_BadContext_BadCount).symm ?_⟩
  walk_at "s"
  refine ⟨by decide, len_ok (by decide), len_ok (by decide), cast (isNB_of (K := K) rfl T.exk_BadContext_Trapped).symm ?_⟩
  walk_at "s"
  refine ⟨by decide, cast (isNB_of (K := K) rfl T.exk_BadContext_ValueError).symm ?_⟩
  walk_at "q"
  refine ⟨by decide, len_ok (by decide), len_ok (by decide), ?_⟩
  refine join_of ["context"] (sq_ref mset_same) (by decide +kernel) ?_
  rw [show Txt.join (Str.ofString "/") [Str.ofString "context"] = Str.ofString "context" from by decide +kernel]
  exact k _ (mext_set hp)

/-! _law_trap -/
def sp__law_trap (T : Tx K mg) : SpQ := fun xs M Q E => ∃ (a : Addr) (x : PV) (d1 d2 : Addr) (y : Wy) (r l m : Int) (F C : List Str), xs = [.ref a, x] ∧ Ctx T M a d1 d2 y r l m F C ∧
  ((∃ N : List Str, (x = .lst (N.map PV.str) ∨ ∃ p, x = .ref p ∧ M p = some (.lst (N.map PV.str))) ∧ (∀ n ∈ N, n ∈ sigs) ∧ N.length ≤ 100 ∧
    ∀ q M', M q = none → (∀ b, b ≠ a → M b ≠ none → M' b = M b) → Ctx T M' a d1 q y r l m F (raiseF [] N) → Q .non M') ∨ (BadTrap M x ∧ ∀ M', MExt M M' → Q (.str "context") M'))
theorem sp__law_trap_len (T : Tx K mg) : ∀ xs M Q E, sp__law_trap T xs M Q E → xs.length = 2 := fun xs M Q E ⟨_, _, _, _, _, _, _, _, _, _, h, _⟩ => by rw [h]; rfl
theorem ok__law_trap (T : Tx K mg) : FnQ P w K mg base 3 T.a__law_trap T.d__law_trap ["_law_context", "_law_names"] (sp__law_trap T) := by
  refine okQ T.F__law_trap sc__law_trap (sp__law_trap_len T) (fun cdv A outer s0 H0 E hr => ?_)
  have tk := L2N.takes_of (X := cxOf (L2N.CX P w) P w K mg base ["_law_context", "_law_names", "_law_e"] "_law_trap" (defScope s__law_trap) T.a__law_trap cdv A outer s0 H0 E) (E := E) rfl rfl rfl rfl
  have po := passes_of (X := cxOf (L2N.CX P w) P w K mg base ["_law_context", "_law_names", "_law_e"] "_law_trap" (defScope s__law_trap) T.a__law_trap cdv A outer s0 H0 E) rfl
  refine ⟨_, (qss_one (qs_tryAsN (i := 2) (c := (.ref T.c_ReckonError)) rfl rfl sc__law_trap.nd rfl rfl ⟨rfl, by decide, .inl T.m_ReckonError⟩ tk (fun W pn xe tk po => (qss_one (qs_ret (qe_meth (qv 0) T.i_Context.cl T.M_Context_trap (ok_Context_trap T) hr (.inl rfl) T.b_Context_trap tk (qa_cons (qv 1) qa_nil))))) (fun D a oe pn hD hz hv => (qss_one (qs_ret (qe_callE (okE__law_word T) (suite_room (hr.mono (by decide))) hD hz hv rfl List.mem_cons_self T.m__law_word T.F__law_word.kp T.b__law_word (qa_cons (qv 2) qa_nil))))))), ?_⟩
  clear tk po
  clear hr
  rintro xs M Q E ⟨a, x, d1, d2, y, r, l, m, F, C, rfl, c, ⟨N, hx, hN, hl, k⟩ | ⟨hb, k⟩⟩
  · walk_at "q"
    rw [mthw_Context_trap T c.self]
    walk_at "q"
    refine ⟨a, x, d1, d2, y, r, l, m, F, C, rfl, c, .inl ⟨N, hx, hN, hl, fun q M' h1 h2 h3 => ?_⟩⟩
    walk_at "q"
    exact k q M' h1 h2 h3
  · walk_at "q"
    rw [mthw_Context_trap T c.self]
    walk_at "q"
    refine ⟨a, x, d1, d2, y, r, l, m, F, C, rfl, c, .inr ⟨hb, ?_⟩⟩
    refine tryN_own T.exm_BadContext_ReckonError T.ec_BadContext (fun ea hea => ?_)
    walk_at "q"
    refine ⟨rfl, rfl, fun M' hM => ?_⟩
    walk_at "q"
    exact k M' hM

/-! _law_odd -/
def sp__law_odd : SpQ := fun xs M Q _ => ∃ (z : Int) (N : List Str), xs = [.int z, .lst (N.map PV.str)] ∧ (0 ≤ z ∧ z < 2 ^ 62) ∧ ((∀ n ∈ N, n ∈ sigs) ∧ N.length ≤ 2) ∧ ∀ x M', MExt M M' → OddT M M' x → Q x M'
theorem sp__law_odd_len : ∀ xs M Q E, sp__law_odd xs M Q E → xs.length = 2 := fun xs M Q E ⟨_, _, h, _⟩ => by rw [h]; rfl
theorem ok__law_odd (T : Tx K mg) : FnQ P w K mg base 2 T.a__law_odd T.d__law_odd ["_law_number", "_law_names"] sp__law_odd := by
  refine okQ T.F__law_odd sc__law_odd sp__law_odd_len (fun cdv A outer s0 H0 E hr => ?_)
  have tk := L2N.takes_of (X := cxOf (L2N.CX P w) P w K mg base ["_law_number", "_law_names", "_law_name", "_law_at", "_law_wrong", "_law_some"] "_law_odd" (defScope s__law_odd) T.a__law_odd cdv A outer s0 H0 E) (E := E) rfl rfl rfl rfl
  have po := passes_of (X := cxOf (L2N.CX P w) P w K mg base ["_law_number", "_law_names", "_law_name", "_law_at", "_law_wrong", "_law_some"] "_law_odd" (defScope s__law_odd) T.a__law_odd cdv A outer s0 H0 E) rfl
  refine ⟨_, (qss_cons (qs_set 2 sc__law_odd.nd (qe_ix (qe_call0 (ok__law_signals T) hr (.inl rfl) T.m__law_signals T.F__law_signals.kp T.b__law_signals tk) (qe_bin oq_mod (qe_bin oq_div (qv 0) qe_int) qe_int)))
  (qss_cons (qs_set 3 sc__law_odd.nd (qe_bin oq_mod (qe_bin oq_div (qv 0) qe_int) (qe_bin oq_add (qe_callB (id := "len") cq_len T.n_len (qa_cons (qv 1) qa_nil)) qe_int)))
  (qss_cons (qs_set 4 sc__law_odd.nd (qe_lstM (qa_cons qe_str (qa_cons qe_str (qa_cons (qe_bin oq_add (qv 2) qe_str) (qa_cons (qe_slice (qv 2) (qo_some qe_int) qo_none) (qa_cons qe_non (qa_cons qe_int (qa_cons qe_bl (qa_cons (qe_lst (qa_cons (qv 2) qa_nil)) (qa_cons (qe_tup (qa_cons (qv 2) qa_nil)) (qa_cons qe_dict0 (qa_cons (qe_lst qa_nil) qa_nil)))))))))))))
  (qss_cons (qs_aug 4 sc__law_odd.nd iq_addG (qe_lst (qa_cons qe_int (qa_cons (qe_upper (qv 2)) (qa_cons (qe_bin oq_add (qv 2) (qv 2)) qa_nil)))))
  (qss_cons (qs_set 5 sc__law_odd.nd (qe_lst (qa_cons qe_non (qa_cons (qe_callT (T := "tuple") cq_tuple T.n_tuple (qa_cons (qv 1) qa_nil)) (qa_cons (qv 2) (qa_cons qe_dict0 (qa_cons (qe_dsp1 (qv 2) qe_bl) (qa_cons qe_int (qa_cons qe_bl (qa_cons qe_str qa_nil))))))))))
  (qss_cons (qs_if (qt_cmp (oq_eq hr.units) (qe_bin oq_mod (qv 0) qe_int) qe_int)
  (qss_one (qs_ret (qe_ix (qv 5) (qe_bin oq_mod (qe_bin oq_div (qv 0) qe_int) qe_int))))
  qss_nil)
  (qss_one (qs_ret (qe_bin oq_addM (qe_bin oq_add (qe_slice (qv 1) qo_none (qo_some (qv 3))) (qe_lst (qa_cons (qe_ix (qv 4) (qe_bin oq_mod (qe_bin oq_div (qv 0) qe_int) qe_int)) qa_nil))) (qe_slice (qv 1) (qo_some (qv 3)) qo_none)))))))))), ?_⟩
  clear tk po
  clear hr
  rintro xs M Q E ⟨z, N, rfl, ⟨hz, hz2⟩, ⟨hN, hl⟩, k⟩
  walk_at "q"
  refine ⟨rfl, ?_⟩
  walk_at "s"
  refine ⟨by mul_fits, ?_⟩
  obtain ⟨v, hv, ev⟩ := atI_mem (xs := sigs.map PV.str) (i := z / 64 % 7) (by omega) (by rw [List.length_map]; show _ < ((7 : Nat) : Int); omega)
  obtain ⟨n, hn, rfl⟩ := List.mem_map.mp hv
  refine ⟨_, ev, ?_⟩
  walk_at "s"
  refine ⟨by mul_fits, ?_⟩
  obtain ⟨w1, w2, w3, w4, w5, w6⟩ := sig_words n hn
  have w0 := sig_okd n hn
  refine ⟨by omega, len_ok (by rw [show (Str.ofString " ").length = 1 from by decide +kernel]; omega), sl_str (len_ok (by omega)) ?_⟩
  refine dicB_of fun p1 hp1 => ?_
  walk_at "s"
  refine ⟨len_ok (by decide), lstP_of fun p2 hp2 => ?_⟩
  have e12 : p1 ≠ p2 := by rintro rfl; rw [mset_same] at hp2; cases hp2
  have hp2' : M p2 = none := by rw [mset_ne e12.symm] at hp2; exact hp2
  have hx1 : MExt M (mset M p1 (.dic [] [])) := mext_set hp1
  walk_at "s"
  refine ⟨by omega, len_ok (by omega), len_ok (by decide), ?_⟩
  generalize hL : ([PV.str (Str.ofString "Void"), PV.str (Str.ofString ""), PV.str (n ++ Str.ofString " "), PV.str (cutS n (some 1) none), PV.non, PV.int 5, PV.bl true, PV.lst [PV.str n], PV.tup [PV.str n], PV.ref p1, PV.lst [], PV.int 0, PV.str (Txt.upper n), PV.str (n ++ n)] : List PV) = L
  have hLl : L.length = 14 := by rw [← hL]; rfl
  have hLw : ∀ w ∈ L, Wr (mset M p1 (.dic [] [])) w := by
    have two : ∀ {M : Mem} {x : PV} {d : PyData}, Px M x d → OkD d → sgX x = false → (∃ s, s ∈ oddS ∧ tyP M x = some (.type s)) → Wr M x := fun a b c e => ⟨⟨_, a, b⟩, c, .inr e⟩
    rw [← hL]
    intro w hw
    simp only [List.mem_cons, List.not_mem_nil, or_false] at hw
    rcases hw with rfl | rfl | rfl | rfl | rfl | rfl | rfl | rfl | rfl | rfl | rfl | rfl | rfl | rfl
    · exact wr_s (by decide +kernel) (okd_dec (by decide +kernel))
    · exact wr_s (by decide +kernel) (okd_dec (by decide +kernel))
    · exact wr_s w3 (okd_dec (w0 _ (by simp)))
    · exact wr_s w4 (okd_dec (w0 _ (by simp)))
    · exact two .non (okd_dec (by decide +kernel)) rfl ⟨"NoneType", by decide, rfl⟩
    · exact two (.int 5) (okd_dec (by decide +kernel)) rfl ⟨"int", by decide, rfl⟩
    · exact two (.bl true) (okd_dec (by decide +kernel)) rfl ⟨"bool", by decide, rfl⟩
    · exact two (.lst (.cons (.str n) .nil)) (okd_dec (w0 _ (by simp))) rfl ⟨"list", by decide, rfl⟩
    · exact two (.tup (.cons (.str n) .nil)) (okd_dec (w0 _ (by simp))) rfl ⟨"tuple", by decide, rfl⟩
    · exact two (.rd (ks := []) mset_same .nil) (okd_dec (by decide +kernel)) rfl ⟨"dict", by decide, by show (match mset M p1 (.dic [] []) p1 with | some (.lst _) => _ | some (.dic _ _) => _ | some (.ins C _ _) => _ | _ => _) = _; rw [mset_same]⟩
    · exact two (.lst .nil) (okd_dec (by decide +kernel)) rfl ⟨"list", by decide, rfl⟩
    · exact two (.int 0) (okd_dec (by decide +kernel)) rfl ⟨"int", by decide, rfl⟩
    · exact wr_s w5 (okd_dec (w0 _ (by simp)))
    · exact wr_s w6 (okd_dec (w0 _ (by simp)))
  clear hL
  have hx2 : MExt (mset M p1 (.dic [] [])) (mset (mset M p1 (.dic [] [])) p2 (.lst L)) := mext_set hp2
  refine dicB_of fun p3 hp3 => ?_
  walk_at "s"
  refine dsp1_of fun p4 hp4 => ?_
  walk_at "s"
  have hx3 := mext_set (o := .dic [] []) hp3
  have hx4 := mext_set (o := .dic [Sum.inr n] [PV.bl true]) hp4
  have g3 : (mset (mset (mset (mset M p1 (.dic [] [])) p2 (.lst L)) p3 (.dic [] [])) p4 (.dic [Sum.inr n] [PV.bl true])) p3 = some (.dic [] []) := hx4 _ _ mset_same
  have g4 : (mset (mset (mset (mset M p1 (.dic [] [])) p2 (.lst L)) p3 (.dic [] [])) p4 (.dic [Sum.inr n] [PV.bl true])) p4 = some (.dic [Sum.inr n] [PV.bl true]) := mset_same
  have g2 : (mset (mset (mset (mset M p1 (.dic [] [])) p2 (.lst L)) p3 (.dic [] [])) p4 (.dic [Sum.inr n] [PV.bl true])) p2 = some (.lst L) := hx4 _ _ (hx3 _ _ mset_same)
  have hx : MExt M (mset (mset (mset (mset M p1 (.dic [] [])) p2 (.lst L)) p3 (.dic [] [])) p4 (.dic [Sum.inr n] [PV.bl true])) := fun b o h => hx4 _ _ (hx3 _ _ (hx2 _ _ (hx1 _ _ h)))
  have hLw' : ∀ w ∈ L, Wr (mset (mset (mset (mset M p1 (.dic [] [])) p2 (.lst L)) p3 (.dic [] [])) p4 (.dic [Sum.inr n] [PV.bl true])) w := fun w hw => (hLw w hw).ext fun b o h => hx4 _ _ (hx3 _ _ (hx2 _ _ h))
  generalize mset (mset (mset (mset M p1 (.dic [] [])) p2 (.lst L)) p3 (.dic [] [])) p4 (.dic [Sum.inr n] [PV.bl true]) = M' at g2 g3 g4 hx hLw' ⊢
  clear hLw hx1 hx2 hx3 hx4 hp4 hp3 hp2
  walk_at "q"
  refine iteP_of (fun h3 => ?_) (fun h3 => ?_)
  · walk_at "q"
    refine ⟨by mul_fits, ?_⟩
    obtain ⟨v, hv, ev⟩ := atI_mem (xs := [PV.non, PV.tup (N.map PV.str), PV.str n, PV.ref p3, PV.ref p4, PV.int 7, PV.bl true, PV.str (Str.ofString "")]) (i := z / 3 % 8) (by omega) (by show _ < ((8 : Nat) : Int); omega)
    rw [ev]
    refine ⟨_, rfl, k _ _ hx ?_⟩
    have one : ∀ {x : PV} {d : PyData} (s : String), s ∈ (["NoneType", "int", "bool", "str", "tuple", "dict"] : List String) → tyP M' x = some (.type s) → Px M' x d → OkS d → OddT M M' x := fun s hs ht hp ho => ⟨.inl ⟨s, hs, ht⟩, ⟨_, hp, ho⟩, .inl ⟨s, hs, ht⟩⟩
    have tyd : ∀ {p : Addr} {ks : List Key} {vs : List PV}, M' p = some (.dic ks vs) → tyP M' (.ref p) = some (.type "dict") := fun {p ks vs} h => by
      show (match M' p with | some (.lst _) => _ | some (.dic _ _) => _ | some (.ins C _ _) => _ | _ => _) = _
      rw [h]
    simp only [List.mem_cons, List.not_mem_nil, or_false] at hv
    rcases hv with rfl | rfl | rfl | rfl | rfl | rfl | rfl | rfl
    · exact one "NoneType" (by decide) rfl .non (okd_dec (by decide +kernel)).s
    · exact one "tuple" (by decide) rfl (.tup (pxa_strs N)) (okd_l (fun d hd => by
        obtain ⟨s, hs, rfl⟩ := List.mem_map.mp hd
        exact sig_small (hN s hs)) (by rw [List.length_map]; exact hl)).2.s
    · exact one "str" (by decide) rfl (.str n) (okd_sig hn).s
    · exact one "dict" (by decide) (tyd g3) (.rd g3 .nil) (okd_dec (by decide +kernel)).s
    · exact one "dict" (by decide) (tyd g4) (.rd g4 (.cons (.bl true) .nil)) (okd_dec (w0 _ (by simp [keyD]))).s
    · exact one "int" (by decide) rfl (.int 7) (okd_dec (by decide +kernel)).s
    · exact one "bool" (by decide) rfl (.bl true) (okd_dec (by decide +kernel)).s
    · exact one "str" (by decide) rfl (.str _) (okd_dec (by decide +kernel)).s
  · walk_at "q"
    refine ⟨by mul_fits, ?_⟩
    rw [ixR_of g2]
    obtain ⟨wr, hv, ev⟩ := atI_mem (xs := L) (i := z / 3 % 14) (by omega) (by rw [hLl]; show _ < ((14 : Nat) : Int); omega)
    rw [ev]
    have hwr := hLw' _ hv
    walk_at "q"
    simp only [← List.map_drop, ← List.map_take]
    have sub : ∀ a b : Nat, (∀ n ∈ (N.drop b).take a, n ∈ sigs) ∧ ((N.drop b).take a).length ≤ 2 := fun a b => ⟨fun n hn => hN n (List.mem_of_mem_drop (List.mem_of_mem_take hn)), by rw [List.length_take, List.length_drop]; omega⟩
    generalize hA : List.take _ (List.drop _ N) = A
    have hA' : (∀ n ∈ A, n ∈ sigs) ∧ A.length ≤ 2 := by rw [← hA]; exact sub _ _
    generalize hB : List.take _ (List.drop _ N) = B
    have hB' : (∀ n ∈ B, n ∈ sigs) ∧ B.length ≤ 2 := by rw [← hB]; exact sub _ _
    clear hA hB sub
    refine ⟨len_ok (by rw [List.length_map]; omega), addM_of rfl rfl (len_ok (by rw [List.length_append, List.length_map, List.length_map]; show A.length + 1 + B.length ≤ _; omega)) fun p5 hp5 => ?_⟩
    have hx5 : MExt M' (mset M' p5 (.lst ((A.map PV.str ++ [wr]) ++ B.map PV.str))) := mext_set hp5
    have g5 : (mset M' p5 (.lst ((A.map PV.str ++ [wr]) ++ B.map PV.str))) p5 = some (.lst ((A.map PV.str ++ [wr]) ++ B.map PV.str)) := mset_same
    have hp0 : M p5 = none := by
      cases h0 : M p5 with
      | none => rfl
      | some o => rw [hx _ _ h0] at hp5; cases hp5
    have hwr2 := hwr.ext hx5
    generalize mset M' p5 (.lst ((A.map PV.str ++ [wr]) ++ B.map PV.str)) = M5 at hx5 g5 hwr2 ⊢
    refine k _ _ (fun b o h => hx5 _ _ (hx _ _ h)) ⟨.inr ⟨p5, _, rfl, g5, ?_, ?_, wr, by simp, hwr2.no⟩, ?_, .inr ⟨p5, _, rfl, hp0, g5⟩⟩
    · simp only [List.length_append, List.length_map, List.length_cons, List.length_nil]; omega
    · intro y hy
      simp only [List.mem_append, List.mem_map, List.mem_cons, List.not_mem_nil, or_false] at hy
      rcases hy with (⟨s, _, rfl⟩ | rfl) | ⟨s, _, rfl⟩
      · exact .inl ⟨s, rfl⟩
      · exact hwr2.el
      · exact .inl ⟨s, rfl⟩
    · obtain ⟨d, hd, od⟩ := hwr2.px
      refine ⟨_, .rl g5 (pxa_app (pxa_app (pxa_strs A) (.cons hd .nil)) (pxa_strs B)), OkS.list (fun e he => ?_) (by simp only [List.length_append, List.length_map, List.length_cons, List.length_nil]; omega)⟩
      simp only [List.mem_append, List.mem_map, List.mem_cons, List.not_mem_nil, or_false] at he
      rcases he with (⟨s, hs, rfl⟩ | rfl) | ⟨s, hs, rfl⟩
      · exact okd_sig (hA'.1 s hs)
      · exact od
      · exact okd_sig (hB'.1 s hs)

/-! law -/
abbrev sp_law : SpQ := sLaw
theorem sp_law_len : ∀ xs M Q E, sp_law xs M Q E → xs.length = 1 := fun xs M Q E ⟨_, h, _⟩ => by rw [h]; rfl
theorem mk_ctx (T : Tx K  mg) {M : Mem} {Q : TQ.PK} {E : EK} {a : Addr} {y : Wy} {r l m : Int} {xl : PV} (hx : xl = .int l ∨ (xl = .non ∧ l = -60)) (hr : 1 ≤ r ∧ r ≤ 24) (hl : -60 ≤ l ∧ l ≤ 0) (hm : 0 ≤ m ∧ m ≤ 60) (ha : M a = none)
    (h : ∀ d1 d2 M', MExt M M' → M d1 = none → M d2 = none → M a = none → Ctx T M' a d1 d2 y r l m [] [] → Q .non M') : sp_Context___init__ T [.ref a, .int r, .str (Str.ofString y.name), xl, .int m] (mset M a (.ins T.c_Context [] [])) Q E :=
  ⟨a, _, _, _, _, rfl, mset_same, .inl ⟨y, r, l, m, ⟨rfl, rfl, hx, rfl⟩, hr, hl, hm, fun d1 d2 M' hM h1 h2 c => h d1 d2 M' (fun b o hb => by
    have ba : b ≠ a := by rintro rfl; rw [ha] at hb; cases hb
    rw [hM b ba (by rw [mset_ne ba, hb]; exact fun z => nomatch z), mset_ne ba]
    exact hb) (by rw [mset_ne (by rintro rfl; rw [mset_same] at h1; cases h1)] at h1; exact h1) (by rw [mset_ne (by rintro rfl; rw [mset_same] at h2; cases h2)] at h2; exact h2) ha c⟩⟩
theorem ok_law (T : Tx K mg) : FnG P w K mg base 5 T.a_law T.d_law ["_law_script"] sp_law := by
  refine okQG T.F_law sc_law sp_law_len (fun A outer s0 H0 E hgd hr => ?_)
  have tk := L2N.takes_of (X := cxOf (L2N.CX P w) P w K mg base ["_law_script", "_law_context", "_law_number", "_law_kept", "_law_more", "_law_up", "_law_k", "_law_names", "_law_odd_here", "_law_shape", "_law_name"] "law" (defScope s_law) T.a_law T.d_law.code A outer s0 H0 E) (E := E) rfl rfl rfl rfl
  have po := passes_of (X := cxOf (L2N.CX P w) P w K mg base ["_law_script", "_law_context", "_law_number", "_law_kept", "_law_more", "_law_up", "_law_k", "_law_names", "_law_odd_here", "_law_shape", "_law_name"] "law" (defScope s_law) T.a_law T.d_law.code A outer s0 H0 E) rfl
  refine ⟨_, (qss_cons (qs_set 1 sc_law.nd (qe_makeW0 (dvs := [V.int 9, V.str "half even", V.non, V.int 60]) (dps := [PV.int 9, PV.str "half even", PV.non, PV.int 60]) T.mk_Context (ok_Context___init__ T) hr (.inl rfl) T.m_Context T.b_Context_0 (fun _ => Reps.cons (x := PV.int 9) rfl (Reps.cons (x := PV.str "half even") rfl (Reps.cons (x := PV.non) rfl (Reps.cons (x := PV.int 60) rfl (Reps.nil))))) tk))
  (qss_cons (qs_set 2 sc_law.nd (qe_call (ok__law_mixed T) (hr.mono (by decide)) (.inl rfl) T.m__law_mixed T.F__law_mixed.kp T.b__law_mixed tk (qa_cons (qe_call (ok__law_cell_at T) (hr.mono (by decide)) (.inl rfl) T.m__law_cell_at T.F__law_cell_at.kp T.b__law_cell_at tk (qa_cons (qv 0) (qa_cons qe_int qa_nil))) (qa_cons qe_int qa_nil))))
  (qss_cons (qs_lcEnL 3 (own := [("_law_k", 6), ("_law_name", 10)]) (j1 := 6) (j2 := 10) rfl sc_law.nd T.n_enumerate (qe_call0 (ok__law_signals T) (hr.mono (by decide)) (.inl rfl) T.m__law_signals T.F__law_signals.kp T.b__law_signals tk) (by decide) (by decide) (blkOk_by (own := [("_law_k", 6), ("_law_name", 10)]) (N := ["_law_script", "_law_context", "_law_number", "_law_kept", "_law_more", "_law_up", "_law_k", "_law_names", "_law_odd_here", "_law_shape", "_law_name"]) (sc := defScope s_law) (by decide +kernel)) (fun _ _ _ _ _ _ => pg_tup (n := 2) rfl (pgs_cons (pg_name (i := 6) sc_law.nd rfl (Or.inl rfl)) (pgs_cons (pg_name (i := 10) sc_law.nd rfl (Or.inl rfl)) pgs_nil))) (fun _ _ _ _ _ _ => (qts_one (qt_cmp (oq_eq hr.units) (qe_bin oq_mod (qe_bin oq_div (qv 2) (qe_ix (qe_lst (qa_cons qe_int (qa_cons qe_int (qa_cons qe_int (qa_cons qe_int (qa_cons qe_int (qa_cons qe_int (qa_cons qe_int qa_nil)))))))) (qv 6))) qe_int) qe_int))) (fun _ _ _ _ _ _ => (qv 10)))
  (qss_cons (qs_set 4 sc_law.nd (qe_bin oq_div (qv 2) qe_int))
  (qss_cons (qs_lcEnL 5 (own := [("_law_k", 6), ("_law_name", 10)]) (j1 := 6) (j2 := 10) rfl sc_law.nd T.n_enumerate (qe_call0 (ok__law_signals T) (hr.mono (by decide)) (.inl rfl) T.m__law_signals T.F__law_signals.kp T.b__law_signals tk) (by decide) (by decide) (blkOk_by (own := [("_law_k", 6), ("_law_name", 10)]) (N := ["_law_script", "_law_context", "_law_number", "_law_kept", "_law_more", "_law_up", "_law_k", "_law_names", "_law_odd_here", "_law_shape", "_law_name"]) (sc := defScope s_law) (by decide +kernel)) (fun _ _ _ _ _ _ => pg_tup (n := 2) rfl (pgs_cons (pg_name (i := 6) sc_law.nd rfl (Or.inl rfl)) (pgs_cons (pg_name (i := 10) sc_law.nd rfl (Or.inl rfl)) pgs_nil))) (fun _ _ _ _ _ _ => (qts_one (qt_cmp (oq_eq hr.units) (qe_bin oq_mod (qe_bin oq_div (qv 4) (qe_ix (qe_lst (qa_cons qe_int (qa_cons qe_int (qa_cons qe_int (qa_cons qe_int (qa_cons qe_int (qa_cons qe_int (qa_cons qe_int qa_nil)))))))) (qv 6))) qe_int) qe_int))) (fun _ _ _ _ _ _ => (qv 10)))
  (qss_cons (qs_expr (qe_meth (qv 1) T.i_Context.cl T.M_Context_raised (ok_Context_raised T) (hr.mono (by decide)) (.inl rfl) T.b_Context_raised tk (qa_cons (qe_callT (T := "list") cq_list T.n_list (qa_cons (qv 5) qa_nil)) qa_nil)))
  (qss_cons (qs_if (qt_cmp oq_notN (qe_meth (qv 1) T.i_Context.cl T.M_Context_trap (ok_Context_trap T) (hr.mono (by decide)) (.inl rfl) T.b_Context_trap tk (qa_cons (qe_bin oq_add (qe_listRev rfl T.n_list T.n_reversed (qv 3)) (qv 3)) qa_nil)) qe_non)
  (qss_one (qs_ret qe_bl))
  qss_nil)
  (qss_cons (qs_forR1 po (.inl rfl) T.n_range (qa_cons qe_int qa_nil) (qg_name (i := 6) sc_law.nd)
  (qss_cons (qs_set 4 sc_law.nd (qe_call (ok__law_mixed T) (hr.mono (by decide)) (.inl rfl) T.m__law_mixed T.F__law_mixed.kp T.b__law_mixed tk (qa_cons (qe_call (ok__law_cell_at T) (hr.mono (by decide)) (.inl rfl) T.m__law_cell_at T.F__law_cell_at.kp T.b__law_cell_at tk (qa_cons (qv 0) (qa_cons (qe_bin oq_add qe_int (qv 6)) qa_nil))) (qa_cons (qe_bin oq_add qe_int (qv 6)) qa_nil))))
  (qss_cons (qs_set 7 sc_law.nd (qe_slice (qe_lst (qa_cons (qe_ix (qe_call0 (ok__law_signals T) (hr.mono (by decide)) (.inl rfl) T.m__law_signals T.F__law_signals.kp T.b__law_signals tk) (qe_bin oq_mod (qe_bin oq_div (qv 4) qe_int) qe_int)) (qa_cons (qe_ix (qe_call0 (ok__law_signals T) (hr.mono (by decide)) (.inl rfl) T.m__law_signals T.F__law_signals.kp T.b__law_signals tk) (qe_bin oq_mod (qe_bin oq_div (qv 4) qe_int) qe_int)) qa_nil))) qo_none (qo_some (qe_bin oq_mod (qv 4) qe_int))))
  (qss_cons (qs_set 8 sc_law.nd (qe_call (ok__law_odd T) (hr.mono (by decide)) (.inl rfl) T.m__law_odd T.F__law_odd.kp T.b__law_odd tk (qa_cons (qe_bin oq_div (qv 4) qe_int) (qa_cons (qv 7) qa_nil))))
  (qss_cons (qs_set 9 sc_law.nd (qe_callB (id := "repr") (cq_repr T.sysm hgd hr.units) T.n_repr (qa_cons (qv 8) qa_nil)))
  (qss_cons (qs_if (qt_w (qw_or (qt_cmp (oq_ne hr.units) (qe_call (ok__law_trap T) (hr.mono (by decide)) (.inl rfl) T.m__law_trap T.F__law_trap.kp T.b__law_trap tk (qa_cons (qv 1) (qa_cons (qv 8) qa_nil))) qe_str) (qw_one_or (qt_cmp (oq_ne hr.units) (qe_callB (id := "repr") (cq_repr T.sysm hgd hr.units) T.n_repr (qa_cons (qv 8) qa_nil)) (qv 9)))))
  (qss_one (qs_ret qe_bl))
  qss_nil)
  (qss_cons (qs_if (qt_w (qw_or (qt_cmp (oq_ne hr.units) (qe_meth0 (qv 1) T.i_Context.cl T.M_Context_traps (ok_Context_traps T) (hr.mono (by decide)) (.inl rfl) T.b_Context_traps tk) (qv 3)) (qw_one_or (qt_cmp (oq_ne hr.units) (qe_meth0 (qv 1) T.i_Context.cl T.M_Context_flags (ok_Context_flags T) (hr.mono (by decide)) (.inl rfl) T.b_Context_flags tk) (qv 5)))))
  (qss_one (qs_ret qe_bl))
  qss_nil)
  (qss_one (qs_if (qt_val (qe_callB (id := "isinstance") (cq_isiK (K := K) rfl) T.n_isinstance (qa_cons (qv 8) (qa_cons (qe_ty (n := "list") T.n_list) qa_nil))))
  (qss_cons (qs_expr (qe_clr (qv 8)))
  (qss_cons (qs_expr (qe_ext (qv 8) (qv 7)))
  (qss_cons (qs_lcL 3 (own := [("_law_name", 10)]) (j := 10) (.inl rfl) sc_law.nd (qe_call0 (ok__law_signals T) (hr.mono (by decide)) (.inl rfl) T.m__law_signals T.F__law_signals.kp T.b__law_signals tk) (by decide) (blkOk_by (own := [("_law_name", 10)]) (N := ["_law_script", "_law_context", "_law_number", "_law_kept", "_law_more", "_law_up", "_law_k", "_law_names", "_law_odd_here", "_law_shape", "_law_name"]) (sc := defScope s_law) (by decide +kernel)) (fun _ _ _ _ _ _ => pg_name (i := 10) sc_law.nd rfl (Or.inl rfl)) (fun _ _ _ _ _ _ => (qts_one (qt_cmp (oq_in hr.units) (qv 10) (qv 7)))) (fun _ _ _ _ _ _ => (qv 10)))
  (qss_one (qs_if (qt_w (qw_or (qt_cmp oq_notN (qe_call (ok__law_trap T) (hr.mono (by decide)) (.inl rfl) T.m__law_trap T.F__law_trap.kp T.b__law_trap tk (qa_cons (qv 1) (qa_cons (qv 8) qa_nil))) qe_non) (qw_or (qt_cmp (oq_ne hr.units) (qe_meth0 (qv 1) T.i_Context.cl T.M_Context_traps (ok_Context_traps T) (hr.mono (by decide)) (.inl rfl) T.b_Context_traps tk) (qv 3)) (qw_one_or (qt_cmp (oq_ne hr.units) (qe_meth0 (qv 1) T.i_Context.cl T.M_Context_flags (ok_Context_flags T) (hr.mono (by decide)) (.inl rfl) T.b_Context_flags tk) (qv 5))))))
  (qss_one (qs_ret qe_bl))
  qss_nil)))))
  qss_nil)))))))))
  (qss_cons (qs_if (qt_w (qw_or (qt_cmp oq_notN (qe_call (ok__law_trap T) (hr.mono (by decide)) (.inl rfl) T.m__law_trap T.F__law_trap.kp T.b__law_trap tk (qa_cons (qv 1) (qa_cons (qe_lst qa_nil) qa_nil))) qe_non) (qw_one_or (qt_cmp (oq_ne hr.units) (qe_meth0 (qv 1) T.i_Context.cl T.M_Context_traps (ok_Context_traps T) (hr.mono (by decide)) (.inl rfl) T.b_Context_traps tk) (qe_lst qa_nil)))))
  (qss_one (qs_ret qe_bl))
  qss_nil)
  (qss_one (qs_ret (qe_and (qe_cmp oq_isN (qe_meth (qv 1) T.i_Context.cl T.M_Context_raised (ok_Context_raised T) (hr.mono (by decide)) (.inl rfl) T.b_Context_raised tk (qa_cons (qe_call0 (ok__law_signals T) (hr.mono (by decide)) (.inl rfl) T.m__law_signals T.F__law_signals.kp T.b__law_signals tk) qa_nil)) qe_non) (qe_one (qe_cmp (oq_eq hr.units) (qe_meth0 (qv 1) T.i_Context.cl T.M_Context_flags (ok_Context_flags T) (hr.mono (by decide)) (.inl rfl) T.b_Context_flags tk) (qe_call0 (ok__law_signals T) (hr.mono (by decide)) (.inl rfl) T.m__law_signals T.F__law_signals.kp T.b__law_signals tk))))))))))))))), ?_⟩
  clear tk po
  clear hr
  rintro xs M0 Q E ⟨ns, rfl, hl, k⟩
  walk_at "s"
  refine makW_of fun a ha => mk_ctx T (y := .halfEven) (.inr ⟨rfl, rfl⟩) (by decide) (by decide) (by decide) ha fun d1 d2 M1 hM1 f1 f2 f3 c1 => ?_
  walk_at "s"
  refine ⟨ns, 0, rfl, by decide, ?_⟩
  walk_at "s"
  refine ⟨_, 1, rfl, by decide, ?_⟩
  walk_at "s"
  have hz := mixed_range (cell ns 0) 1
  generalize mixed (cell ns 0) 1 = z at *
  have bits : ∀ (u : Int), (0 ≤ u ∧ u < 2147483629) → True := fun _ _ => trivial
  refine ⟨rfl, ?_⟩
  walk_at "s"
  refine lcEnL_of (bitK z) (by decide) (fun j x hx M3 hM3 => ?_) ?_
  · have hj : j < 7 := (List.getElem?_eq_some_iff.mp hx).1
    walk_at "q"
    rw [bits7 hj]
    have hb := bits7b hj
    have ek : bitK z (.tup [.int (j : Nat), x]) = if z / 2 ^ ((j : Nat) : Int).toNat % 2 = 1 then some x else none := rfl
    generalize (2 : Int) ^ ((j : Nat) : Int).toNat = w at *
    walk_at "q"
    refine ⟨divw (n := 10) hb.1 (by omega) (by decide), iteP_of (fun h2 => ?_) (fun h2 => ?_)⟩
    · walk_at "q"
      rw [ek]
      exact if_pos h2
    · walk_at "q"
      rw [ek]
      exact if_neg h2
  rw [show [PV.str (Str.ofString "void"), PV.str (Str.ofString "split"), PV.str (Str.ofString "burst"), PV.str (Str.ofString "sunk"), PV.str (Str.ofString "faint"), PV.str (Str.ofString "off"), PV.str (Str.ofString "cut")] = sigs.map PV.str from rfl, bitK_map]
  have s1 := bitF_sub z sigs 0
  generalize bitF z 0 sigs = A at s1 ⊢
  walk_at "s"
  refine ⟨by mul_fits, rfl, ?_⟩
  walk_at "s"
  have hz2 : 0 ≤ z / 128 := by omega
  generalize z / 128 = z2 at hz2 ⊢
  refine lcEnL_of (bitK z2) (by decide) (fun j x hx M3 hM3 => ?_) ?_
  · have hj : j < 7 := (List.getElem?_eq_some_iff.mp hx).1
    walk_at "q"
    rw [bits7 hj]
    have hb := bits7b hj
    have ek : bitK z2 (.tup [.int (j : Nat), x]) = if z2 / 2 ^ ((j : Nat) : Int).toNat % 2 = 1 then some x else none := rfl
    generalize (2 : Int) ^ ((j : Nat) : Int).toNat = w at *
    walk_at "q"
    refine ⟨divw (n := 10) hb.1 (by omega) (by decide), iteP_of (fun h2 => ?_) (fun h2 => ?_)⟩
    · walk_at "q"
      rw [ek]
      exact if_pos h2
    · walk_at "q"
      rw [ek]
      exact if_neg h2
  rw [show [PV.str (Str.ofString "void"), PV.str (Str.ofString "split"), PV.str (Str.ofString "burst"), PV.str (Str.ofString "sunk"), PV.str (Str.ofString "faint"), PV.str (Str.ofString "off"), PV.str (Str.ofString "cut")] = sigs.map PV.str from rfl, bitK_map]
  have s2 := bitF_sub z2 sigs 0
  generalize bitF z2 0 sigs = B at s2 ⊢
  have lA : A.length ≤ 7 := s1.length_le
  have lB : B.length ≤ 7 := s2.length_le
  walk_at "s"
  rw [mthw_Context_raised T c1.self]
  walk_at "s"
  refine cl_lst ?_
  refine ⟨a, d1, d2, _, _, _, _, _, _, B, rfl, c1, by show 0 + B.length ≤ 1000; omega, fun _ _ => List.not_mem_nil, fun M2 hM2 c2 => ?_⟩
  walk_at "q"
  rw [mthw_Context_trap T c2.self]
  walk_at "q"
  refine ⟨len_ok (by simp only [List.length_reverse, List.length_map]; omega), ?_⟩
  rw [← List.map_reverse, ← List.map_append]
  refine ⟨a, _, d1, d2, _, _, _, _, _, _, rfl, c2, .inl ⟨A.reverse ++ A, .inl rfl, fun n hn => ?_, by simp only [List.length_append, List.length_reverse]; omega, fun q M3 hq hM3 c3 => ?_⟩⟩
  · rcases List.mem_append.mp hn with h | h
    · exact s1.subset (List.mem_reverse.mp h)
    · exact s1.subset h
  walk_at "q"
  refine rngP_of (by decide) (fun i env M' => (∃ (C F A B : List Str) (d2 : Addr), Ctx T M' a d1 d2 .halfEven 9 (-60) 60 F C ∧ (List.Sublist A sigs ∧ ∀ x, x ∈ C ↔ x ∈ A) ∧ (List.Sublist B sigs ∧ ∀ x, x ∈ F ↔ x ∈ B) ∧ F.length ≤ 7 ∧
    ∃ o4 : Option PV, env[3]? = some (some (.lst (A.map PV.str))) ∧ env[5]? = some (some (.lst (B.map PV.str)))) ∧ ∃ o3 o4 o5 o6 o7 o8 o9 : Option PV, env = [some (.scr ns), some (.ref a), some (.int z), o3, o4, o5, o6, o7, o8, o9, none]) ?_ ?_ ?_
  · refine ⟨⟨_, _, A, B, q, c3, ⟨s1, fun x => ?_⟩, ⟨s2, fun x => mem_raise0⟩, Nat.le_trans raise_length (by show 0 + B.length ≤ 7; omega), none, rfl, rfl⟩, _, _, _, _, _, _, _, rfl⟩
    rw [mem_raise0, List.mem_append, List.mem_reverse, or_self]
  · rintro i env M' hi ⟨⟨C, F, A, B, d2, c, ⟨sA, eA⟩, ⟨sB, eB⟩, hF, _, e3, e5⟩, o3, o4, o5, o6, o7, o8, o9, rfl⟩
    cases e3
    cases e5
    walk_at "s"
    refine ⟨ns, 1 + i, rfl, by omega, ?_⟩
    walk_at "s"
    refine ⟨_, 2 + i, rfl, by omega, ?_⟩
    walk_at "s"
    have hz := mixed_range (cell ns (1 + i)) (2 + i)
    generalize mixed (cell ns (1 + i)) (2 + i) = u at *
    refine ⟨rfl, ?_⟩
    walk_at "s"
    refine ⟨by mul_fits, ?_⟩
    obtain ⟨v1, hv1, ev1⟩ := atI_mem (xs := sigs.map PV.str) (i := u / 7 % 7) (by omega) (by rw [List.length_map]; show _ < ((7 : Nat) : Int); omega)
    obtain ⟨n1, hn1, rfl⟩ := List.mem_map.mp hv1
    refine ⟨_, ev1, ?_⟩
    walk_at "s"
    refine ⟨rfl, ?_⟩
    walk_at "s"
    refine ⟨by mul_fits, ?_⟩
    obtain ⟨v2, hv2, ev2⟩ := atI_mem (xs := sigs.map PV.str) (i := u / 49 % 7) (by omega) (by rw [List.length_map]; show _ < ((7 : Nat) : Int); omega)
    obtain ⟨n2, hn2, rfl⟩ := List.mem_map.mp hv2
    refine ⟨_, ev2, ?_⟩
    walk_at "s"
    refine ⟨by mul_fits, ?_⟩
    have hN' : ∀ a b : Nat, (∀ n ∈ ([n1, n2].drop b).take a, n ∈ sigs) ∧ (([n1, n2].drop b).take a).length ≤ 2 := fun a b => ⟨fun n hn => by
      have := List.mem_of_mem_drop (List.mem_of_mem_take hn)
      simp only [List.mem_cons, List.not_mem_nil, or_false] at this
      rcases this with rfl | rfl
      · exact hn1
      · exact hn2, by rw [List.length_take, List.length_drop]; show min a (2 - b) ≤ 2; omega⟩
    rw [show [PV.str n1, PV.str n2] = [n1, n2].map PV.str from rfl, ← List.map_drop, ← List.map_take]
    generalize hNe : List.take _ (List.drop _ [n1, n2]) = N
    have hN : (∀ n ∈ N, n ∈ sigs) ∧ N.length ≤ 2 := by rw [← hNe]; exact hN' _ _
    clear hNe hN'
    refine ⟨_, N, rfl, by omega, hN, fun x M2 hM2 odd => ?_⟩
    obtain ⟨bad, ⟨d, hd, od⟩, ki⟩ := odd
    have c2 := c.ext hM2
    walk_at "s"
    refine reprP_of hd od.sh od.sz od.dp od.int ?_
    walk_at "q"
    refine ⟨a, x, d1, d2, _, _, _, _, _, _, rfl, c2, .inr ⟨bad, fun M3 hM3 => ?_⟩⟩
    walk_at "q"
    refine reprP_of (px_ext hM3 hd) od.sh od.sz od.dp od.int ?_
    have c3 := c2.ext hM3
    walk_at "q"
    rw [mthw_Context_traps T c3.self]
    walk_at "q"
    refine ⟨_, _, _, _, _, _, _, _, _, rfl, c3, ?_⟩
    rw [flags_sub sA eA]
    walk_at "q"
    refine cast (ne_l (dat0s_str A).1 (by rw [(dat0s_str A).2]; decide)).symm ?_
    walk_at "q"
    rw [mthw_Context_flags T c3.self]
    walk_at "q"
    refine ⟨_, _, _, _, _, _, _, _, _, rfl, c3, ?_⟩
    rw [flags_sub sB eB]
    walk_at "q"
    refine cast (ne_l (dat0s_str B).1 (by rw [(dat0s_str B).2]; decide)).symm ?_
    walk_at "q"
    rcases ki with ki | ⟨p, ys, rfl, hp0, hp⟩
    · rw [not_lst (ki.ext hM3)]
      walk_at "q"
      exact ⟨⟨C, F, A, B, d2, c3, ⟨sA, eA⟩, ⟨sB, eB⟩, hF, none, rfl, rfl⟩, _, _, _, _, _, _, _, rfl⟩
    · have hp3 := hM3 _ _ hp
      rw [isB_rl hp3]
      walk_at "q"
      refine clr_of hp3 ?_
      walk_at "q"
      refine extA_of mset_same ?_
      walk_at "q"
      refine extB_l mset_same (len_ok (by rw [List.length_map]; show 0 + N.length ≤ _; omega)) ?_
      rw [mset_mset, List.nil_append]
      have hM5 : MExt M' (mset M3 p (.lst (N.map PV.str))) := fun b o h => by
        have : b ≠ p := by rintro rfl; rw [hp0] at h; cases h
        rw [mset_ne this]
        exact hM3 _ _ (hM2 _ _ h)
      have c5 := c.ext hM5
      have hp5 : (mset M3 p (.lst (N.map PV.str))) p = some (.lst (N.map PV.str)) := mset_same
      generalize mset M3 p (.lst (N.map PV.str)) = M5 at c5 hp5 ⊢
      clear c2 c3
      walk_at "q"
      refine ⟨rfl, ?_⟩
      walk_at "q"
      refine lcL_of (keepS N) (by decide) (fun x hx M6 hM6 => ?_) ?_
      · obtain ⟨s, _, rfl⟩ := List.mem_map.mp (show x ∈ sigs.map PV.str from hx)
        walk_at "q"
        rw [inPs_s]
        walk_at "q"
        refine iteP_of (fun h => ?_) (fun h => ?_)
        · walk_at "q"
          exact if_pos h
        · walk_at "q"
          exact if_neg h
      rw [show [PV.str (Str.ofString "void"), PV.str (Str.ofString "split"), PV.str (Str.ofString "burst"), PV.str (Str.ofString "sunk"), PV.str (Str.ofString "faint"), PV.str (Str.ofString "off"), PV.str (Str.ofString "cut")] = sigs.map PV.str from rfl, keepS_map]
      walk_at "q"
      refine ⟨a, _, d1, d2, _, _, _, _, _, _, rfl, c5, .inl ⟨N, .inr ⟨p, rfl, hp5⟩, hN.1, by have := hN.2; omega, fun q M6 hq hM6 c6 => ?_⟩⟩
      walk_at "q"
      rw [mthw_Context_traps T c6.self]
      walk_at "q"
      refine ⟨_, _, _, _, _, _, _, _, _, rfl, c6, ?_⟩
      have sN : List.Sublist (sigs.filter fun s => decide (s ∈ N)) sigs := List.filter_sublist
      have eN : ∀ x, x ∈ raiseF [] N ↔ x ∈ sigs.filter fun s => decide (s ∈ N) := fun x => by
        rw [mem_raise0, List.mem_filter, decide_eq_true_eq]
        exact ⟨fun h => ⟨hN.1 x h, h⟩, fun h => h.2⟩
      rw [flags_sub sN eN]
      generalize (sigs.filter fun s => decide (s ∈ N)) = A' at sN eN ⊢
      walk_at "q"
      refine cast (ne_l (dat0s_str A').1 (by rw [(dat0s_str A').2]; decide)).symm ?_
      walk_at "q"
      rw [mthw_Context_flags T c6.self]
      walk_at "q"
      refine ⟨_, _, _, _, _, _, _, _, _, rfl, c6, ?_⟩
      rw [flags_sub sB eB]
      walk_at "q"
      refine cast (ne_l (dat0s_str B).1 (by rw [(dat0s_str B).2]; decide)).symm ?_
      walk_at "q"
      exact ⟨⟨_, F, A', B, q, c6, ⟨sN, eN⟩, ⟨sB, eB⟩, hF, none, rfl, rfl⟩, _, _, _, _, _, _, _, rfl⟩
  · rintro env M' ⟨⟨C, F, A, B, d2, c, ⟨sA, eA⟩, ⟨sB, eB⟩, hF, _, e3, e5⟩, o3, o4, o5, o6, o7, o8, o9, rfl⟩
    cases e3
    cases e5
    walk_at "q"
    refine ⟨a, _, d1, d2, _, _, _, _, _, _, rfl, c, .inl ⟨[], .inl rfl, fun _ h => (List.not_mem_nil h).elim, by decide, fun q M3 hq hM3 c3 => ?_⟩⟩
    walk_at "q"
    rw [mthw_Context_traps T c3.self]
    walk_at "q"
    refine ⟨_, _, _, _, _, _, _, _, _, rfl, c3, ?_⟩
    walk_at "q"
    rw [show flagsOf (raiseF [] []) = [] from rfl]
    refine cast (ne_l (xs := []) (ds := []) rfl (by decide)).symm ?_
    walk_at "q"
    rw [mthw_Context_raised T c3.self]
    walk_at "q"
    refine ⟨rfl, ?_⟩
    walk_at "q"
    refine ⟨a, d1, q, _, _, _, _, _, _, sigs, rfl, c3, by show F.length + 7 ≤ 1000; omega, fun _ _ => List.not_mem_nil, fun M4 hM4 c4 => ?_⟩
    walk_at "q"
    rw [mthw_Context_flags T c4.self]
    walk_at "q"
    refine ⟨_, _, _, _, _, _, _, _, _, rfl, c4, ?_⟩
    walk_at "q"
    refine ⟨rfl, ?_⟩
    have ef : flagsOf (raiseF F sigs) = sigs := flags_sub (List.Sublist.refl _) fun x => by
      rw [raise_mem]
      exact ⟨fun h => h.elim id fun h => sB.subset ((eB x).mp h), .inl⟩
    rw [ef]
    walk_at "q"
    refine cast (eq_l (xs := sigs.map PV.str) (dat0s_str _).1 (by rw [(dat0s_str _).2]; decide)).symm ?_
    exact k _

end
theorem all_mk {P : Program} {w : World} {K : PySem.W.Frag} {h : Heap} {mg : Str → Option Value} {fa : Addr} (X : K.In h) (G : h.Ns mainGlobals mg) (hfa : mg "law" = some (.ref fa))
    {a_is_whole : Addr}
    {a_Way_name : Addr}
    {a_Up_name : Addr}
    {a_Floor_name : Addr}
    {a_Ceiling_name : Addr}
    {a_HalfUp_name : Addr}
    {a_HalfDown_name : Addr}
    {a_HalfEven_name : Addr}
    {a_FiveUp_name : Addr}
    {a_half_way : Addr}
    {a_way_of : Addr}
    {a_need : Addr}
    {a_is_signal : Addr}
    {a_Context___init__ : Addr}
    {a_Context_flags : Addr}
    {a_Context_clear : Addr}
    {a_Context_trap : Addr}
    {a_Context_traps : Addr}
    {a_Context_raised : Addr}
    {a__law_cell_at : Addr}
    {a__law_mixed : Addr}
    {a__law_signals : Addr}
    {a__law_word : Addr}
    {a__law_trap : Addr}
    {a__law_odd : Addr}
    {a_law : Addr}
    {c_ReckonError : Addr}
    {c_BadNumber : Addr}
    {c_NoText : Addr}
    {c_BadContext : Addr}
    {c_BadCount : Addr}
    {c_Trapped : Addr}
    {c_Way : Addr}
    {c_Down : Addr}
    {c_Up : Addr}
    {c_Floor : Addr}
    {c_Ceiling : Addr}
    {c_HalfUp : Addr}
    {c_HalfDown : Addr}
    {c_HalfEven : Addr}
    {c_FiveUp : Addr}
    {c_Context : Addr}
    {ta_SIGNALS : Addr}
    {ta_WAYS : Addr}
    (h_a_is_whole : PySem.W.nsIn K mainGlobals "is_whole" = some (some (.ref a_is_whole)))
    (h_F_is_whole : ∃ d, FunD K "is_whole" "is_whole" (defArgs s_is_whole) (defBody s_is_whole) (defScope s_is_whole) [] [] a_is_whole d)
    (h_F_Way_name : ∃ d, FunD K "name" "Way.name" (defArgs s_Way_name) (defBody s_Way_name) (defScope s_Way_name) [] [] a_Way_name d)
    (h_F_Up_name : ∃ d, FunD K "name" "Up.name" (defArgs s_Up_name) (defBody s_Up_name) (defScope s_Up_name) [] [] a_Up_name d)
    (h_F_Floor_name : ∃ d, FunD K "name" "Floor.name" (defArgs s_Floor_name) (defBody s_Floor_name) (defScope s_Floor_name) [] [] a_Floor_name d)
    (h_F_Ceiling_name : ∃ d, FunD K "name" "Ceiling.name" (defArgs s_Ceiling_name) (defBody s_Ceiling_name) (defScope s_Ceiling_name) [] [] a_Ceiling_name d)
    (h_F_HalfUp_name : ∃ d, FunD K "name" "HalfUp.name" (defArgs s_HalfUp_name) (defBody s_HalfUp_name) (defScope s_HalfUp_name) [] [] a_HalfUp_name d)
    (h_F_HalfDown_name : ∃ d, FunD K "name" "HalfDown.name" (defArgs s_HalfDown_name) (defBody s_HalfDown_name) (defScope s_HalfDown_name) [] [] a_HalfDown_name d)
    (h_F_HalfEven_name : ∃ d, FunD K "name" "HalfEven.name" (defArgs s_HalfEven_name) (defBody s_HalfEven_name) (defScope s_HalfEven_name) [] [] a_HalfEven_name d)
    (h_F_FiveUp_name : ∃ d, FunD K "name" "FiveUp.name" (defArgs s_FiveUp_name) (defBody s_FiveUp_name) (defScope s_FiveUp_name) [] [] a_FiveUp_name d)
    (h_a_half_way : PySem.W.nsIn K mainGlobals "half_way" = some (some (.ref a_half_way)))
    (h_F_half_way : ∃ d, FunD K "half_way" "half_way" (defArgs s_half_way) (defBody s_half_way) (defScope s_half_way) [] [] a_half_way d)
    (h_a_way_of : PySem.W.nsIn K mainGlobals "way_of" = some (some (.ref a_way_of)))
    (h_F_way_of : ∃ d, FunD K "way_of" "way_of" (defArgs s_way_of) (defBody s_way_of) (defScope s_way_of) [] [] a_way_of d)
    (h_a_need : PySem.W.nsIn K mainGlobals "need" = some (some (.ref a_need)))
    (h_F_need : ∃ d, FunD K "need" "need" (defArgs s_need) (defBody s_need) (defScope s_need) [] [] a_need d)
    (h_a_is_signal : PySem.W.nsIn K mainGlobals "is_signal" = some (some (.ref a_is_signal)))
    (h_F_is_signal : ∃ d, FunD K "is_signal" "is_signal" (defArgs s_is_signal) (defBody s_is_signal) (defScope s_is_signal) [] [] a_is_signal d)
    (h_F_Context___init__ : ∃ d, FunD K "__init__" "Context.__init__" (defArgs s_Context___init__) (defBody s_Context___init__) (defScope s_Context___init__) [V.int 9, V.str "half even", V.non, V.int 60] [] a_Context___init__ d)
    (h_F_Context_flags : ∃ d, FunD K "flags" "Context.flags" (defArgs s_Context_flags) (defBody s_Context_flags) (defScope s_Context_flags) [] [] a_Context_flags d)
    (h_F_Context_clear : ∃ d, FunD K "clear" "Context.clear" (defArgs s_Context_clear) (defBody s_Context_clear) (defScope s_Context_clear) [] [] a_Context_clear d)
    (h_F_Context_trap : ∃ d, FunD K "trap" "Context.trap" (defArgs s_Context_trap) (defBody s_Context_trap) (defScope s_Context_trap) [] [] a_Context_trap d)
    (h_F_Context_traps : ∃ d, FunD K "traps" "Context.traps" (defArgs s_Context_traps) (defBody s_Context_traps) (defScope s_Context_traps) [] [] a_Context_traps d)
    (h_F_Context_raised : ∃ d, FunD K "raised" "Context.raised" (defArgs s_Context_raised) (defBody s_Context_raised) (defScope s_Context_raised) [] [] a_Context_raised d)
    (h_a__law_cell_at : PySem.W.nsIn K mainGlobals "_law_cell_at" = some (some (.ref a__law_cell_at)))
    (h_F__law_cell_at : ∃ d, FunD K "_law_cell_at" "_law_cell_at" (defArgs s__law_cell_at) (defBody s__law_cell_at) (defScope s__law_cell_at) [] [] a__law_cell_at d)
    (h_a__law_mixed : PySem.W.nsIn K mainGlobals "_law_mixed" = some (some (.ref a__law_mixed)))
    (h_F__law_mixed : ∃ d, FunD K "_law_mixed" "_law_mixed" (defArgs s__law_mixed) (defBody s__law_mixed) (defScope s__law_mixed) [] [] a__law_mixed d)
    (h_a__law_signals : PySem.W.nsIn K mainGlobals "_law_signals" = some (some (.ref a__law_signals)))
    (h_F__law_signals : ∃ d, FunD K "_law_signals" "_law_signals" (defArgs s__law_signals) (defBody s__law_signals) (defScope s__law_signals) [] [] a__law_signals d)
    (h_a__law_word : PySem.W.nsIn K mainGlobals "_law_word" = some (some (.ref a__law_word)))
    (h_F__law_word : ∃ d, FunD K "_law_word" "_law_word" (defArgs s__law_word) (defBody s__law_word) (defScope s__law_word) [] [] a__law_word d)
    (h_a__law_trap : PySem.W.nsIn K mainGlobals "_law_trap" = some (some (.ref a__law_trap)))
    (h_F__law_trap : ∃ d, FunD K "_law_trap" "_law_trap" (defArgs s__law_trap) (defBody s__law_trap) (defScope s__law_trap) [] [] a__law_trap d)
    (h_a__law_odd : PySem.W.nsIn K mainGlobals "_law_odd" = some (some (.ref a__law_odd)))
    (h_F__law_odd : ∃ d, FunD K "_law_odd" "_law_odd" (defArgs s__law_odd) (defBody s__law_odd) (defScope s__law_odd) [] [] a__law_odd d)
    (h_a_law : PySem.W.nsIn K mainGlobals "law" = some (some (.ref a_law)))
    (h_F_law : ∃ d, FunD K "law" "law" (defArgs s_law) (defBody s_law) (defScope s_law) [] [] a_law d)
    (h_n_ReckonError : PySem.W.nsIn K mainGlobals "ReckonError" = some (some (.ref c_ReckonError)))
    (h_n_BadNumber : PySem.W.nsIn K mainGlobals "BadNumber" = some (some (.ref c_BadNumber)))
    (h_n_NoText : PySem.W.nsIn K mainGlobals "NoText" = some (some (.ref c_NoText)))
    (h_n_BadContext : PySem.W.nsIn K mainGlobals "BadContext" = some (some (.ref c_BadContext)))
    (h_n_BadCount : PySem.W.nsIn K mainGlobals "BadCount" = some (some (.ref c_BadCount)))
    (h_n_Trapped : PySem.W.nsIn K mainGlobals "Trapped" = some (some (.ref c_Trapped)))
    (h_n_Way : PySem.W.nsIn K mainGlobals "Way" = some (some (.ref c_Way)))
    (h_pg_Way : PySem.W.plainGet K c_Way Str.empty = true)
    (h_hd_Way : PySem.W.hasDictIn K c_Way = true)
    (h_po_Way : PySem.W.plainOver K c_Way = true)
    (h_sa_Way : PySem.W.findIn K (.ref c_Way) "__setattr__" = some (some (.builtin "object.__setattr__")))
    (h_ha_Way : PySem.W.findIn K (.ref c_Way) "__class__" = some (some (.builtin "object.__class__")))
    (h_hn_Way : PySem.W.specialIn K (.builtin "object.__class__") "__get__" = some (some (.builtin "getset_descriptor.__get__")))
    (h_htk_Way : PySem.W.takesIn K (.builtin "object.__class__") = some true)
    (h_hm_Way : PySem.W.mroIn K c_Way (.type "object") = some true)
    (h_n_Down : PySem.W.nsIn K mainGlobals "Down" = some (some (.ref c_Down)))
    (h_pg_Down : PySem.W.plainGet K c_Down Str.empty = true)
    (h_hd_Down : PySem.W.hasDictIn K c_Down = true)
    (h_po_Down : PySem.W.plainOver K c_Down = true)
    (h_sa_Down : PySem.W.findIn K (.ref c_Down) "__setattr__" = some (some (.builtin "object.__setattr__")))
    (h_ha_Down : PySem.W.findIn K (.ref c_Down) "__class__" = some (some (.builtin "object.__class__")))
    (h_hn_Down : PySem.W.specialIn K (.builtin "object.__class__") "__get__" = some (some (.builtin "getset_descriptor.__get__")))
    (h_htk_Down : PySem.W.takesIn K (.builtin "object.__class__") = some true)
    (h_hm_Down : PySem.W.mroIn K c_Down (.type "object") = some true)
    (h_n_Up : PySem.W.nsIn K mainGlobals "Up" = some (some (.ref c_Up)))
    (h_pg_Up : PySem.W.plainGet K c_Up Str.empty = true)
    (h_hd_Up : PySem.W.hasDictIn K c_Up = true)
    (h_po_Up : PySem.W.plainOver K c_Up = true)
    (h_sa_Up : PySem.W.findIn K (.ref c_Up) "__setattr__" = some (some (.builtin "object.__setattr__")))
    (h_ha_Up : PySem.W.findIn K (.ref c_Up) "__class__" = some (some (.builtin "object.__class__")))
    (h_hn_Up : PySem.W.specialIn K (.builtin "object.__class__") "__get__" = some (some (.builtin "getset_descriptor.__get__")))
    (h_htk_Up : PySem.W.takesIn K (.builtin "object.__class__") = some true)
    (h_hm_Up : PySem.W.mroIn K c_Up (.type "object") = some true)
    (h_n_Floor : PySem.W.nsIn K mainGlobals "Floor" = some (some (.ref c_Floor)))
    (h_pg_Floor : PySem.W.plainGet K c_Floor Str.empty = true)
    (h_hd_Floor : PySem.W.hasDictIn K c_Floor = true)
    (h_po_Floor : PySem.W.plainOver K c_Floor = true)
    (h_sa_Floor : PySem.W.findIn K (.ref c_Floor) "__setattr__" = some (some (.builtin "object.__setattr__")))
    (h_ha_Floor : PySem.W.findIn K (.ref c_Floor) "__class__" = some (some (.builtin "object.__class__")))
    (h_hn_Floor : PySem.W.specialIn K (.builtin "object.__class__") "__get__" = some (some (.builtin "getset_descriptor.__get__")))
    (h_htk_Floor : PySem.W.takesIn K (.builtin "object.__class__") = some true)
    (h_hm_Floor : PySem.W.mroIn K c_Floor (.type "object") = some true)
    (h_n_Ceiling : PySem.W.nsIn K mainGlobals "Ceiling" = some (some (.ref c_Ceiling)))
    (h_pg_Ceiling : PySem.W.plainGet K c_Ceiling Str.empty = true)
    (h_hd_Ceiling : PySem.W.hasDictIn K c_Ceiling = true)
    (h_po_Ceiling : PySem.W.plainOver K c_Ceiling = true)
    (h_sa_Ceiling : PySem.W.findIn K (.ref c_Ceiling) "__setattr__" = some (some (.builtin "object.__setattr__")))
    (h_ha_Ceiling : PySem.W.findIn K (.ref c_Ceiling) "__class__" = some (some (.builtin "object.__class__")))
    (h_hn_Ceiling : PySem.W.specialIn K (.builtin "object.__class__") "__get__" = some (some (.builtin "getset_descriptor.__get__")))
    (h_htk_Ceiling : PySem.W.takesIn K (.builtin "object.__class__") = some true)
    (h_hm_Ceiling : PySem.W.mroIn K c_Ceiling (.type "object") = some true)
    (h_n_HalfUp : PySem.W.nsIn K mainGlobals "HalfUp" = some (some (.ref c_HalfUp)))
    (h_pg_HalfUp : PySem.W.plainGet K c_HalfUp Str.empty = true)
    (h_hd_HalfUp : PySem.W.hasDictIn K c_HalfUp = true)
    (h_po_HalfUp : PySem.W.plainOver K c_HalfUp = true)
    (h_sa_HalfUp : PySem.W.findIn K (.ref c_HalfUp) "__setattr__" = some (some (.builtin "object.__setattr__")))
    (h_ha_HalfUp : PySem.W.findIn K (.ref c_HalfUp) "__class__" = some (some (.builtin "object.__class__")))
    (h_hn_HalfUp : PySem.W.specialIn K (.builtin "object.__class__") "__get__" = some (some (.builtin "getset_descriptor.__get__")))
    (h_htk_HalfUp : PySem.W.takesIn K (.builtin "object.__class__") = some true)
    (h_hm_HalfUp : PySem.W.mroIn K c_HalfUp (.type "object") = some true)
    (h_n_HalfDown : PySem.W.nsIn K mainGlobals "HalfDown" = some (some (.ref c_HalfDown)))
    (h_pg_HalfDown : PySem.W.plainGet K c_HalfDown Str.empty = true)
    (h_hd_HalfDown : PySem.W.hasDictIn K c_HalfDown = true)
    (h_po_HalfDown : PySem.W.plainOver K c_HalfDown = true)
    (h_sa_HalfDown : PySem.W.findIn K (.ref c_HalfDown) "__setattr__" = some (some (.builtin "object.__setattr__")))
    (h_ha_HalfDown : PySem.W.findIn K (.ref c_HalfDown) "__class__" = some (some (.builtin "object.__class__")))
    (h_hn_HalfDown : PySem.W.specialIn K (.builtin "object.__class__") "__get__" = some (some (.builtin "getset_descriptor.__get__")))
    (h_htk_HalfDown : PySem.W.takesIn K (.builtin "object.__class__") = some true)
    (h_hm_HalfDown : PySem.W.mroIn K c_HalfDown (.type "object") = some true)
    (h_n_HalfEven : PySem.W.nsIn K mainGlobals "HalfEven" = some (some (.ref c_HalfEven)))
    (h_pg_HalfEven : PySem.W.plainGet K c_HalfEven Str.empty = true)
    (h_hd_HalfEven : PySem.W.hasDictIn K c_HalfEven = true)
    (h_po_HalfEven : PySem.W.plainOver K c_HalfEven = true)
    (h_sa_HalfEven : PySem.W.findIn K (.ref c_HalfEven) "__setattr__" = some (some (.builtin "object.__setattr__")))
    (h_ha_HalfEven : PySem.W.findIn K (.ref c_HalfEven) "__class__" = some (some (.builtin "object.__class__")))
    (h_hn_HalfEven : PySem.W.specialIn K (.builtin "object.__class__") "__get__" = some (some (.builtin "getset_descriptor.__get__")))
    (h_htk_HalfEven : PySem.W.takesIn K (.builtin "object.__class__") = some true)
    (h_hm_HalfEven : PySem.W.mroIn K c_HalfEven (.type "object") = some true)
    (h_n_FiveUp : PySem.W.nsIn K mainGlobals "FiveUp" = some (some (.ref c_FiveUp)))
    (h_pg_FiveUp : PySem.W.plainGet K c_FiveUp Str.empty = true)
    (h_hd_FiveUp : PySem.W.hasDictIn K c_FiveUp = true)
    (h_po_FiveUp : PySem.W.plainOver K c_FiveUp = true)
    (h_sa_FiveUp : PySem.W.findIn K (.ref c_FiveUp) "__setattr__" = some (some (.builtin "object.__setattr__")))
    (h_ha_FiveUp : PySem.W.findIn K (.ref c_FiveUp) "__class__" = some (some (.builtin "object.__class__")))
    (h_hn_FiveUp : PySem.W.specialIn K (.builtin "object.__class__") "__get__" = some (some (.builtin "getset_descriptor.__get__")))
    (h_htk_FiveUp : PySem.W.takesIn K (.builtin "object.__class__") = some true)
    (h_hm_FiveUp : PySem.W.mroIn K c_FiveUp (.type "object") = some true)
    (h_n_Context : PySem.W.nsIn K mainGlobals "Context" = some (some (.ref c_Context)))
    (h_pg_Context : PySem.W.plainGet K c_Context Str.empty = true)
    (h_hd_Context : PySem.W.hasDictIn K c_Context = true)
    (h_po_Context : PySem.W.plainOver K c_Context = true)
    (h_sa_Context : PySem.W.findIn K (.ref c_Context) "__setattr__" = some (some (.builtin "object.__setattr__")))
    (h_ha_Context : PySem.W.findIn K (.ref c_Context) "__class__" = some (some (.builtin "object.__class__")))
    (h_hn_Context : PySem.W.specialIn K (.builtin "object.__class__") "__get__" = some (some (.builtin "getset_descriptor.__get__")))
    (h_htk_Context : PySem.W.takesIn K (.builtin "object.__class__") = some true)
    (h_hm_Context : PySem.W.mroIn K c_Context (.type "object") = some true)
    (h_mk_Context : PySem.W.makesIn K c_Context = true)
    (h_kc_Context : PySem.W.keepIn K (.ref c_Context) = true)
    (h_in_Context : PySem.W.findIn K (.ref c_Context) "__init__" = some (some (.ref a_Context___init__)))
    (h_if_Context : PySem.W.isFn K (.ref a_Context___init__) = true)
    (h_no_Context_manner : PySem.W.findIn K (.ref c_Context) "manner" = some none)
    (h_no_Context_room : PySem.W.findIn K (.ref c_Context) "room" = some none)
    (h_no_Context_least : PySem.W.findIn K (.ref c_Context) "least" = some none)
    (h_no_Context_most : PySem.W.findIn K (.ref c_Context) "most" = some none)
    (h_no_Context_standing : PySem.W.findIn K (.ref c_Context) "standing" = some none)
    (h_no_Context_caught : PySem.W.findIn K (.ref c_Context) "caught" = some none)
    (h_z_ValueError : PySem.W.nsIn K mainGlobals "ValueError" = some none)
    (h_z_all : PySem.W.nsIn K mainGlobals "all" = some none)
    (h_z_bool : PySem.W.nsIn K mainGlobals "bool" = some none)
    (h_z_dict : PySem.W.nsIn K mainGlobals "dict" = some none)
    (h_z_enumerate : PySem.W.nsIn K mainGlobals "enumerate" = some none)
    (h_z_int : PySem.W.nsIn K mainGlobals "int" = some none)
    (h_z_isinstance : PySem.W.nsIn K mainGlobals "isinstance" = some none)
    (h_z_len : PySem.W.nsIn K mainGlobals "len" = some none)
    (h_z_list : PySem.W.nsIn K mainGlobals "list" = some none)
    (h_z_range : PySem.W.nsIn K mainGlobals "range" = some none)
    (h_z_repr : PySem.W.nsIn K mainGlobals "repr" = some none)
    (h_z_reversed : PySem.W.nsIn K mainGlobals "reversed" = some none)
    (h_z_str : PySem.W.nsIn K mainGlobals "str" = some none)
    (h_z_tuple : PySem.W.nsIn K mainGlobals "tuple" = some none)
    (h_xx_BadContext : PySem.W.excIn K c_BadContext [.type "ValueError", .type "Exception", .type "BaseException", .type "object"] "ValueError.__new__" = true)
    (h_xk_BadContext : PySem.W.keepIn K (.ref c_BadContext) = true)
    (h_xb_BadContext : PySem.W.subIn K (.ref c_BadContext) (.type "BaseException") = some true)
    (h_xt_BadContext : PySem.W.typeIn K (.ref c_BadContext) = some (.type "type"))
    (h_xi_BadContext : PySem.W.isClsIn K c_BadContext = true)
    (h_echg_BadContext : PySem.W.findIn K (.ref c_BadContext) "__getattribute__" = some (some (.builtin "BaseException.__getattribute__")))
    (h_echk_BadContext : PySem.W.findIn K (.ref c_BadContext) "__getattr__" = some none)
    (h_echs_BadContext : PySem.W.subIn K (.ref c_BadContext) (.type "BaseException") = some true)
    (h_echd_BadContext : PySem.W.hasDictIn K c_BadContext = true)
    (h_echa_BadContext : PySem.W.findIn K (.ref c_BadContext) "__class__" = some (some (.builtin "object.__class__")))
    (h_echn_BadContext : PySem.W.specialIn K (.builtin "object.__class__") "__get__" = some (some (.builtin "getset_descriptor.__get__")))
    (h_echt_BadContext : PySem.W.takesIn K (.builtin "object.__class__") = some true)
    (h_echm_BadContext : PySem.W.mroIn K c_BadContext (.type "object") = some true)
    (h_exk_BadContext_BadContext : PySem.W.kitOne K (.ref c_BadContext) (.ref c_BadContext) = some true)
    (h_exk_BadContext_BadCount : PySem.W.kitOne K (.ref c_BadContext) (.ref c_BadCount) = some false)
    (h_exk_BadContext_BadNumber : PySem.W.kitOne K (.ref c_BadContext) (.ref c_BadNumber) = some false)
    (h_exk_BadContext_NoText : PySem.W.kitOne K (.ref c_BadContext) (.ref c_NoText) = some false)
    (h_exk_BadContext_Trapped : PySem.W.kitOne K (.ref c_BadContext) (.ref c_Trapped) = some false)
    (h_exk_BadContext_ValueError : PySem.W.kitOne K (.ref c_BadContext) (.type "ValueError") = some true)
    (h_exm_BadContext_ReckonError : PySem.W.exmOne K (.ref c_BadContext) (.ref c_ReckonError) = some true)
    (h_mk0_Ceiling : PySem.W.makesIn K c_Ceiling = true)
    (h_in0_Ceiling : PySem.W.findIn K (.ref c_Ceiling) "__init__" = some (some (.builtin "object.__init__")))
    (h_kc0_Ceiling : PySem.W.keepIn K (.ref c_Ceiling) = true)
    (h_mk0_Down : PySem.W.makesIn K c_Down = true)
    (h_in0_Down : PySem.W.findIn K (.ref c_Down) "__init__" = some (some (.builtin "object.__init__")))
    (h_kc0_Down : PySem.W.keepIn K (.ref c_Down) = true)
    (h_mk0_FiveUp : PySem.W.makesIn K c_FiveUp = true)
    (h_in0_FiveUp : PySem.W.findIn K (.ref c_FiveUp) "__init__" = some (some (.builtin "object.__init__")))
    (h_kc0_FiveUp : PySem.W.keepIn K (.ref c_FiveUp) = true)
    (h_mk0_Floor : PySem.W.makesIn K c_Floor = true)
    (h_in0_Floor : PySem.W.findIn K (.ref c_Floor) "__init__" = some (some (.builtin "object.__init__")))
    (h_kc0_Floor : PySem.W.keepIn K (.ref c_Floor) = true)
    (h_mk0_HalfDown : PySem.W.makesIn K c_HalfDown = true)
    (h_in0_HalfDown : PySem.W.findIn K (.ref c_HalfDown) "__init__" = some (some (.builtin "object.__init__")))
    (h_kc0_HalfDown : PySem.W.keepIn K (.ref c_HalfDown) = true)
    (h_mk0_HalfEven : PySem.W.makesIn K c_HalfEven = true)
    (h_in0_HalfEven : PySem.W.findIn K (.ref c_HalfEven) "__init__" = some (some (.builtin "object.__init__")))
    (h_kc0_HalfEven : PySem.W.keepIn K (.ref c_HalfEven) = true)
    (h_mk0_HalfUp : PySem.W.makesIn K c_HalfUp = true)
    (h_in0_HalfUp : PySem.W.findIn K (.ref c_HalfUp) "__init__" = some (some (.builtin "object.__init__")))
    (h_kc0_HalfUp : PySem.W.keepIn K (.ref c_HalfUp) = true)
    (h_mk0_Up : PySem.W.makesIn K c_Up = true)
    (h_in0_Up : PySem.W.findIn K (.ref c_Up) "__init__" = some (some (.builtin "object.__init__")))
    (h_kc0_Up : PySem.W.keepIn K (.ref c_Up) = true)
    (h_M_Ceiling_name : PySem.W.findIn K (.ref c_Ceiling) "name" = some (some (.ref a_Ceiling_name)))
    (h_Mi_Ceiling_name : PySem.W.isFn K (.ref a_Ceiling_name) = true)
    (h_M_Context_flags : PySem.W.findIn K (.ref c_Context) "flags" = some (some (.ref a_Context_flags)))
    (h_Mi_Context_flags : PySem.W.isFn K (.ref a_Context_flags) = true)
    (h_M_Context_raised : PySem.W.findIn K (.ref c_Context) "raised" = some (some (.ref a_Context_raised)))
    (h_Mi_Context_raised : PySem.W.isFn K (.ref a_Context_raised) = true)
    (h_M_Context_trap : PySem.W.findIn K (.ref c_Context) "trap" = some (some (.ref a_Context_trap)))
    (h_Mi_Context_trap : PySem.W.isFn K (.ref a_Context_trap) = true)
    (h_M_Context_traps : PySem.W.findIn K (.ref c_Context) "traps" = some (some (.ref a_Context_traps)))
    (h_Mi_Context_traps : PySem.W.isFn K (.ref a_Context_traps) = true)
    (h_M_Down_name : PySem.W.findIn K (.ref c_Down) "name" = some (some (.ref a_Way_name)))
    (h_Mi_Down_name : PySem.W.isFn K (.ref a_Way_name) = true)
    (h_M_FiveUp_name : PySem.W.findIn K (.ref c_FiveUp) "name" = some (some (.ref a_FiveUp_name)))
    (h_Mi_FiveUp_name : PySem.W.isFn K (.ref a_FiveUp_name) = true)
    (h_M_Floor_name : PySem.W.findIn K (.ref c_Floor) "name" = some (some (.ref a_Floor_name)))
    (h_Mi_Floor_name : PySem.W.isFn K (.ref a_Floor_name) = true)
    (h_M_HalfDown_name : PySem.W.findIn K (.ref c_HalfDown) "name" = some (some (.ref a_HalfDown_name)))
    (h_Mi_HalfDown_name : PySem.W.isFn K (.ref a_HalfDown_name) = true)
    (h_M_HalfEven_name : PySem.W.findIn K (.ref c_HalfEven) "name" = some (some (.ref a_HalfEven_name)))
    (h_Mi_HalfEven_name : PySem.W.isFn K (.ref a_HalfEven_name) = true)
    (h_M_HalfUp_name : PySem.W.findIn K (.ref c_HalfUp) "name" = some (some (.ref a_HalfUp_name)))
    (h_Mi_HalfUp_name : PySem.W.isFn K (.ref a_HalfUp_name) = true)
    (h_M_Up_name : PySem.W.findIn K (.ref c_Up) "name" = some (some (.ref a_Up_name)))
    (h_Mi_Up_name : PySem.W.isFn K (.ref a_Up_name) = true)
    (h_sysm : (K.lookup sysModules).map (fun o => o.cls) = some (.type "dict"))
    (h_ic_Way : PySem.W.isClsIn K c_Way = true)
    (h_it_Way : PySem.W.typeIn K (.ref c_Way) = some (.type "type"))
    (h_is_Down_Way : PySem.W.subIn K (.ref c_Down) (.ref c_Way) = some true)
    (h_is_Up_Way : PySem.W.subIn K (.ref c_Up) (.ref c_Way) = some true)
    (h_is_Floor_Way : PySem.W.subIn K (.ref c_Floor) (.ref c_Way) = some true)
    (h_is_Ceiling_Way : PySem.W.subIn K (.ref c_Ceiling) (.ref c_Way) = some true)
    (h_is_HalfUp_Way : PySem.W.subIn K (.ref c_HalfUp) (.ref c_Way) = some true)
    (h_is_HalfDown_Way : PySem.W.subIn K (.ref c_HalfDown) (.ref c_Way) = some true)
    (h_is_HalfEven_Way : PySem.W.subIn K (.ref c_HalfEven) (.ref c_Way) = some true)
    (h_is_FiveUp_Way : PySem.W.subIn K (.ref c_FiveUp) (.ref c_Way) = some true)
    (h_g_MOST_LEAD : ∃ t, mg "MOST_LEAD" = some (.int 60 t))
    (h_g_MOST_ROOM : ∃ t, mg "MOST_ROOM" = some (.int 24 t))
    (h_g_SIGNALS : PySem.W.nsIn K mainGlobals "SIGNALS" = some (some (.ref ta_SIGNALS)))
    (h_gl_SIGNALS : ∀ G : Hp, SqT K G ta_SIGNALS [V.str "void", V.str "split", V.str "burst", V.str "sunk", V.str "faint", V.str "off", V.str "cut"])
    (h_g_WAYS : PySem.W.nsIn K mainGlobals "WAYS" = some (some (.ref ta_WAYS)))
    (h_gl_WAYS : ∀ G : Hp, SqT K G ta_WAYS [V.str "down", V.str "up", V.str "floor", V.str "ceiling", V.str "half up", V.str "half down", V.str "half even", V.str "five up"])
    : ∃ fd : FuncData, (∀ (s : Shared) (v : Value), BindsTo s fd ⟨[v], []⟩ [("_law_script", v)]) ∧ ∀ base : Heap, K.In base → base.Ns mainGlobals mg → FnG P w K mg base 5 fa fd ["_law_script"] sLaw := by
  have e : fa = a_law := by
    have z := hfa.symm.trans (PySem.W.mg_of X G h_a_law)
    cases z
    rfl
  obtain ⟨d_is_whole, FD_is_whole⟩ := h_F_is_whole
  obtain ⟨d_Way_name, FD_Way_name⟩ := h_F_Way_name
  obtain ⟨d_Up_name, FD_Up_name⟩ := h_F_Up_name
  obtain ⟨d_Floor_name, FD_Floor_name⟩ := h_F_Floor_name
  obtain ⟨d_Ceiling_name, FD_Ceiling_name⟩ := h_F_Ceiling_name
  obtain ⟨d_HalfUp_name, FD_HalfUp_name⟩ := h_F_HalfUp_name
  obtain ⟨d_HalfDown_name, FD_HalfDown_name⟩ := h_F_HalfDown_name
  obtain ⟨d_HalfEven_name, FD_HalfEven_name⟩ := h_F_HalfEven_name
  obtain ⟨d_FiveUp_name, FD_FiveUp_name⟩ := h_F_FiveUp_name
  obtain ⟨d_half_way, FD_half_way⟩ := h_F_half_way
  obtain ⟨d_way_of, FD_way_of⟩ := h_F_way_of
  obtain ⟨d_need, FD_need⟩ := h_F_need
  obtain ⟨d_is_signal, FD_is_signal⟩ := h_F_is_signal
  obtain ⟨d_Context___init__, FD_Context___init__⟩ := h_F_Context___init__
  obtain ⟨d_Context_flags, FD_Context_flags⟩ := h_F_Context_flags
  obtain ⟨d_Context_clear, FD_Context_clear⟩ := h_F_Context_clear
  obtain ⟨d_Context_trap, FD_Context_trap⟩ := h_F_Context_trap
  obtain ⟨d_Context_traps, FD_Context_traps⟩ := h_F_Context_traps
  obtain ⟨d_Context_raised, FD_Context_raised⟩ := h_F_Context_raised
  obtain ⟨d__law_cell_at, FD__law_cell_at⟩ := h_F__law_cell_at
  obtain ⟨d__law_mixed, FD__law_mixed⟩ := h_F__law_mixed
  obtain ⟨d__law_signals, FD__law_signals⟩ := h_F__law_signals
  obtain ⟨d__law_word, FD__law_word⟩ := h_F__law_word
  obtain ⟨d__law_trap, FD__law_trap⟩ := h_F__law_trap
  obtain ⟨d__law_odd, FD__law_odd⟩ := h_F__law_odd
  obtain ⟨d_law, FD_law⟩ := h_F_law
  obtain ⟨t_MOST_LEAD, h_g_MOST_LEAD⟩ := h_g_MOST_LEAD
  obtain ⟨t_MOST_ROOM, h_g_MOST_ROOM⟩ := h_g_MOST_ROOM
  have m_is_whole : mg "is_whole" = some (.ref a_is_whole) := PySem.W.mg_of X G h_a_is_whole
  have F_is_whole : Fun K "is_whole" "is_whole" s_is_whole a_is_whole d_is_whole := He5.fun_of FD_is_whole
  have b_is_whole : Binds K d_is_whole ["thing", "least", "most"] [] := FunD.bindsN (ps := ["thing", "least", "most"]) FD_is_whole fun _ _ _ _ _ _ us hl => match us, hl with | [_, _, _], _ => rfl
  have F_Way_name : Fun K "name" "Way.name" s_Way_name a_Way_name d_Way_name := He5.fun_of FD_Way_name
  have b_Way_name : Binds K d_Way_name ["self"] [] := FunD.bindsN (ps := ["self"]) FD_Way_name fun _ _ _ _ _ _ us hl => match us, hl with | [_], _ => rfl
  have F_Up_name : Fun K "name" "Up.name" s_Up_name a_Up_name d_Up_name := He5.fun_of FD_Up_name
  have b_Up_name : Binds K d_Up_name ["self"] [] := FunD.bindsN (ps := ["self"]) FD_Up_name fun _ _ _ _ _ _ us hl => match us, hl with | [_], _ => rfl
  have F_Floor_name : Fun K "name" "Floor.name" s_Floor_name a_Floor_name d_Floor_name := He5.fun_of FD_Floor_name
  have b_Floor_name : Binds K d_Floor_name ["self"] [] := FunD.bindsN (ps := ["self"]) FD_Floor_name fun _ _ _ _ _ _ us hl => match us, hl with | [_], _ => rfl
  have F_Ceiling_name : Fun K "name" "Ceiling.name" s_Ceiling_name a_Ceiling_name d_Ceiling_name := He5.fun_of FD_Ceiling_name
  have b_Ceiling_name : Binds K d_Ceiling_name ["self"] [] := FunD.bindsN (ps := ["self"]) FD_Ceiling_name fun _ _ _ _ _ _ us hl => match us, hl with | [_], _ => rfl
  have F_HalfUp_name : Fun K "name" "HalfUp.name" s_HalfUp_name a_HalfUp_name d_HalfUp_name := He5.fun_of FD_HalfUp_name
  have b_HalfUp_name : Binds K d_HalfUp_name ["self"] [] := FunD.bindsN (ps := ["self"]) FD_HalfUp_name fun _ _ _ _ _ _ us hl => match us, hl with | [_], _ => rfl
  have F_HalfDown_name : Fun K "name" "HalfDown.name" s_HalfDown_name a_HalfDown_name d_HalfDown_name := He5.fun_of FD_HalfDown_name
  have b_HalfDown_name : Binds K d_HalfDown_name ["self"] [] := FunD.bindsN (ps := ["self"]) FD_HalfDown_name fun _ _ _ _ _ _ us hl => match us, hl with | [_], _ => rfl
  have F_HalfEven_name : Fun K "name" "HalfEven.name" s_HalfEven_name a_HalfEven_name d_HalfEven_name := He5.fun_of FD_HalfEven_name
  have b_HalfEven_name : Binds K d_HalfEven_name ["self"] [] := FunD.bindsN (ps := ["self"]) FD_HalfEven_name fun _ _ _ _ _ _ us hl => match us, hl with | [_], _ => rfl
  have F_FiveUp_name : Fun K "name" "FiveUp.name" s_FiveUp_name a_FiveUp_name d_FiveUp_name := He5.fun_of FD_FiveUp_name
  have b_FiveUp_name : Binds K d_FiveUp_name ["self"] [] := FunD.bindsN (ps := ["self"]) FD_FiveUp_name fun _ _ _ _ _ _ us hl => match us, hl with | [_], _ => rfl
  have m_half_way : mg "half_way" = some (.ref a_half_way) := PySem.W.mg_of X G h_a_half_way
  have F_half_way : Fun K "half_way" "half_way" s_half_way a_half_way d_half_way := He5.fun_of FD_half_way
  have b_half_way : Binds K d_half_way ["name"] [] := FunD.bindsN (ps := ["name"]) FD_half_way fun _ _ _ _ _ _ us hl => match us, hl with | [_], _ => rfl
  have m_way_of : mg "way_of" = some (.ref a_way_of) := PySem.W.mg_of X G h_a_way_of
  have F_way_of : Fun K "way_of" "way_of" s_way_of a_way_of d_way_of := He5.fun_of FD_way_of
  have b_way_of : Binds K d_way_of ["name"] [] := FunD.bindsN (ps := ["name"]) FD_way_of fun _ _ _ _ _ _ us hl => match us, hl with | [_], _ => rfl
  have m_need : mg "need" = some (.ref a_need) := PySem.W.mg_of X G h_a_need
  have F_need : Fun K "need" "need" s_need a_need d_need := He5.fun_of FD_need
  have b_need : Binds K d_need ["good"] [] := FunD.bindsN (ps := ["good"]) FD_need fun _ _ _ _ _ _ us hl => match us, hl with | [_], _ => rfl
  have m_is_signal : mg "is_signal" = some (.ref a_is_signal) := PySem.W.mg_of X G h_a_is_signal
  have F_is_signal : Fun K "is_signal" "is_signal" s_is_signal a_is_signal d_is_signal := He5.fun_of FD_is_signal
  have b_is_signal : Binds K d_is_signal ["thing"] [] := FunD.bindsN (ps := ["thing"]) FD_is_signal fun _ _ _ _ _ _ us hl => match us, hl with | [_], _ => rfl
  have F_Context___init__ : FunD K "__init__" "Context.__init__" (defArgs s_Context___init__) (defBody s_Context___init__) (defScope s_Context___init__) [V.int 9, V.str "half even", V.non, V.int 60] [] a_Context___init__ d_Context___init__ := FD_Context___init__
  have F_Context_flags : Fun K "flags" "Context.flags" s_Context_flags a_Context_flags d_Context_flags := He5.fun_of FD_Context_flags
  have b_Context_flags : Binds K d_Context_flags ["self"] [] := FunD.bindsN (ps := ["self"]) FD_Context_flags fun _ _ _ _ _ _ us hl => match us, hl with | [_], _ => rfl
  have F_Context_clear : Fun K "clear" "Context.clear" s_Context_clear a_Context_clear d_Context_clear := He5.fun_of FD_Context_clear
  have b_Context_clear : Binds K d_Context_clear ["self"] [] := FunD.bindsN (ps := ["self"]) FD_Context_clear fun _ _ _ _ _ _ us hl => match us, hl with | [_], _ => rfl
  have F_Context_trap : Fun K "trap" "Context.trap" s_Context_trap a_Context_trap d_Context_trap := He5.fun_of FD_Context_trap
  have b_Context_trap : Binds K d_Context_trap ["self", "names"] [] := FunD.bindsN (ps := ["self", "names"]) FD_Context_trap fun _ _ _ _ _ _ us hl => match us, hl with | [_, _], _ => rfl
  have F_Context_traps : Fun K "traps" "Context.traps" s_Context_traps a_Context_traps d_Context_traps := He5.fun_of FD_Context_traps
  have b_Context_traps : Binds K d_Context_traps ["self"] [] := FunD.bindsN (ps := ["self"]) FD_Context_traps fun _ _ _ _ _ _ us hl => match us, hl with | [_], _ => rfl
  have F_Context_raised : Fun K "raised" "Context.raised" s_Context_raised a_Context_raised d_Context_raised := He5.fun_of FD_Context_raised
  have b_Context_raised : Binds K d_Context_raised ["self", "names"] [] := FunD.bindsN (ps := ["self", "names"]) FD_Context_raised fun _ _ _ _ _ _ us hl => match us, hl with | [_, _], _ => rfl
  have m__law_cell_at : mg "_law_cell_at" = some (.ref a__law_cell_at) := PySem.W.mg_of X G h_a__law_cell_at
  have F__law_cell_at : Fun K "_law_cell_at" "_law_cell_at" s__law_cell_at a__law_cell_at d__law_cell_at := He5.fun_of FD__law_cell_at
  have b__law_cell_at : Binds K d__law_cell_at ["_law_script", "_law_k"] [] := FunD.bindsN (ps := ["_law_script", "_law_k"]) FD__law_cell_at fun _ _ _ _ _ _ us hl => match us, hl with | [_, _], _ => rfl
  have m__law_mixed : mg "_law_mixed" = some (.ref a__law_mixed) := PySem.W.mg_of X G h_a__law_mixed
  have F__law_mixed : Fun K "_law_mixed" "_law_mixed" s__law_mixed a__law_mixed d__law_mixed := He5.fun_of FD__law_mixed
  have b__law_mixed : Binds K d__law_mixed ["_law_cell", "_law_k"] [] := FunD.bindsN (ps := ["_law_cell", "_law_k"]) FD__law_mixed fun _ _ _ _ _ _ us hl => match us, hl with | [_, _], _ => rfl
  have m__law_signals : mg "_law_signals" = some (.ref a__law_signals) := PySem.W.mg_of X G h_a__law_signals
  have F__law_signals : Fun K "_law_signals" "_law_signals" s__law_signals a__law_signals d__law_signals := He5.fun_of FD__law_signals
  have b__law_signals : Binds K d__law_signals [] [] := FunD.bindsN (ps := []) FD__law_signals fun _ _ _ _ _ _ us hl => match us, hl with | [], _ => rfl
  have m__law_word : mg "_law_word" = some (.ref a__law_word) := PySem.W.mg_of X G h_a__law_word
  have F__law_word : Fun K "_law_word" "_law_word" s__law_word a__law_word d__law_word := He5.fun_of FD__law_word
  have b__law_word : Binds K d__law_word ["_law_e"] [] := FunD.bindsN (ps := ["_law_e"]) FD__law_word fun _ _ _ _ _ _ us hl => match us, hl with | [_], _ => rfl
  have m__law_trap : mg "_law_trap" = some (.ref a__law_trap) := PySem.W.mg_of X G h_a__law_trap
  have F__law_trap : Fun K "_law_trap" "_law_trap" s__law_trap a__law_trap d__law_trap := He5.fun_of FD__law_trap
  have b__law_trap : Binds K d__law_trap ["_law_context", "_law_names"] [] := FunD.bindsN (ps := ["_law_context", "_law_names"]) FD__law_trap fun _ _ _ _ _ _ us hl => match us, hl with | [_, _], _ => rfl
  have m__law_odd : mg "_law_odd" = some (.ref a__law_odd) := PySem.W.mg_of X G h_a__law_odd
  have F__law_odd : Fun K "_law_odd" "_law_odd" s__law_odd a__law_odd d__law_odd := He5.fun_of FD__law_odd
  have b__law_odd : Binds K d__law_odd ["_law_number", "_law_names"] [] := FunD.bindsN (ps := ["_law_number", "_law_names"]) FD__law_odd fun _ _ _ _ _ _ us hl => match us, hl with | [_, _], _ => rfl
  have m_law : mg "law" = some (.ref a_law) := PySem.W.mg_of X G h_a_law
  have F_law : Fun K "law" "law" s_law a_law d_law := He5.fun_of FD_law
  have b_law : Binds K d_law ["_law_script"] [] := FunD.bindsN (ps := ["_law_script"]) FD_law fun _ _ _ _ _ _ us hl => match us, hl with | [_], _ => rfl
  have m_ReckonError : mg "ReckonError" = some (.ref c_ReckonError) := PySem.W.mg_of X G h_n_ReckonError
  have m_BadNumber : mg "BadNumber" = some (.ref c_BadNumber) := PySem.W.mg_of X G h_n_BadNumber
  have m_NoText : mg "NoText" = some (.ref c_NoText) := PySem.W.mg_of X G h_n_NoText
  have m_BadContext : mg "BadContext" = some (.ref c_BadContext) := PySem.W.mg_of X G h_n_BadContext
  have m_BadCount : mg "BadCount" = some (.ref c_BadCount) := PySem.W.mg_of X G h_n_BadCount
  have m_Trapped : mg "Trapped" = some (.ref c_Trapped) := PySem.W.mg_of X G h_n_Trapped
  have m_Way : mg "Way" = some (.ref c_Way) := PySem.W.mg_of X G h_n_Way
  have i_Way : ClsI K c_Way := ⟨⟨h_pg_Way, h_hd_Way, h_po_Way, h_sa_Way⟩, h_ha_Way, h_hn_Way, h_htk_Way, h_hm_Way⟩
  have m_Down : mg "Down" = some (.ref c_Down) := PySem.W.mg_of X G h_n_Down
  have i_Down : ClsI K c_Down := ⟨⟨h_pg_Down, h_hd_Down, h_po_Down, h_sa_Down⟩, h_ha_Down, h_hn_Down, h_htk_Down, h_hm_Down⟩
  have m_Up : mg "Up" = some (.ref c_Up) := PySem.W.mg_of X G h_n_Up
  have i_Up : ClsI K c_Up := ⟨⟨h_pg_Up, h_hd_Up, h_po_Up, h_sa_Up⟩, h_ha_Up, h_hn_Up, h_htk_Up, h_hm_Up⟩
  have m_Floor : mg "Floor" = some (.ref c_Floor) := PySem.W.mg_of X G h_n_Floor
  have i_Floor : ClsI K c_Floor := ⟨⟨h_pg_Floor, h_hd_Floor, h_po_Floor, h_sa_Floor⟩, h_ha_Floor, h_hn_Floor, h_htk_Floor, h_hm_Floor⟩
  have m_Ceiling : mg "Ceiling" = some (.ref c_Ceiling) := PySem.W.mg_of X G h_n_Ceiling
  have i_Ceiling : ClsI K c_Ceiling := ⟨⟨h_pg_Ceiling, h_hd_Ceiling, h_po_Ceiling, h_sa_Ceiling⟩, h_ha_Ceiling, h_hn_Ceiling, h_htk_Ceiling, h_hm_Ceiling⟩
  have m_HalfUp : mg "HalfUp" = some (.ref c_HalfUp) := PySem.W.mg_of X G h_n_HalfUp
  have i_HalfUp : ClsI K c_HalfUp := ⟨⟨h_pg_HalfUp, h_hd_HalfUp, h_po_HalfUp, h_sa_HalfUp⟩, h_ha_HalfUp, h_hn_HalfUp, h_htk_HalfUp, h_hm_HalfUp⟩
  have m_HalfDown : mg "HalfDown" = some (.ref c_HalfDown) := PySem.W.mg_of X G h_n_HalfDown
  have i_HalfDown : ClsI K c_HalfDown := ⟨⟨h_pg_HalfDown, h_hd_HalfDown, h_po_HalfDown, h_sa_HalfDown⟩, h_ha_HalfDown, h_hn_HalfDown, h_htk_HalfDown, h_hm_HalfDown⟩
  have m_HalfEven : mg "HalfEven" = some (.ref c_HalfEven) := PySem.W.mg_of X G h_n_HalfEven
  have i_HalfEven : ClsI K c_HalfEven := ⟨⟨h_pg_HalfEven, h_hd_HalfEven, h_po_HalfEven, h_sa_HalfEven⟩, h_ha_HalfEven, h_hn_HalfEven, h_htk_HalfEven, h_hm_HalfEven⟩
  have m_FiveUp : mg "FiveUp" = some (.ref c_FiveUp) := PySem.W.mg_of X G h_n_FiveUp
  have i_FiveUp : ClsI K c_FiveUp := ⟨⟨h_pg_FiveUp, h_hd_FiveUp, h_po_FiveUp, h_sa_FiveUp⟩, h_ha_FiveUp, h_hn_FiveUp, h_htk_FiveUp, h_hm_FiveUp⟩
  have m_Context : mg "Context" = some (.ref c_Context) := PySem.W.mg_of X G h_n_Context
  have i_Context : ClsI K c_Context := ⟨⟨h_pg_Context, h_hd_Context, h_po_Context, h_sa_Context⟩, h_ha_Context, h_hn_Context, h_htk_Context, h_hm_Context⟩
  have mk_Context : Mk K c_Context a_Context___init__ := ⟨h_mk_Context, h_in_Context, h_if_Context, h_kc_Context⟩
  have no_Context_manner : NoAttr K c_Context "manner" := h_no_Context_manner
  have no_Context_room : NoAttr K c_Context "room" := h_no_Context_room
  have no_Context_least : NoAttr K c_Context "least" := h_no_Context_least
  have no_Context_most : NoAttr K c_Context "most" := h_no_Context_most
  have no_Context_standing : NoAttr K c_Context "standing" := h_no_Context_standing
  have no_Context_caught : NoAttr K c_Context "caught" := h_no_Context_caught
  have n_ValueError : mg "ValueError" = none := PySem.W.mg_none_of X G h_z_ValueError
  have n_all : mg "all" = none := PySem.W.mg_none_of X G h_z_all
  have n_bool : mg "bool" = none := PySem.W.mg_none_of X G h_z_bool
  have n_dict : mg "dict" = none := PySem.W.mg_none_of X G h_z_dict
  have n_enumerate : mg "enumerate" = none := PySem.W.mg_none_of X G h_z_enumerate
  have n_int : mg "int" = none := PySem.W.mg_none_of X G h_z_int
  have n_isinstance : mg "isinstance" = none := PySem.W.mg_none_of X G h_z_isinstance
  have n_len : mg "len" = none := PySem.W.mg_none_of X G h_z_len
  have n_list : mg "list" = none := PySem.W.mg_none_of X G h_z_list
  have n_range : mg "range" = none := PySem.W.mg_none_of X G h_z_range
  have n_repr : mg "repr" = none := PySem.W.mg_none_of X G h_z_repr
  have n_reversed : mg "reversed" = none := PySem.W.mg_none_of X G h_z_reversed
  have n_str : mg "str" = none := PySem.W.mg_none_of X G h_z_str
  have n_tuple : mg "tuple" = none := PySem.W.mg_none_of X G h_z_tuple
  have b_Context_0 : ∃ ds, Vals [V.int 9, V.str "half even", V.non, V.int 60] ds ∧ Binds K d_Context___init__ ["self", "room", "way", "least", "most"] ds := (F_Context___init__).binds1 1 0 (List.cons_ne_nil _ _) rfl fun _ _ _ _ _ _ _ us its hu hi => match us, its, hu, hi with | [_], [_, _, _, _], _, _ => ⟨_, rfl, rfl⟩
  have x_BadContext : ExcX K c_BadContext := ⟨h_xx_BadContext, h_xk_BadContext, h_xb_BadContext, h_xt_BadContext, h_xi_BadContext⟩
  have ec_BadContext : ExcC K c_BadContext := ⟨h_echg_BadContext, h_echk_BadContext, h_echs_BadContext, h_echd_BadContext, h_echa_BadContext, h_echn_BadContext, h_echt_BadContext, h_echm_BadContext⟩
  have exk_BadContext_BadContext : PySem.W.kitOne K (.ref c_BadContext) (.ref c_BadContext) = some true := h_exk_BadContext_BadContext
  have exk_BadContext_BadCount : PySem.W.kitOne K (.ref c_BadContext) (.ref c_BadCount) = some false := h_exk_BadContext_BadCount
  have exk_BadContext_BadNumber : PySem.W.kitOne K (.ref c_BadContext) (.ref c_BadNumber) = some false := h_exk_BadContext_BadNumber
  have exk_BadContext_NoText : PySem.W.kitOne K (.ref c_BadContext) (.ref c_NoText) = some false := h_exk_BadContext_NoText
  have exk_BadContext_Trapped : PySem.W.kitOne K (.ref c_BadContext) (.ref c_Trapped) = some false := h_exk_BadContext_Trapped
  have exk_BadContext_ValueError : PySem.W.kitOne K (.ref c_BadContext) (.type "ValueError") = some true := h_exk_BadContext_ValueError
  have exm_BadContext_ReckonError : PySem.W.exmOne K (.ref c_BadContext) (.ref c_ReckonError) = some true := h_exm_BadContext_ReckonError
  have k0_Ceiling : Mk0 K c_Ceiling := ⟨h_mk0_Ceiling, h_in0_Ceiling, h_kc0_Ceiling, h_hm_Ceiling⟩
  have k0_Down : Mk0 K c_Down := ⟨h_mk0_Down, h_in0_Down, h_kc0_Down, h_hm_Down⟩
  have k0_FiveUp : Mk0 K c_FiveUp := ⟨h_mk0_FiveUp, h_in0_FiveUp, h_kc0_FiveUp, h_hm_FiveUp⟩
  have k0_Floor : Mk0 K c_Floor := ⟨h_mk0_Floor, h_in0_Floor, h_kc0_Floor, h_hm_Floor⟩
  have k0_HalfDown : Mk0 K c_HalfDown := ⟨h_mk0_HalfDown, h_in0_HalfDown, h_kc0_HalfDown, h_hm_HalfDown⟩
  have k0_HalfEven : Mk0 K c_HalfEven := ⟨h_mk0_HalfEven, h_in0_HalfEven, h_kc0_HalfEven, h_hm_HalfEven⟩
  have k0_HalfUp : Mk0 K c_HalfUp := ⟨h_mk0_HalfUp, h_in0_HalfUp, h_kc0_HalfUp, h_hm_HalfUp⟩
  have k0_Up : Mk0 K c_Up := ⟨h_mk0_Up, h_in0_Up, h_kc0_Up, h_hm_Up⟩
  have M_Ceiling_name : Meth K c_Ceiling "name" a_Ceiling_name := ⟨h_M_Ceiling_name, h_Mi_Ceiling_name, FD_Ceiling_name.kp⟩
  have M_Context_flags : Meth K c_Context "flags" a_Context_flags := ⟨h_M_Context_flags, h_Mi_Context_flags, FD_Context_flags.kp⟩
  have M_Context_raised : Meth K c_Context "raised" a_Context_raised := ⟨h_M_Context_raised, h_Mi_Context_raised, FD_Context_raised.kp⟩
  have M_Context_trap : Meth K c_Context "trap" a_Context_trap := ⟨h_M_Context_trap, h_Mi_Context_trap, FD_Context_trap.kp⟩
  have M_Context_traps : Meth K c_Context "traps" a_Context_traps := ⟨h_M_Context_traps, h_Mi_Context_traps, FD_Context_traps.kp⟩
  have M_Down_name : Meth K c_Down "name" a_Way_name := ⟨h_M_Down_name, h_Mi_Down_name, FD_Way_name.kp⟩
  have M_FiveUp_name : Meth K c_FiveUp "name" a_FiveUp_name := ⟨h_M_FiveUp_name, h_Mi_FiveUp_name, FD_FiveUp_name.kp⟩
  have M_Floor_name : Meth K c_Floor "name" a_Floor_name := ⟨h_M_Floor_name, h_Mi_Floor_name, FD_Floor_name.kp⟩
  have M_HalfDown_name : Meth K c_HalfDown "name" a_HalfDown_name := ⟨h_M_HalfDown_name, h_Mi_HalfDown_name, FD_HalfDown_name.kp⟩
  have M_HalfEven_name : Meth K c_HalfEven "name" a_HalfEven_name := ⟨h_M_HalfEven_name, h_Mi_HalfEven_name, FD_HalfEven_name.kp⟩
  have M_HalfUp_name : Meth K c_HalfUp "name" a_HalfUp_name := ⟨h_M_HalfUp_name, h_Mi_HalfUp_name, FD_HalfUp_name.kp⟩
  have M_Up_name : Meth K c_Up "name" a_Up_name := ⟨h_M_Up_name, h_Mi_Up_name, FD_Up_name.kp⟩
  have sysm : SysM K := h_sysm
  have isi_Down_Way : PySem.W.kitOne K (.ref c_Down) (.ref c_Way) = some true := kit_own h_is_Down_Way h_ic_Way h_it_Way (.inl rfl)
  have isi_Up_Way : PySem.W.kitOne K (.ref c_Up) (.ref c_Way) = some true := kit_own h_is_Up_Way h_ic_Way h_it_Way (.inl rfl)
  have isi_Floor_Way : PySem.W.kitOne K (.ref c_Floor) (.ref c_Way) = some true := kit_own h_is_Floor_Way h_ic_Way h_it_Way (.inl rfl)
  have isi_Ceiling_Way : PySem.W.kitOne K (.ref c_Ceiling) (.ref c_Way) = some true := kit_own h_is_Ceiling_Way h_ic_Way h_it_Way (.inl rfl)
  have isi_HalfUp_Way : PySem.W.kitOne K (.ref c_HalfUp) (.ref c_Way) = some true := kit_own h_is_HalfUp_Way h_ic_Way h_it_Way (.inl rfl)
  have isi_HalfDown_Way : PySem.W.kitOne K (.ref c_HalfDown) (.ref c_Way) = some true := kit_own h_is_HalfDown_Way h_ic_Way h_it_Way (.inl rfl)
  have isi_HalfEven_Way : PySem.W.kitOne K (.ref c_HalfEven) (.ref c_Way) = some true := kit_own h_is_HalfEven_Way h_ic_Way h_it_Way (.inl rfl)
  have isi_FiveUp_Way : PySem.W.kitOne K (.ref c_FiveUp) (.ref c_Way) = some true := kit_own h_is_FiveUp_Way h_ic_Way h_it_Way (.inl rfl)
  have g_MOST_LEAD : mg "MOST_LEAD" = some (.int 60 t_MOST_LEAD) := h_g_MOST_LEAD
  have g_MOST_ROOM : mg "MOST_ROOM" = some (.int 24 t_MOST_ROOM) := h_g_MOST_ROOM
  have g_SIGNALS : mg "SIGNALS" = some (.ref ta_SIGNALS) := PySem.W.mg_of X G h_g_SIGNALS
  have k_SIGNALS : ∀ G : Hp, ∃ vs, SqT K G ta_SIGNALS vs ∧ Reps K G gl_SIGNALS vs := fun G => ⟨[V.str "void", V.str "split", V.str "burst", V.str "sunk", V.str "faint", V.str "off", V.str "cut"], h_gl_SIGNALS G, Reps.cons (x := .str "void") rfl (Reps.cons (x := .str "split") rfl (Reps.cons (x := .str "burst") rfl (Reps.cons (x := .str "sunk") rfl (Reps.cons (x := .str "faint") rfl (Reps.cons (x := .str "off") rfl (Reps.cons (x := .str "cut") rfl (Reps.nil)))))))⟩
  have g_WAYS : mg "WAYS" = some (.ref ta_WAYS) := PySem.W.mg_of X G h_g_WAYS
  have k_WAYS : ∀ G : Hp, ∃ vs, SqT K G ta_WAYS vs ∧ Reps K G gl_WAYS vs := fun G => ⟨[V.str "down", V.str "up", V.str "floor", V.str "ceiling", V.str "half up", V.str "half down", V.str "half even", V.str "five up"], h_gl_WAYS G, Reps.cons (x := .str "down") rfl (Reps.cons (x := .str "up") rfl (Reps.cons (x := .str "floor") rfl (Reps.cons (x := .str "ceiling") rfl (Reps.cons (x := .str "half up") rfl (Reps.cons (x := .str "half down") rfl (Reps.cons (x := .str "half even") rfl (Reps.cons (x := .str "five up") rfl (Reps.nil))))))))⟩
  let T : Tx K mg := { t_is_whole := ⟨a_is_whole, d_is_whole, m_is_whole, F_is_whole, b_is_whole⟩, t_Way_name := ⟨a_Way_name, d_Way_name, F_Way_name, b_Way_name⟩, t_Up_name := ⟨a_Up_name, d_Up_name, F_Up_name, b_Up_name⟩, t_Floor_name := ⟨a_Floor_name, d_Floor_name, F_Floor_name, b_Floor_name⟩, t_Ceiling_name := ⟨a_Ceiling_name, d_Ceiling_name, F_Ceiling_name, b_Ceiling_name⟩, t_HalfUp_name := ⟨a_HalfUp_name, d_HalfUp_name, F_HalfUp_name, b_HalfUp_name⟩, t_HalfDown_name := ⟨a_HalfDown_name, d_HalfDown_name, F_HalfDown_name, b_HalfDown_name⟩, t_HalfEven_name := ⟨a_HalfEven_name, d_HalfEven_name, F_HalfEven_name, b_HalfEven_name⟩, t_FiveUp_name := ⟨a_FiveUp_name, d_FiveUp_name, F_FiveUp_name, b_FiveUp_name⟩, t_half_way := ⟨a_half_way, d_half_way, m_half_way, F_half_way, b_half_way⟩, t_way_of := ⟨a_way_of, d_way_of, m_way_of, F_way_of, b_way_of⟩, t_need := ⟨a_need, d_need, m_need, F_need, b_need⟩, t_is_signal := ⟨a_is_signal, d_is_signal, m_is_signal, F_is_signal, b_is_signal⟩, t_Context___init__ := ⟨a_Context___init__, d_Context___init__, F_Context___init__⟩, t_Context_flags := ⟨a_Context_flags, d_Context_flags, F_Context_flags, b_Context_flags⟩, t_Context_clear := ⟨a_Context_clear, d_Context_clear, F_Context_clear, b_Context_clear⟩, t_Context_trap := ⟨a_Context_trap, d_Context_trap, F_Context_trap, b_Context_trap⟩, t_Context_traps := ⟨a_Context_traps, d_Context_traps, F_Context_traps, b_Context_traps⟩, t_Context_raised := ⟨a_Context_raised, d_Context_raised, F_Context_raised, b_Context_raised⟩, t__law_cell_at := ⟨a__law_cell_at, d__law_cell_at, m__law_cell_at, F__law_cell_at, b__law_cell_at⟩, t__law_mixed := ⟨a__law_mixed, d__law_mixed, m__law_mixed, F__law_mixed, b__law_mixed⟩, t__law_signals := ⟨a__law_signals, d__law_signals, m__law_signals, F__law_signals, b__law_signals⟩, t__law_word := ⟨a__law_word, d__law_word, m__law_word, F__law_word, b__law_word⟩, t__law_trap := ⟨a__law_trap, d__law_trap, m__law_trap, F__law_trap, b__law_trap⟩, t__law_odd := ⟨a__law_odd, d__law_odd, m__law_odd, F__law_odd, b__law_odd⟩, t_law := ⟨a_law, d_law, m_law, F_law, b_law⟩, c_ReckonError := c_ReckonError, c_BadNumber := c_BadNumber, c_NoText := c_NoText, c_BadContext := c_BadContext, c_BadCount := c_BadCount, c_Trapped := c_Trapped, c_Way := c_Way, c_Down := c_Down, c_Up := c_Up, c_Floor := c_Floor, c_Ceiling := c_Ceiling, c_HalfUp := c_HalfUp, c_HalfDown := c_HalfDown, c_HalfEven := c_HalfEven, c_FiveUp := c_FiveUp, c_Context := c_Context, t_MOST_LEAD := t_MOST_LEAD, t_MOST_ROOM := t_MOST_ROOM, ta_SIGNALS := ta_SIGNALS, ta_WAYS := ta_WAYS, m_ReckonError := m_ReckonError, m_BadNumber := m_BadNumber, m_NoText := m_NoText, m_BadContext := m_BadContext, m_BadCount := m_BadCount, m_Trapped := m_Trapped, m_Way := m_Way, i_Way := i_Way, m_Down := m_Down, i_Down := i_Down, m_Up := m_Up, i_Up := i_Up, m_Floor := m_Floor, i_Floor := i_Floor, m_Ceiling := m_Ceiling, i_Ceiling := i_Ceiling, m_HalfUp := m_HalfUp, i_HalfUp := i_HalfUp, m_HalfDown := m_HalfDown, i_HalfDown := i_HalfDown, m_HalfEven := m_HalfEven, i_HalfEven := i_HalfEven, m_FiveUp := m_FiveUp, i_FiveUp := i_FiveUp, m_Context := m_Context, i_Context := i_Context, mk_Context := mk_Context, no_Context_manner := no_Context_manner, no_Context_room := no_Context_room, no_Context_least := no_Context_least, no_Context_most := no_Context_most, no_Context_standing := no_Context_standing, no_Context_caught := no_Context_caught, n_ValueError := n_ValueError, n_all := n_all, n_bool := n_bool, n_dict := n_dict, n_enumerate := n_enumerate, n_int := n_int, n_isinstance := n_isinstance, n_len := n_len, n_list := n_list, n_range := n_range, n_repr := n_repr, n_reversed := n_reversed, n_str := n_str, n_tuple := n_tuple, b_Context_0 := b_Context_0, x_BadContext := x_BadContext, ec_BadContext := ec_BadContext, exk_BadContext_BadContext := exk_BadContext_BadContext, exk_BadContext_BadCount := exk_BadContext_BadCount, exk_BadContext_BadNumber := exk_BadContext_BadNumber, exk_BadContext_NoText := exk_BadContext_NoText, exk_BadContext_Trapped := exk_BadContext_Trapped, exk_BadContext_ValueError := exk_BadContext_ValueError, exm_BadContext_ReckonError := exm_BadContext_ReckonError, k0_Ceiling := k0_Ceiling, k0_Down := k0_Down, k0_FiveUp := k0_FiveUp, k0_Floor := k0_Floor, k0_HalfDown := k0_HalfDown, k0_HalfEven := k0_HalfEven, k0_HalfUp := k0_HalfUp, k0_Up := k0_Up, M_Ceiling_name := M_Ceiling_name, M_Context_flags := M_Context_flags, M_Context_raised := M_Context_raised, M_Context_trap := M_Context_trap, M_Context_traps := M_Context_traps, M_Down_name := M_Down_name, M_FiveUp_name := M_FiveUp_name, M_Floor_name := M_Floor_name, M_HalfDown_name := M_HalfDown_name, M_HalfEven_name := M_HalfEven_name, M_HalfUp_name := M_HalfUp_name, M_Up_name := M_Up_name, sysm := sysm, isi_Down_Way := isi_Down_Way, isi_Up_Way := isi_Up_Way, isi_Floor_Way := isi_Floor_Way, isi_Ceiling_Way := isi_Ceiling_Way, isi_HalfUp_Way := isi_HalfUp_Way, isi_HalfDown_Way := isi_HalfDown_Way, isi_HalfEven_Way := isi_HalfEven_Way, isi_FiveUp_Way := isi_FiveUp_Way, g_MOST_LEAD := g_MOST_LEAD, g_MOST_ROOM := g_MOST_ROOM, g_SIGNALS := g_SIGNALS, k_SIGNALS := k_SIGNALS, g_WAYS := g_WAYS, k_WAYS := k_WAYS }
  refine ⟨d_law, fun s v => (FunD.bindsA (ps := ["_law_script"]) FD_law fun _ _ _ _ _ _ us hl => match us, hl with | [_], _ => rfl) s [v] rfl, fun base _ _ => ?_⟩
  rw [e]
  exact ok_law (P := P) (w := w) (base := base) T
def fx0 (K : PySem.W.Frag) : List Bool := [decide (PySem.W.nsIn K mainGlobals "is_whole" = some (some (.ref (He.fAd K ("is_whole", none))))),
  decide (PySem.W.nsIn K mainGlobals "half_way" = some (some (.ref (He.fAd K ("half_way", none))))),
  decide (PySem.W.nsIn K mainGlobals "way_of" = some (some (.ref (He.fAd K ("way_of", none))))),
  decide (PySem.W.nsIn K mainGlobals "need" = some (some (.ref (He.fAd K ("need", none))))),
  decide (PySem.W.nsIn K mainGlobals "is_signal" = some (some (.ref (He.fAd K ("is_signal", none))))),
  decide (PySem.W.nsIn K mainGlobals "_law_cell_at" = some (some (.ref (He.fAd K ("_law_cell_at", none))))),
  decide (PySem.W.nsIn K mainGlobals "_law_mixed" = some (some (.ref (He.fAd K ("_law_mixed", none))))),
  decide (PySem.W.nsIn K mainGlobals "_law_signals" = some (some (.ref (He.fAd K ("_law_signals", none))))),
  decide (PySem.W.nsIn K mainGlobals "_law_word" = some (some (.ref (He.fAd K ("_law_word", none))))),
  decide (PySem.W.nsIn K mainGlobals "_law_trap" = some (some (.ref (He.fAd K ("_law_trap", none))))),
  decide (PySem.W.nsIn K mainGlobals "_law_odd" = some (some (.ref (He.fAd K ("_law_odd", none))))),
  decide (PySem.W.nsIn K mainGlobals "law" = some (some (.ref (He.fAd K ("law", none))))),
  decide (PySem.W.nsIn K mainGlobals "ReckonError" = some (some (.ref (He.ga K "ReckonError")))),
  decide (PySem.W.nsIn K mainGlobals "BadNumber" = some (some (.ref (He.ga K "BadNumber")))),
  decide (PySem.W.nsIn K mainGlobals "NoText" = some (some (.ref (He.ga K "NoText")))),
  decide (PySem.W.nsIn K mainGlobals "BadContext" = some (some (.ref (He.ga K "BadContext")))),
  decide (PySem.W.nsIn K mainGlobals "BadCount" = some (some (.ref (He.ga K "BadCount")))),
  decide (PySem.W.nsIn K mainGlobals "Trapped" = some (some (.ref (He.ga K "Trapped")))),
  decide (PySem.W.nsIn K mainGlobals "Way" = some (some (.ref (He.ga K "Way")))),
  PySem.W.plainGet K (He.ga K "Way") Str.empty,
  PySem.W.hasDictIn K (He.ga K "Way"),
  PySem.W.plainOver K (He.ga K "Way"),
  decide (PySem.W.findIn K (.ref (He.ga K "Way")) "__setattr__" = some (some (.builtin "object.__setattr__"))),
  decide (PySem.W.findIn K (.ref (He.ga K "Way")) "__class__" = some (some (.builtin "object.__class__"))),
  decide (PySem.W.specialIn K (.builtin "object.__class__") "__get__" = some (some (.builtin "getset_descriptor.__get__"))),
  decide (PySem.W.takesIn K (.builtin "object.__class__") = some true),
  decide (PySem.W.mroIn K (He.ga K "Way") (.type "object") = some true),
  decide (PySem.W.nsIn K mainGlobals "Down" = some (some (.ref (He.ga K "Down")))),
  PySem.W.plainGet K (He.ga K "Down") Str.empty,
  PySem.W.hasDictIn K (He.ga K "Down"),
  PySem.W.plainOver K (He.ga K "Down"),
  decide (PySem.W.findIn K (.ref (He.ga K "Down")) "__setattr__" = some (some (.builtin "object.__setattr__"))),
  decide (PySem.W.findIn K (.ref (He.ga K "Down")) "__class__" = some (some (.builtin "object.__class__"))),
  decide (PySem.W.specialIn K (.builtin "object.__class__") "__get__" = some (some (.builtin "getset_descriptor.__get__"))),
  decide (PySem.W.takesIn K (.builtin "object.__class__") = some true),
  decide (PySem.W.mroIn K (He.ga K "Down") (.type "object") = some true),
  decide (PySem.W.nsIn K mainGlobals "Up" = some (some (.ref (He.ga K "Up")))),
  PySem.W.plainGet K (He.ga K "Up") Str.empty,
  PySem.W.hasDictIn K (He.ga K "Up"),
  PySem.W.plainOver K (He.ga K "Up"),
  decide (PySem.W.findIn K (.ref (He.ga K "Up")) "__setattr__" = some (some (.builtin "object.__setattr__"))),
  decide (PySem.W.findIn K (.ref (He.ga K "Up")) "__class__" = some (some (.builtin "object.__class__"))),
  decide (PySem.W.specialIn K (.builtin "object.__class__") "__get__" = some (some (.builtin "getset_descriptor.__get__"))),
  decide (PySem.W.takesIn K (.builtin "object.__class__") = some true),
  decide (PySem.W.mroIn K (He.ga K "Up") (.type "object") = some true),
  decide (PySem.W.nsIn K mainGlobals "Floor" = some (some (.ref (He.ga K "Floor")))),
  PySem.W.plainGet K (He.ga K "Floor") Str.empty,
  PySem.W.hasDictIn K (He.ga K "Floor"),
  PySem.W.plainOver K (He.ga K "Floor"),
  decide (PySem.W.findIn K (.ref (He.ga K "Floor")) "__setattr__" = some (some (.builtin "object.__setattr__"))),
  decide (PySem.W.findIn K (.ref (He.ga K "Floor")) "__class__" = some (some (.builtin "object.__class__"))),
  decide (PySem.W.specialIn K (.builtin "object.__class__") "__get__" = some (some (.builtin "getset_descriptor.__get__"))),
  decide (PySem.W.takesIn K (.builtin "object.__class__") = some true),
  decide (PySem.W.mroIn K (He.ga K "Floor") (.type "object") = some true),
  decide (PySem.W.nsIn K mainGlobals "Ceiling" = some (some (.ref (He.ga K "Ceiling")))),
  PySem.W.plainGet K (He.ga K "Ceiling") Str.empty,
  PySem.W.hasDictIn K (He.ga K "Ceiling"),
  PySem.W.plainOver K (He.ga K "Ceiling"),
  decide (PySem.W.findIn K (.ref (He.ga K "Ceiling")) "__setattr__" = some (some (.builtin "object.__setattr__"))),
  decide (PySem.W.findIn K (.ref (He.ga K "Ceiling")) "__class__" = some (some (.builtin "object.__class__"))),
  decide (PySem.W.specialIn K (.builtin "object.__class__") "__get__" = some (some (.builtin "getset_descriptor.__get__"))),
  decide (PySem.W.takesIn K (.builtin "object.__class__") = some true),
  decide (PySem.W.mroIn K (He.ga K "Ceiling") (.type "object") = some true),
  decide (PySem.W.nsIn K mainGlobals "HalfUp" = some (some (.ref (He.ga K "HalfUp")))),
  PySem.W.plainGet K (He.ga K "HalfUp") Str.empty,
  PySem.W.hasDictIn K (He.ga K "HalfUp"),
  PySem.W.plainOver K (He.ga K "HalfUp"),
  decide (PySem.W.findIn K (.ref (He.ga K "HalfUp")) "__setattr__" = some (some (.builtin "object.__setattr__"))),
  decide (PySem.W.findIn K (.ref (He.ga K "HalfUp")) "__class__" = some (some (.builtin "object.__class__"))),
  decide (PySem.W.specialIn K (.builtin "object.__class__") "__get__" = some (some (.builtin "getset_descriptor.__get__"))),
  decide (PySem.W.takesIn K (.builtin "object.__class__") = some true),
  decide (PySem.W.mroIn K (He.ga K "HalfUp") (.type "object") = some true),
  decide (PySem.W.nsIn K mainGlobals "HalfDown" = some (some (.ref (He.ga K "HalfDown")))),
  PySem.W.plainGet K (He.ga K "HalfDown") Str.empty,
  PySem.W.hasDictIn K (He.ga K "HalfDown"),
  PySem.W.plainOver K (He.ga K "HalfDown"),
  decide (PySem.W.findIn K (.ref (He.ga K "HalfDown")) "__setattr__" = some (some (.builtin "object.__setattr__"))),
  decide (PySem.W.findIn K (.ref (He.ga K "HalfDown")) "__class__" = some (some (.builtin "object.__class__"))),
  decide (PySem.W.specialIn K (.builtin "object.__class__") "__get__" = some (some (.builtin "getset_descriptor.__get__"))),
  decide (PySem.W.takesIn K (.builtin "object.__class__") = some true),
  decide (PySem.W.mroIn K (He.ga K "HalfDown") (.type "object") = some true),
  decide (PySem.W.nsIn K mainGlobals "HalfEven" = some (some (.ref (He.ga K "HalfEven")))),
  PySem.W.plainGet K (He.ga K "HalfEven") Str.empty,
  PySem.W.hasDictIn K (He.ga K "HalfEven"),
  PySem.W.plainOver K (He.ga K "HalfEven"),
  decide (PySem.W.findIn K (.ref (He.ga K "HalfEven")) "__setattr__" = some (some (.builtin "object.__setattr__"))),
  decide (PySem.W.findIn K (.ref (He.ga K "HalfEven")) "__class__" = some (some (.builtin "object.__class__"))),
  decide (PySem.W.specialIn K (.builtin "object.__class__") "__get__" = some (some (.builtin "getset_descriptor.__get__"))),
  decide (PySem.W.takesIn K (.builtin "object.__class__") = some true),
  decide (PySem.W.mroIn K (He.ga K "HalfEven") (.type "object") = some true),
  decide (PySem.W.nsIn K mainGlobals "FiveUp" = some (some (.ref (He.ga K "FiveUp")))),
  PySem.W.plainGet K (He.ga K "FiveUp") Str.empty,
  PySem.W.hasDictIn K (He.ga K "FiveUp"),
  PySem.W.plainOver K (He.ga K "FiveUp"),
  decide (PySem.W.findIn K (.ref (He.ga K "FiveUp")) "__setattr__" = some (some (.builtin "object.__setattr__"))),
  decide (PySem.W.findIn K (.ref (He.ga K "FiveUp")) "__class__" = some (some (.builtin "object.__class__"))),
  decide (PySem.W.specialIn K (.builtin "object.__class__") "__get__" = some (some (.builtin "getset_descriptor.__get__"))),
  decide (PySem.W.takesIn K (.builtin "object.__class__") = some true),
  decide (PySem.W.mroIn K (He.ga K "FiveUp") (.type "object") = some true),
  decide (PySem.W.nsIn K mainGlobals "Context" = some (some (.ref (He.ga K "Context")))),
  PySem.W.plainGet K (He.ga K "Context") Str.empty,
  PySem.W.hasDictIn K (He.ga K "Context"),
  PySem.W.plainOver K (He.ga K "Context"),
  decide (PySem.W.findIn K (.ref (He.ga K "Context")) "__setattr__" = some (some (.builtin "object.__setattr__"))),
  decide (PySem.W.findIn K (.ref (He.ga K "Context")) "__class__" = some (some (.builtin "object.__class__"))),
  decide (PySem.W.specialIn K (.builtin "object.__class__") "__get__" = some (some (.builtin "getset_descriptor.__get__"))),
  decide (PySem.W.takesIn K (.builtin "object.__class__") = some true),
  decide (PySem.W.mroIn K (He.ga K "Context") (.type "object") = some true),
  PySem.W.makesIn K (He.ga K "Context"),
  PySem.W.keepIn K (.ref (He.ga K "Context")),
  decide (PySem.W.findIn K (.ref (He.ga K "Context")) "__init__" = some (some (.ref (He.fAd K ("Context", some "__init__"))))),
  PySem.W.isFn K (.ref (He.fAd K ("Context", some "__init__"))),
  decide (PySem.W.findIn K (.ref (He.ga K "Context")) "manner" = some none),
  decide (PySem.W.findIn K (.ref (He.ga K "Context")) "room" = some none),
  decide (PySem.W.findIn K (.ref (He.ga K "Context")) "least" = some none),
  decide (PySem.W.findIn K (.ref (He.ga K "Context")) "most" = some none),
  decide (PySem.W.findIn K (.ref (He.ga K "Context")) "standing" = some none),
  decide (PySem.W.findIn K (.ref (He.ga K "Context")) "caught" = some none),
  decide (PySem.W.nsIn K mainGlobals "ValueError" = some none),
  decide (PySem.W.nsIn K mainGlobals "all" = some none),
  decide (PySem.W.nsIn K mainGlobals "bool" = some none),
  decide (PySem.W.nsIn K mainGlobals "dict" = some none),
  decide (PySem.W.nsIn K mainGlobals "enumerate" = some none),
  decide (PySem.W.nsIn K mainGlobals "int" = some none),
  decide (PySem.W.nsIn K mainGlobals "isinstance" = some none),
  decide (PySem.W.nsIn K mainGlobals "len" = some none),
  decide (PySem.W.nsIn K mainGlobals "list" = some none),
  decide (PySem.W.nsIn K mainGlobals "range" = some none),
  decide (PySem.W.nsIn K mainGlobals "repr" = some none),
  decide (PySem.W.nsIn K mainGlobals "reversed" = some none),
  decide (PySem.W.nsIn K mainGlobals "str" = some none),
  decide (PySem.W.nsIn K mainGlobals "tuple" = some none),
  PySem.W.excIn K (He.ga K "BadContext") [.type "ValueError", .type "Exception", .type "BaseException", .type "object"] "ValueError.__new__",
  PySem.W.keepIn K (.ref (He.ga K "BadContext")),
  decide (PySem.W.subIn K (.ref (He.ga K "BadContext")) (.type "BaseException") = some true),
  decide (PySem.W.typeIn K (.ref (He.ga K "BadContext")) = some (.type "type")),
  PySem.W.isClsIn K (He.ga K "BadContext"),
  decide (PySem.W.findIn K (.ref (He.ga K "BadContext")) "__getattribute__" = some (some (.builtin "BaseException.__getattribute__"))),
  decide (PySem.W.findIn K (.ref (He.ga K "BadContext")) "__getattr__" = some none),
  decide (PySem.W.subIn K (.ref (He.ga K "BadContext")) (.type "BaseException") = some true),
  PySem.W.hasDictIn K (He.ga K "BadContext"),
  decide (PySem.W.findIn K (.ref (He.ga K "BadContext")) "__class__" = some (some (.builtin "object.__class__"))),
  decide (PySem.W.specialIn K (.builtin "object.__class__") "__get__" = some (some (.builtin "getset_descriptor.__get__"))),
  decide (PySem.W.takesIn K (.builtin "object.__class__") = some true),
  decide (PySem.W.mroIn K (He.ga K "BadContext") (.type "object") = some true),
  decide (PySem.W.kitOne K (.ref (He.ga K "BadContext")) (.ref (He.ga K "BadContext")) = some true),
  decide (PySem.W.kitOne K (.ref (He.ga K "BadContext")) (.ref (He.ga K "BadCount")) = some false),
  decide (PySem.W.kitOne K (.ref (He.ga K "BadContext")) (.ref (He.ga K "BadNumber")) = some false),
  decide (PySem.W.kitOne K (.ref (He.ga K "BadContext")) (.ref (He.ga K "NoText")) = some false),
  decide (PySem.W.kitOne K (.ref (He.ga K "BadContext")) (.ref (He.ga K "Trapped")) = some false),
  decide (PySem.W.kitOne K (.ref (He.ga K "BadContext")) (.type "ValueError") = some true),
  decide (PySem.W.exmOne K (.ref (He.ga K "BadContext")) (.ref (He.ga K "ReckonError")) = some true),
  PySem.W.makesIn K (He.ga K "Ceiling"),
  decide (PySem.W.findIn K (.ref (He.ga K "Ceiling")) "__init__" = some (some (.builtin "object.__init__"))),
  PySem.W.keepIn K (.ref (He.ga K "Ceiling")),
  PySem.W.makesIn K (He.ga K "Down"),
  decide (PySem.W.findIn K (.ref (He.ga K "Down")) "__init__" = some (some (.builtin "object.__init__"))),
  PySem.W.keepIn K (.ref (He.ga K "Down")),
  PySem.W.makesIn K (He.ga K "FiveUp"),
  decide (PySem.W.findIn K (.ref (He.ga K "FiveUp")) "__init__" = some (some (.builtin "object.__init__"))),
  PySem.W.keepIn K (.ref (He.ga K "FiveUp")),
  PySem.W.makesIn K (He.ga K "Floor"),
  decide (PySem.W.findIn K (.ref (He.ga K "Floor")) "__init__" = some (some (.builtin "object.__init__"))),
  PySem.W.keepIn K (.ref (He.ga K "Floor")),
  PySem.W.makesIn K (He.ga K "HalfDown"),
  decide (PySem.W.findIn K (.ref (He.ga K "HalfDown")) "__init__" = some (some (.builtin "object.__init__"))),
  PySem.W.keepIn K (.ref (He.ga K "HalfDown")),
  PySem.W.makesIn K (He.ga K "HalfEven"),
  decide (PySem.W.findIn K (.ref (He.ga K "HalfEven")) "__init__" = some (some (.builtin "object.__init__"))),
  PySem.W.keepIn K (.ref (He.ga K "HalfEven")),
  PySem.W.makesIn K (He.ga K "HalfUp"),
  decide (PySem.W.findIn K (.ref (He.ga K "HalfUp")) "__init__" = some (some (.builtin "object.__init__"))),
  PySem.W.keepIn K (.ref (He.ga K "HalfUp")),
  PySem.W.makesIn K (He.ga K "Up"),
  decide (PySem.W.findIn K (.ref (He.ga K "Up")) "__init__" = some (some (.builtin "object.__init__"))),
  PySem.W.keepIn K (.ref (He.ga K "Up")),
  decide (PySem.W.findIn K (.ref (He.ga K "Ceiling")) "name" = some (some (.ref (He.fAd K ("Ceiling", some "name"))))),
  PySem.W.isFn K (.ref (He.fAd K ("Ceiling", some "name"))),
  decide (PySem.W.findIn K (.ref (He.ga K "Context")) "flags" = some (some (.ref (He.fAd K ("Context", some "flags"))))),
  PySem.W.isFn K (.ref (He.fAd K ("Context", some "flags"))),
  decide (PySem.W.findIn K (.ref (He.ga K "Context")) "raised" = some (some (.ref (He.fAd K ("Context", some "raised"))))),
  PySem.W.isFn K (.ref (He.fAd K ("Context", some "raised"))),
  decide (PySem.W.findIn K (.ref (He.ga K "Context")) "trap" = some (some (.ref (He.fAd K ("Context", some "trap"))))),
  PySem.W.isFn K (.ref (He.fAd K ("Context", some "trap"))),
  decide (PySem.W.findIn K (.ref (He.ga K "Context")) "traps" = some (some (.ref (He.fAd K ("Context", some "traps"))))),
  PySem.W.isFn K (.ref (He.fAd K ("Context", some "traps"))),
  decide (PySem.W.findIn K (.ref (He.ga K "Down")) "name" = some (some (.ref (He.fAd K ("Way", some "name"))))),
  PySem.W.isFn K (.ref (He.fAd K ("Way", some "name"))),
  decide (PySem.W.findIn K (.ref (He.ga K "FiveUp")) "name" = some (some (.ref (He.fAd K ("FiveUp", some "name"))))),
  PySem.W.isFn K (.ref (He.fAd K ("FiveUp", some "name"))),
  decide (PySem.W.findIn K (.ref (He.ga K "Floor")) "name" = some (some (.ref (He.fAd K ("Floor", some "name"))))),
  PySem.W.isFn K (.ref (He.fAd K ("Floor", some "name"))),
  decide (PySem.W.findIn K (.ref (He.ga K "HalfDown")) "name" = some (some (.ref (He.fAd K ("HalfDown", some "name"))))),
  PySem.W.isFn K (.ref (He.fAd K ("HalfDown", some "name"))),
  decide (PySem.W.findIn K (.ref (He.ga K "HalfEven")) "name" = some (some (.ref (He.fAd K ("HalfEven", some "name"))))),
  PySem.W.isFn K (.ref (He.fAd K ("HalfEven", some "name"))),
  decide (PySem.W.findIn K (.ref (He.ga K "HalfUp")) "name" = some (some (.ref (He.fAd K ("HalfUp", some "name"))))),
  PySem.W.isFn K (.ref (He.fAd K ("HalfUp", some "name"))),
  decide (PySem.W.findIn K (.ref (He.ga K "Up")) "name" = some (some (.ref (He.fAd K ("Up", some "name"))))),
  PySem.W.isFn K (.ref (He.fAd K ("Up", some "name"))),
  decide ((K.lookup sysModules).map (fun o => o.cls) = some (.type "dict")),
  PySem.W.isClsIn K (He.ga K "Way"),
  decide (PySem.W.typeIn K (.ref (He.ga K "Way")) = some (.type "type")),
  decide (PySem.W.subIn K (.ref (He.ga K "Down")) (.ref (He.ga K "Way")) = some true),
  decide (PySem.W.subIn K (.ref (He.ga K "Up")) (.ref (He.ga K "Way")) = some true),
  decide (PySem.W.subIn K (.ref (He.ga K "Floor")) (.ref (He.ga K "Way")) = some true),
  decide (PySem.W.subIn K (.ref (He.ga K "Ceiling")) (.ref (He.ga K "Way")) = some true),
  decide (PySem.W.subIn K (.ref (He.ga K "HalfUp")) (.ref (He.ga K "Way")) = some true),
  decide (PySem.W.subIn K (.ref (He.ga K "HalfDown")) (.ref (He.ga K "Way")) = some true),
  decide (PySem.W.subIn K (.ref (He.ga K "HalfEven")) (.ref (He.ga K "Way")) = some true),
  decide (PySem.W.subIn K (.ref (He.ga K "FiveUp")) (.ref (He.ga K "Way")) = some true),
  (He.Fa.int "MOST_LEAD" 60).ok K,
  (He.Fa.int "MOST_ROOM" 24).ok K,
  decide (PySem.W.nsIn K mainGlobals "SIGNALS" = some (some (.ref (He.ga K "SIGNALS")))),
  He.tupB K "SIGNALS" [He.Dv.str "void", He.Dv.str "split", He.Dv.str "burst", He.Dv.str "sunk", He.Dv.str "faint", He.Dv.str "off", He.Dv.str "cut"],
  decide (PySem.W.nsIn K mainGlobals "WAYS" = some (some (.ref (He.ga K "WAYS")))),
  He.tupB K "WAYS" [He.Dv.str "down", He.Dv.str "up", He.Dv.str "floor", He.Dv.str "ceiling", He.Dv.str "half up", He.Dv.str "half down", He.Dv.str "half even", He.Dv.str "five up"]]
def fx (K : PySem.W.Frag) : List Bool := fx0 K
def fn : List He.DefD := [⟨("is_whole", none), "is_whole", "is_whole", defArgs s_is_whole, defBody s_is_whole, defScope s_is_whole, [], []⟩,
  ⟨("Way", some "name"), "name", "Way.name", defArgs s_Way_name, defBody s_Way_name, defScope s_Way_name, [], []⟩,
  ⟨("Up", some "name"), "name", "Up.name", defArgs s_Up_name, defBody s_Up_name, defScope s_Up_name, [], []⟩,
  ⟨("Floor", some "name"), "name", "Floor.name", defArgs s_Floor_name, defBody s_Floor_name, defScope s_Floor_name, [], []⟩,
  ⟨("Ceiling", some "name"), "name", "Ceiling.name", defArgs s_Ceiling_name, defBody s_Ceiling_name, defScope s_Ceiling_name, [], []⟩,
  ⟨("HalfUp", some "name"), "name", "HalfUp.name", defArgs s_HalfUp_name, defBody s_HalfUp_name, defScope s_HalfUp_name, [], []⟩,
  ⟨("HalfDown", some "name"), "name", "HalfDown.name", defArgs s_HalfDown_name, defBody s_HalfDown_name, defScope s_HalfDown_name, [], []⟩,
  ⟨("HalfEven", some "name"), "name", "HalfEven.name", defArgs s_HalfEven_name, defBody s_HalfEven_name, defScope s_HalfEven_name, [], []⟩,
  ⟨("FiveUp", some "name"), "name", "FiveUp.name", defArgs s_FiveUp_name, defBody s_FiveUp_name, defScope s_FiveUp_name, [], []⟩,
  ⟨("half_way", none), "half_way", "half_way", defArgs s_half_way, defBody s_half_way, defScope s_half_way, [], []⟩,
  ⟨("way_of", none), "way_of", "way_of", defArgs s_way_of, defBody s_way_of, defScope s_way_of, [], []⟩,
  ⟨("need", none), "need", "need", defArgs s_need, defBody s_need, defScope s_need, [], []⟩,
  ⟨("is_signal", none), "is_signal", "is_signal", defArgs s_is_signal, defBody s_is_signal, defScope s_is_signal, [], []⟩,
  ⟨("Context", some "__init__"), "__init__", "Context.__init__", defArgs s_Context___init__, defBody s_Context___init__, defScope s_Context___init__, [.int 9, .str "half even", .non, .int 60], []⟩,
  ⟨("Context", some "flags"), "flags", "Context.flags", defArgs s_Context_flags, defBody s_Context_flags, defScope s_Context_flags, [], []⟩,
  ⟨("Context", some "clear"), "clear", "Context.clear", defArgs s_Context_clear, defBody s_Context_clear, defScope s_Context_clear, [], []⟩,
  ⟨("Context", some "trap"), "trap", "Context.trap", defArgs s_Context_trap, defBody s_Context_trap, defScope s_Context_trap, [], []⟩,
  ⟨("Context", some "traps"), "traps", "Context.traps", defArgs s_Context_traps, defBody s_Context_traps, defScope s_Context_traps, [], []⟩,
  ⟨("Context", some "raised"), "raised", "Context.raised", defArgs s_Context_raised, defBody s_Context_raised, defScope s_Context_raised, [], []⟩,
  ⟨("_law_cell_at", none), "_law_cell_at", "_law_cell_at", defArgs s__law_cell_at, defBody s__law_cell_at, defScope s__law_cell_at, [], []⟩,
  ⟨("_law_mixed", none), "_law_mixed", "_law_mixed", defArgs s__law_mixed, defBody s__law_mixed, defScope s__law_mixed, [], []⟩,
  ⟨("_law_signals", none), "_law_signals", "_law_signals", defArgs s__law_signals, defBody s__law_signals, defScope s__law_signals, [], []⟩,
  ⟨("_law_word", none), "_law_word", "_law_word", defArgs s__law_word, defBody s__law_word, defScope s__law_word, [], []⟩,
  ⟨("_law_trap", none), "_law_trap", "_law_trap", defArgs s__law_trap, defBody s__law_trap, defScope s__law_trap, [], []⟩,
  ⟨("_law_odd", none), "_law_odd", "_law_odd", defArgs s__law_odd, defBody s__law_odd, defScope s__law_odd, [], []⟩,
  ⟨("law", none), "law", "law", defArgs s_law, defBody s_law, defScope s_law, [], []⟩]
abbrev R : PySem.W.OpenRow := PySem.W.OpenLaw.row PySem.Challenge.rw_tenreckon_k08_traps_refused
def loose : List Str := (["_wall", "ReckonError", "BadNumber", "NoText", "BadContext", "BadCount", "Trapped", "is_whole", "WAYS", "Way", "Down", "Up", "Floor", "Ceiling", "HalfUp", "HalfDown", "HalfEven", "FiveUp", "half_way", "way_of", "SIGNALS", "MOST_ROOM", "MOST_LEAD", "need", "is_signal", "Context", "_law_cell_at", "_law_mixed", "_law_signals", "_law_word"] : List Str) ++ ((["_law_trap", "_law_odd"] : List Str))
abbrev qv : Program := PySem.W.view R.prog [37]
theorem ask_l (w : World) : TW.Asks R.prog 20000 (fun s => HandSHeadRun.looksF R.prog (PySem.W.boot_heap w.params) s.abs) true w := by intro os; kernel_rfl
theorem ask_s (w : World) : TW.Asks R.prog 20000 (fun s => HandSHeadRun.seenQ qv loose (importedModules R.prog.main.body) (fun s => PySem.W.xlAt qv [] s && PySem.W.recOk R.toRowW.records s) s.abs) (PySem.W.openGood qv loose) w := by intro os; kernel_rfl
theorem ask_v (w : World) : TW.Asks R.prog 20000 (fun s => fn.map fun d => He.fnW (TW.frC (HandSHeadRun.getT s)) d.at_) (fn.map He.DefD.val) w := by intro os; kernel_rfl
theorem ask_d (w : World) : TW.Asks R.prog 20000 (fun s => fn.all fun d => d.ok (TW.frC (HandSHeadRun.getT s))) true w := by intro os; kernel_rfl
theorem ask_f0 (w : World) : TW.Asks R.prog 20000 (fun s => (fx0 (TW.frC (HandSHeadRun.getT s))).all fun b => b) true w := by intro os; kernel_rfl
theorem run (w : World) : HandSHeadRun.RunEq R qv (TW.hookC fx fn) (TW.obC fx fn) 20000 loose w := TW.run_of (ask_l w) (ask_s w) (fun os s e => ⟨(ask_f0 w).at_ e, (ask_d w).at_ e, (ask_v w).at_ e⟩)
theorem facts {P : Program} {w : World} {K : PySem.W.Frag} {h : Heap} {mg : Str → Option Value} {fa : Addr} (X : K.In h) (G : h.Ns mainGlobals mg) (hfa : mg ("law" : Str) = some (.ref fa)) (c : TW.SaysC fx fn K) :
    ∃ fd : FuncData, (∀ (s : Shared) (v : Value), BindsTo s fd ⟨[v], []⟩ [("_law_script", v)]) ∧ ∀ base : Heap, K.In base → base.Ns mainGlobals mg → FnG P w K mg base 5 fa fd ["_law_script"] sLaw :=
  all_mk (P := P) (w := w) (K := K) X G hfa
    (h_a_is_whole := c.dec 0 rfl)
    (h_F_is_whole := c.def_ 0 rfl)
    (h_F_Way_name := c.def_ 1 rfl)
    (h_F_Up_name := c.def_ 2 rfl)
    (h_F_Floor_name := c.def_ 3 rfl)
    (h_F_Ceiling_name := c.def_ 4 rfl)
    (h_F_HalfUp_name := c.def_ 5 rfl)
    (h_F_HalfDown_name := c.def_ 6 rfl)
    (h_F_HalfEven_name := c.def_ 7 rfl)
    (h_F_FiveUp_name := c.def_ 8 rfl)
    (h_a_half_way := c.dec 1 rfl)
    (h_F_half_way := c.def_ 9 rfl)
    (h_a_way_of := c.dec 2 rfl)
    (h_F_way_of := c.def_ 10 rfl)
    (h_a_need := c.dec 3 rfl)
    (h_F_need := c.def_ 11 rfl)
    (h_a_is_signal := c.dec 4 rfl)
    (h_F_is_signal := c.def_ 12 rfl)
    (h_F_Context___init__ := c.def_ 13 rfl)
    (h_F_Context_flags := c.def_ 14 rfl)
    (h_F_Context_clear := c.def_ 15 rfl)
    (h_F_Context_trap := c.def_ 16 rfl)
    (h_F_Context_traps := c.def_ 17 rfl)
    (h_F_Context_raised := c.def_ 18 rfl)
    (h_a__law_cell_at := c.dec 5 rfl)
    (h_F__law_cell_at := c.def_ 19 rfl)
    (h_a__law_mixed := c.dec 6 rfl)
    (h_F__law_mixed := c.def_ 20 rfl)
    (h_a__law_signals := c.dec 7 rfl)
    (h_F__law_signals := c.def_ 21 rfl)
    (h_a__law_word := c.dec 8 rfl)
    (h_F__law_word := c.def_ 22 rfl)
    (h_a__law_trap := c.dec 9 rfl)
    (h_F__law_trap := c.def_ 23 rfl)
    (h_a__law_odd := c.dec 10 rfl)
    (h_F__law_odd := c.def_ 24 rfl)
    (h_a_law := c.dec 11 rfl)
    (h_F_law := c.def_ 25 rfl)
    (h_n_ReckonError := c.dec 12 rfl)
    (h_n_BadNumber := c.dec 13 rfl)
    (h_n_NoText := c.dec 14 rfl)
    (h_n_BadContext := c.dec 15 rfl)
    (h_n_BadCount := c.dec 16 rfl)
    (h_n_Trapped := c.dec 17 rfl)
    (h_n_Way := c.dec 18 rfl)
    (h_pg_Way := c.fact 19 rfl)
    (h_hd_Way := c.fact 20 rfl)
    (h_po_Way := c.fact 21 rfl)
    (h_sa_Way := c.dec 22 rfl)
    (h_ha_Way := c.dec 23 rfl)
    (h_hn_Way := c.dec 24 rfl)
    (h_htk_Way := c.dec 25 rfl)
    (h_hm_Way := c.dec 26 rfl)
    (h_n_Down := c.dec 27 rfl)
    (h_pg_Down := c.fact 28 rfl)
    (h_hd_Down := c.fact 29 rfl)
    (h_po_Down := c.fact 30 rfl)
    (h_sa_Down := c.dec 31 rfl)
    (h_ha_Down := c.dec 32 rfl)
    (h_hn_Down := c.dec 33 rfl)
    (h_htk_Down := c.dec 34 rfl)
    (h_hm_Down := c.dec 35 rfl)
    (h_n_Up := c.dec 36 rfl)
    (h_pg_Up := c.fact 37 rfl)
    (h_hd_Up := c.fact 38 rfl)
    (h_po_Up := c.fact 39 rfl)
    (h_sa_Up := c.dec 40 rfl)
    (h_ha_Up := c.dec 41 rfl)
    (h_hn_Up := c.dec 42 rfl)
    (h_htk_Up := c.dec 43 rfl)
    (h_hm_Up := c.dec 44 rfl)
    (h_n_Floor := c.dec 45 rfl)
    (h_pg_Floor := c.fact 46 rfl)
    (h_hd_Floor := c.fact 47 rfl)
    (h_po_Floor := c.fact 48 rfl)
    (h_sa_Floor := c.dec 49 rfl)
    (h_ha_Floor := c.dec 50 rfl)
    (h_hn_Floor := c.dec 51 rfl)
    (h_htk_Floor := c.dec 52 rfl)
    (h_hm_Floor := c.dec 53 rfl)
    (h_n_Ceiling := c.dec 54 rfl)
    (h_pg_Ceiling := c.fact 55 rfl)
    (h_hd_Ceiling := c.fact 56 rfl)
    (h_po_Ceiling := c.fact 57 rfl)
    (h_sa_Ceiling := c.dec 58 rfl)
    (h_ha_Ceiling := c.dec 59 rfl)
    (h_hn_Ceiling := c.dec 60 rfl)
    (h_htk_Ceiling := c.dec 61 rfl)
    (h_hm_Ceiling := c.dec 62 rfl)
    (h_n_HalfUp := c.dec 63 rfl)
    (h_pg_HalfUp := c.fact 64 rfl)
    (h_hd_HalfUp := c.fact 65 rfl)
    (h_po_HalfUp := c.fact 66 rfl)
    (h_sa_HalfUp := c.dec 67 rfl)
    (h_ha_HalfUp := c.dec 68 rfl)
    (h_hn_HalfUp := c.dec 69 rfl)
    (h_htk_HalfUp := c.dec 70 rfl)
    (h_hm_HalfUp := c.dec 71 rfl)
    (h_n_HalfDown := c.dec 72 rfl)
    (h_pg_HalfDown := c.fact 73 rfl)
    (h_hd_HalfDown := c.fact 74 rfl)
    (h_po_HalfDown := c.fact 75 rfl)
    (h_sa_HalfDown := c.dec 76 rfl)
    (h_ha_HalfDown := c.dec 77 rfl)
    (h_hn_HalfDown := c.dec 78 rfl)
    (h_htk_HalfDown := c.dec 79 rfl)
    (h_hm_HalfDown := c.dec 80 rfl)
    (h_n_HalfEven := c.dec 81 rfl)
    (h_pg_HalfEven := c.fact 82 rfl)
    (h_hd_HalfEven := c.fact 83 rfl)
    (h_po_HalfEven := c.fact 84 rfl)
    (h_sa_HalfEven := c.dec 85 rfl)
    (h_ha_HalfEven := c.dec 86 rfl)
    (h_hn_HalfEven := c.dec 87 rfl)
    (h_htk_HalfEven := c.dec 88 rfl)
    (h_hm_HalfEven := c.dec 89 rfl)
    (h_n_FiveUp := c.dec 90 rfl)
    (h_pg_FiveUp := c.fact 91 rfl)
    (h_hd_FiveUp := c.fact 92 rfl)
    (h_po_FiveUp := c.fact 93 rfl)
    (h_sa_FiveUp := c.dec 94 rfl)
    (h_ha_FiveUp := c.dec 95 rfl)
    (h_hn_FiveUp := c.dec 96 rfl)
    (h_htk_FiveUp := c.dec 97 rfl)
    (h_hm_FiveUp := c.dec 98 rfl)
    (h_n_Context := c.dec 99 rfl)
    (h_pg_Context := c.fact 100 rfl)
    (h_hd_Context := c.fact 101 rfl)
    (h_po_Context := c.fact 102 rfl)
    (h_sa_Context := c.dec 103 rfl)
    (h_ha_Context := c.dec 104 rfl)
    (h_hn_Context := c.dec 105 rfl)
    (h_htk_Context := c.dec 106 rfl)
    (h_hm_Context := c.dec 107 rfl)
    (h_mk_Context := c.fact 108 rfl)
    (h_kc_Context := c.fact 109 rfl)
    (h_in_Context := c.dec 110 rfl)
    (h_if_Context := c.fact 111 rfl)
    (h_no_Context_manner := c.dec 112 rfl)
    (h_no_Context_room := c.dec 113 rfl)
    (h_no_Context_least := c.dec 114 rfl)
    (h_no_Context_most := c.dec 115 rfl)
    (h_no_Context_standing := c.dec 116 rfl)
    (h_no_Context_caught := c.dec 117 rfl)
    (h_z_ValueError := c.dec 118 rfl)
    (h_z_all := c.dec 119 rfl)
    (h_z_bool := c.dec 120 rfl)
    (h_z_dict := c.dec 121 rfl)
    (h_z_enumerate := c.dec 122 rfl)
    (h_z_int := c.dec 123 rfl)
    (h_z_isinstance := c.dec 124 rfl)
    (h_z_len := c.dec 125 rfl)
    (h_z_list := c.dec 126 rfl)
    (h_z_range := c.dec 127 rfl)
    (h_z_repr := c.dec 128 rfl)
    (h_z_reversed := c.dec 129 rfl)
    (h_z_str := c.dec 130 rfl)
    (h_z_tuple := c.dec 131 rfl)
    (h_xx_BadContext := c.fact 132 rfl)
    (h_xk_BadContext := c.fact 133 rfl)
    (h_xb_BadContext := c.dec 134 rfl)
    (h_xt_BadContext := c.dec 135 rfl)
    (h_xi_BadContext := c.fact 136 rfl)
    (h_echg_BadContext := c.dec 137 rfl)
    (h_echk_BadContext := c.dec 138 rfl)
    (h_echs_BadContext := c.dec 139 rfl)
    (h_echd_BadContext := c.fact 140 rfl)
    (h_echa_BadContext := c.dec 141 rfl)
    (h_echn_BadContext := c.dec 142 rfl)
    (h_echt_BadContext := c.dec 143 rfl)
    (h_echm_BadContext := c.dec 144 rfl)
    (h_exk_BadContext_BadContext := c.dec 145 rfl)
    (h_exk_BadContext_BadCount := c.dec 146 rfl)
    (h_exk_BadContext_BadNumber := c.dec 147 rfl)
    (h_exk_BadContext_NoText := c.dec 148 rfl)
    (h_exk_BadContext_Trapped := c.dec 149 rfl)
    (h_exk_BadContext_ValueError := c.dec 150 rfl)
    (h_exm_BadContext_ReckonError := c.dec 151 rfl)
    (h_mk0_Ceiling := c.fact 152 rfl)
    (h_in0_Ceiling := c.dec 153 rfl)
    (h_kc0_Ceiling := c.fact 154 rfl)
    (h_mk0_Down := c.fact 155 rfl)
    (h_in0_Down := c.dec 156 rfl)
    (h_kc0_Down := c.fact 157 rfl)
    (h_mk0_FiveUp := c.fact 158 rfl)
    (h_in0_FiveUp := c.dec 159 rfl)
    (h_kc0_FiveUp := c.fact 160 rfl)
    (h_mk0_Floor := c.fact 161 rfl)
    (h_in0_Floor := c.dec 162 rfl)
    (h_kc0_Floor := c.fact 163 rfl)
    (h_mk0_HalfDown := c.fact 164 rfl)
    (h_in0_HalfDown := c.dec 165 rfl)
    (h_kc0_HalfDown := c.fact 166 rfl)
    (h_mk0_HalfEven := c.fact 167 rfl)
    (h_in0_HalfEven := c.dec 168 rfl)
    (h_kc0_HalfEven := c.fact 169 rfl)
    (h_mk0_HalfUp := c.fact 170 rfl)
    (h_in0_HalfUp := c.dec 171 rfl)
    (h_kc0_HalfUp := c.fact 172 rfl)
    (h_mk0_Up := c.fact 173 rfl)
    (h_in0_Up := c.dec 174 rfl)
    (h_kc0_Up := c.fact 175 rfl)
    (h_M_Ceiling_name := c.dec 176 rfl)
    (h_Mi_Ceiling_name := c.fact 177 rfl)
    (h_M_Context_flags := c.dec 178 rfl)
    (h_Mi_Context_flags := c.fact 179 rfl)
    (h_M_Context_raised := c.dec 180 rfl)
    (h_Mi_Context_raised := c.fact 181 rfl)
    (h_M_Context_trap := c.dec 182 rfl)
    (h_Mi_Context_trap := c.fact 183 rfl)
    (h_M_Context_traps := c.dec 184 rfl)
    (h_Mi_Context_traps := c.fact 185 rfl)
    (h_M_Down_name := c.dec 186 rfl)
    (h_Mi_Down_name := c.fact 187 rfl)
    (h_M_FiveUp_name := c.dec 188 rfl)
    (h_Mi_FiveUp_name := c.fact 189 rfl)
    (h_M_Floor_name := c.dec 190 rfl)
    (h_Mi_Floor_name := c.fact 191 rfl)
    (h_M_HalfDown_name := c.dec 192 rfl)
    (h_Mi_HalfDown_name := c.fact 193 rfl)
    (h_M_HalfEven_name := c.dec 194 rfl)
    (h_Mi_HalfEven_name := c.fact 195 rfl)
    (h_M_HalfUp_name := c.dec 196 rfl)
    (h_Mi_HalfUp_name := c.fact 197 rfl)
    (h_M_Up_name := c.dec 198 rfl)
    (h_Mi_Up_name := c.fact 199 rfl)
    (h_sysm := c.dec 200 rfl)
    (h_ic_Way := c.fact 201 rfl)
    (h_it_Way := c.dec 202 rfl)
    (h_is_Down_Way := c.dec 203 rfl)
    (h_is_Up_Way := c.dec 204 rfl)
    (h_is_Floor_Way := c.dec 205 rfl)
    (h_is_Ceiling_Way := c.dec 206 rfl)
    (h_is_HalfUp_Way := c.dec 207 rfl)
    (h_is_HalfDown_Way := c.dec 208 rfl)
    (h_is_HalfEven_Way := c.dec 209 rfl)
    (h_is_FiveUp_Way := c.dec 210 rfl)
    (h_g_MOST_LEAD := He.int_ok X G (c.fact 211 rfl))
    (h_g_MOST_ROOM := He.int_ok X G (c.fact 212 rfl))
    (h_g_SIGNALS := c.dec 213 rfl)
    (h_gl_SIGNALS := fun G => He.tupB_ok (c.fact 214 rfl) G)
    (h_g_WAYS := c.dec 215 rfl)
    (h_gl_WAYS := fun G => He.tupB_ok (c.fact 216 rfl) G)
end K08
open PySem PySem.W PyProof.Rows in
set_option maxRecDepth 100000 in
set_option maxHeartbeats 0 in
theorem PySem.Challenge.cw_tenreckon_k08_traps_refused_holds : PySem.Challenge.rw_tenreckon_k08_traps_refused.Holds := by
  w_on; o_law
  refine HandSHeadRun.head_any (r := OpenLaw.row PySem.Challenge.rw_tenreckon_k08_traps_refused) (q := K08.qv) (H := TW.hookC K08.fx K08.fn) (ob := TW.obC K08.fx K08.fn) (M := 20000) (loose := K08.loose) (d := HandSHeadRun.topDef (OpenLaw.row PySem.Challenge.rw_tenreckon_k08_traps_refused).prog 37) (kwd := []) TW.obC_eq
    (by kernel_rfl) (fun s => by kernel_rfl) K08.run (by kernel_rfl) (by kernel_rfl) (by kernel_rfl) (by rfl) (by first | assumption | decide +kernel) (by decide +kernel) ⟨rfl, rfl, rfl, rfl, rfl, by decide +kernel⟩ ?hw ?hc
  case hw => w_witness2
  case hc =>
    refine TW.walk_ofG (l := PySem.Challenge.rw_tenreckon_k08_traps_refused) (n := 63) (k := 5) (x := "_law_script") rfl (by decide) (by kernel_rfl) ⟨rfl, by decide, by decide⟩ ?F
    intro w mg fa h Y G hmg0
    obtain ⟨K, KX, c⟩ := Y
    have hmg : mg ("law" : PySem.Str) = some (.ref fa) := by
      have e : (HandSHeadRun.topDef (OpenLaw.row PySem.Challenge.rw_tenreckon_k08_traps_refused).prog 37).name = ("law" : PySem.Str) := by kernel_rfl
      rw [← e]
      exact hmg0
    obtain ⟨fd, hb, hF⟩ := K08.facts (P := (PySem.Challenge.rw_tenreckon_k08_traps_refused).prog) (w := w) KX G hmg c
    exact ⟨K, fd, [], TQ.sLaw, KX, fun p hp => (List.not_mem_nil hp).elim, fun p hp => (List.not_mem_nil hp).elim, fun p hp => (List.not_mem_nil hp).elim, hb, fun H a ns hl _ hS => TQ.law_end hl hS, fun base h1 h2 _ => hF base h1 h2⟩

