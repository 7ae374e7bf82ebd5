import PyProof.Rows.All
import Wide.All
import OpenK.AllK
import Wide.FinOn
import HandS.Comp
import HandS.Iter
import HandS.HotCalls
import HandS.SuiteRaise
import HandS.Words
import HandS.ForMost
import HandS.Zip
import HandS.Walk
import HandS.Wide
import HandS.IsInst
import HandS.TupAny
import KE.GoesEnum
import HandS.ExcOwn
import HandS.WordsExc
import HandS.TryOnly
import HandS.ExcInit
import HandS.ExcField
import HandS.ExcCtx
import HandS.ExcIs
import KE.KExcIs
import KE.KIsAll
import HandS.EndBits
import PySem.Challenge.RW_surebook_k01_ratios_made
set_option Elab.async false
set_option linter.all false
set_option maxRecDepth 100000
set_option maxHeartbeats 8000000
set_option autoImplicit false
set_option exponentiation.threshold 100000000
namespace SB
open PySem PySem.Spec PyProof.Rows L2 HotX L2H

/-! ### the end of what is walked, while an exception is handled -/
section
variable {prog : Program} {w : World} {A : Around} {E : Value → Shared → Prop} {s : Shared}
theorem stop_hot {α : Type} {x1 : Addr} {Q : α → Shared → Prop} (hot : HotAt A x1 s.heap)
    (q : ∀ h' e, (∀ b o, s.heap.get? b = some o → h'.get? b = some o) → (∃ o, h'.get? e = some o ∧ o.cls = .type "StopIteration") → E (.ref e) { s with heap := h' }) :
    wpAny (model prog w) A (Builtin.SmallTypes.stopIteration : Sem α) Q E s := by
  obtain ⟨hh, o1, vs1, h1, d1, c1⟩ := hot
  unfold Builtin.SmallTypes.stopIteration
  refine wpAny_bind ?_
  simp only [newExc, newTuple]
  refine wpAny_bind (wpAny_newObj_type ?_ (by size_fits))
  refine wpAny_bind (m := firstArgMember _ _) (wpAny_of_eq (a := Value.none) (by first | rfl | (simp only [firstArgMember]; rfl)) ?_)
  refine wpAny_newObj_type ?_ (by size_fits)
  have k1 := Heap.get?_push_of_some { cls := .type "tuple", data := .seq ([] : List Value).toArray } h1
  refine raiseNew_hot ⟨hh, o1, vs1, Heap.get?_push_of_some _ k1, d1, c1⟩ (Nat.ne_of_lt (Heap.lt_size k1)) (Heap.get?_push_size _ rfl) rfl
    (by first | (simp; done) | (simp; omega) | (simp only [Array.size_append]; simp; omega)) ?_
  refine q _ _ (fun b o e => ?_) ⟨_, Heap.get?_update_self _ (Heap.get?_push_size _ rfl) rfl, rfl⟩
  have e1 := Heap.get?_push_of_some (h := s.heap) { cls := .type "tuple", data := .seq ([] : List Value).toArray } e
  rw [Heap.get?_update_other _ _ (Nat.ne_of_gt (Heap.lt_size e1))]
  exact Heap.get?_push_of_some _ e1
/-- the context's handled exception stands behind a change elsewhere -/
theorem hot_but {h h' : Heap} {x1 it : Addr} {o : Obj} (hot : HotAt A x1 h) (ho : h.get? it = some o) (hne : x1 ≠ it) (k : ∀ b u, b ≠ it → h.get? b = some u → h'.get? b = some u) : HotAt A x1 h' := by
  obtain ⟨hh, o1, vs1, h1, d1, c1⟩ := hot
  exact ⟨hh, o1, vs1, k _ _ hne h1, d1, c1⟩
theorem list_end_hot {it l x1 : Addr} {i : Nat} {items : Array Value} {Q : Option Value → Shared → Prop} (hot : HotAt A x1 s.heap) (hne : x1 ≠ it)
    (hit : s.heap.IsListIter it l i) (hl : s.heap.IsList l items) (hx : items[i]? = none)
    (hQ : ∀ h', Heap.ExtBut it s.heap h' → Q none { s with heap := h' }) : wpAny (model prog w) A (pyNext (.ref it)) Q E s := by
  obtain ⟨oi, hoi, hci, hdi⟩ := id hit
  obtain ⟨ol, hol, _, nl, hdl⟩ := hl
  unfold pyNext
  refine wpAny_bind (wpAny_attempt (wpAny_callSpecial?_slot (name := Str.ofString "__next__") hit.typeIs slot_listiter_next
    (wpAny_call_entry slot_listiter_next hit.typeIs entry_listiter_next ?_ (args_listiter_next _))))
  show wpAny _ _ (field (.ref it) 0 >>= _) _ _ s
  refine wpAny_bind (wpAny_field hoi hdi (x := .ref l) rfl ?_)
  show wpAny _ _ (if (Value.ref l == Value.none) = true then _ else _) _ _ s
  rw [if_neg (show ¬ ((Value.ref l == Value.none) = true) from Bool.false_ne_true)]
  show wpAny _ _ (field (.ref it) 1 >>= _) _ _ s
  refine wpAny_bind (wpAny_field hoi hdi (x := .int i 0) rfl ?_)
  show wpAny _ _ (seqItems? (.ref l) >>= _) _ _ s
  refine wpAny_bind (wpAny_seqItems hol hdl ?_)
  simp only [Int.toNat_natCast, hx]
  refine wpAny_bind (wpAny_rule (wpAny_bind (wpAny_setField hoi hdi (by simp) ?_)))
  show wpAny _ _ Builtin.SmallTypes.stopIteration _ _ _
  have sb : Heap.SameBut it s.heap (s.heap.update it (Obj.mapFields (·.setIfInBounds 0 Value.none))) := Heap.SameBut.update ..
  refine stop_hot (x1 := x1) (hot_but hot hoi hne fun b u hb e => (sb.2 b hb).trans e) fun h' e k ⟨o, ho, hc⟩ => ?_
  refine wpAny_bind (wpAny_isInstance (T := "StopIteration") (b := true) ⟨_, ho, hc⟩ isSubtype_stop ?_)
  exact wpAny_pure (hQ _ fun b u hb q => k b u ((sb.2 b hb).trans q))
theorem tuple_end_hot {it t x1 : Addr} {i : Nat} {items : Array Value} {Q : Option Value → Shared → Prop} (hot : HotAt A x1 s.heap) (hne : x1 ≠ it)
    (hit : s.heap.IsTupleIter it t i) (ht : s.heap.IsTuple t items) (hx : items[i]? = none)
    (hQ : ∀ h', Heap.ExtBut it s.heap h' → Q none { s with heap := h' }) : wpAny (model prog w) A (pyNext (.ref it)) Q E s := by
  obtain ⟨oi, hoi, hci, hdi⟩ := id hit
  obtain ⟨ol, hol, _, nl, hdl⟩ := ht
  unfold pyNext
  refine wpAny_bind (wpAny_attempt (wpAny_callSpecial?_slot (name := Str.ofString "__next__") hit.typeIs F.slot_tuple_iterator_next
    (wpAny_call_entry F.slot_tuple_iterator_next hit.typeIs F.entry_tuple_iterator_next ?_ (F.args_tuple_iterator_next_1 _))))
  show wpAny _ _ (field (.ref it) 0 >>= _) _ _ s
  refine wpAny_bind (wpAny_field hoi hdi (x := .ref t) rfl ?_)
  show wpAny _ _ (if (Value.ref t == Value.none) = true then _ else _) _ _ s
  rw [if_neg (show ¬ ((Value.ref t == Value.none) = true) from Bool.false_ne_true)]
  show wpAny _ _ (field (.ref it) 1 >>= _) _ _ s
  refine wpAny_bind (wpAny_field hoi hdi (x := .int i 0) rfl ?_)
  show wpAny _ _ (seqItems? (.ref t) >>= _) _ _ s
  refine wpAny_bind (wpAny_seqItems hol hdl ?_)
  simp only [Int.toNat_natCast, hx]
  refine wpAny_bind (wpAny_rule (wpAny_bind (wpAny_setField hoi hdi (by simp) ?_)))
  show wpAny _ _ Builtin.SmallTypes.stopIteration _ _ _
  have sb : Heap.SameBut it s.heap (s.heap.update it (Obj.mapFields (·.setIfInBounds 0 Value.none))) := Heap.SameBut.update ..
  refine stop_hot (x1 := x1) (hot_but hot hoi hne fun b u hb e => (sb.2 b hb).trans e) fun h' e k ⟨o, ho, hc⟩ => ?_
  refine wpAny_bind (wpAny_isInstance (T := "StopIteration") (b := true) ⟨_, ho, hc⟩ isSubtype_stop ?_)
  exact wpAny_pure (hQ _ fun b u hb q => k b u ((sb.2 b hb).trans q))
end

/-- the pinned exception, apart from what is walked -/
theorem hot_at {X : Cx} {pins : List (Addr × Obj)} {σ : L2.St} {H : Hp} {s : Shared} (c : HotC X) (I : Inv X pins σ H s) : ∃ x1, HotAt X.A x1 s.heap ∧ ∀ b, FpOk X pins H b → x1 ≠ b := by
  obtain ⟨p, ⟨hh, v1, e1, c1⟩, hp⟩ := c
  exact ⟨p.1, ⟨hh, p.2, v1, (I.pin p (List.mem_append_left _ hp)).1, e1, c1⟩, fun b f => f.2.2.2.2.2 p (List.mem_append_left _ hp)⟩
section
variable {P : Program} {w : World} {K : PySem.W.Frag} {tg : Expr}
theorem turn_listH (a it : Addr) : TurnH P w K tg (Itl K a) [it] it (fun i h => h.IsListIter it a i) where
  mem := List.mem_singleton.mpr rfl
  obj := (turn_list (P := P) (w := w) (K := K) (tg := tg) a it).obj
  keep := (turn_list (P := P) (w := w) (K := K) (tg := tg) a it).keep
  self := (turn_list (P := P) (w := w) (K := K) (tg := tg) a it).self
  item := by
    rintro X rfl rfl rfl - i pins s σ H E I hf st ⟨xs, x, hq, hx⟩
    obtain ⟨its, rv, pl, -⟩ := I.list hq
    obtain ⟨u, hu, ru⟩ := rv.get hx
    have hft := hf it (List.mem_singleton.mpr rfl)
    refine wpAny_pyNext_list_item st pl.isList (x := u) (by simpa using hu) fun h' st' sb => ⟨u, rfl, ?_⟩
    obtain ⟨o, e, c, d⟩ := id st'
    refine go_of (s := { s with heap := h' }) e c d (by decide) ⟨x, H, ?_, ru, ⟨rfl, fun ys hy => ?_⟩, st', fun b hb => (hf b hb).1⟩
    · exact I.turned (t' := s.toks) (fun b o hb e => (sb.2 b hb).trans e) hft.1 hft.2.1 hft.2.2.2.1 hft.2.2.2.2.1 hft.2.2.2.2.2
    · rw [I.list_inj hy hq]
      exact hx
  done := by
    rintro X rfl rfl rfl hc i pins s σ H E I hf st ⟨xs, hq, hx⟩
    obtain ⟨its, rv, pl, -⟩ := I.list hq
    have hft := hf it (List.mem_singleton.mpr rfl)
    have hl := rv.length
    obtain ⟨x1, hot, ne⟩ := hot_at hc I
    exact list_end_hot hot (ne it hft) st pl.isList (by simp; omega) fun h' eb => ⟨rfl, I.turned (t' := s.toks) (fun b o hb e => eb b o hb e) hft.1 hft.2.1 hft.2.2.2.1 hft.2.2.2.2.1 hft.2.2.2.2.2⟩
theorem turn_tupleH (a it : Addr) : TurnH P w K tg (Itt K a) [it] it (fun i h => h.IsTupleIter it a i) where
  mem := List.mem_singleton.mpr rfl
  obj := (turn_tuple (P := P) (w := w) (K := K) (tg := tg) a it).obj
  keep := (turn_tuple (P := P) (w := w) (K := K) (tg := tg) a it).keep
  self := (turn_tuple (P := P) (w := w) (K := K) (tg := tg) a it).self
  item := by
    rintro X rfl rfl rfl - i pins s σ H E I hf st ⟨xs, x, hq, hx⟩
    obtain ⟨its, rv, pl, -⟩ := I.tuple hq
    obtain ⟨u, hu, ru⟩ := rv.get hx
    have hft := hf it (List.mem_singleton.mpr rfl)
    refine wpAny_pyNext_tuple_item st (show s.heap.IsTuple a its.toArray from pl) (x := u) (by simpa using hu) fun h' st' sb => ⟨u, rfl, ?_⟩
    obtain ⟨o, e, c, d⟩ := id st'
    refine go_of (s := { s with heap := h' }) e c d (by decide) ⟨x, H, ?_, ru, ⟨rfl, fun ys hy => ?_⟩, st', fun b hb => (hf b hb).1⟩
    · exact I.turned (t' := s.toks) (fun b o hb e => (sb.2 b hb).trans e) hft.1 hft.2.1 hft.2.2.2.1 hft.2.2.2.2.1 hft.2.2.2.2.2
    · rw [I.tuple_inj hy hq]
      exact hx
  done := by
    rintro X rfl rfl rfl hc i pins s σ H E I hf st ⟨xs, hq, hx⟩
    obtain ⟨its, rv, pl, -⟩ := I.tuple hq
    have hft := hf it (List.mem_singleton.mpr rfl)
    have hl := rv.length
    obtain ⟨x1, hot, ne⟩ := hot_at hc I
    exact tuple_end_hot hot (ne it hft) st (show s.heap.IsTuple a its.toArray from pl) (by simp; omega) fun h' eb => ⟨rfl, I.turned (t' := s.toks) (fun b o hb e => eb b o hb e) hft.1 hft.2.1 hft.2.2.2.1 hft.2.2.2.2.1 hft.2.2.2.2.2⟩
end
section
variable {X : Cx} {tg : Expr}
/-- a list or a tuple, by what its value is -/
def iSeq (K : PySem.W.Frag) (tl : TE) : TI := fun σ H R => tl σ H fun x H1 => ∃ a, x = .ref a ∧ (((∃ xs, SqL K H1 a xs) ∧ R (Itl K a) H1) ∨ ((∃ xs, SqT K H1 a xs) ∧ R (Itt K a) H1))
theorem pi_seqH {l : Expr} {tl : TE} (hl : PE X l tl) : PIH X tg l (iSeq X.K tl) := by
  refine ⟨fun pins s σ H R I h => thn (hl.run pins s σ H _ I h) ?_⟩
  rintro v s1 ⟨x, H1, I1, r1, a, rfl, q1⟩
  cases r1
  have new : ∀ b ∈ [s1.heap.objs.size], FpOk X pins H1 b := fun b hb => by
    obtain rfl := List.mem_singleton.mp hb
    exact I1.fpOk (Nat.le_refl _) (I1.hok.fresh (Nat.le_refl _))
  rcases q1 with ⟨⟨xs, hq⟩, q⟩ | ⟨⟨xs, hq⟩, q⟩
  · obtain ⟨its, rv, pl, -⟩ := I1.list hq
    exact wpAny_pyIter_list pl.isList ⟨s1.heap.objs.size, [s1.heap.objs.size], _, _, H1, rfl, I1.kept (t' := s1.toks) fun b o e => Heap.get?_push_of_some _ e, turn_listH a _, ⟨_, Heap.get?_push_size _ rfl, rfl, rfl⟩, new, q⟩
  · obtain ⟨its, rv, pl, -⟩ := I1.tuple hq
    exact wpAny_pyIter_tuple (show s1.heap.IsTuple a its.toArray from pl) ⟨s1.heap.objs.size, [s1.heap.objs.size], _, _, H1, rfl, I1.kept (t' := s1.toks) fun b o e => Heap.get?_push_of_some _ e, turn_tupleH a _, ⟨_, Heap.get?_push_size _ rfl, rfl, rfl⟩, new, q⟩
theorem pi_range2H {a b : Expr} {ta : TA} {p pos : Pos} (hg : Gl X "range") (hm : X.mg "range" = none) (ha : PA X [a, b] ta) (hs : starEach [a, b] X.env = [(false, eval a X.env), (false, eval b X.env)]) (hs2 : starEach [b] X.env = [(false, eval b X.env)]) :
    PIH X tg (.Call (.Name "range" p) [a, b] [] pos) (iRng2 ta) := by
  refine ⟨fun pins s σ H R I h => Call_ (ld_blt I hg hm boot_range (PyProof.Rows.callWith_type1 (thn (ha.run pos pins s σ H _ I h) ?_) (by rw [hs, hs2]) (by rw [hs2]; rfl)))⟩
  rintro us s1 ⟨vs, H1, I1, r1, i, j, rfl, ⟨q1, q2, q3, q4⟩, q⟩
  cases r1 with
  | cons r rr =>
    cases rr with
    | cons r' rr =>
      cases rr
      obtain ⟨t, rfl⟩ := r
      obtain ⟨t', rfl⟩ := r'
      exact call_range_2 (range_itH I1 q1 q2 q3 q4 q)
/-! a, b = a tuple -/
theorem unpack_hot {prog : Program} {w : World} {A : Around} {E : Value → Shared → Prop} {s : Shared} {t x1 : Addr} {items : Array Value} {Q : List Value → Shared → Prop} (hot : HotAt A x1 s.heap) (ht : IsTup s.heap t items)
    (hQ : ∀ h', Heap.ExtBut s.heap.objs.size s.heap h' → Q items.toList { s with heap := h' }) : wpAny (model prog w) A (unpackItems (.ref t) items.size none) Q E s := by
  have apart : t ≠ s.heap.objs.size := let ⟨o, ho, _⟩ := ht; Nat.ne_of_lt (Heap.lt_size ho)
  obtain ⟨hh, o1, vs1, h1, d1, c1⟩ := id hot
  have apart1 : x1 ≠ s.heap.objs.size := Nat.ne_of_lt (Heap.lt_size h1)
  unfold unpackItems notIterableAtAll
  refine wpAny_bind (wpAny_bind (wpAny_specialOf ht.typeIs slot_tuple_iter.lookup (wpAny_pure ?_)))
  simp only [Bool.false_eq_true, if_false]
  refine wpAny_bind (wpAny_holding (iter_tuple ht ?_))
  refine wpAny_bind (wpAny_holding (draw_tuple apart items.size 0 _ _ ⟨_, Heap.get?_push_size _ rfl, rfl, rfl⟩ (ht.push _) (by omega) fun g st sb => ?_))
  rw [show List.take items.size (List.drop 0 items.toList) = items.toList by rw [List.drop_zero]; exact List.take_of_length_le (by simp)]
  rw [if_neg (by simp)]
  have gk : ∀ b o, b ≠ s.heap.objs.size → s.heap.get? b = some o → g.get? b = some o := fun b o hb e => (sb.2 b hb).trans (Heap.get?_push_of_some _ e)
  have hot2 : HotAt A x1 g := ⟨hh, o1, vs1, gk _ _ apart1 h1, d1, c1⟩
  refine wpAny_bind (wpAny_holding (tuple_end_hot hot2 apart1 st ((ht.push _).extBut sb.extBut apart) (by simp) fun g2 he2 => ?_))
  simp only [Option.isSome_none, Bool.false_eq_true, if_false]
  exact wpAny_pure (hQ g2 fun b o hb e => he2 b o hb (gk b o hb e))
theorem pg_tupH {es : List Expr} {k : Nat} {t : TGs} {n : Nat} {pos : Pos} (hc : HotC X) (h : PGs X es t) (hn : (assignEach es X.env).length = n) (hst : (assignEach es X.env).findIdx? (·.1) = none) : PG X (.Tuple es k pos) (gTup X.K n t) := by
  refine ⟨fun pins s σ H v u Q I r hw => ?_⟩
  obtain ⟨a, xs, rfl, hq, hl, hw⟩ := hw
  cases r
  obtain ⟨its, rv, ht, -⟩ := I.tuple hq
  obtain ⟨x1, hot, -⟩ := hot_at hc I
  rw [assign_Tuple]
  refine wpAny_bind (wpAny_standAt ?_)
  unfold unpack
  have hsz : (assignEach es X.env).length = its.toArray.size := by simp [hn, ← hl, rv.length]
  rw [hsz, hst]
  refine wpAny_bind (wpAny_holding (unpack_hot hot ht fun h' hx => ?_))
  exact h.run pins _ σ H xs _ Q (I.kept (t' := s.toks) fun b o e => hx b o (Nat.ne_of_lt (Heap.lt_size e)) e) (by simpa using rv) hw
end

/-! ### a comprehension, while an exception is handled: its block keeps the context's pins -/
abbrev blkP (X : Cx) (s : Shared) (H : Hp) (scope : Scope) (cenv : Env) (fp : List Addr) (pn : List (Addr × Obj)) : Cx := { X.blk s H scope cenv fp with pn := pn }
section
variable {X : Cx}
theorem blkP_start {pins : List (Addr × Obj)} {σ : L2.St} {H : Hp} {s : Shared} {scope : Scope} {own : List (Str × Nat)} {fp : List Addr} (I : Inv X pins σ H s) (ok : BlkOk X.N X.env.scope scope own) (hN : X.N.Nodup) (hfp : ∀ b ∈ fp, FpOk X pins H b ∧ b < s.heap.objs.size) :
    Inv (blkP X s H scope (compEnvC scope (cellsFrom (s.heap.objs.size + 1) scope.names (cloFrom X.env.cells scope.names [])) s.heap.objs.size X.env) fp X.pn) [] (L2.wipe σ (own.map (·.2))) H { s with heap := pushCells (s.heap.push { cls := .type "dict", data := .dict #[] }) scope.names } := by
  have J := block_start I ok hN hfp
  have k := J.ok
  refine ⟨⟨k.mod, k.kind, k.glob, k.blt, k.above, k.inj, k.has, k.cab, k.hd, k.frames, k.stk, k.exf, k.bs, k.bsz, k.noex, k.exfs, k.funs, k.frf⟩, J.os, J.bare, J.base, J.loc, J.cell, J.free, J.freeC, fun p hp => ?_, J.hok, J.len⟩
  have hp : p ∈ X.pn := by
    have hp' : p ∈ X.pn ++ [] := hp
    rwa [List.append_nil] at hp'
  obtain ⟨g1, g2, g3, g4, g5⟩ := I.pin p (List.mem_append_left _ hp)
  exact ⟨pushCells_keeps _ _ _ _ (Heap.get?_push_of_some _ g1), g2, Nat.ne_of_lt (Heap.lt_size g1), fun z => (List.mem_cons.mp (I.stkSub p.1 z)).elim g3 g4, g5⟩
theorem lc_hot {pins : List (Addr × Obj)} {s : Shared} {σ : L2.St} {H : Hp} {Q : VK} {elt tg iter : Expr} {ifs : List Expr} {scope : Scope} {own : List (Str × Nat)} {pos pos' : Pos} {wi : TI} {g : TG} {tt : TT} {te : TE} {use : Option (Value → Sem Unit)} {Qf : Value → Shared → Prop}
    (hc : HotC X) (hN : X.N.Nodup) (I : Inv X pins σ H s) (hi : PIH X tg iter wi) (ok : BlkOk X.N X.env.scope scope own) (hs : ∀ x, foldedSetIterable iter X.env x = pure x)
    (hb : ∀ (s : Shared) (H : Hp) (C : Addr) (cl : List (Str × Addr)) (fp : List Addr), PG (blkP X s H scope (compEnvC scope cl C X.env) fp X.pn) tg g ∧ PTs (blkP X s H scope (compEnvC scope cl C X.env) fp X.pn) ifs tt ∧ PE (blkP X s H scope (compEnvC scope cl C X.env) fp X.pn) elt te)
    (h : tLc wi g tt te (own.map (·.2)) σ H Q)
    (fin : ∀ D C s' m H', Inv X pins σ H' s' → Q (.ref D) H' → s'.heap.Ns C m → FpOk X pins H' C → compPost (model X.prog X.w) X.A X.xe use Qf (.ref D) C (.ok .next) s') :
    wpAny (model X.prog X.w) X.A (comprehension (.ListComp elt [⟨tg, iter, ifs, 0⟩] scope pos) scope X.env pos' (newList []) false (eval iter X.env) use) Qf X.xe s := by
  have caught : ∀ y ∈ scope.names, y.2 = .free → ∃ c, X.env.cells.lookup y.1 = some c := fun y hy e => (ok.free y hy e).elim (fun k => I.ok.has _ (.inl k)) fun k => I.ok.has _ (.inr k)
  refine wpAny_comprehension_free (use := use) rfl hs (closure_ok caught) ok.kind (fun y hy e => by rw [ok.uniq y hy, e]) (thn (hi.run pins s σ H _ I h) fun xv s1 hx => thn hx ?_)
  rintro itv s2 ⟨it, fp, tn, J, H2, rfl, I2, T, st2, f2, q⟩
  refine wpAny_newObj_type (newEnv_comp ?_) (by show 0 ≤ sizeLine; decide)
  -- the new list at D
  obtain ⟨D, hD⟩ : ∃ D, D = s2.heap.objs.size := ⟨_, rfl⟩
  have new : H2 D = none := I2.hok.fresh (Nat.le_of_eq hD.symm)
  obtain ⟨W, ⟨m0, w0⟩, turn⟩ := q D new
  obtain ⟨s3, hs3⟩ : ∃ s3 : Shared, s3 = { s2 with heap := s2.heap.push { cls := .type "list", data := .seq ([] : List Value).toArray } } := ⟨_, rfl⟩
  have h3 : s3.heap = s2.heap.push { cls := .type "list", data := .seq ([] : List Value).toArray } := by rw [hs3]
  have k3 : ∀ b o, s2.heap.get? b = some o → s3.heap.get? b = some o := fun b o e => by rw [h3]; exact Heap.get?_push_of_some _ e
  obtain ⟨H3, hH3⟩ : ∃ H3, H3 = upd H2 D (.lst []) := ⟨_, rfl⟩
  have I3 : Inv X pins σ H3 s3 := by
    subst hs3 hH3
    refine I2.laid (t' := s2.toks) (fun b o e => Heap.get?_push_of_some _ e) (Nat.le_of_eq hD.symm) ⟨Nat.zero_le _, [], 0, .nil, ?_⟩
    subst hD
    exact Heap.get?_push_size _ rfl
  have f3 : ∀ b ∈ fp, FpOk X pins H3 b ∧ b < s3.heap.objs.size := fun b hb => by
    obtain ⟨o, e, _⟩ := T.obj _ _ st2 b hb
    have lt := Heap.lt_size e
    refine ⟨⟨?_, (f2 b hb).2⟩, by rw [h3, Heap.size_push]; exact Nat.lt_succ_of_lt lt⟩
    rw [hH3, upd_ne (by rw [hD]; exact Nat.ne_of_lt lt)]
    exact (f2 b hb).1
  rw [← hH3] at w0
  have I4 := blkP_start I3 ok hN f3
  obtain ⟨pg, pt, pe⟩ := hb s3 H3 s3.heap.objs.size (cellsFrom (s3.heap.objs.size + 1) scope.names (cloFrom X.env.cells scope.names [])) fp
  show codeAny _ _ (.compStart (.ListComp elt [⟨tg, iter, ifs, 0⟩] scope pos) 0 (.ref it) (.ref s2.heap.objs.size) _) (compPost (model X.prog X.w) X.A X.xe use Qf (.ref s2.heap.objs.size) _) _
  rw [← hs3, ← hD]
  show codeAny _ _ (.compStart (.ListComp elt [⟨tg, iter, ifs, 0⟩] scope pos) 0 (.ref it) (.ref D) (compEnvC scope (cellsFrom (s3.heap.objs.size + 1) scope.names (cloFrom X.env.cells scope.names [])) s3.heap.objs.size X.env)) (compPost (model X.prog X.w) X.A X.xe use Qf (.ref D) s3.heap.objs.size) { s3 with heap := pushCells (s3.heap.push { cls := .type "dict", data := .dict #[] }) scope.names }
  obtain ⟨ce, hce⟩ : ∃ ce, ce = compEnvC scope (cellsFrom (s3.heap.objs.size + 1) scope.names (cloFrom X.env.cells scope.names [])) s3.heap.objs.size X.env := ⟨_, rfl⟩
  have cL : ce.locals = s3.heap.objs.size := by rw [hce]; rfl
  rw [← hce] at I4 pg pt pe ⊢
  obtain ⟨s4, hs4⟩ : ∃ s4 : Shared, s4 = { s3 with heap := pushCells (s3.heap.push { cls := .type "dict", data := .dict #[] }) scope.names } := ⟨_, rfl⟩
  rw [← hs4] at I4 ⊢
  have st4 : tn 0 s4.heap := T.keep _ _ _ st2 fun b _ o e => by rw [hs4]; exact pushCells_keeps _ _ _ _ (Heap.get?_push_of_some _ (k3 b o e))
  -- the block
  have B0 : HotC (blkP X s3 H3 scope ce fp X.pn) := hc
  have fpk : ∀ {σ' : L2.St} {H' : Hp} {s' : Shared}, Inv (blkP X s3 H3 scope ce fp X.pn) [] σ' H' s' → (∀ b ∈ fp, H' b = none) → ∀ b ∈ fp, FpOk (blkP X s3 H3 scope ce fp X.pn) [] H' b := fun {σ' H' s'} I' hn b hb =>
    ⟨hn b hb, (I'.ok.exf b hb).1, I'.ok.exfs b hb, .inl hb, fun x c e => (I'.ok.exf b hb).2 x c e, fun p hp => (f3 b hb).1.2.2.2.2.2 p (List.mem_append_left _ (by
      have hp' : p ∈ X.pn ++ [] := hp
      rwa [List.append_nil] at hp'))⟩
  have loop : codeAny (model X.prog X.w) X.A (.compLoop (.ListComp elt [⟨tg, iter, ifs, 0⟩] scope pos) 0 (.ref it) (.ref D) ce) (compPost (model X.prog X.w) X.A X.xe use Qf (.ref D) s3.heap.objs.size) s4 := by
    refine compLoop_any (fun n s' => ∃ i H', Inv (blkP X s3 H3 scope ce fp X.pn) [] (L2.wipe σ (own.map (·.2))) H' s' ∧ tn i s'.heap ∧ (∀ b ∈ fp, H' b = none) ∧ W i n H') ?_ m0 ⟨0, H3, I4, st4, fun b hb => (f3 b hb).1.1, w0⟩
    rintro n s5 ⟨i, H5, I5, st5, n5, w5⟩
    rcases turn i n H5 w5 with ⟨stop, qq⟩ | ⟨go, Nx, hNx, step⟩
    · -- no item is left
      refine thnF (T.done (blkP X s3 H3 scope ce fp X.pn) rfl rfl rfl B0 i [] s5 _ H5 (fun _ _ => False) I5 (fpk I5 n5) st5 stop) ?_
      rintro r s6 ⟨rfl, I6⟩
      have nC : H5 s3.heap.objs.size = none := cL ▸ (show H5 ce.locals = none from I6.free)
      obtain ⟨m, hn, -⟩ := I6.loc
      have hn : s6.heap.Ns s3.heap.objs.size m := cL ▸ (show s6.heap.Ns ce.locals m from hn)
      refine fin D s3.heap.objs.size s6 m H5 (I3.call' (ch := fp) I6.os I6.base I6.hok I6.bare fun b hb => ?_) qq hn (I3.fpOk (Nat.le_refl _) nC)
      obtain ⟨⟨_, p1, _, p3, p4, p5⟩, _⟩ := f3 b hb
      exact ⟨p3, p1, p4, p5⟩
    · -- a turn
      refine thnF (T.item (blkP X s3 H3 scope ce fp X.pn) rfl rfl rfl B0 i [] s5 _ H5 (fun _ _ => False) I5 (fpk I5 n5) st5 go) ?_
      rintro r s6 ⟨u, rfl, h6⟩
      refine thnF h6 ?_
      rintro - s7 ⟨x, H7, I7, r7, y7, st7, n7⟩
      refine thnF (pg.run _ s7 _ H7 x u _ (I7.pinned (fpk I7 n7) (T.obj _ _ st7)) r7 (step x H7 y7)) ?_
      rintro - s8 ⟨σ8, H8, I8, hw8, q8⟩
      refine thnF (pt.run _ s8 σ8 H8 _ I8 q8) ?_
      rintro b s9 ⟨H9, I9, q9⟩
      have back : ∀ {s' : Shared} {H' : Hp}, Inv (blkP X s3 H3 scope ce fp X.pn) ([] ++ pinsAt fp s7.heap) σ8 H' s' → Nx H' →
          ∃ m, m < n ∧ ∃ i H', Inv (blkP X s3 H3 scope ce fp X.pn) [] (L2.wipe σ (own.map (·.2))) H' s' ∧ tn i s'.heap ∧ (∀ b ∈ fp, H' b = none) ∧ W i m H' := by
        intro s' H' I' nx
        obtain ⟨m', hm, w'⟩ := hNx H' nx
        have at_ : ∀ b ∈ fp, ∀ o, s7.heap.get? b = some o → s'.heap.get? b = some o ∧ H' b = none := fun b hb o e =>
          (I'.pin (b, o) (List.mem_append_right _ (List.mem_append_right _ (mem_pinsAt hb e)))).imp_right And.left
        refine ⟨m', hm, i + 1, H', (I'.unpinned (pins := [])).weak (by rw [← hw8, L2.wipe_length]) fun j v e => ?_, T.keep _ _ _ st7 fun b hb o e => (at_ b hb o e).1, fun b hb => ?_, w'⟩
        · rw [← hw8] at e
          exact (L2.wipe_some e).1
        · obtain ⟨o, e, -⟩ := T.obj _ _ st7 b hb
          exact (at_ b hb o e).2
      cases b with
      | false =>
        simp only [Bool.false_eq_true, if_false] at q9 ⊢
        exact back I9 q9
      | true =>
        simp only [if_true] at q9 ⊢
        refine thnF (pe.run _ s9 σ8 H9 _ I9 q9) ?_
        rintro z s10 ⟨yv, H10, I10, r10, acc, hD10, hz10, nx⟩
        exact app_ok (X := blkP X s3 H3 scope ce fp X.pn) I10 hD10 hz10 r10 fun s11 I11 => back I11 nx
  exact codeAny_compStart_list loop (T.self X.A 0 _ _ _ st4 loop)
variable {elt tg iter : Expr} {ifs : List Expr} {scope : Scope} {own : List (Str × Nat)} {pos : Pos} {wi : TI} {g : TG} {tt : TT} {te : TE}
theorem pe_lcH (hc : HotC X) (hN : X.N.Nodup) (hi : PIH X tg iter wi) (ok : BlkOk X.N X.env.scope scope own) (hs : ∀ x, foldedSetIterable iter X.env x = pure x)
    (hb : ∀ (s : Shared) (H : Hp) (C : Addr) (cl : List (Str × Addr)) (fp : List Addr), PG (blkP X s H scope (compEnvC scope cl C X.env) fp X.pn) tg g ∧ PTs (blkP X s H scope (compEnvC scope cl C X.env) fp X.pn) ifs tt ∧ PE (blkP X s H scope (compEnvC scope cl C X.env) fp X.pn) elt te) :
    PE X (.ListComp elt [⟨tg, iter, ifs, 0⟩] scope pos) (tLc wi g tt te (own.map (·.2))) := by
  refine ⟨fun pins s σ H Q I h => ?_⟩
  rw [eval_ListComp]
  refine lc_hot hc hN I hi ok hs hb h fun D C s' m H' I' q hn f => ⟨m, hn, fun h'' sb => ⟨.ref D, H', ?_, rfl, q⟩⟩
  obtain ⟨f0, f1, f2, f3, f4, f5⟩ := f
  exact I'.turned (t' := s'.toks) (fun b o hb e => (sb.2 b hb).trans e) f0 f1 f3 f4 f5
theorem ps_setLcH {i : Nat} {y : Str} {py spos : Pos} (hc : HotC X) (hN : X.N.Nodup) (hy : X.N[i]? = some y) (hyl : X.env.scope.names.lookup y = some .local)
    (hsw : swapsWith (.ListComp elt [⟨tg, iter, ifs, 0⟩] scope pos) (some (.Name y py)) spos.line X.env = pure true) (hi : PIH X tg iter wi) (ok : BlkOk X.N X.env.scope scope own) (hs : ∀ x, foldedSetIterable iter X.env x = pure x)
    (hb : ∀ (s : Shared) (H : Hp) (C : Addr) (cl : List (Str × Addr)) (fp : List Addr), PG (blkP X s H scope (compEnvC scope cl C X.env) fp X.pn) tg g ∧ PTs (blkP X s H scope (compEnvC scope cl C X.env) fp X.pn) ifs tt ∧ PE (blkP X s H scope (compEnvC scope cl C X.env) fp X.pn) elt te) :
    PS X (.Assign [.Name y py] (.ListComp elt [⟨tg, iter, ifs, 0⟩] scope pos) spos) (tAsg (tLc wi g tt te (own.map (·.2))) (gName i)) := by
  refine ⟨fun pins s σ H D I h => ?_⟩
  rw [exec_Assign_Name_used _ _ _ _ hsw]
  refine wpAny_bind (wpAny_standAt (wpAny_bind ?_))
  show wpAny _ X.A (do let _ ← comprehension (.ListComp elt [⟨tg, iter, ifs, 0⟩] scope pos) scope X.env (firstIterPos [⟨tg, iter, ifs, 0⟩] pos) (newList []) false (eval iter X.env) (some (assign (.Name y py) X.env))) _ _ s
  have h' : tLc wi g tt te (own.map (·.2)) σ H (fun x H1 => gName i x σ H1 D.nx) := h
  refine wpAny_bind (thn (lc_hot (Qf := fun _ s' => SP X pins D .next s') hc hN I hi ok hs hb h' fun L C s' m H' I' q hn f => ?_) fun _ s' hq => wpAny_pure (wpAny_pure hq))
  obtain ⟨f0, f1, f2, f3, f4, f5⟩ := f
  show wpAny _ _ (assign (.Name y py) X.env (.ref L)) _ _ _
  refine wpAny_assign_Name (store_ok2 (v := V.ref L) I' hN hy (.inl hyl) rfl (fun s2 I2 ⟨a, sb, ha⟩ => ⟨m, hn.sameBut sb ?_, fun h3 sb3 => ⟨_, H', ?_, q⟩⟩) (.inr hyl))
  · rcases ha with z | z
    · rw [z]; exact f1
    · exact fun e => f4 y a z e.symm
  · exact I2.turned (t' := s2.toks) (fun b o hb e => (sb3.2 b hb).trans e) f0 f1 f3 f4 f5
end

/-! ### room for calls, whether or not an exception is handled -/
def Rm (k : Nat) (X : Cx) : Prop := (X.calm = true ∧ Room k X.A) ∨ (X.calm = false ∧ RoomH k X.A ∧ HotC X)
def Rdy (X : Cx) : Prop := X.calm = true ∨ (X.calm = false ∧ HotC X)
theorem Rm.mono {j k : Nat} {X : Cx} (h : Rm k X) (l : j ≤ k) : Rm j X := h.imp (fun ⟨c, r⟩ => ⟨c, r.mono l⟩) fun ⟨c, r, hc⟩ => ⟨c, r.mono l, hc⟩
theorem Rm.rdy {k : Nat} {X : Cx} (h : Rm k X) : Rdy X := h.imp (fun ⟨c, _⟩ => c) fun ⟨c, _, hc⟩ => ⟨c, hc⟩
theorem Rm.units {k : Nat} {X : Cx} (h : Rm k X) : X.A.units + 64 < cLine := by
  rcases h with ⟨_, r⟩ | ⟨_, r, _⟩ <;> (have := r.un; omega)
theorem Rm.room {k : Nat} {X : Cx} (h : Rm k X) (c : X.calm = true) : Room k X.A := by
  rcases h with ⟨_, r⟩ | ⟨c', _⟩
  · exact r
  · rw [c] at c'; cases c'
theorem Rm.hot {k : Nat} {X : Cx} (h : Rm k X) (c : X.calm = false) : RoomH k X.A ∧ HotC X := by
  rcases h with ⟨c', _⟩ | ⟨_, r⟩
  · rw [c] at c'; cases c'
  · exact r
/-- what is ready in X is ready in Y -/
def Up (X Y : Cx) : Prop := ∀ k, Rm k X → Rm k Y
theorem up_blk {X : Cx} {s : Shared} {H : Hp} {scope : Scope} {cenv : Env} {fp : List Addr} : Up X (blkP X s H scope cenv fp X.pn) := fun _ h => h.imp (fun ⟨c, r⟩ => ⟨c, r⟩) fun ⟨c, r, hc⟩ => ⟨c, r, hc⟩
theorem up_cold {X : Cx} {s : Shared} {H : Hp} {scope : Scope} {cenv : Env} {fp : List Addr} {pn : List (Addr × Obj)} (hc : X.calm = true) : Up X (blkP X s H scope cenv fp pn) := fun _ h => .inl ⟨hc, h.room hc⟩
theorem up_tr {X : Cx} {pn : List (Addr × Obj)} {xe : Value → Shared → Prop} (hc : X.calm = true) : Up X (X.tr pn xe) := fun _ h => .inl ⟨hc, h.room hc⟩
theorem up_suite {X : Cx} {a : Addr} {oe : Obj} {cls : Value} {d : Option Addr} {pn : List (Addr × Obj)} (hc : X.calm = true) (z : L2N.Zn cls d oe) (f : ∃ vs, oe.data = .fields vs) : Up X (X.suite a ((a, oe) :: pn)) := fun k h => by
  obtain ⟨vs, hd⟩ := f
  have r := h.room hc
  exact .inr ⟨rfl, ⟨r.dp, r.un⟩, (a, oe), ⟨rfl, vs, hd, z.2.2 vs hd⟩, List.mem_cons_self⟩
/-- a def's promise, called where nothing is handled, and (b) where an exception is -/
structure FnB (P : Program) (w : World) (K : PySem.W.Frag) (mg : Str → Option Value) (base : Heap) (b : Bool) (k : Nat) (f : Addr) (fd : FuncData) (ps : List Str) (sp : Sp) : Prop where
  ok : FnOk P w K mg base CX0 k f fd ps sp
  hot : b = true → FnH P w K mg base CX0 k f fd ps sp
/-- the context of a body -/
abbrev bodyX (P : Program) (w : World) (K : PySem.W.Frag) (mg : Str → Option Value) (base : Heap) (N : List Str) (qual : Str) (sc : Scope) (f : Addr) (cdv : Value) (A : Around) (outer : List Env) (s : Shared) (H : Hp) (E : XK) (c : Bool) (pn : List (Addr × Obj)) : Cx :=
  { (cxOf CX0 P w K mg base N qual sc f cdv A outer s H E).nox with calm := c, pn := pn }
theorem fun_okB {P : Program} {w : World} {K : PySem.W.Frag} {mg : Str → Option Value} {base : Heap} {x qual : Str} {st : Stmt} {f : Addr} {fd : FuncData} {N ps : List Str} {k : Nat} {b : Bool} {sp : Sp} (F : Fun K x qual st f fd) (S : FnScope N ps (defScope st)) (len : ∀ vs H Q E, sp vs H Q E → vs.length = ps.length)
    (hbody : ∀ (cdv : Value) (A : Around) (outer : List Env) (s : Shared) (H : Hp) (vs : List V) (Q : VK) (E : XK) (c : Bool) (pn : List (Addr × Obj)), (c = true ∨ b = true) → Rm k (bodyX P w K mg base N qual (defScope st) f cdv A outer s H E c pn) → sp vs H Q E →
      ∃ t, PSs (bodyX P w K mg base N qual (defScope st) f cdv A outer s H E c pn) (defBody st) t ∧ t { nx := fun _ H' => Q .non H', rt := Q } (L2.start N vs) H) : FnB P w K mg base b (k + 1) f fd ps sp := by
  refine ⟨F.ok S len fun cdv A outer s H vs Q E hr hsp => hbody cdv A outer s H vs Q E true [] (.inl rfl) (.inl ⟨rfl, hr⟩) hsp, fun hb => ?_⟩
  obtain ⟨oc, od, kV, doc, pm, an, cdv, ct, osl, rfl, lk, hcd⟩ := F.ex
  refine fn_ofH lk hcd S len fun A outer s H vs Q E p hot hr hsp => ?_
  obtain ⟨t, h, q⟩ := hbody cdv A outer s H vs Q E false [p] (.inr hb) (.inr ⟨rfl, hr, p, hot, List.mem_singleton.mpr rfl⟩) hsp
  exact ⟨t, PSs.nox (X := cxH CX0 P w K mg base N qual (defScope st) f cdv A outer s H E p) h, q⟩
theorem cold_of {c : Bool} (h : c = true ∨ false = true) : c = true := h.elim id fun z => nomatch z
end SB

namespace SB
open PySem PySem.Spec PyProof.Rows L2

/-! ### data, without addresses (but of what is owned) -/
inductive D where
  | non | bl (b : Bool) | int (i : Int) | str (s : Str) | tup (l : List D) | lst (l : List D) | ref (a : Addr) | ty (n : String)

section
variable (K : PySem.W.Frag) (G : Hp)
mutual
def Rep : D → V → Prop
  | .non, v => v = .non
  | .bl b, v => v = .bl b
  | .int i, v => v = .int i
  | .str s, v => v = .str s
  | .tup l, v => ∃ a vs, v = .ref a ∧ SqT K G a vs ∧ Reps l vs
  | .lst l, v => ∃ a vs, v = .ref a ∧ SqL K G a vs ∧ Reps l vs
  | .ref a, v => v = .ref a
  | .ty n, v => v = .ty n
def Reps : List D → List V → Prop
  | [], vs => vs = []
  | d :: l, vs => ∃ v r, vs = v :: r ∧ Rep d v ∧ Reps l r
end
end

theorem Same.seqT {K : PySem.W.Frag} {H H' : Hp} {a : Addr} {xs : List V} (e : Same H H') (h : SqT K H a xs) : SqT K H' a xs := by
  rcases h with (h | ⟨o, h⟩) | h
  · exact .inl (.inl (e _ _ h))
  · exact .inl (.inr ⟨o, e _ _ h⟩)
  · exact .inr h

section
variable {K : PySem.W.Frag} {G G' : Hp}
mutual
theorem Rep.mono (s : Same G G') : ∀ {d : D} {v : V}, Rep K G d v → Rep K G' d v
  | .non, _, h => by simpa only [Rep] using h
  | .bl _, _, h => by simpa only [Rep] using h
  | .int _, _, h => by simpa only [Rep] using h
  | .str _, _, h => by simpa only [Rep] using h
  | .ref _, _, h => by simpa only [Rep] using h
  | .ty _, _, h => by simpa only [Rep] using h
  | .tup l, v, h => by
    simp only [Rep] at h ⊢
    obtain ⟨a, vs, e, q, r⟩ := h
    exact ⟨a, vs, e, Same.seqT s q, Reps.mono s r⟩
  | .lst l, v, h => by
    simp only [Rep] at h ⊢
    obtain ⟨a, vs, e, q, r⟩ := h
    exact ⟨a, vs, e, s.seq q, Reps.mono s r⟩
theorem Reps.mono (s : Same G G') : ∀ {l : List D} {vs : List V}, Reps K G l vs → Reps K G' l vs
  | [], _, h => by simpa only [Reps] using h
  | d :: l, vs, h => by
    simp only [Reps] at h ⊢
    obtain ⟨v, r, e, h1, h2⟩ := h
    exact ⟨v, r, e, Rep.mono s h1, Reps.mono s h2⟩
end
theorem Reps.nil : Reps K G [] [] := by simp only [Reps]
theorem Reps.cons {d : D} {v : V} {l : List D} {vs : List V} (h : Rep K G d v) (t : Reps K G l vs) : Reps K G (d :: l) (v :: vs) := by
  simp only [Reps]; exact ⟨v, vs, rfl, h, t⟩
theorem Reps.length : ∀ {l : List D} {vs : List V}, Reps K G l vs → l.length = vs.length
  | [], _, h => by simp only [Reps] at h; subst h; rfl
  | d :: l, vs, h => by
    simp only [Reps] at h
    obtain ⟨v, r, e, _, h2⟩ := h
    subst e
    simp [h2.length]
theorem Reps.get : ∀ {l : List D} {vs : List V} {i : Nat} {d : D}, Reps K G l vs → l[i]? = some d → ∃ v, vs[i]? = some v ∧ Rep K G d v
  | [], _, _, _, _, e => by simp at e
  | x :: l, vs, 0, d, h, e => by
    simp only [Reps] at h
    obtain ⟨v, r, e1, h1, _⟩ := h
    subst e1
    simp at e; subst e
    exact ⟨v, rfl, h1⟩
  | x :: l, vs, i + 1, d, h, e => by
    simp only [Reps] at h
    obtain ⟨v, r, e1, _, h2⟩ := h
    subst e1
    obtain ⟨u, q1, q2⟩ := Reps.get (i := i) (d := d) h2 (by simpa using e)
    exact ⟨u, by simpa using q1, q2⟩
theorem Reps.get' {l : List D} {vs : List V} {i : Nat} {v : V} (h : Reps K G l vs) (e : vs[i]? = some v) : ∃ d, l[i]? = some d ∧ Rep K G d v := by
  have hl := h.length
  have hi : i < vs.length := (List.getElem?_eq_some_iff.mp e).1
  have e2 : l[i]? = some (l[i]'(by omega)) := List.getElem?_eq_getElem (by omega)
  obtain ⟨u, q1, q2⟩ := h.get e2
  rw [e] at q1; cases q1
  exact ⟨_, e2, q2⟩
theorem Reps.append : ∀ {l m : List D} {vs us : List V}, Reps K G l vs → Reps K G m us → Reps K G (l ++ m) (vs ++ us)
  | [], _, _, _, h, t => by simp only [Reps] at h; subst h; exact t
  | d :: l, m, vs, us, h, t => by
    simp only [Reps] at h
    obtain ⟨v, r, e, h1, h2⟩ := h
    subst e
    exact .cons h1 (Reps.append h2 t)
theorem Reps.set {d : D} {v : V} (q : Rep K G d v) : ∀ {l : List D} {vs : List V} (i : Nat), Reps K G l vs → Reps K G (l.set i d) (vs.set i v)
  | [], _, _, h => by simp only [Reps] at h; subst h; simp only [List.set, Reps]
  | x :: l, vs, 0, h => by
    simp only [Reps] at h
    obtain ⟨u, r, e, _, h2⟩ := h
    subst e
    exact .cons q h2
  | x :: l, vs, i + 1, h => by
    simp only [Reps] at h
    obtain ⟨u, r, e, h1, h2⟩ := h
    subst e
    exact .cons h1 (Reps.set q i h2)
theorem Reps.take : ∀ {l : List D} {vs : List V} (n : Nat), Reps K G l vs → Reps K G (l.take n) (vs.take n)
  | [], _, n, h => by simp only [Reps] at h; subst h; cases n <;> exact .nil
  | x :: l, vs, 0, h => .nil
  | x :: l, vs, n + 1, h => by
    simp only [Reps] at h
    obtain ⟨u, r, e, h1, h2⟩ := h
    subst e
    exact .cons h1 (Reps.take n h2)
theorem Reps.drop : ∀ {l : List D} {vs : List V} (n : Nat), Reps K G l vs → Reps K G (l.drop n) (vs.drop n)
  | l, vs, 0, h => h
  | [], _, n + 1, h => by simp only [Reps] at h; subst h; exact .nil
  | x :: l, vs, n + 1, h => by
    simp only [Reps] at h
    obtain ⟨u, r, e, h1, h2⟩ := h
    subst e
    exact Reps.drop n h2
theorem Reps.reverse : ∀ {l : List D} {vs : List V}, Reps K G l vs → Reps K G l.reverse vs.reverse
  | [], _, h => by simp only [Reps] at h; subst h; exact .nil
  | x :: l, vs, h => by
    simp only [Reps] at h
    obtain ⟨u, r, e, h1, h2⟩ := h
    subst e
    rw [List.reverse_cons, List.reverse_cons]
    exact (Reps.reverse h2).append (.cons h1 .nil)
theorem Reps.eraseIdx : ∀ {l : List D} {vs : List V} (i : Nat), Reps K G l vs → Reps K G (l.eraseIdx i) (vs.eraseIdx i)
  | [], _, i, h => by simp only [Reps] at h; subst h; cases i <;> exact .nil
  | x :: l, vs, 0, h => by
    simp only [Reps] at h
    obtain ⟨u, r, e, h1, h2⟩ := h
    subst e
    exact h2
  | x :: l, vs, i + 1, h => by
    simp only [Reps] at h
    obtain ⟨u, r, e, h1, h2⟩ := h
    subst e
    exact .cons h1 (Reps.eraseIdx i h2)
theorem Reps.two {l : List D} {x y : V} (h : Reps K G l [x, y]) : ∃ d e, l = [d, e] ∧ Rep K G d x ∧ Rep K G e y := by
  match l, h with
  | [], h => simp [Reps] at h
  | [d], h => simp [Reps] at h
  | [d, e], h =>
    simp only [Reps] at h
    obtain ⟨v, r, e1, h1, v2, r2, e2, h2, e3⟩ := h
    subst e3 e2
    cases e1
    exact ⟨d, e, rfl, h1, h2⟩
  | d :: e :: f :: l, h =>
    have := h.length
    simp at this
theorem Rep.int_of {i : Int} {v : V} (h : Rep K G (.int i) v) : v = .int i := by simpa only [Rep] using h
theorem Rep.bl_of {i : Bool} {v : V} (h : Rep K G (.bl i) v) : v = .bl i := by simpa only [Rep] using h
theorem Rep.str_of {i : Str} {v : V} (h : Rep K G (.str i) v) : v = .str i := by simpa only [Rep] using h
theorem Rep.ref_of {i : Addr} {v : V} (h : Rep K G (.ref i) v) : v = .ref i := by simpa only [Rep] using h
theorem Rep.ty_of {i : String} {v : V} (h : Rep K G (.ty i) v) : v = .ty i := by simpa only [Rep] using h
theorem Rep.ty (i : String) : Rep K G (.ty i) (.ty i) := by simp only [Rep]
theorem Rep.non_of {v : V} (h : Rep K G .non v) : v = .non := by simpa only [Rep] using h
theorem Rep.int (i : Int) : Rep K G (.int i) (.int i) := by simp only [Rep]
theorem Rep.bl (i : Bool) : Rep K G (.bl i) (.bl i) := by simp only [Rep]
theorem Rep.str (i : Str) : Rep K G (.str i) (.str i) := by simp only [Rep]
theorem Rep.non : Rep K G .non .non := by simp only [Rep]
theorem Rep.ref (i : Addr) : Rep K G (.ref i) (.ref i) := by simp only [Rep]
theorem Rep.tup_of {l : List D} {v : V} (h : Rep K G (.tup l) v) : ∃ a vs, v = .ref a ∧ SqT K G a vs ∧ Reps K G l vs := by simpa only [Rep] using h
theorem Rep.lst_of {l : List D} {v : V} (h : Rep K G (.lst l) v) : ∃ a vs, v = .ref a ∧ SqL K G a vs ∧ Reps K G l vs := by simpa only [Rep] using h
theorem Rep.tup {l : List D} {a : Addr} {vs : List V} (q : SqT K G a vs) (r : Reps K G l vs) : Rep K G (.tup l) (.ref a) := by
  simp only [Rep]; exact ⟨a, vs, rfl, q, r⟩
theorem Rep.lst {l : List D} {a : Addr} {vs : List V} (q : SqL K G a vs) (r : Reps K G l vs) : Rep K G (.lst l) (.ref a) := by
  simp only [Rep]; exact ⟨a, vs, rfl, q, r⟩
theorem Rep.non_iff {d : D} {v : V} (h : Rep K G d v) : v = .non ↔ d = .non := by
  cases d with
  | non => simp [h.non_of]
  | bl b => rw [h.bl_of]; simp
  | int i => rw [h.int_of]; simp
  | str s => rw [h.str_of]; simp
  | ref a => rw [h.ref_of]; simp
  | ty a => rw [h.ty_of]; simp
  | tup l => obtain ⟨a, vs, e, _⟩ := h.tup_of; rw [e]; simp
  | lst l => obtain ⟨a, vs, e, _⟩ := h.lst_of; rw [e]; simp
end

/-! ### what is owned -/
inductive OO where
  | lst (l : List D)
  | ins (n : Str) (fs : List (Str × D))
  /-- the dict of an exception -/
  | xd (fs : List (Str × D))
  /-- an exception that was caught, at a, of the class n, its dict's place -/
  | exc (a : Addr) (n : Str) (d : Option Addr)
abbrev Ow := Addr → Option OO
def Ow.set (O : Ow) (p : Addr) (o : OO) : Ow := fun q => if q = p then some o else O q
def Ow.del (O : Ow) (p : Addr) : Ow := fun q => if q = p then none else O q
def Ow.le (O O' : Ow) : Prop := ∀ p o, O p = some o → O' p = some o
theorem Ow.le.refl (O : Ow) : O.le O := fun _ _ h => h
theorem Ow.le.trans {O O' O'' : Ow} (a : O.le O') (b : O'.le O'') : O.le O'' := fun p o h => b p o (a p o h)
theorem Ow.set_same {O : Ow} {p : Addr} {o : OO} : (O.set p o) p = some o := by unfold Ow.set; rw [if_pos rfl]
theorem Ow.set_ne {O : Ow} {p q : Addr} {o : OO} (h : q ≠ p) : (O.set p o) q = O q := by unfold Ow.set; rw [if_neg h]
theorem Ow.set_set {O : Ow} {p : Addr} {o o' : OO} : (O.set p o).set p o' = O.set p o' := by
  funext q; unfold Ow.set; split <;> rfl
theorem Ow.le_set {O : Ow} {p : Addr} {o : OO} (h : O p = none) : O.le (O.set p o) := fun q u e => by
  rw [Ow.set_ne]; exact e
  intro z; rw [z, h] at e; cases e
theorem Ow.del_set {O : Ow} {p : Addr} {o : OO} (h : O p = none) : (O.set p o).del p = O := by
  funext q; unfold Ow.set Ow.del
  by_cases e : q = p
  · simp [e, h]
  · simp [e]
theorem Ow.del_le {O : Ow} {p : Addr} : (O.del p).le O := fun q u e => by
  unfold Ow.del at e; split at e
  · cases e
  · exact e
theorem Ow.set_id {O : Ow} {p : Addr} {o : OO} (h : O p = some o) : O.set p o = O := by
  funext q; unfold Ow.set; split
  · rename_i e; rw [e, h]
  · rfl

def RepF (K : PySem.W.Frag) (G : Hp) : List (Str × D) → List (Str × V) → Prop := Paired fun p q => p.1 = q.1 ∧ Rep K G p.2 q.2
/-- the class that stands by a name of the text -/
def ClsAt (K : PySem.W.Frag) (n : Str) (C : Addr) : Prop := PySem.W.nsIn K mainGlobals n = some (some (.ref C))
/-- a caught exception that is kept -/
def excO (a C : Addr) (d : Option Addr) : HO := .ext fun h => ∃ (oe : Obj) (vs : Array Value), h.get? a = some oe ∧ oe.cls = .ref C ∧ oe.dict = d ∧ oe.data = .fields vs
def RepO (K : PySem.W.Frag) (G : Hp) : OO → HO → Prop
  | .lst l, h => ∃ vs, h = .lst vs ∧ Reps K G l vs
  | .ins n fs, h => ∃ C dx gs, ClsAt K n C ∧ h = .ins C dx gs ∧ RepF K G fs gs
  | .xd fs, h => ∃ gs, h = .xd gs ∧ RepF K G fs gs
  | .exc a n d, h => ∃ C, ClsAt K n C ∧ h = excO a C d
theorem RepO.mono {K : PySem.W.Frag} {G G' : Hp} (s : Same G G') {o : OO} {h : HO} (r : RepO K G o h) : RepO K G' o h := by
  cases o with
  | lst l => obtain ⟨vs, e, q⟩ := r; exact ⟨vs, e, q.mono s⟩
  | ins n fs => obtain ⟨C, dx, gs, c, e, q⟩ := r; exact ⟨C, dx, gs, c, e, Paired.mapP q fun p z y => ⟨y.1, y.2.mono s⟩⟩
  | xd fs => obtain ⟨gs, e, q⟩ := r; exact ⟨gs, e, Paired.mapP q fun p z y => ⟨y.1, y.2.mono s⟩⟩
  | exc a n d => exact r

/-- G: what stands still; O: what is owned; H: all -/
structure Wd where
  G : Hp
  O : Ow
  H : Hp
structure Own (K : PySem.W.Frag) (w : Wd) : Prop where
  sub : Same w.G w.H
  own : ∀ p o, w.O p = some o → w.G p = none ∧ ∃ h, w.H p = some h ∧ RepO K w.G o h
structure Fr (w w' : Wd) : Prop where
  gsub : Same w.G w'.G
  keep : ∀ b x, w.H b = some x → w.O b = none → w'.H b = some x
  gnew : ∀ b x, w'.G b = some x → w.H b ≠ none → w.G b = some x ∨ w.O b ≠ none
  onew : ∀ b, w'.O b ≠ none → w.H b = none ∨ w.O b ≠ none
  dom : ∀ b, w.H b ≠ none → w'.H b ≠ none
theorem Fr.refl (w : Wd) : Fr w w := ⟨Same.refl _, fun _ _ h _ => h, fun _ _ h _ => .inl h, fun _ h => .inr h, fun _ h => h⟩
theorem Fr.trans {w w' w'' : Wd} (a : Fr w w') (b : Fr w' w'') : Fr w w'' where
  gsub := a.gsub.trans b.gsub
  keep := fun c x h1 h2 => b.keep c x (a.keep c x h1 h2) (by
    cases e : w'.O c with
    | none => rfl
    | some o =>
      rcases a.onew c (by rw [e]; simp) with q | q
      · rw [q] at h1; cases h1
      · exact absurd h2 q)
  gnew := fun c x h1 h2 => by
    rcases b.gnew c x h1 (a.dom c h2) with q | q
    · exact a.gnew c x q h2
    · rcases a.onew c q with z | z
      · exact absurd z h2
      · exact .inr z
  onew := fun c h => by
    rcases b.onew c h with q | q
    · cases e : w.H c with
      | none => exact .inl rfl
      | some x => exact absurd q (a.dom c (by rw [e]; simp))
    · exact a.onew c q
  dom := fun c h => b.dom c (a.dom c h)

section
variable {K : PySem.W.Frag} {w : Wd}
theorem Own.none_of (h : Own K w) {p : Addr} (e : w.H p = none) : w.G p = none ∧ w.O p = none := by
  refine ⟨h.sub.free e, ?_⟩
  cases q : w.O p with
  | none => rfl
  | some o =>
    obtain ⟨_, z, z1, _⟩ := h.own p o q
    rw [e] at z1; cases z1
/-- a new still object -/
def Wd.still (w : Wd) (p : Addr) (o : HO) : Wd := ⟨upd w.G p o, w.O, upd w.H p o⟩
theorem Same.upd2 {G H : Hp} {p : Addr} {o : HO} (s : Same G H) : Same (upd G p o) (upd H p o) := fun b x e => by
  by_cases q : b = p
  · subst q; rw [upd_same] at e ⊢; exact e
  · rw [upd_ne q] at e ⊢; exact s b x e
theorem Same.upd_new {H : Hp} {p : Addr} {o : HO} (h : H p = none) : Same H (upd H p o) := fun b x e => by
  rw [upd_ne (ne_of_none e h)]; exact e
theorem Own.still (h : Own K w) {p : Addr} {o : HO} (e : w.H p = none) : Own K (w.still p o) where
  sub := Same.upd2 h.sub
  own := fun q u z => by
    have hq : q ≠ p := fun y => by
      have z' : w.O q = some u := z
      rw [y, (h.none_of e).2] at z'; cases z'
    obtain ⟨z1, x, z2, z3⟩ := h.own q u z
    refine ⟨?_, x, ?_, z3.mono (Same.upd_new (h.none_of e).1)⟩
    · show upd w.G p o q = none
      rw [upd_ne hq]; exact z1
    · show upd w.H p o q = some x
      rw [upd_ne hq]; exact z2
theorem Fr.still {p : Addr} {o : HO} (h : Own K w) (e : w.H p = none) : Fr w (w.still p o) where
  gsub := Same.upd_new (h.none_of e).1
  keep := fun b x h1 h2 => by
    show upd w.H p o b = some x
    rw [upd_ne (ne_of_none h1 e)]; exact h1
  gnew := fun b x h1 h2 => by
    have hb : b ≠ p := fun y => h2 (by rw [y]; exact e)
    have h1' : upd w.G p o b = some x := h1
    rw [upd_ne hb] at h1'; exact .inl h1'
  onew := fun b hb => .inr hb
  dom := fun b hb => by
    show upd w.H p o b ≠ none
    by_cases y : b = p
    · rw [y, upd_same]; simp
    · rw [upd_ne y]; exact hb
/-- a new owned object -/
def Wd.give (w : Wd) (p : Addr) (o : OO) (x : HO) : Wd := ⟨w.G, w.O.set p o, upd w.H p x⟩
theorem Own.give (h : Own K w) {p : Addr} {o : OO} {x : HO} (e : w.H p = none) (r : RepO K w.G o x) : Own K (w.give p o x) where
  sub := fun b u z => by
    show upd w.H p x b = some u
    have z' : w.G b = some u := z
    rw [upd_ne (ne_of_none z' (h.none_of e).1)]; exact h.sub b u z'
  own := fun q u z => by
    have z' : (w.O.set p o) q = some u := z
    by_cases y : q = p
    · subst y
      rw [Ow.set_same] at z'; cases z'
      exact ⟨(h.none_of e).1, x, upd_same, r⟩
    · rw [Ow.set_ne y] at z'
      obtain ⟨z1, x', z2, z3⟩ := h.own q u z'
      exact ⟨z1, x', (upd_ne y).trans z2, z3⟩
theorem Fr.give {p : Addr} {o : OO} {x : HO} (h : Own K w) (e : w.H p = none) : Fr w (w.give p o x) where
  gsub := Same.refl _
  keep := fun b u h1 h2 => by
    show upd w.H p x b = some u
    rw [upd_ne (ne_of_none h1 e)]; exact h1
  gnew := fun b u h1 h2 => .inl h1
  onew := fun b hb => by
    by_cases y : b = p
    · subst y; exact .inl e
    · refine .inr ?_
      have hb' : (w.O.set p o) b ≠ none := hb
      rw [Ow.set_ne y] at hb'; exact hb'
  dom := fun b hb => by
    show upd w.H p x b ≠ none
    by_cases y : b = p
    · rw [y, upd_same]; simp
    · rw [upd_ne y]; exact hb
/-- an owned object is written -/
theorem Own.write (h : Own K w) {p : Addr} {o o' : OO} {x : HO} (e : w.O p = some o') (r : RepO K w.G o x) : Own K (w.give p o x) where
  sub := fun b u z => by
    show upd w.H p x b = some u
    have z' : w.G b = some u := z
    rw [upd_ne (ne_of_none z' (h.own p _ e).1)]; exact h.sub b u z'
  own := fun q u z => by
    have z' : (w.O.set p o) q = some u := z
    by_cases y : q = p
    · subst y
      rw [Ow.set_same] at z'; cases z'
      exact ⟨(h.own q _ e).1, x, upd_same, r⟩
    · rw [Ow.set_ne y] at z'
      obtain ⟨z1, x', z2, z3⟩ := h.own q u z'
      exact ⟨z1, x', (upd_ne y).trans z2, z3⟩
theorem Fr.write {p : Addr} {o o' : OO} {x : HO} (h : Own K w) (e : w.O p = some o') : Fr w (w.give p o x) where
  gsub := Same.refl _
  keep := fun b u h1 h2 => by
    show upd w.H p x b = some u
    have y : b ≠ p := fun z => by rw [z, e] at h2; cases h2
    rw [upd_ne y]; exact h1
  gnew := fun b u h1 h2 => .inl h1
  onew := fun b hb => by
    by_cases y : b = p
    · subst y; exact .inr (by rw [e]; simp)
    · refine .inr ?_
      have hb' : (w.O.set p o) b ≠ none := hb
      rw [Ow.set_ne y] at hb'; exact hb'
  dom := fun b hb => by
    show upd w.H p x b ≠ none
    by_cases y : b = p
    · rw [y, upd_same]; simp
    · rw [upd_ne y]; exact hb
/-- less is owned -/
def Wd.drop (w : Wd) (O : Ow) : Wd := ⟨w.G, O, w.H⟩
theorem Own.drop (h : Own K w) {O : Ow} (l : O.le w.O) : Own K (w.drop O) := ⟨h.sub, fun p o e => h.own p o (l p o e)⟩
theorem Fr.drop {O : Ow} (l : O.le w.O) : Fr w (w.drop O) where
  gsub := Same.refl _
  keep := fun _ _ h _ => h
  gnew := fun _ _ h _ => .inl h
  onew := fun b h => .inr fun z => by
    have h' : O b ≠ none := h
    cases e : O b with
    | none => exact h' e
    | some o => rw [l b o e] at z; cases z
  dom := fun _ h => h
/-- an owned object stands still from now on -/
def Wd.freeze (w : Wd) (p : Addr) (x : HO) : Wd := ⟨upd w.G p x, w.O.del p, w.H⟩
theorem Own.freeze (h : Own K w) {p : Addr} {o : OO} {x : HO} (e : w.O p = some o) (ex : w.H p = some x) : Own K (w.freeze p x) where
  sub := fun b u z => by
    have z' : upd w.G p x b = some u := z
    by_cases y : b = p
    · subst y; rw [upd_same] at z'; cases z'; exact ex
    · rw [upd_ne y] at z'; exact h.sub b u z'
  own := fun q u z => by
    have z' : (w.O.del p) q = some u := z
    have y : q ≠ p := fun y => by
      rw [y] at z'; unfold Ow.del at z'; simp at z'
    have z2 : w.O q = some u := Ow.del_le q u z'
    obtain ⟨z1, x', z3, z4⟩ := h.own q u z2
    exact ⟨(upd_ne y).trans z1, x', z3, z4.mono (Same.upd_new (h.own p o e).1)⟩
theorem Fr.freeze {p : Addr} {o : OO} {x : HO} (h : Own K w) (e : w.O p = some o) : Fr w (w.freeze p x) where
  gsub := Same.upd_new (h.own p o e).1
  keep := fun b u h1 h2 => h1
  gnew := fun b u h1 h2 => by
    have h1' : upd w.G p x b = some u := h1
    by_cases y : b = p
    · subst y; exact .inr (by rw [e]; simp)
    · rw [upd_ne y] at h1'; exact .inl h1'
  onew := fun b hb => .inr fun z => hb (by
    show w.O.del p b = none
    unfold Ow.del; split
    · rfl
    · exact z)
  dom := fun b hb => hb
end

/-! ### the names of a def -/
abbrev DEnv := List (Option D)
structure RepE (K : PySem.W.Frag) (G : Hp) (ρ : DEnv) (σ : L2.St) : Prop where
  len : ρ.length = σ.length
  get : ∀ (i : Nat) (d : D), ρ[i]? = some (some d) → ∃ v, σ[i]? = some (some v) ∧ Rep K G d v
section
variable {K : PySem.W.Frag} {G G' : Hp} {ρ : DEnv} {σ : L2.St}
theorem RepE.mono (s : Same G G') (h : RepE K G ρ σ) : RepE K G' ρ σ := ⟨h.len, fun i d e => let ⟨v, a, b⟩ := h.get i d e; ⟨v, a, b.mono s⟩⟩
theorem RepE.set (h : RepE K G ρ σ) {i : Nat} {d : D} {v : V} (r : Rep K G d v) : RepE K G (ρ.set i (some d)) (σ.set i (some v)) := by
  refine ⟨by simp [h.len], fun j e q => ?_⟩
  by_cases y : i = j
  · subst y
    have hi : i < ρ.length := by
      have := (List.getElem?_eq_some_iff.mp q).1
      simpa using this
    rw [List.getElem?_set_self hi] at q
    cases q
    exact ⟨v, List.getElem?_set_self (by rw [← h.len]; exact hi), r⟩
  · rw [List.getElem?_set_ne y] at q
    obtain ⟨u, a, b⟩ := h.get j e q
    exact ⟨u, (List.getElem?_set_ne y).trans a, b⟩
/-- names whose values are forgotten -/
def forget (ρ : DEnv) : List Nat → DEnv
  | [] => ρ
  | i :: r => forget (ρ.set i none) r
theorem RepE.non1 (h : RepE K G ρ σ) (i : Nat) : RepE K G (ρ.set i none) σ := by
  refine ⟨by simp [h.len], fun j e q => ?_⟩
  by_cases y : i = j
  · subst y
    have hi : i < ρ.length := by
      have := (List.getElem?_eq_some_iff.mp q).1
      simpa using this
    rw [List.getElem?_set_self hi] at q
    cases q
  · rw [List.getElem?_set_ne y] at q
    exact h.get j e q
theorem RepE.forget : ∀ (l : List Nat) {ρ : DEnv} (h : RepE K G ρ σ), RepE K G (forget ρ l) σ
  | [], _, h => h
  | i :: r, _, h => RepE.forget r (h.non1 i)
theorem RepE.none2 (h : RepE K G ρ σ) (i : Nat) : RepE K G (ρ.set i none) (σ.set i none) := by
  refine ⟨by simp [h.len], fun j e q => ?_⟩
  by_cases y : i = j
  · subst y
    have hi : i < ρ.length := by
      have := (List.getElem?_eq_some_iff.mp q).1
      simpa using this
    rw [List.getElem?_set_self hi] at q
    cases q
  · rw [List.getElem?_set_ne y] at q
    obtain ⟨u, a, b⟩ := h.get j e q
    exact ⟨u, (List.getElem?_set_ne y).trans a, b⟩
def wipeD (ρ : DEnv) : List Nat → DEnv
  | [] => ρ
  | v :: vs => (wipeD ρ vs).set v none
theorem RepE.wipe : ∀ (vs : List Nat), RepE K G ρ σ → RepE K G (wipeD ρ vs) (L2.wipe σ vs)
  | [], h => h
  | v :: vs, h => (RepE.wipe vs h).none2 v
end
/-- the slots vs are as wiped -/
theorem wipe_get (σ : L2.St) (vs : List Nat) (j : Nat) : (L2.wipe σ vs)[j]? = if j ∈ vs then (if j < σ.length then some none else none) else σ[j]? := by
  induction vs with
  | nil => simp [L2.wipe]
  | cons v vs ih =>
    show ((L2.wipe σ vs).set v none)[j]? = _
    rw [List.getElem?_set]
    by_cases y : v = j
    · subst y
      rw [if_pos rfl, wipe_length]
      simp
    · rw [if_neg y, ih]
      have : j ≠ v := fun z => y z.symm
      simp [this]
theorem wipe_eq {σ σ' : L2.St} {vs : List Nat} (hl : σ'.length = σ.length) (h : ∀ j, j ∉ vs → σ'[j]? = σ[j]?) : L2.wipe σ' vs = L2.wipe σ vs := by
  apply List.ext_getElem?
  intro j
  rw [wipe_get, wipe_get, hl]
  by_cases y : j ∈ vs
  · simp [y]
  · simp [y, h j y]
end SB

namespace SB
open PySem PySem.Spec PyProof.Rows L2

/-! ### the judgements, over data -/
abbrev DQ := D → Ow → Prop
abbrev DT := DEnv → Ow → DQ → Prop
abbrev DTt := DEnv → Ow → (Bool → Ow → Prop) → Prop
abbrev DTa := DEnv → Ow → (List D → Ow → Prop) → Prop
def Lk (K : PySem.W.Frag) (w : Wd) (Q' : DQ) (Q : VK) : Prop := ∀ d v w', Own K w' → Fr w w' → Rep K w'.G d v → Q' d w'.O → Q v w'.H
def LkB (K : PySem.W.Frag) (w : Wd) (Q' : Bool → Ow → Prop) (Q : Bool → Hp → Prop) : Prop := ∀ b w', Own K w' → Fr w w' → Q' b w'.O → Q b w'.H
def LkA (K : PySem.W.Frag) (w : Wd) (Q' : List D → Ow → Prop) (Q : List V → Hp → Prop) : Prop := ∀ ds vs w', Own K w' → Fr w w' → Reps K w'.G ds vs → Q' ds w'.O → Q vs w'.H
theorem Lk.after {K : PySem.W.Frag} {w w1 : Wd} {Q' : DQ} {Q : VK} (h : Lk K w Q' Q) (f : Fr w w1) : Lk K w1 Q' Q := fun d v w' o f' => h d v w' o (f.trans f')
theorem LkB.after {K : PySem.W.Frag} {w w1 : Wd} {Q' : Bool → Ow → Prop} {Q : Bool → Hp → Prop} (h : LkB K w Q' Q) (f : Fr w w1) : LkB K w1 Q' Q := fun b w' o f' => h b w' o (f.trans f')
theorem LkA.after {K : PySem.W.Frag} {w w1 : Wd} {Q' : List D → Ow → Prop} {Q : List V → Hp → Prop} (h : LkA K w Q' Q) (f : Fr w w1) : LkA K w1 Q' Q := fun b v w' o f' => h b v w' o (f.trans f')
def Sem1 (K : PySem.W.Frag) (t : TE) (dt : DT) : Prop := ∀ ρ σ w Q' Q, Own K w → RepE K w.G ρ σ → Lk K w Q' Q → dt ρ w.O Q' → t σ w.H Q
def SemB (K : PySem.W.Frag) (t : TT) (dt : DTt) : Prop := ∀ ρ σ w Q' Q, Own K w → RepE K w.G ρ σ → LkB K w Q' Q → dt ρ w.O Q' → t σ w.H Q
def SemA (K : PySem.W.Frag) (t : TA) (dt : DTa) : Prop := ∀ ρ σ w Q' Q, Own K w → RepE K w.G ρ σ → LkA K w Q' Q → dt ρ w.O Q' → t σ w.H Q
def DE (X : Cx) (e : Expr) (dt : DT) : Prop := ∃ t, PE X e t ∧ Sem1 X.K t dt
def DB (X : Cx) (e : Expr) (dt : DTt) : Prop := ∃ t, PT X e t ∧ SemB X.K t dt
def DW (X : Cx) (e : Expr) (dt : DTt) : Prop := ∃ t, PW X e t ∧ SemB X.K t dt
def DA (X : Cx) (es : List Expr) (dt : DTa) : Prop := ∃ t, PA X es t ∧ SemA X.K t dt
abbrev D1 := D → Ow → DQ → Prop
abbrev D2 := D → D → Ow → DQ → Prop
abbrev DL := List D → Ow → DQ → Prop
def Op1 (K : PySem.W.Frag) (r : V → Hp → VK → Prop) (dr : D1) : Prop := ∀ w x vx Q' Q, Own K w → Rep K w.G x vx → Lk K w Q' Q → dr x w.O Q' → r vx w.H Q
def Op2 (K : PySem.W.Frag) (r : R2) (dr : D2) : Prop := ∀ w x y vx vy Q' Q, Own K w → Rep K w.G x vx → Rep K w.G y vy → Lk K w Q' Q → dr x y w.O Q' → r vx vy w.H Q
def OpL (K : PySem.W.Frag) (r : List V → Hp → VK → Prop) (dr : DL) : Prop := ∀ w xs vs Q' Q, Own K w → Reps K w.G xs vs → Lk K w Q' Q → dr xs w.O Q' → r vs w.H Q
def OpM (K : PySem.W.Frag) (T : String) (r : V → List V → Hp → VK → Prop) (dr : D → List D → Ow → DQ → Prop) : Prop := ∀ w x xs vx vs Q' Q, Own K w → Rep K w.G x vx → Reps K w.G xs vs → Lk K w Q' Q → dr x xs w.O Q' → r vx vs w.H Q

/-! ### views of data -/
/-- the items of a list, owned or still -/
def lv (O : Ow) : D → Option (List D)
  | .lst l => some l
  | .ref p => match O p with
    | some (.lst l) => some l
    | _ => none
  | _ => none
/-- .. of a list or a tuple -/
def qv (O : Ow) : D → Option (List D)
  | .tup l => some l
  | d => lv O d
section
variable {K : PySem.W.Frag} {w : Wd} {d : D} {v : V} {l : List D}
theorem lv_rep (h : Own K w) (r : Rep K w.G d v) (e : lv w.O d = some l) : ∃ a vs, v = .ref a ∧ SqL K w.H a vs ∧ Reps K w.G l vs := by
  cases d with
  | lst m =>
    obtain ⟨a, vs, e1, q, rs⟩ := r.lst_of
    simp only [lv, Option.some.injEq] at e
    subst e
    exact ⟨a, vs, e1, h.sub.seq q, rs⟩
  | ref p =>
    simp only [lv] at e
    split at e
    · rename_i m hm
      simp only [Option.some.injEq] at e
      subst e
      obtain ⟨_, x, hx, vs, e2, rs⟩ := h.own p _ hm
      subst e2
      exact ⟨p, vs, r.ref_of, SqL.of hx, rs⟩
    · cases e
  | _ => simp [lv] at e
theorem qv_rep (h : Own K w) (r : Rep K w.G d v) (e : qv w.O d = some l) : ∃ a vs, v = .ref a ∧ (SqL K w.H a vs ∨ SqT K w.H a vs) ∧ Reps K w.G l vs := by
  cases d with
  | tup m =>
    obtain ⟨a, vs, e1, q, rs⟩ := r.tup_of
    simp only [qv, Option.some.injEq] at e
    subst e
    exact ⟨a, vs, e1, .inr (Same.seqT h.sub q), rs⟩
  | lst m =>
    obtain ⟨a, vs, e1, q, rs⟩ := lv_rep h r (show lv w.O (.lst m) = some l from e)
    exact ⟨a, vs, e1, .inl q, rs⟩
  | ref m =>
    obtain ⟨a, vs, e1, q, rs⟩ := lv_rep h r (show lv w.O (.ref m) = some l from e)
    exact ⟨a, vs, e1, .inl q, rs⟩
  | _ => simp [qv, lv] at e
end

/-! ### what is made: a list that is owned, or that stands still -/
def mkO : List D → Ow → DQ → Prop := fun l O Q => ∀ p, O p = none → Q (.ref p) (O.set p (.lst l))
def mkF : List D → Ow → DQ → Prop := fun l O Q => Q (.lst l) O
def MkOk (mk : List D → Ow → DQ → Prop) : Prop := ∀ (K : PySem.W.Frag) (w : Wd) (l : List D) (vs : List V) (Q' : DQ) (Q : VK) (p : Addr), Own K w → w.H p = none → Reps K w.G l vs → Lk K w Q' Q → mk l w.O Q' → Q (.ref p) (upd w.H p (.lst vs))
theorem mk_O : MkOk mkO := fun K w l vs Q' Q p h e r lk q =>
  lk (.ref p) (.ref p) (w.give p (.lst l) (.lst vs)) (h.give e ⟨vs, rfl, r⟩) (Fr.give h e) (.ref p) (q p (h.none_of e).2)
theorem mk_F : MkOk mkF := fun K w l vs Q' Q p h e r lk q =>
  lk (.lst l) (.ref p) (w.still p (.lst vs)) (h.still e) (Fr.still h e) (Rep.lst (SqL.of upd_same) (r.mono (Same.upd_new (h.none_of e).1))) q
theorem tup_still {K : PySem.W.Frag} {w : Wd} {l : List D} {vs : List V} {Q' : DQ} {Q : VK} {p : Addr} (h : Own K w) (e : w.H p = none) (r : Reps K w.G l vs) (lk : Lk K w Q' Q) (q : Q' (.tup l) w.O) : Q (.ref p) (upd w.H p (.tup vs)) :=
  lk (.tup l) (.ref p) (w.still p (.tup vs)) (h.still e) (Fr.still h e) (Rep.tup (SqT.of upd_same) (r.mono (Same.upd_new (h.none_of e).1))) q

/-! ### expressions -/
section
variable {X : Cx} {a b c e : Expr} {es : List Expr} {da db dc : DT} {dA dB : DTt} {dl : DTa} {pos : Pos}

def dVar (i : Nat) : DT := fun ρ O Q => ∃ d, ρ[i]? = some (some d) ∧ Q d O
def dC (d : D) : DT := fun _ O Q => Q d O
theorem de_pe {t : TE} {d : D} {v : V} (h : PE X e t) (ht : t = tC v) (r : ∀ G, Rep X.K G d v) : DE X e (dC d) := by
  subst ht
  exact ⟨_, h, fun ρ σ w Q' Q hw he lk q => lk d v w hw (Fr.refl w) (r _) q⟩
theorem de_var (i : Nat) {x : Str} {pos : Pos} (hN : X.N[i]? = some x := by rfl) (hv : Vis X.env.scope x := by first | exact Or.inl rfl | exact Or.inr (Or.inl rfl) | exact Or.inr (Or.inr rfl)) (hd : (x == ("__debug__" : Str)) = false := by decide)
    (hcd : (x == ("__classdict__" : Str)) = false := by decide) : DE X (.Name x pos) (dVar i) :=
  ⟨_, pe_var hN hv hd hcd, fun ρ σ w Q' Q hw he lk ⟨d, e1, q⟩ => let ⟨v, e2, r⟩ := he.get i d e1; ⟨v, e2, lk d v w hw (Fr.refl w) r q⟩⟩
theorem de_int {i j pos} : DE X (.Constant (.int i) j pos) (dC (.int i)) := de_pe pe_int rfl fun _ => .int i
theorem de_bl {i j pos} : DE X (.Constant (.bool i) j pos) (dC (.bl i)) := de_pe pe_bl rfl fun _ => .bl i
theorem de_non {j pos} : DE X (.Constant .none j pos) (dC .non) := de_pe pe_non rfl fun _ => .non
theorem de_str {x j pos} : DE X (.Constant (.str x) j pos) (dC (.str x)) := de_pe pe_str rfl fun _ => .str x
theorem de_glob {x : Str} {d : D} {v : V} {u : Value} {pos : Pos} (hg : Gl X x) (hm : X.mg x = some u) (r : RelV v u) (rp : ∀ G, Rep X.K G d v) (hd : (x == ("__debug__" : Str)) = false := by decide) : DE X (.Name x pos) (dC d) :=
  de_pe (pe_glob hg hm r hd) rfl rp

def dOp (dr : D2) (da db : DT) : DT := fun ρ O Q => da ρ O fun x O1 => db ρ O1 fun y O2 => dr x y O2 Q
theorem sem_op {r : R2} {dr : D2} {ta tb : TE} (hr : Op2 X.K r dr) (fa : Sem1 X.K ta da) (fb : Sem1 X.K tb db) : Sem1 X.K (tOp r ta tb) (dOp dr da db) := by
  intro ρ σ w Q' Q hw he lk h
  refine fa ρ σ w _ _ hw he (fun x vx w1 hw1 f1 rx h1 => ?_) h
  refine fb ρ σ w1 _ _ hw1 (he.mono f1.gsub) (fun y vy w2 hw2 f2 ry h2 => ?_) h1
  exact hr w2 x y vx vy _ Q hw2 (rx.mono f2.gsub) ry (lk.after (f1.trans f2)) h2
theorem de_op {op : Operator} {r : R2} {dr : D2} (ho : OpR X (binaryOp op) r) (hr : Op2 X.K r dr) (ha : DE X a da) (hb : DE X b db) : DE X (.BinOp a op b pos) (dOp dr da db) := by
  obtain ⟨ta, pa, fa⟩ := ha
  obtain ⟨tb, pb, fb⟩ := hb
  exact ⟨_, pe_op ho pa pb, sem_op hr fa fb⟩
theorem de_cmp {op : CmpOp} {r : R2} {dr : D2} (ho : OpR X (compareOp op) r) (hr : Op2 X.K r dr) (ha : DE X a da) (hb : DE X b db) (hm : behindInMarks op b = false) : DE X (.Compare a [op] [b] pos) (dOp dr da db) := by
  obtain ⟨ta, pa, fa⟩ := ha
  obtain ⟨tb, pb, fb⟩ := hb
  exact ⟨_, pe_cmpR ho pa pb hm, sem_op hr fa fb⟩
def dUn (dr : D1) (da : DT) : DT := fun ρ O Q => da ρ O fun x O1 => dr x O1 Q
theorem de_un {op : UnaryOp} {r : V → Hp → VK → Prop} {dr : D1} (ho : UnR X (unaryOp op) r) (hr : Op1 X.K r dr) (ha : DE X a da) : DE X (.UnaryOp op a pos) (dUn dr da) := by
  obtain ⟨ta, pa, fa⟩ := ha
  refine ⟨_, pe_un ho pa, fun ρ σ w Q' Q hw he lk h => ?_⟩
  refine fa ρ σ w _ _ hw he (fun x vx w1 hw1 f1 rx h1 => ?_) h
  exact hr w1 x vx _ Q hw1 rx (lk.after f1) h1

/-! tests -/
def asB (Q : Bool → Ow → Prop) : DQ := fun d O => match d with
  | .bl k => Q k O
  | _ => False
def dTest (da : DT) : DTt := fun ρ O Q => da ρ O (asB Q)
theorem sem_test {t : TE} (fa : Sem1 X.K t da) : SemB X.K (tTest t) (dTest da) := by
  intro ρ σ w Q' Q hw he lk h
  refine fa ρ σ w _ _ hw he (fun x vx w1 hw1 f1 rx h1 => ?_) h
  cases x with
  | bl k => exact ⟨k, rx.bl_of, lk k w1 hw1 f1 h1⟩
  | _ => exact h1.elim
theorem db_cmp {op : CmpOp} {r : R2} {dr : D2} (ho : OpR X (compareOp op) r) (hr : Op2 X.K r dr) (ha : DE X a da) (hb : DE X b db) (hm : behindInMarks op b = false) : DB X (.Compare a [op] [b] pos) (dTest (dOp dr da db)) := by
  obtain ⟨ta, pa, fa⟩ := ha
  obtain ⟨tb, pb, fb⟩ := hb
  exact ⟨_, pt_cmpR ho pa pb hm, sem_test (sem_op hr fa fb)⟩
theorem db_val (ha : DE X e da) (he : ∀ whole, isTrue e X.env whole = (do let v ← whole; standAt e.pos; holding [v] (truthy v)) := by intro _; rfl) : DB X e (dTest da) := by
  obtain ⟨ta, pa, fa⟩ := ha
  exact ⟨_, pt_val pa he, sem_test fa⟩
def dAnd (x y : DTt) : DTt := fun ρ O Q => x ρ O fun k O1 => if k = true then y ρ O1 Q else Q false O1
def dOr (x y : DTt) : DTt := fun ρ O Q => x ρ O fun k O1 => if k = true then Q true O1 else y ρ O1 Q
def dNot (x : DTt) : DTt := fun ρ O Q => x ρ O fun k O1 => Q (!k) O1
theorem dw_and1 (ha : DB X a dA) : DW X (.BoolOp .And [a] pos) dA := let ⟨t, p, f⟩ := ha; ⟨t, pw_and1 p, f⟩
theorem dw_or1 (ha : DB X a dA) : DW X (.BoolOp .Or [a] pos) dA := let ⟨t, p, f⟩ := ha; ⟨t, pw_or1 p, f⟩
theorem sem_and {t u : TT} (fa : SemB X.K t dA) (fb : SemB X.K u dB) : SemB X.K (tAnd t u) (dAnd dA dB) := by
  intro ρ σ w Q' Q hw he lk h
  refine fa ρ σ w _ _ hw he (fun k w1 hw1 f1 h1 => ?_) h
  cases k with
  | true => exact fb ρ σ w1 Q' Q hw1 (he.mono f1.gsub) (lk.after f1) h1
  | false => exact lk false w1 hw1 f1 h1
theorem sem_or {t u : TT} (fa : SemB X.K t dA) (fb : SemB X.K u dB) : SemB X.K (tOr t u) (dOr dA dB) := by
  intro ρ σ w Q' Q hw he lk h
  refine fa ρ σ w _ _ hw he (fun k w1 hw1 f1 h1 => ?_) h
  cases k with
  | false => exact fb ρ σ w1 Q' Q hw1 (he.mono f1.gsub) (lk.after f1) h1
  | true => exact lk true w1 hw1 f1 h1
variable {rest : List Expr}
theorem dw_and (ha : DB X a dA) (hb : DW X (.BoolOp .And (b :: rest) pos) dB) : DW X (.BoolOp .And (a :: b :: rest) pos) (dAnd dA dB) :=
  let ⟨_, p, f⟩ := ha; let ⟨_, q, g⟩ := hb; ⟨_, pw_and p q, sem_and f g⟩
theorem dw_or (ha : DB X a dA) (hb : DW X (.BoolOp .Or (b :: rest) pos) dB) : DW X (.BoolOp .Or (a :: b :: rest) pos) (dOr dA dB) :=
  let ⟨_, p, f⟩ := ha; let ⟨_, q, g⟩ := hb; ⟨_, pw_or p q, sem_or f g⟩
theorem db_w (h : DW X e dA) : DB X e dA := let ⟨t, p, f⟩ := h; ⟨t, p.pt, f⟩
theorem db_not (ha : DB X a dA) : DB X (.UnaryOp .Not a pos) (dNot dA) := by
  obtain ⟨t, p, f⟩ := ha
  refine ⟨_, pt_not p, fun ρ σ w Q' Q hw he lk h => ?_⟩
  exact f ρ σ w _ _ hw he (fun k w1 hw1 f1 h1 => lk (!k) w1 hw1 f1 h1) h
/-- and, or, not as values (all but the last True or False) -/
def dAndV (x y : DT) : DT := fun ρ O Q => x ρ O (asB fun k O1 => if k = true then y ρ O1 Q else Q (.bl false) O1)
def dOrV (x y : DT) : DT := fun ρ O Q => x ρ O (asB fun k O1 => if k = true then Q (.bl true) O1 else y ρ O1 Q)
def dNotV (x : DT) : DT := fun ρ O Q => x ρ O (asB fun k O1 => Q (.bl (!k)) O1)
theorem de_one {op} (h : DE X a da) : DE X (.BoolOp op [a] pos) da := let ⟨t, p, f⟩ := h; ⟨t, pe_one p, f⟩
theorem de_and (ha : DE X a da) (hb : DE X (.BoolOp .And (b :: rest) pos) db) : DE X (.BoolOp .And (a :: b :: rest) pos) (dAndV da db) := by
  obtain ⟨ta, p, f⟩ := ha
  obtain ⟨tb, q, g⟩ := hb
  refine ⟨_, pe_and p q, fun ρ σ w Q' Q hw he lk h => ?_⟩
  refine f ρ σ w _ _ hw he (fun x vx w1 hw1 f1 rx h1 => ?_) h
  cases x with
  | bl k =>
    refine ⟨k, rx.bl_of, ?_⟩
    cases k with
    | true => exact g ρ σ w1 Q' Q hw1 (he.mono f1.gsub) (lk.after f1) h1
    | false => exact lk _ _ w1 hw1 f1 (.bl false) h1
  | _ => exact h1.elim
theorem de_or (ha : DE X a da) (hb : DE X (.BoolOp .Or (b :: rest) pos) db) : DE X (.BoolOp .Or (a :: b :: rest) pos) (dOrV da db) := by
  obtain ⟨ta, p, f⟩ := ha
  obtain ⟨tb, q, g⟩ := hb
  refine ⟨_, pe_or p q, fun ρ σ w Q' Q hw he lk h => ?_⟩
  refine f ρ σ w _ _ hw he (fun x vx w1 hw1 f1 rx h1 => ?_) h
  cases x with
  | bl k =>
    refine ⟨k, rx.bl_of, ?_⟩
    cases k with
    | false => exact g ρ σ w1 Q' Q hw1 (he.mono f1.gsub) (lk.after f1) h1
    | true => exact lk _ _ w1 hw1 f1 (.bl true) h1
  | _ => exact h1.elim
theorem de_not (ha : DE X a da) : DE X (.UnaryOp .Not a pos) (dNotV da) := by
  obtain ⟨ta, p, f⟩ := ha
  refine ⟨_, pe_not p, fun ρ σ w Q' Q hw he lk h => ?_⟩
  refine f ρ σ w _ _ hw he (fun x vx w1 hw1 f1 rx h1 => ?_) h
  cases x with
  | bl k => exact ⟨k, rx.bl_of, lk _ _ w1 hw1 f1 (.bl _) h1⟩
  | _ => exact h1.elim
def dIf (t : DTt) (x y : DT) : DT := fun ρ O Q => t ρ O fun k O1 => if k = true then x ρ O1 Q else y ρ O1 Q
theorem de_if (hc : DB X c dA) (ha : DE X a da) (hb : DE X b db) : DE X (.IfExp c a b pos) (dIf dA da db) := by
  obtain ⟨tc, r, k⟩ := hc
  obtain ⟨ta, p, f⟩ := ha
  obtain ⟨tb, q, g⟩ := hb
  refine ⟨_, pe_ifExp r p q, fun ρ σ w Q' Q hw he lk h => ?_⟩
  refine k ρ σ w _ _ hw he (fun z w1 hw1 f1 h1 => ?_) h
  cases z with
  | true => exact f ρ σ w1 Q' Q hw1 (he.mono f1.gsub) (lk.after f1) h1
  | false => exact g ρ σ w1 Q' Q hw1 (he.mono f1.gsub) (lk.after f1) h1

/-! argument lists, displays, calls -/
def dNil : DTa := fun _ O Q => Q [] O
def dCons (da : DT) (dr : DTa) : DTa := fun ρ O Q => da ρ O fun x O1 => dr ρ O1 fun xs O2 => Q (x :: xs) O2
theorem da_nil : DA X [] dNil := ⟨_, pa_nil, fun ρ σ w Q' Q hw he lk h => lk [] [] w hw (Fr.refl w) .nil h⟩
theorem da_cons (ha : DE X e da) (hr : DA X es dl) (hs : starEach (e :: es) X.env = (false, eval e X.env) :: starEach es X.env := by rfl) : DA X (e :: es) (dCons da dl) := by
  obtain ⟨ta, p, f⟩ := ha
  obtain ⟨tb, q, g⟩ := hr
  refine ⟨_, pa_cons p q hs, fun ρ σ w Q' Q hw he lk h => ?_⟩
  refine f ρ σ w _ _ hw he (fun x vx w1 hw1 f1 rx h1 => ?_) h
  refine g ρ σ w1 _ _ hw1 (he.mono f1.gsub) (fun xs vs w2 hw2 f2 rs h2 => ?_) h1
  exact lk _ _ w2 hw2 (f1.trans f2) (.cons (rx.mono f2.gsub) rs) h2
def dTup (dl : DTa) : DT := fun ρ O Q => dl ρ O fun xs O1 => xs.length ≤ 1000 ∧ Q (.tup xs) O1
theorem line1000 : (1000 : Nat) ≤ sizeLine := by decide
theorem de_tup {x1} (h : DA X es dl) : DE X (.Tuple es x1 pos) (dTup dl) := by
  obtain ⟨t, p, f⟩ := h
  refine ⟨_, pe_tup p, fun ρ σ w Q' Q hw he lk h => ?_⟩
  refine f ρ σ w _ _ hw he (fun xs vs w1 hw1 f1 rs ⟨hl, h1⟩ => ⟨?_, fun q hq => ?_⟩) h
  · rw [← rs.length]; exact Nat.le_trans hl line1000
  · exact tup_still hw1 hq rs (lk.after f1) h1
def dLst (mk : List D → Ow → DQ → Prop) (dl : DTa) : DT := fun ρ O Q => dl ρ O fun xs O1 => xs.length ≤ 1000 ∧ mk xs O1 Q
theorem de_lst {mk : List D → Ow → DQ → Prop} (hm : MkOk mk) (h : DA X es dl) : DE X (.List es pos) (dLst mk dl) := by
  obtain ⟨t, p, f⟩ := h
  refine ⟨_, pe_lst p, fun ρ σ w Q' Q hw he lk h => ?_⟩
  refine f ρ σ w _ _ hw he (fun xs vs w1 hw1 f1 rs ⟨hl, h1⟩ => ⟨?_, fun q hq => ?_⟩) h
  · rw [← rs.length]; exact Nat.le_trans hl line1000
  · exact hm X.K w1 xs vs _ Q q hw1 hq rs (lk.after f1) h1

/-- a def's promise, over data -/
def Prom (K : PySem.W.Frag) (s : DL) : Sp := fun vs H Q _ => ∃ ds w Q', w.H = H ∧ Own K w ∧ Reps K w.G ds vs ∧ Lk K w Q' Q ∧ s ds w.O Q'
def dCall (s : DL) (dl : DTa) : DT := fun ρ O Q => dl ρ O fun ds O1 => s ds O1 Q
theorem sem_call {s : DL} {t : TA} (f : SemA X.K t dl) : Sem1 X.K (tCall (Prom X.K s) [] E0 t) (dCall s dl) := by
  intro ρ σ w Q' Q hw he lk h
  refine f ρ σ w _ _ hw he (fun xs vs w1 hw1 f1 rs h1 => ?_) h
  rw [List.append_nil]
  exact ⟨xs, w1, Q', rfl, hw1, rs, lk.after f1, h1⟩
variable {k : Nat} {f : Addr} {fd : FuncData} {ps : List Str} {s : DL} {x : Str} {p : Pos}
variable {b : Bool}
theorem sem_callS {s : DL} {t : TA} (f : SemA X.K t dl) : Sem1 X.K (tCallS (Prom X.K s) (fun _ => E0) t) (dCall s dl) := by
  intro ρ σ w Q' Q hw he lk h
  exact f ρ σ w _ _ hw he (fun xs vs w1 hw1 f1 rs h1 => ⟨xs, w1, Q', rfl, hw1, rs, lk.after f1, h1⟩) h
theorem pass0S {σ : L2.St} : PassesAt CX0 X σ E0 := fun _ _ _ _ _ _ c => c.elim
theorem de_call (F : FnB X.prog X.w X.K X.mg X.base b k f fd ps (Prom X.K s)) (hr : Rm k X) (hg : Gl X x) (hm : X.mg x = some (.ref f)) (hk : PySem.W.keepIn X.K (.ref f) = true) (hb : Binds X.K fd ps [])
    (ha : DA X (e :: es) dl) (hdb : (x == ("__debug__" : Str)) = false := by decide) (he : starEach (e :: es) X.env = (false, eval e X.env) :: starEach es X.env := by rfl) (hpl : (backTo pos (starEach es X.env)).any (·.1) = false := by rfl) (hb2 : X.calm = true ∨ b = true := by first | exact .inr rfl | exact .inl rfl) :
    DE X (.Call (.Name x p) (e :: es) [] pos) (dCall s dl) := by
  obtain ⟨t, pa, fa⟩ := ha
  cases c : X.calm with
  | true => exact ⟨_, pe_call F.ok (hr.room c) hg hm hk hb .nil pass0 pa hdb he hpl, sem_call fa⟩
  | false =>
    obtain ⟨r, hc⟩ := hr.hot c
    exact ⟨_, L2H.pe_callH (F.hot (hb2.resolve_left (by rw [c]; exact Bool.false_ne_true))) r hc hg hm hk hb (fun _ => pass0S) pa hdb he hpl, sem_callS fa⟩
def dBu (dr : DL) (dl : DTa) : DT := fun ρ O Q => dl ρ O fun ds O1 => dr ds O1 Q
theorem sem_bu {r : List V → Hp → VK → Prop} {dr : DL} {t : TA} (hr : OpL X.K r dr) (f : SemA X.K t dl) : Sem1 X.K (tCB r t) (dBu dr dl) := by
  intro ρ σ w Q' Q hw he lk h
  refine f ρ σ w _ _ hw he (fun xs vs w1 hw1 f1 rs h1 => ?_) h
  exact hr w1 xs vs _ Q hw1 rs (lk.after f1) h1
theorem de_callB {id : String} {r : List V → Hp → VK → Prop} {dr : DL} (hc : CallR X (.builtin id) r) (hr : OpL X.K r dr) (hg : Gl X x) (hm : X.mg x = none) (hv : bootBuiltins x = some (.builtin id)) (ha : DA X (e :: es) dl) (hn : x ≠ "__name__" := by decide) (hdb : (x == ("__debug__" : Str)) = false := by decide)
    (he : starEach (e :: es) X.env = (false, eval e X.env) :: starEach es X.env := by rfl) (hpl : (backTo pos (starEach es X.env)).any (·.1) = false := by rfl) : DE X (.Call (.Name x p) (e :: es) [] pos) (dBu dr dl) := by
  obtain ⟨t, pa, fa⟩ := ha
  exact ⟨_, pe_callB hc hg hm hv pa hn hdb he hpl, sem_bu hr fa⟩
theorem de_callTy {T : String} {r : List V → Hp → VK → Prop} {dr : DL} (hc : CallR X (.type T) r) (hr : OpL X.K r dr) (hg : Gl X x) (hm : X.mg x = none) (hv : bootBuiltins x = some (.type T)) (ha : DA X (e :: es) dl) (hn : x ≠ "__name__" := by decide) (hdb : (x == ("__debug__" : Str)) = false := by decide)
    (he : starEach (e :: es) X.env = (false, eval e X.env) :: starEach es X.env := by rfl) (hpl : (backTo pos (starEach es X.env)).any (·.1) = false := by rfl) : DE X (.Call (.Name x p) (e :: es) [] pos) (dBu dr dl) := by
  obtain ⟨t, pa, fa⟩ := ha
  exact ⟨_, pe_callTy hc hg hm hv pa hn hdb he hpl, sem_bu hr fa⟩
end
end SB

namespace SB
open PySem PySem.Spec PyProof.Rows L2

/-! ### operators -/
section
variable {K : PySem.W.Frag} {X : Cx}
/-- two ints -/
def dII (C : Int → Int → Prop) (g : Int → Int → D) : D2 := fun x y O Q => match x, y with
  | .int i, .int j => C i j ∧ Q (g i j) O
  | _, _ => False
theorem op2_II {C : Int → Int → Prop} {g : Int → Int → V} {g' : Int → Int → D} (hg : ∀ G i j, Rep K G (g' i j) (g i j)) : Op2 K (rI C g) (dII C g') := by
  intro w x y vx vy Q' Q hw rx ry lk h
  cases x with
  | int i =>
    cases y with
    | int j => exact ⟨i, j, rx.int_of, ry.int_of, h.1, lk _ _ w hw (Fr.refl w) (hg _ i j) h.2⟩
    | _ => exact h.elim
  | _ => exact h.elim
def dI0 (g : Int → Int → D) : D2 := fun x y O Q => match x, y with
  | .int i, .int j => Q (g i j) O
  | _, _ => False
theorem op2_I0 {g : Int → Int → V} {g' : Int → Int → D} (hg : ∀ G i j, Rep K G (g' i j) (g i j)) : Op2 K (rI0 g) (dI0 g') := by
  intro w x y vx vy Q' Q hw rx ry lk h
  cases x with
  | int i =>
    cases y with
    | int j => exact ⟨i, j, rx.int_of, ry.int_of, lk _ _ w hw (Fr.refl w) (hg _ i j) h⟩
    | _ => exact h.elim
  | _ => exact h.elim
abbrev dSub : D2 := dI0 fun i j => .int (i - j)
theorem o_sub : Op2 K (rI0 fun i j => .int (i - j)) dSub := op2_I0 fun _ _ _ => .int _
/-- the product of two ints of together less than a hundred million bits -/
def Mok (i j : Int) : Prop := i.natAbs.log2 + j.natAbs.log2 < 100000000
theorem Mok.ok {i j : Int} (h : Mok i j) : IntMulOk i j := by
  have b : ∀ x : Int, Builtin.Int.intBits x ≤ x.natAbs.log2 + 1 := fun x => by
    unfold Builtin.Int.intBits; split <;> omega
  have h1 := b i
  have h2 := b j
  have h3 : i.natAbs.log2 + j.natAbs.log2 < 100000000 := h
  have e : bitsLine = 134217728 := by decide
  intro z
  rw [Bool.and_eq_true] at z
  have z2 := z.2
  unfold Builtin.Int.intTooBig at z2
  have z3 := of_decide_eq_true z2
  rw [e] at z3; omega
theorem op_mulX : OpR X (binaryOp .Mult) (rI Mok fun i j => .int (i * j)) := opI fun _ _ _ _ _ _ _ hc q => mul_int q hc.ok
abbrev dMul : D2 := dII Mok fun i j => .int (i * j)
theorem o_mul : Op2 K (rI Mok fun i j => .int (i * j)) dMul := op2_II fun _ _ _ => .int _
/-- a division that needs no more than the C code -/
def Dok (i j : Int) : Prop := j ≠ 0 ∧ Builtin.divisionGoesByPylong i j = false
theorem op_fdivX : OpR X (binaryOp .FloorDiv) (rI Dok fun i j => .int (i.fdiv j)) := opI fun i j _ _ _ _ _ hc q => floordiv_int hc.1 q (.inl hc.2)
abbrev dFdiv : D2 := dII Dok fun i j => .int (i.fdiv j)
theorem o_fdiv : Op2 K (rI Dok fun i j => .int (i.fdiv j)) dFdiv := op2_II fun _ _ _ => .int _
abbrev dMod : D2 := dII (fun _ j => j ≠ 0) fun i j => .int (i.fmod j)
theorem o_mod : Op2 K (rI (fun _ j => j ≠ 0) fun i j => .int (i.fmod j)) dMod := op2_II fun _ _ _ => .int _
abbrev dPow : D2 := dII CPow fun i j => .int (i ^ j.toNat)
theorem o_pow : Op2 K (rI CPow fun i j => .int (i ^ j.toNat)) dPow := op2_II fun _ _ _ => .int _
abbrev dLt : D2 := dI0 fun i j => .bl (decide (i < j))
abbrev dLe : D2 := dI0 fun i j => .bl (decide (i ≤ j))
abbrev dGt : D2 := dI0 fun i j => .bl (decide (j < i))
abbrev dGe : D2 := dI0 fun i j => .bl (decide (j ≤ i))
theorem o_lt : Op2 K (rI0 fun i j => .bl (decide (i < j))) dLt := op2_I0 fun _ _ _ => .bl _
theorem o_le : Op2 K (rI0 fun i j => .bl (decide (i ≤ j))) dLe := op2_I0 fun _ _ _ => .bl _
theorem o_gt : Op2 K (rI0 fun i j => .bl (decide (j < i))) dGt := op2_I0 fun _ _ _ => .bl _
theorem o_ge : Op2 K (rI0 fun i j => .bl (decide (j ≤ i))) dGe := op2_I0 fun _ _ _ => .bl _
def dNeg : D1 := fun x O Q => match x with
  | .int i => Q (.int (-i)) O
  | _ => False
theorem o_neg : Op1 K (rU fun i => .int (-i)) dNeg := by
  intro w x vx Q' Q hw rx lk h
  cases x with
  | int i => exact ⟨i, rx.int_of, lk _ _ w hw (Fr.refl w) (.int _) h⟩
  | _ => exact h.elim

/-! + -/
def rCatL (K : PySem.W.Frag) : R2 := fun x y H Q => ∃ l b xs zs, x = .ref l ∧ y = .ref b ∧ SqL K H l xs ∧ SqL K H b zs ∧ xs.length + zs.length ≤ sizeLine ∧ ∀ p, H p = none → Q (.ref p) (upd H p (.lst (xs ++ zs)))
theorem op_catL : OpR X (binaryOp .Add) (rCatL X.K) := by
  intro pins s σ H x y v u Q I rx ry h
  obtain ⟨l, b, xs, zs, rfl, rfl, hH, hB, hz, q⟩ := h
  cases rx
  cases ry
  obtain ⟨its, r, p1, _⟩ := I.list hH
  obtain ⟨its2, r2, p2, _⟩ := I.list hB
  obtain ⟨⟨cls, dd, data, sl⟩, ho, hc, n, hd⟩ := p1.isList
  obtain ⟨⟨cls2, dd2, data2, sl2⟩, ho2, hc2, n2, hd2⟩ := p2.isList
  simp only at hc hd hc2 hd2
  subst hc hd hc2 hd2
  have e : its.toArray ++ its2.toArray = (its ++ its2).toArray := by simp
  refine concat_meets ⟨_, ho, rfl⟩ ⟨_, ho2, rfl⟩ noFill_list_add seq_list_add PySem.F.slot_list_add PySem.F.entry_list_add (PySem.F.args_list_add_2 _ _) (list_addW l b its.toArray its2.toArray n n2 dd dd2 sl sl2 (by rw [List.size_toArray, List.size_toArray, ← r.length, ← r2.length]; exact hz)) ⟨ho, ho2, ?_⟩
  rw [e]
  exact ⟨.ref _, _, I.lnew (t' := s.toks) (r.append r2) (by rw [List.length_append]; omega), rfl, q _ I.fresh⟩
def rAddA (K : PySem.W.Frag) : R2 := fun x y H Q => ((rI0 (fun i j => .int (i + j)) x y H Q ∨ (∃ i j, x = .str i ∧ y = .str j ∧ i.length + j.length ≤ sizeLine ∧ Q (.str (i ++ j)) H)) ∨ rCatL K x y H Q) ∨ rCatA K x y H Q
theorem op_addA : OpR X (binaryOp .Add) (rAddA X.K) := ((op_add.or op_add_str).or op_catL).or op_catA
def dAdd (mk : List D → Ow → DQ → Prop) : D2 := fun x y O Q => match x, y with
  | .int i, .int j => Q (.int (i + j)) O
  | .str a, .str b => a.length + b.length ≤ sizeLine ∧ Q (.str (a ++ b)) O
  | .tup l, .tup m => l.length + m.length ≤ 100000 ∧ Q (.tup (l ++ m)) O
  | x, y => ∃ l, lv O x = some l ∧ ∃ m, lv O y = some m ∧ l.length + m.length ≤ 100000 ∧ mk (l ++ m) O Q
theorem line100000 : (100000 : Nat) ≤ sizeLine := by decide
theorem o_addl {mk : List D → Ow → DQ → Prop} (hm : MkOk mk) {w : Wd} {x y : D} {vx vy : V} {Q' : DQ} {Q : VK} (hw : Own K w) (rx : Rep K w.G x vx) (ry : Rep K w.G y vy) (lk : Lk K w Q' Q)
    (h : ∃ l, lv w.O x = some l ∧ ∃ m, lv w.O y = some m ∧ l.length + m.length ≤ 100000 ∧ mk (l ++ m) w.O Q') : rCatL K vx vy w.H Q := by
  obtain ⟨l, e1, m, e2, hl, q⟩ := h
  obtain ⟨a, vs, z1, q1, r1⟩ := lv_rep hw rx e1
  obtain ⟨b, us, z2, q2, r2⟩ := lv_rep hw ry e2
  refine ⟨a, b, vs, us, z1, z2, q1, q2, ?_, fun p hp => ?_⟩
  · rw [← r1.length, ← r2.length]; exact Nat.le_trans hl line100000
  · exact hm K w _ _ Q' Q p hw hp (r1.append r2) lk q
theorem o_add {mk : List D → Ow → DQ → Prop} (hm : MkOk mk) : Op2 K (rAddA K) (dAdd mk) := by
  intro w x y vx vy Q' Q hw rx ry lk h
  unfold dAdd at h
  split at h
  · exact .inl (.inl (.inl ⟨_, _, rx.int_of, ry.int_of, lk _ _ w hw (Fr.refl w) (.int _) h⟩))
  · exact .inl (.inl (.inr ⟨_, _, rx.str_of, ry.str_of, h.1, lk _ _ w hw (Fr.refl w) (.str _) h.2⟩))
  · rename_i l m
    obtain ⟨a, vs, z1, q1, r1⟩ := rx.tup_of
    obtain ⟨b, us, z2, q2, r2⟩ := ry.tup_of
    refine .inr ⟨a, b, vs, us, z1, z2, Same.seqT hw.sub q1, Same.seqT hw.sub q2, ?_, fun e => ?_, fun _ e => ?_, fun _ _ p hp => tup_still hw hp (r1.append r2) lk h.2⟩
    · rw [← r1.length, ← r2.length]; exact Nat.le_trans h.1 line100000
    · have e' : l = [] := List.eq_nil_of_length_eq_zero (by rw [r1.length, e]; rfl)
      subst e'
      exact lk _ _ w hw (Fr.refl w) (Rep.tup q2 r2) h.2
    · have e' : m = [] := List.eq_nil_of_length_eq_zero (by rw [r2.length, e]; rfl)
      subst e'
      rw [List.append_nil] at h
      exact lk _ _ w hw (Fr.refl w) (Rep.tup q1 r1) h.2
  · exact .inl (.inr (o_addl hm hw rx ry lk h))

/-! == -/
mutual
def eqv : D → D → Bool
  | .non, .non => true
  | .bl a, .bl b => a == b
  | .bl a, .int j => (if a then 1 else 0) == j
  | .int i, .bl b => i == (if b then 1 else 0)
  | .int i, .int j => i == j
  | .str x, .str y => x == y
  | .lst xs, .lst ys => eqvs xs ys
  | .tup xs, .tup ys => eqvs xs ys
  | _, _ => false
def eqvs : List D → List D → Bool
  | [], [] => true
  | x :: xs, y :: ys => eqv x y && eqvs xs ys
  | _, _ => false
end
mutual
/-- data that == reads: no owned thing within, not too deep -/
def okE : Nat → D → Bool
  | _, .non => true
  | _, .bl _ => true
  | _, .int _ => true
  | _, .str x => x.cps.all (· < 0x110000)
  | 0, _ => false
  | n + 1, .lst l => okEs n l
  | n + 1, .tup l => okEs n l
  | _ + 1, _ => false
def okEs : Nat → List D → Bool
  | _, [] => true
  | n, x :: l => okE n x && okEs n l
end
mutual
def toP : D → PyData
  | .non => .none
  | .bl b => .bool b
  | .int i => .int i
  | .str s => .str s
  | .tup l => .tuple (toPs l)
  | .lst l => .list (toPs l)
  | _ => .none
def toPs : List D → List PyData
  | [] => []
  | x :: l => toP x :: toPs l
end
mutual
theorem okE_lay : ∀ (n : Nat) (d : D), okE n d = true → (toP d).canLay0 = true ∧ (toP d).depth ≤ n
  | n, .non, _ => by simp [toP, PyData.canLay0, PyData.depth]
  | n, .bl _, _ => by simp [toP, PyData.canLay0, PyData.depth]
  | n, .int _, _ => by simp [toP, PyData.canLay0, PyData.depth]
  | n, .str x, h => by
    simp only [okE] at h
    simp only [toP, PyData.canLay0, PyData.depth]
    exact ⟨h, Nat.zero_le _⟩
  | 0, .lst _, h => by simp [okE] at h
  | 0, .tup _, h => by simp [okE] at h
  | n + 1, .lst l, h => by
    simp only [okE] at h
    have := okEs_lay n l h
    simp only [toP, PyData.canLay0, PyData.depth]
    exact ⟨this.1, by omega⟩
  | n + 1, .tup l, h => by
    simp only [okE] at h
    have := okEs_lay n l h
    simp only [toP, PyData.canLay0, PyData.depth]
    exact ⟨this.1, by omega⟩
  | 0, .ref _, h => by simp [okE] at h
  | n + 1, .ref _, h => by simp [okE] at h
  | 0, .ty _, h => by simp [okE] at h
  | n + 1, .ty _, h => by simp [okE] at h
theorem okEs_lay : ∀ (n : Nat) (l : List D), okEs n l = true → PyData.canLayAll0 (toPs l) = true ∧ PyData.depthAll (toPs l) ≤ n
  | n, [], _ => by simp [toPs, PyData.canLayAll0, PyData.depthAll]
  | n, x :: l, h => by
    simp only [okEs, Bool.and_eq_true] at h
    have h1 := okE_lay n x h.1
    have h2 := okEs_lay n l h.2
    simp only [toPs, PyData.canLayAll0, PyData.depthAll, Bool.and_eq_true]
    exact ⟨⟨h1.1, h2.1⟩, by omega⟩
end
theorem okE_shaped {d : D} (h : okE 60 d = true) : SeqAt.shaped (toP d) = true := by
  obtain ⟨h1, h2⟩ := okE_lay 60 d h
  unfold SeqAt.shaped
  rw [h1, decide_eq_true (by omega)]
  rfl
mutual
theorem dp_of {G H : Hp} (sub : Same G H) : ∀ (n : Nat) (d : D) (v : V), okE n d = true → Rep K G d v → Dp K H v (toP d)
  | n, .non, v, _, r => by rw [r.non_of]; simp only [toP]; exact .non
  | n, .bl b, v, _, r => by rw [r.bl_of]; simp only [toP]; exact .bl b
  | n, .int b, v, _, r => by rw [r.int_of]; simp only [toP]; exact .int b
  | n, .str b, v, _, r => by rw [r.str_of]; simp only [toP]; exact .str b
  | 0, .lst _, v, h, r => by simp [okE] at h
  | 0, .tup _, v, h, r => by simp [okE] at h
  | n + 1, .lst l, v, h, r => by
    obtain ⟨a, vs, e, q, rs⟩ := r.lst_of
    subst e
    simp only [okE] at h
    simp only [toP]
    exact .lst (sub.seq q) (dps_of sub n l vs h rs)
  | n + 1, .tup l, v, h, r => by
    obtain ⟨a, vs, e, q, rs⟩ := r.tup_of
    subst e
    simp only [okE] at h
    simp only [toP]
    exact .tup (Same.seqT sub q) (dps_of sub n l vs h rs)
  | 0, .ref _, v, h, r => by simp [okE] at h
  | n + 1, .ref _, v, h, r => by simp [okE] at h
  | 0, .ty _, v, h, r => by simp [okE] at h
  | n + 1, .ty _, v, h, r => by simp [okE] at h
theorem dps_of {G H : Hp} (sub : Same G H) : ∀ (n : Nat) (l : List D) (vs : List V), okEs n l = true → Reps K G l vs → DpAll K H vs (toPs l)
  | n, [], vs, _, r => by simp only [Reps] at r; subst r; simp only [toPs]; exact .nil
  | n, x :: l, vs, h, r => by
    simp only [okEs, Bool.and_eq_true] at h
    simp only [Reps] at r
    obtain ⟨v, us, e, r1, r2⟩ := r
    subst e
    simp only [toPs]
    exact .cons (dp_of sub n x v h.1 r1) (dps_of sub n l us h.2 r2)
end
mutual
theorem eqv_P : ∀ (n : Nat) (x y : D), okE n x = true → okE n y = true → PyData.eqv (toP x) (toP y) = eqv x y
  | n, .lst l, y, hx, hy => by
    cases n with
    | zero => simp [okE] at hx
    | succ n =>
      cases y with
      | lst m => simp only [okE] at hx hy; simp only [toP, PyData.eqv, eqv]; exact eqvs_P n l m hx hy
      | ref _ => simp [okE] at hy
      | ty _ => simp [okE] at hy
      | _ => simp [toP, PyData.eqv, eqv]
  | n, .tup l, y, hx, hy => by
    cases n with
    | zero => simp [okE] at hx
    | succ n =>
      cases y with
      | tup m => simp only [okE] at hx hy; simp only [toP, PyData.eqv, eqv]; exact eqvs_P n l m hx hy
      | ref _ => simp [okE] at hy
      | ty _ => simp [okE] at hy
      | _ => simp [toP, PyData.eqv, eqv]
  | n, .ref _, y, hx, hy => by cases n <;> simp [okE] at hx
  | n, .ty _, y, hx, hy => by cases n <;> simp [okE] at hx
  | n, .non, y, hx, hy => by cases y <;> first | (exfalso; cases n <;> simp [okE] at hy; done) | simp [toP, PyData.eqv, eqv]
  | n, .bl _, y, hx, hy => by cases y <;> first | (exfalso; cases n <;> simp [okE] at hy; done) | simp [toP, PyData.eqv, eqv]
  | n, .int _, y, hx, hy => by cases y <;> first | (exfalso; cases n <;> simp [okE] at hy; done) | simp [toP, PyData.eqv, eqv]
  | n, .str _, y, hx, hy => by cases y <;> first | (exfalso; cases n <;> simp [okE] at hy; done) | simp [toP, PyData.eqv, eqv]
theorem eqvs_P : ∀ (n : Nat) (x y : List D), okEs n x = true → okEs n y = true → PyData.eqvAll (toPs x) (toPs y) = eqvs x y
  | n, [], [], _, _ => by simp [toPs, PyData.eqvAll, eqvs]
  | n, [], y :: m, _, _ => by simp [toPs, PyData.eqvAll, eqvs]
  | n, x :: l, [], _, _ => by simp [toPs, PyData.eqvAll, eqvs]
  | n, x :: l, y :: m, hx, hy => by
    simp only [okEs, Bool.and_eq_true] at hx hy
    simp only [toPs, PyData.eqvAll, eqvs]
    rw [eqv_P n x y hx.1 hy.1, eqvs_P n l m hx.2 hy.2]
end
/-- by value -/
def vw (O : Ow) (d : D) : D := match d with
  | .ref p => match O p with
    | some (.lst l) => .lst l
    | _ => d
  | _ => d
theorem dp_vw {w : Wd} {d : D} {v : V} (hw : Own K w) (r : Rep K w.G d v) (h : okE 60 (vw w.O d) = true) : Dp K w.H v (toP (vw w.O d)) := by
  cases d with
  | ref p =>
    unfold vw at h ⊢
    simp only at h ⊢
    split at h
    · rename_i l hl
      obtain ⟨_, x, hx, vs, e2, rs⟩ := hw.own p _ hl
      subst e2
      rw [r.ref_of]
      simp only [okE] at h
      simp only [toP]
      exact .lst (SqL.of hx) (dps_of hw.sub 59 l vs h rs)
    · simp [okE] at h
  | _ => exact dp_of hw.sub 60 _ v h r
def dEq : D2 := fun x y O Q => okE 60 (vw O x) = true ∧ okE 60 (vw O y) = true ∧ Q (.bl (eqv (vw O x) (vw O y))) O
def dNe : D2 := fun x y O Q => okE 60 (vw O x) = true ∧ okE 60 (vw O y) = true ∧ Q (.bl (!eqv (vw O x) (vw O y))) O
theorem o_eq : Op2 K (rEqD K) dEq := by
  intro w x y vx vy Q' Q hw rx ry lk ⟨h1, h2, h⟩
  refine ⟨_, _, dp_vw hw rx h1, dp_vw hw ry h2, okE_shaped h1, okE_shaped h2, ?_⟩
  rw [eqv_P 60 _ _ h1 h2]
  exact lk _ _ w hw (Fr.refl w) (.bl _) h
theorem o_ne : Op2 K (rNeD K) dNe := by
  intro w x y vx vy Q' Q hw rx ry lk ⟨h1, h2, h⟩
  refine ⟨_, _, dp_vw hw rx h1, dp_vw hw ry h2, okE_shaped h1, okE_shaped h2, ?_⟩
  rw [eqv_P 60 _ _ h1 h2]
  exact lk _ _ w hw (Fr.refl w) (.bl _) h
/-! is None -/
def isNon : D → Bool
  | .non => true
  | _ => false
def dIsN : D2 := fun x y O Q => isNon y = true ∧ Q (.bl (isNon x)) O
def dNotN : D2 := fun x y O Q => isNon y = true ∧ Q (.bl (!isNon x)) O
theorem isNon_rep {G : Hp} {d : D} {v : V} (r : Rep K G d v) : decide (v = .non) = isNon d := by
  have := r.non_iff
  cases d <;> simp_all [isNon]
theorem o_isN : Op2 K (fun x y H Q => y = .non ∧ Q (.bl (decide (x = .non))) H) dIsN := by
  intro w x y vx vy Q' Q hw rx ry lk ⟨h1, h⟩
  have e : y = .non := by cases y <;> simp_all [isNon]
  subst e
  refine ⟨ry.non_of, ?_⟩
  rw [isNon_rep rx]
  exact lk _ _ w hw (Fr.refl w) (.bl _) h
theorem o_notN : Op2 K (fun x y H Q => y = .non ∧ Q (.bl (!decide (x = .non))) H) dNotN := by
  intro w x y vx vy Q' Q hw rx ry lk ⟨h1, h⟩
  have e : y = .non := by cases y <;> simp_all [isNon]
  subst e
  refine ⟨ry.non_of, ?_⟩
  rw [isNon_rep rx]
  exact lk _ _ w hw (Fr.refl w) (.bl _) h
/-! in, not in -/
def flatD : D → Bool
  | .non => true
  | .bl _ => true
  | .int _ => true
  | .str _ => true
  | _ => false
theorem flat_rep {G : Hp} {d : D} {v : V} (r : Rep K G d v) (h : flatD d = true) : flatV v = true := by
  cases d with
  | non => rw [r.non_of]; rfl
  | bl _ => rw [r.bl_of]; rfl
  | int _ => rw [r.int_of]; rfl
  | str _ => rw [r.str_of]; rfl
  | _ => simp [flatD] at h
theorem flats_rep {G : Hp} : ∀ {l : List D} {vs : List V}, Reps K G l vs → l.all flatD = true → vs.all flatV = true
  | [], _, r, _ => by simp only [Reps] at r; subst r; rfl
  | x :: l, _, r, h => by
    simp only [Reps] at r
    obtain ⟨v, us, e, r1, r2⟩ := r
    subst e
    simp only [List.all_cons, Bool.and_eq_true] at h ⊢
    exact ⟨flat_rep r1 h.1, flats_rep r2 h.2⟩
theorem eqV_rep {G : Hp} {x y : D} {u v : V} (rx : Rep K G x u) (ry : Rep K G y v) (hx : flatD x = true) (hy : flatD y = true) : eqV u v = eqv x y := by
  cases x with
  | non => rw [rx.non_of]; cases y with
    | non => rw [ry.non_of]; simp [eqV, eqv]
    | bl _ => rw [ry.bl_of]; simp [eqV, eqv]
    | int _ => rw [ry.int_of]; simp [eqV, eqv]
    | str _ => rw [ry.str_of]; simp [eqV, eqv]
    | _ => simp [flatD] at hy
  | bl _ => rw [rx.bl_of]; cases y with
    | non => rw [ry.non_of]; simp [eqV, eqv]
    | bl _ => rw [ry.bl_of]; simp [eqV, eqv]
    | int _ => rw [ry.int_of]; simp [eqV, eqv]
    | str _ => rw [ry.str_of]; simp [eqV, eqv]
    | _ => simp [flatD] at hy
  | int _ => rw [rx.int_of]; cases y with
    | non => rw [ry.non_of]; simp [eqV, eqv]
    | bl _ => rw [ry.bl_of]; simp [eqV, eqv]
    | int _ => rw [ry.int_of]; simp [eqV, eqv]
    | str _ => rw [ry.str_of]; simp [eqV, eqv]
    | _ => simp [flatD] at hy
  | str _ => rw [rx.str_of]; cases y with
    | non => rw [ry.non_of]; simp [eqV, eqv]
    | bl _ => rw [ry.bl_of]; simp [eqV, eqv]
    | int _ => rw [ry.int_of]; simp [eqV, eqv]
    | str _ => rw [ry.str_of]; simp [eqV, eqv]
    | _ => simp [flatD] at hy
  | _ => simp [flatD] at hx
def inD (x : D) (l : List D) : Bool := l.any fun y => eqv y x
theorem inV_rep {G : Hp} {x : D} {u : V} (rx : Rep K G x u) (hx : flatD x = true) : ∀ {l : List D} {vs : List V}, Reps K G l vs → l.all flatD = true → inV u vs = inD x l
  | [], _, r, _ => by simp only [Reps] at r; subst r; rfl
  | y :: l, _, r, h => by
    simp only [Reps] at r
    obtain ⟨v, us, e, r1, r2⟩ := r
    subst e
    simp only [List.all_cons, Bool.and_eq_true] at h
    have ih := inV_rep rx hx r2 h.2
    unfold inV inD at ih ⊢
    rw [List.any_cons, List.any_cons, ih, eqV_rep r1 rx h.1 hx]
def dInN (neg : Bool) : D2 := fun x y O Q => ∃ l, qv O y = some l ∧ flatD x = true ∧ l.all flatD = true ∧ Q (.bl (if neg then !inD x l else inD x l)) O
theorem o_in {neg : Bool} : Op2 K (rIn K neg) (dInN neg) := by
  intro w x y vx vy Q' Q hw rx ry lk ⟨l, e, h1, h2, h⟩
  obtain ⟨a, vs, z, q, rs⟩ := qv_rep hw ry e
  refine ⟨a, vs, z, q, flat_rep rx h1, flats_rep rs h2, ?_⟩
  rw [inV_rep rx h1 rs h2]
  exact lk _ _ w hw (Fr.refl w) (.bl _) h
/-! x[i] -/
def dIx : D2 := fun x y O Q => match y with
  | .int i => match x with
    | .str z => z.length ≤ sizeLine ∧ ∃ c, atI z.cps.toList i = some c ∧ Q (.str ⟨#[c]⟩) O
    | x => ∃ l, qv O x = some l ∧ ∃ d, atI l i = some d ∧ Q d O
  | _ => False
theorem atI_rep {G : Hp} {l : List D} {vs : List V} {i : Int} {d : D} (r : Reps K G l vs) (h : atI l i = some d) : ∃ v, atI vs i = some v ∧ Rep K G d v := by
  unfold atI at h ⊢
  rw [← r.length]
  cases e : ixN l.length i with
  | none => rw [e] at h; cases h
  | some j =>
    rw [e] at h
    exact r.get h
theorem o_ix : Op2 K (rIx K) dIx := by
  intro w x y vx vy Q' Q hw rx ry lk h
  cases y with
  | int i =>
    have key : (∃ l, qv w.O x = some l ∧ ∃ d, atI l i = some d ∧ Q' d w.O) → rIx K vx vy w.H Q := by
      intro ⟨l, e1, d, e2, q⟩
      obtain ⟨a, vs, z, q1, rs⟩ := qv_rep hw rx e1
      obtain ⟨v, e3, rd⟩ := atI_rep rs e2
      rcases q1 with q1 | q1
      · exact .inl ⟨a, vs, i, v, z, ry.int_of, q1, e3, lk _ _ w hw (Fr.refl w) rd q⟩
      · exact .inr (.inl ⟨a, vs, i, v, z, ry.int_of, q1, e3, lk _ _ w hw (Fr.refl w) rd q⟩)
    cases x with
    | str z =>
      obtain ⟨h1, c, h2, q⟩ := h
      exact .inr (.inr ⟨z, i, c, rx.str_of, ry.int_of, h1, h2, lk _ _ w hw (Fr.refl w) (.str _) q⟩)
    | _ => exact key h
  | _ => exact h.elim
theorem de_ix {a b : Expr} {da db : DT} {pos : Pos} (ha : DE X a da) (hb : DE X b db) (hs : PlainIx b) : DE X (.Subscript a b pos) (dOp dIx da db) := by
  obtain ⟨ta, pa, fa⟩ := ha
  obtain ⟨tb, pb, fb⟩ := hb
  exact ⟨_, pe_ix ix_seq pa pb hs, sem_op o_ix fa fb⟩
end
end SB

namespace SB
open PySem PySem.Spec PyProof.Rows L2

/-! ### what is walked -/
section
theorem PI_or {X : Cx} {tg e : Expr} {w1 w2 : TI} (h1 : PI X tg e w1) (h2 : PI X tg e w2) : PI X tg e (fun σ H R => w1 σ H R ∨ w2 σ H R) :=
  ⟨fun pins s σ H R I h => h.elim (fun z => h1.run pins s σ H R I z) fun z => h2.run pins s σ H R I z⟩
theorem pi_seq {X : Cx} {tg l : Expr} {tl : TE} (hl : PE X l tl) : PI X tg l (iSeq X.K tl) := by
  refine ⟨fun pins s σ H R I h => ?_⟩
  refine thn (hl.run pins s σ H _ I h) fun v s1 ⟨x, H1, I1, r1, q1⟩ => ?_
  obtain ⟨a, e, q1⟩ := q1
  subst e
  cases r1
  rcases q1 with ⟨⟨xs, hq⟩, q⟩ | ⟨⟨xs, hq⟩, q⟩
  · obtain ⟨its, rv, p, hz⟩ := I1.list hq
    refine wpAny_pyIter_list p.isList ?_
    refine ⟨s1.heap.objs.size, [s1.heap.objs.size], _, _, H1, rfl, I1.kept (t' := s1.toks) fun b o e => Heap.get?_push_of_some _ e, turn_list a _,
      ⟨_, Heap.get?_push_size _ rfl, rfl, rfl⟩, fun b hb => ?_, q⟩
    have e : b = s1.heap.objs.size := by simpa using hb
    rw [e]
    exact I1.fpOk (Nat.le_refl _) (I1.hok.fresh (Nat.le_refl _))
  · obtain ⟨its, rv, p, hz⟩ := I1.tuple hq
    refine wpAny_pyIter_tuple (show s1.heap.IsTuple a its.toArray from p) ?_
    refine ⟨s1.heap.objs.size, [s1.heap.objs.size], _, _, H1, rfl, I1.kept (t' := s1.toks) fun b o e => Heap.get?_push_of_some _ e, turn_tuple a _,
      ⟨_, Heap.get?_push_size _ rfl, rfl, rfl⟩, fun b hb => ?_, q⟩
    have e : b = s1.heap.objs.size := by simpa using hb
    rw [e]
    exact I1.fpOk (Nat.le_refl _) (I1.hok.fresh (Nat.le_refl _))
end

/-! ### enumerate of a tuple -/
theorem sb_enum_new {v : Value} {o : Obj} {W : Heap → Prop} (B : Begins v o W) :
    Meets (Builtin.«enumerate.__new__» ⟨[.type "enumerate", v], []⟩) (fun _ R s => W s.heap ∧
      R (.ok (.ret (.ref (s.heap.push o).objs.size)))
        { s with heap := (s.heap.push o).push { cls := .type "enumerate", data := .fields #[.none, .bool false, .ref s.heap.objs.size, rawInt 0, .none, .none] } }) :=
  .of_wp fun prog w A R s h => by
    obtain ⟨hp, g, d, tk, os⟩ := s; obtain ⟨h1, h⟩ := h
    have hsub := sub_enumerate
    have q1 : ∀ {A' : Around} {E : Value → Shared → Prop} {Q : Value → Shared → Prop}, Q (.ref hp.objs.size) ⟨hp.push o, g, d, tk, os⟩ →
        wpAny (model prog w) A' (pyIter v) Q E ⟨hp, g, d, tk, os⟩ := fun q => B.iter prog w _ _ ⟨hp, g, d, tk, os⟩ _ h1 q
    wp_walk using q1
    refine wpAny_stack_any fun st => wpAny_pure ?_
    split
    · rename_i c _ _ _ _ _
      cases (c == Value.type "enumerate")
      · wp_walk using q1
        exact ⟨_, rfl, h⟩
      · wp_walk using q1
        exact ⟨_, rfl, h⟩
    · wp_walk using q1
      exact ⟨_, rfl, h⟩
section
variable {prog : Program} {w : World} {A : Around} {E : Value → Shared → Prop} {s : Shared}
theorem sb_enum_tuple {a : Addr} {items : Array Value} {Q : Value → Shared → Prop} (hT : s.heap.IsTuple a items)
    (h : ∀ h', IsEnum h' (s.heap.objs.size + 1) s.heap.objs.size 0 .none → h'.IsTupleIter s.heap.objs.size a 0 → h'.objs.size = s.heap.objs.size + 2 →
      (∀ b o, s.heap.get? b = some o → h'.get? b = some o) → Q (.ref (s.heap.objs.size + 1)) { s with heap := h' }) :
    wpAny (model prog w) A (call (.type "enumerate") [.ref a]) Q E s := by
  refine callType_new PySem.F.called_enumerate (by decide) (PySem.F.typeCall_enumerate_1 _) (PySem.F.newCall_enumerate_1 _) (fun obj => PySem.F.args_object_init_2 obj _) PySem.F.entry_enumerate_new
    (sb_enum_new (begins_tuple a items)) ⟨hT, ?_⟩
  have hz : (s.heap.push { cls := .type "tuple_iterator", data := .fields #[.ref a, .int 0 0] }).objs.size = s.heap.objs.size + 1 := Heap.size_push ..
  show _ ∧ _
  rw [hz]
  have he : IsEnum ((s.heap.push { cls := .type "tuple_iterator", data := .fields #[.ref a, .int 0 0] }).push
      { cls := .type "enumerate", data := .fields #[.none, .bool false, .ref s.heap.objs.size, rawInt 0, .none, .none] }) (s.heap.objs.size + 1) s.heap.objs.size 0 .none := by
    have y := Heap.get?_push_size (s.heap.push { cls := .type "tuple_iterator", data := .fields #[.ref a, .int 0 0] })
      (o := { cls := .type "enumerate", data := .fields #[.none, .bool false, .ref s.heap.objs.size, rawInt 0, .none, .none] }) rfl
    rw [hz] at y; exact y
  exact ⟨⟨_, he, rfl⟩, h _ he ⟨_, Heap.get?_push_of_some _ (Heap.get?_push_size _ rfl), rfl, rfl⟩ (by rw [Heap.size_push, hz]) fun b o y => Heap.get?_push_of_some _ (Heap.get?_push_of_some _ y)⟩
theorem sb_enum_end {e it t : Addr} {i : Nat} {items : Array Value} {old : Value} {Q : Option Value → Shared → Prop} (hh : A.handled = none)
    (he : IsEnum s.heap e it i old) (hit : s.heap.IsTupleIter it t i) (ht : s.heap.IsTuple t items) (hx : items[i]? = none)
    (hQ : ∀ h', Heap.ExtBut it s.heap h' → Q none { s with heap := h' }) : wpAny (model prog w) A (pyNext (.ref e)) Q E s := by
  have hT : s.TypeIs (.ref e) "enumerate" := ⟨_, he, rfl⟩
  unfold pyNext
  refine wpAny_bind (wpAny_attempt (wpAny_callSpecial?_slot (name := Str.ofString "__next__") hT PySem.F.slot_enumerate_next
    (wpAny_call_entry PySem.F.slot_enumerate_next hT PySem.F.entry_enumerate_next ?_ (PySem.F.args_enumerate_next_1 _))))
  show wpAny _ _ (field (.ref e) 2 >>= _) _ _ _
  refine wpAny_bind (wpAny_field he rfl (x := .ref it) rfl (wpAny_bind ?_))
  refine wpAny_nextOf_tuple_end hh hit ht hx fun h' x he' ⟨o, ho, hc⟩ => ?_
  exact wpAny_bind (wpAny_isInstance (T := "StopIteration") (b := true) ⟨o, ho, hc⟩ isSubtype_stop (wpAny_pure (hQ _ he')))
end
def IteT (K : PySem.W.Frag) (a : Addr) : It :=
  ⟨fun i H => ∃ (xs : List V) (x : V), SqT K H a xs ∧ xs[i]? = some x, fun i H v H' => ∃ T x, v = .ref T ∧ H T = none ∧ H' = upd H T (.tup [.int (i : Nat), x]) ∧ ∀ xs, SqT K H a xs → xs[i]? = some x,
    fun i H => ∃ xs : List V, SqT K H a xs ∧ xs.length ≤ i⟩
theorem turn_enumT {P : Program} {w : World} {K : PySem.W.Frag} {elts : List Expr} {kk : Nat} {tpos : Pos} (a e it : Addr) (hat : a ≠ it) :
    Turn P w K (.Tuple elts kk tpos) (IteT K a) [e, it] e (fun i h => (∃ old, IsEnum h e it ((i : Nat) : Int) old) ∧ h.IsTupleIter it a i ∧ e ≠ it ∧ e ≠ a) where
  mem := by simp
  obj := fun i h st b hb => by
    obtain ⟨⟨old, he⟩, ⟨o, ho, hc, hd⟩, _⟩ := st
    have e' : b = e ∨ b = it := by simpa using hb
    rcases e' with z | z
    · rw [z]; exact ⟨_, he, fun v q => nomatch q⟩
    · rw [z]; exact ⟨o, ho, fun v q => by rw [hd] at q; cases q⟩
  keep := fun i h h' st k => let ⟨⟨old, he⟩, hi, hne⟩ := st; ⟨⟨old, k e (by simp) _ he⟩, hi.at fun o q => k it (by simp) o q, hne⟩
  item := by
    intro X hP hw hK hc i pins s σ H E I hf st hg
    subst hP hw hK
    obtain ⟨⟨old, he⟩, hit, hne, hea⟩ := st
    obtain ⟨xs, x, hq, hx⟩ := hg
    obtain ⟨its, rv, p, hz⟩ := I.tuple hq
    obtain ⟨u, hu, ru⟩ := rv.get hx
    have hel : e < s.heap.objs.size := Heap.lt_size he
    have hil : it < s.heap.objs.size := by obtain ⟨_, q, _⟩ := hit; exact Heap.lt_size q
    have hi2 : i < its.toArray.size := by
      rw [List.size_toArray, ← rv.length]; exact (List.getElem?_eq_some_iff.mp hx).1
    refine wpAny_pyNext_enum_itemD (Draws.tuple (A := X.A.in1) (I.ok.hd hc) it a hat its.toArray) he ⟨hit, p⟩ hi2 hne (by simp [hne, hea]) fun y h' tk hy ho hit' hT hsz hk => ?_
    have ey : y = u := by
      have hy' : its[i]? = some y := by simpa using hy
      rw [hu] at hy'; exact (Option.some.inj hy').symm
    subst ey
    refine ⟨_, rfl, wpAny_letOwnedTupleGo_enum (s := { s with heap := h', toks := tk + 1 }) ho fun h'' he' sb => ?_⟩
    have hT2 : h''.get? s.heap.objs.size = some { cls := .type "tuple", data := .seq #[.int i tk, y] } := (sb.2 _ (Nat.ne_of_gt hel)).trans hT
    have new : ObjOk X.prog X.w (upd H s.heap.objs.size (.tup [.int (i : Nat), x])) h'' s.heap.objs.size (.tup [.int (i : Nat), x]) :=
      ⟨by show 2 ≤ sizeLine; decide, [.int i tk, y], .cons ⟨_, rfl⟩ (.cons ru .nil), ⟨_, hT2, rfl, _, rfl⟩⟩
    have I1 : Inv X pins σ (upd H s.heap.objs.size (.tup [.int (i : Nat), x])) { s with heap := h'', toks := tk + 1 } :=
      I.turnedNew (ch := [e, it]) (fun b ob hb q => (sb.2 b (fun z => hb (by simp [z]))).trans (hk b ob (fun z => hb (by simp [z])) (fun z => hb (by simp [z])) q)) hf (Nat.le_refl _) new
    refine ⟨.ref s.heap.objs.size, _, I1, rfl, ⟨_, x, rfl, I.hok.fresh (Nat.le_refl _), rfl, fun ys hy => by rw [I.tuple_inj hy hq]; exact hx⟩,
      ⟨⟨y, ?_⟩, hit'.1.at fun o q => (sb.2 it (Ne.symm hne)).trans q, hne, hea⟩, fun b hb => ?_⟩
    · have e1 : ((i + 1 : Nat) : Int) = (i : Int) + 1 := by omega
      rw [e1]; exact he'
    · have hb' : b < s.heap.objs.size := by
        have e' : b = e ∨ b = it := by simpa using hb
        rcases e' with z | z
        · rw [z]; exact hel
        · rw [z]; exact hil
      rw [upd_ne (Nat.ne_of_lt hb')]
      exact (hf b hb).1
  done := by
    intro X hP hw hK hc i pins s σ H E I hf st hg
    subst hP hw hK
    obtain ⟨⟨old, he⟩, hit, hne, hea⟩ := st
    obtain ⟨xs, hq, hx⟩ := hg
    obtain ⟨its, rv, p, hz⟩ := I.tuple hq
    obtain ⟨f0, f1, f2, f3, f4, f5⟩ := hf it (by simp)
    have hl := rv.length
    exact sb_enum_end (I.ok.hd hc) he hit p (by simp; omega) fun h' eb => ⟨rfl, I.turned (t' := s.toks) (fun b o hb q => eb b o hb q) f0 f1 f3 f4 f5⟩
  self := fun A i s Q E st h => let ⟨⟨_, he⟩, _⟩ := st; wpAny_pyIter_enum he h
end SB

namespace SB
open PySem PySem.Spec PyProof.Rows L2

def iEnumA (K : PySem.W.Frag) (ta : TA) : TI := fun σ H R => ta σ H fun vs H1 => ∃ a xs, vs = [.ref a] ∧ ((SqL K H1 a xs ∧ R (Ite K a) H1) ∨ (SqT K H1 a xs ∧ R (IteT K a) H1))
theorem pi_enumA {X : Cx} {e : Expr} {ta : TA} {p pos tpos : Pos} {elts : List Expr} {kk : Nat} (hg : Gl X "enumerate") (hm : X.mg "enumerate" = none) (ha : PA X [e] ta) (hs : starEach [e] X.env = [(false, eval e X.env)] := by rfl) :
    PI X (.Tuple elts kk tpos) (.Call (.Name "enumerate" p) [e] [] pos) (iEnumA X.K ta) := by
  refine ⟨fun pins s σ H R I h => ?_⟩
  refine Call_ (ld_blt I hg hm boot_enumerate (PyProof.Rows.callWith_type1 (thn (ha.run pos pins s σ H _ I h) fun us s1 ⟨vs, H1, I1, r1, q1⟩ => ?_) hs rfl))
  obtain ⟨a, xs, ex, q1⟩ := q1
  subst ex
  cases r1 with
  | cons r rr =>
    cases rr
    cases r
    have two : ∀ b, b ∈ [s1.heap.objs.size + 1, s1.heap.objs.size] → FpOk X pins H1 b := fun b hb => by
      have e' : b = s1.heap.objs.size + 1 ∨ b = s1.heap.objs.size := by simpa using hb
      have hle : s1.heap.objs.size ≤ b := by
        rcases e' with z | z
        · rw [z]; exact Nat.le_add_right _ _
        · rw [z]; exact Nat.le_refl _
      exact I1.fpOk hle (I1.hok.fresh hle)
    rcases q1 with ⟨hq, q⟩ | ⟨hq, q⟩
    · obtain ⟨its, rv, p', hz⟩ := I1.list hq
      refine call_enumerate_list p'.isList fun h' he hit hsz hk => wpAny_pyIter_enum he ?_
      have I2 : Inv X pins σ H1 { s1 with heap := h' } := I1.kept (t' := s1.toks) hk
      exact ⟨s1.heap.objs.size + 1, [s1.heap.objs.size + 1, s1.heap.objs.size], _, _, H1, rfl, I2, turn_enum a (s1.heap.objs.size + 1) s1.heap.objs.size, ⟨⟨.none, he⟩, hit, Nat.succ_ne_self _⟩, two, q⟩
    · obtain ⟨its, rv, p', hz⟩ := I1.tuple hq
      have hlt : a < s1.heap.objs.size := by obtain ⟨o, ho, _⟩ := p'; exact Heap.lt_size ho
      refine sb_enum_tuple (show s1.heap.IsTuple a its.toArray from p') fun h' he hit hsz hk => wpAny_pyIter_enum he ?_
      have I2 : Inv X pins σ H1 { s1 with heap := h' } := I1.kept (t' := s1.toks) hk
      exact ⟨s1.heap.objs.size + 1, [s1.heap.objs.size + 1, s1.heap.objs.size], _, _, H1, rfl, I2, turn_enumT a (s1.heap.objs.size + 1) s1.heap.objs.size (Nat.ne_of_lt hlt), ⟨⟨.none, he⟩, hit, Nat.succ_ne_self _, Nat.ne_of_gt (Nat.lt_succ_of_lt hlt)⟩, two, q⟩

/-! ### a walk, over data -/
structure WalkD (K : PySem.W.Frag) (w0 : Wd) (J : It) (items : List D) (stay : Ow → Prop) : Prop where
  go : ∀ i w, Own K w → Fr w0 w → stay w.O → i < items.length → J.go i w.H
  stop : ∀ w, Own K w → Fr w0 w → stay w.O → J.stop items.length w.H
  yld : ∀ i w x H', Own K w → Fr w0 w → stay w.O → J.yld i w.H x H' → ∀ d, items[i]? = some d → ∃ w', w'.H = H' ∧ w'.O = w.O ∧ Own K w' ∧ Fr w w' ∧ Rep K w'.G d x
abbrev DIt := DEnv → Ow → (List D → (Ow → Prop) → Ow → Prop) → Prop
def SemI (K : PySem.W.Frag) (wi : TI) (di : DIt) : Prop := ∀ ρ σ w R' R, Own K w → RepE K w.G ρ σ → (∀ items stay J w', Own K w' → Fr w w' → WalkD K w' J items stay → R' items stay w'.O → R J w'.H) → di ρ w.O R' → wi σ w.H R
/-- what is walked, whether or not an exception is handled -/
structure DI (X : Cx) (tg iter : Expr) (di : DIt) : Prop where
  cold : X.calm = true → ∃ wi, PI X tg iter wi ∧ SemI X.K wi di
  hot : X.calm = false → L2H.HotC X → ∃ wi, L2H.PIH X tg iter wi ∧ SemI X.K wi di
theorem di_cold {X : Cx} {tg iter : Expr} {di : DIt} (hc : X.calm = true) (h : ∃ wi, PI X tg iter wi ∧ SemI X.K wi di) : DI X tg iter di := ⟨fun _ => h, fun c => by rw [hc] at c; cases c⟩
/-- a list or tuple stays as it is -/
def stays (d : D) (l : List D) : Ow → Prop := fun O => qv O d = some l
/-- .. a list that stands still, a tuple: always -/
theorem stays_tup {l : List D} {O : Ow} : stays (.tup l) l O := rfl
theorem stays_lst {l : List D} {O : Ow} : stays (.lst l) l O := rfl
def dSeq (da : DT) : DIt := fun ρ O R => da ρ O fun x O1 => ∃ l, qv O1 x = some l ∧ R l (stays x l) O1
section
variable {K : PySem.W.Frag} {X : Cx}
theorem walk_tupD {w : Wd} {a : Addr} {vs : List V} {l : List D} (hw : Own K w) (q : SqT K w.G a vs) (rs : Reps K w.G l vs) : WalkD K w (Itt K a) l (stays (.tup l) l) := by
  have at2 : ∀ {w2}, Own K w2 → Fr w w2 → SqT K w2.H a vs := fun h2 f2 => Same.seqT h2.sub (Same.seqT f2.gsub q)
  refine ⟨fun i w2 h2 f2 _ hi => ?_, fun w2 h2 f2 _ => ⟨vs, at2 h2 f2, by rw [rs.length]; exact Nat.le_refl _⟩, fun i w2 x H' h2 f2 _ y d hd => ?_⟩
  · have hi' : i < vs.length := by rw [← rs.length]; exact hi
    exact ⟨vs, vs[i], at2 h2 f2, List.getElem?_eq_getElem hi'⟩
  · obtain ⟨e, y⟩ := y
    subst e
    have hx := y vs (at2 h2 f2)
    obtain ⟨v, e1, r1⟩ := (rs.mono f2.gsub).get hd
    rw [hx] at e1; cases e1
    exact ⟨w2, rfl, rfl, h2, Fr.refl w2, r1⟩
theorem walk_lstD {w : Wd} {a : Addr} {x : D} {l : List D} (hw : Own K w) (rx : Rep K w.G x (.ref a)) : WalkD K w (Itl K a) l (fun O => lv O x = some l) := by
  have at2 : ∀ {w2}, Own K w2 → Fr w w2 → lv w2.O x = some l → ∃ vs, SqL K w2.H a vs ∧ Reps K w2.G l vs := fun h2 f2 st => by
    obtain ⟨b, vs, e, q, rs⟩ := lv_rep h2 (rx.mono f2.gsub) st
    cases e
    exact ⟨vs, q, rs⟩
  refine ⟨fun i w2 h2 f2 st hi => ?_, fun w2 h2 f2 st => ?_, fun i w2 y H' h2 f2 st z d hd => ?_⟩
  · obtain ⟨vs, q, rs⟩ := at2 h2 f2 st
    have hi' : i < vs.length := by rw [← rs.length]; exact hi
    exact ⟨vs, vs[i], q, List.getElem?_eq_getElem hi'⟩
  · obtain ⟨vs, q, rs⟩ := at2 h2 f2 st
    exact ⟨vs, q, by rw [rs.length]; exact Nat.le_refl _⟩
  · obtain ⟨vs, q, rs⟩ := at2 h2 f2 st
    obtain ⟨e, z⟩ := z
    subst e
    obtain ⟨v, e1, r1⟩ := rs.get hd
    rw [z vs q] at e1; cases e1
    exact ⟨w2, rfl, rfl, h2, Fr.refl w2, r1⟩
theorem qv_lv {O : Ow} {x : D} {l : List D} (h : ∀ m, x ≠ .tup m) : qv O x = lv O x := by
  cases x <;> first | rfl | exact absurd rfl (h _)
theorem WalkD.stay' {w : Wd} {J : It} {l : List D} {p q : Ow → Prop} (h : WalkD K w J l p) (e : ∀ O, q O → p O) : WalkD K w J l q :=
  ⟨fun i w2 a b c d => h.go i w2 a b (e _ c) d, fun w2 a b c => h.stop w2 a b (e _ c), fun i w2 x H' a b c d => h.yld i w2 x H' a b (e _ c) d⟩
theorem sem_seq {tl : TE} {da : DT} (f : Sem1 K tl da) : SemI K (iSeq K tl) (dSeq da) := by
  intro ρ σ w R' R hw he lk h
  refine f ρ σ w _ _ hw he (fun x vx w1 hw1 f1 rx ⟨l, e, h1⟩ => ?_) h
  by_cases ht : ∃ m, x = .tup m
  · obtain ⟨m, em⟩ := ht
    subst em
    have e' : m = l := by simpa [qv] using e
    subst e'
    obtain ⟨a, vs, z, q, rs⟩ := rx.tup_of
    exact ⟨a, z, .inr ⟨⟨vs, Same.seqT hw1.sub q⟩, lk m _ _ w1 hw1 f1 (walk_tupD hw1 q rs) h1⟩⟩
  · have hn : ∀ m, x ≠ .tup m := fun m y => ht ⟨m, y⟩
    have e' : lv w1.O x = some l := by rw [← qv_lv hn (l := l)]; exact e
    obtain ⟨a, vs, z, q, rs⟩ := lv_rep hw1 rx e'
    subst z
    exact ⟨a, rfl, .inl ⟨⟨vs, q⟩, lk l _ _ w1 hw1 f1 ((walk_lstD (l := l) hw1 rx).stay' fun O y => by rw [← qv_lv hn (l := l)]; exact y) h1⟩⟩
theorem di_seq {tg e : Expr} {da : DT} (h : DE X e da) : DI X tg e (dSeq da) := by
  obtain ⟨t, p, f⟩ := h
  exact ⟨fun _ => ⟨_, pi_seq p, sem_seq f⟩, fun _ _ => ⟨_, pi_seqH p, sem_seq f⟩⟩
/-- range(n), range(a, b) -/
def rangeD (lo : Int) (n : Nat) : List D := (List.range n).map fun i => .int (lo + (i : Nat))
theorem rangeD_get {lo : Int} {n i : Nat} {d : D} (h : (rangeD lo n)[i]? = some d) : i < n ∧ d = .int (lo + (i : Nat)) := by
  unfold rangeD at h
  rw [List.getElem?_map] at h
  obtain ⟨j, hj, e⟩ := Option.map_eq_some_iff.mp h
  obtain ⟨h1, h2⟩ := List.getElem?_eq_some_iff.mp hj
  rw [List.getElem_range] at h2
  rw [List.length_range] at h1
  subst h2
  exact ⟨h1, e.symm⟩
theorem walk_rngD {w : Wd} {lo : Int} {n : Nat} : WalkD K w (Itr lo n) (rangeD lo n) (fun _ => True) := by
  refine ⟨fun i w2 _ _ _ hi => ?_, fun w2 _ _ _ => ?_, fun i w2 x H' h2 f2 _ y d hd => ?_⟩
  · show i < n
    simpa [rangeD] using hi
  · show n ≤ (rangeD lo n).length
    simp [rangeD]
  · obtain ⟨e1, e2⟩ := y
    obtain ⟨_, e3⟩ := rangeD_get hd
    subst e1 e2 e3
    exact ⟨w2, rfl, rfl, h2, Fr.refl w2, .int _⟩
def dRng1 (dl : DTa) : DIt := fun ρ O R => dl ρ O fun xs O1 => match xs with
  | [.int n] => -(2 ^ 62) ≤ n ∧ n < 2 ^ 62 ∧ R (rangeD 0 n.toNat) (fun _ => True) O1
  | _ => False
def dRng2 (dl : DTa) : DIt := fun ρ O R => dl ρ O fun xs O1 => match xs with
  | [.int a, .int b] => (-(2 ^ 62) ≤ a ∧ a < 2 ^ 62 ∧ -(2 ^ 62) ≤ b ∧ b < 2 ^ 62) ∧ R (rangeD a (b - a).toNat) (fun _ => True) O1
  | _ => False
theorem Reps.int1 {G : Hp} {i : Int} {vs : List V} (h : Reps K G [.int i] vs) : vs = [.int i] := by
  simp only [Reps] at h
  obtain ⟨v, r, e, h1, h2⟩ := h
  rw [e, h1.int_of, h2]
theorem Reps.int2 {G : Hp} {i j : Int} {vs : List V} (h : Reps K G [.int i, .int j] vs) : vs = [.int i, .int j] := by
  simp only [Reps] at h
  obtain ⟨v, r, e, h1, v2, r2, e2, h2, h3⟩ := h
  rw [e, h1.int_of, e2, h2.int_of, h3]
theorem sem_range1 {t : TA} {dl : DTa} (f : SemA K t dl) : SemI K (iRng1 t) (dRng1 dl) := by
  refine fun ρ σ w R' R hw he lk h => ?_
  refine f ρ σ w _ _ hw he (fun xs vs w1 hw1 f1 rs h1 => ?_) h
  unfold dRng1 at h1
  split at h1
  · obtain ⟨q1, q2, q⟩ := h1
    exact ⟨_, rs.int1, q1, q2, lk _ _ _ w1 hw1 f1 walk_rngD q⟩
  · exact h1.elim
theorem sem_range2 {t : TA} {dl : DTa} (f : SemA K t dl) : SemI K (iRng2 t) (dRng2 dl) := by
  refine fun ρ σ w R' R hw he lk h => ?_
  refine f ρ σ w _ _ hw he (fun xs vs w1 hw1 f1 rs h1 => ?_) h
  unfold dRng2 at h1
  split at h1
  · obtain ⟨q1, q⟩ := h1
    exact ⟨_, _, rs.int2, q1, lk _ _ _ w1 hw1 f1 walk_rngD q⟩
  · exact h1.elim
theorem di_range1 {tg a : Expr} {dl : DTa} {p pos : Pos} (hg : Gl X "range") (hm : X.mg "range" = none) (ha : DA X [a] dl) (hs : starEach [a] X.env = [(false, eval a X.env)] := by rfl) : DI X tg (.Call (.Name "range" p) [a] [] pos) (dRng1 dl) := by
  obtain ⟨t, pa, f⟩ := ha
  exact ⟨fun _ => ⟨_, L2.pi_range1 hg hm pa hs, sem_range1 f⟩, fun _ _ => ⟨_, L2H.pi_range1H hg hm pa hs, sem_range1 f⟩⟩
theorem di_range2 {tg a b : Expr} {dl : DTa} {p pos : Pos} (hg : Gl X "range") (hm : X.mg "range" = none) (ha : DA X [a, b] dl) (hs : starEach [a, b] X.env = [(false, eval a X.env), (false, eval b X.env)] := by rfl) (hs2 : starEach [b] X.env = [(false, eval b X.env)] := by rfl) : DI X tg (.Call (.Name "range" p) [a, b] [] pos) (dRng2 dl) := by
  obtain ⟨t, pa, f⟩ := ha
  exact ⟨fun _ => ⟨_, pi_range2 hg hm pa hs hs2, sem_range2 f⟩, fun _ _ => ⟨_, pi_range2H hg hm pa hs hs2, sem_range2 f⟩⟩
/-! a pair that is handed out -/
theorem pair_still {w : Wd} {T : Addr} {x y : V} {d e : D} (hw : Own K w) (hT : w.H T = none) (rd : Rep K w.G d x) (re : Rep K w.G e y) :
    ∃ w', w'.H = upd w.H T (.tup [x, y]) ∧ w'.O = w.O ∧ Own K w' ∧ Fr w w' ∧ Rep K w'.G (.tup [d, e]) (.ref T) :=
  ⟨w.still T (.tup [x, y]), rfl, rfl, hw.still hT, Fr.still hw hT, Rep.tup (SqT.of upd_same) ((Reps.cons rd (.cons re .nil)).mono (Same.upd_new (hw.none_of hT).1))⟩
/-- enumerate -/
def enumD (l : List D) : List D := l.zipIdx.map fun p => .tup [.int (p.2 : Nat), p.1]
theorem enumD_get {l : List D} {i : Nat} {d : D} (h : (enumD l)[i]? = some d) : ∃ x, l[i]? = some x ∧ d = .tup [.int (i : Nat), x] := by
  unfold enumD at h
  rw [List.getElem?_map] at h
  obtain ⟨p, hp, e⟩ := Option.map_eq_some_iff.mp h
  rw [List.getElem?_zipIdx] at hp
  obtain ⟨x, hx, e2⟩ := Option.map_eq_some_iff.mp hp
  subst e2
  simp at e
  exact ⟨x, hx, e.symm⟩
def dEnum (dl : DTa) : DIt := fun ρ O R => dl ρ O fun xs O1 => match xs with
  | [x] => ∃ l, qv O1 x = some l ∧ R (enumD l) (stays x l) O1
  | _ => False
theorem Reps.one1 {G : Hp} {d : D} {vs : List V} (h : Reps K G [d] vs) : ∃ v, vs = [v] ∧ Rep K G d v := by
  simp only [Reps] at h
  obtain ⟨v, r, e, h1, h2⟩ := h
  exact ⟨v, by rw [e, h2], h1⟩
theorem Reps.two2 {G : Hp} {d e : D} {vs : List V} (h : Reps K G [d, e] vs) : ∃ v u, vs = [v, u] ∧ Rep K G d v ∧ Rep K G e u := by
  simp only [Reps] at h
  obtain ⟨v, r, z, h1, u, r2, z2, h2, h3⟩ := h
  exact ⟨v, u, by rw [z, z2, h3], h1, h2⟩
theorem di_enum (hc : X.calm = true) {a tg0 : Expr} {dl : DTa} {p pos tpos : Pos} {elts : List Expr} {kk : Nat} (hg : Gl X "enumerate") (hm : X.mg "enumerate" = none) (ha : DA X [a] dl) (hs : starEach [a] X.env = [(false, eval a X.env)] := by rfl) :
    DI X (.Tuple elts kk tpos) (.Call (.Name "enumerate" p) [a] [] pos) (dEnum dl) := by
  obtain ⟨t, pa, f⟩ := ha
  refine di_cold hc ⟨_, pi_enumA hg hm pa hs, fun ρ σ w R' R hw he lk h => ?_⟩
  refine f ρ σ w _ _ hw he (fun xs vs w1 hw1 f1 rs h1 => ?_) h
  unfold dEnum at h1
  split at h1
  rotate_left
  · exact h1.elim
  rename_i x
  obtain ⟨l, e, h1⟩ := h1
  obtain ⟨vx, ev, rx⟩ := rs.one1
  subst ev
  by_cases ht : ∃ m, x = .tup m
  · obtain ⟨m, em⟩ := ht
    subst em
    have e' : m = l := by simpa [qv] using e
    subst e'
    obtain ⟨a, us, z, q, rs'⟩ := rx.tup_of
    subst z
    refine ⟨a, us, rfl, .inr ⟨Same.seqT hw1.sub q, lk (enumD m) _ _ w1 hw1 f1 ?_ h1⟩⟩
    have at2 : ∀ {w2}, Own X.K w2 → Fr w1 w2 → SqT X.K w2.H a us := fun h2 f2 => Same.seqT h2.sub (Same.seqT f2.gsub q)
    refine ⟨fun i w2 h2 f2 _ hi => ?_, fun w2 h2 f2 _ => ⟨us, at2 h2 f2, by simp [enumD, rs'.length]⟩, fun i w2 x H' h2 f2 _ y d hd => ?_⟩
    · have hi' : i < us.length := by rw [← rs'.length]; simpa [enumD] using hi
      exact ⟨us, us[i], at2 h2 f2, List.getElem?_eq_getElem hi'⟩
    · obtain ⟨x', hx', ed⟩ := enumD_get hd
      obtain ⟨T, v, e1, hT, e2, y⟩ := y
      subst ed e1 e2
      obtain ⟨v', e3, r1⟩ := (rs'.mono f2.gsub).get hx'
      rw [y us (at2 h2 f2)] at e3; cases e3
      exact pair_still h2 hT (.int _) r1
  · have hn : ∀ m, x ≠ .tup m := fun m y => ht ⟨m, y⟩
    have e' : lv w1.O x = some l := by rw [← qv_lv hn (l := l)]; exact e
    obtain ⟨a, us, z, q, rs'⟩ := lv_rep hw1 rx e'
    subst z
    refine ⟨a, us, rfl, .inl ⟨q, lk (enumD l) _ _ w1 hw1 f1 ?_ h1⟩⟩
    have at2 : ∀ {w2}, Own X.K w2 → Fr w1 w2 → stays x l w2.O → ∃ vs, SqL X.K w2.H a vs ∧ Reps X.K w2.G l vs := fun {w2} h2 f2 st => by
      have st' : lv w2.O x = some l := by rw [← qv_lv hn (l := l)]; exact st
      obtain ⟨b, vs, e, q, rs⟩ := lv_rep h2 (rx.mono f2.gsub) st'
      cases e
      exact ⟨vs, q, rs⟩
    refine ⟨fun i w2 h2 f2 st hi => ?_, fun w2 h2 f2 st => ?_, fun i w2 x' H' h2 f2 st y d hd => ?_⟩
    · obtain ⟨vs, q, rs⟩ := at2 h2 f2 st
      have hi' : i < vs.length := by rw [← rs.length]; simpa [enumD] using hi
      exact ⟨vs, vs[i], q, List.getElem?_eq_getElem hi'⟩
    · obtain ⟨vs, q, rs⟩ := at2 h2 f2 st
      exact ⟨vs, q, by simp [enumD, rs.length]⟩
    · obtain ⟨vs, q, rs⟩ := at2 h2 f2 st
      obtain ⟨x2, hx', ed⟩ := enumD_get hd
      obtain ⟨T, v, e1, hT, e2, y⟩ := y
      subst ed e1 e2
      obtain ⟨v', e3, r1⟩ := rs.get hx'
      rw [y vs q] at e3; cases e3
      exact pair_still h2 hT (.int _) r1
/-- zip of two lists, of two tuples -/
def zipD (l m : List D) : List D := List.zipWith (fun x y => .tup [x, y]) l m
theorem zipD_get {l m : List D} {i : Nat} {d : D} (h : (zipD l m)[i]? = some d) : ∃ x y, l[i]? = some x ∧ m[i]? = some y ∧ d = .tup [x, y] := by
  unfold zipD at h
  rw [List.getElem?_zipWith] at h
  cases e1 : l[i]? with
  | none => rw [e1] at h; simp at h
  | some x =>
    cases e2 : m[i]? with
    | none => rw [e1, e2] at h; simp at h
    | some y =>
      rw [e1, e2] at h
      simp at h
      exact ⟨x, y, rfl, rfl, h.symm⟩
def isTup : D → Bool
  | .tup _ => true
  | _ => false
theorem isTup_of {x : D} (h : isTup x = true) : ∃ m, x = .tup m := by cases x <;> simp_all [isTup]
theorem isTup_not {x : D} (h : isTup x = false) : ∀ m, x ≠ .tup m := fun m e => by subst e; simp [isTup] at h
def dZip (dl : DTa) : DIt := fun ρ O R => dl ρ O fun xs O1 => match xs with
  | [x, y] => ∃ l, qv O1 x = some l ∧ ∃ m, qv O1 y = some m ∧ isTup x = isTup y ∧ R (zipD l m) (fun O2 => stays x l O2 ∧ stays y m O2) O1
  | _ => False
theorem di_zip (hc : X.calm = true) {a b : Expr} {dl : DTa} {p pos tpos : Pos} {elts : List Expr} {kk : Nat} (hg : Gl X "zip") (hm : X.mg "zip" = none) (ha : DA X [a, b] dl)
    (hs : starEach [a, b] X.env = (false, eval a X.env) :: starEach [b] X.env := by rfl) (hpl : (backTo pos (starEach [b] X.env)).any (·.1) = false := by rfl) :
    DI X (.Tuple elts kk tpos) (.Call (.Name "zip" p) [a, b] [] pos) (dZip dl) := by
  obtain ⟨t, pa, f⟩ := ha
  refine di_cold hc ⟨_, RZ.pi_zipA hg hm pa hs hpl, fun ρ σ w R' R hw he lk h => ?_⟩
  refine f ρ σ w _ _ hw he (fun xs vs w1 hw1 f1 rs h1 => ?_) h
  unfold dZip at h1
  split at h1
  rotate_left
  · exact h1.elim
  rename_i x y
  obtain ⟨l, e1, m, e2, et, h1⟩ := h1
  obtain ⟨vx, vy, ev, rx, ry⟩ := rs.two2
  subst ev
  cases hx : isTup x with
  | true =>
    have hy : isTup y = true := by rw [← et]; exact hx
    obtain ⟨l', el⟩ := isTup_of hx
    obtain ⟨m', em⟩ := isTup_of hy
    subst el em
    have z1 : l' = l := by simpa [qv] using e1
    have z2 : m' = m := by simpa [qv] using e2
    subst z1 z2
    obtain ⟨a, us, z, q, rs1⟩ := rx.tup_of
    obtain ⟨b, ws, z', q', rs2⟩ := ry.tup_of
    subst z z'
    refine ⟨a, b, us, ws, rfl, .inr ⟨Same.seqT hw1.sub q, Same.seqT hw1.sub q', lk (zipD l' m') _ _ w1 hw1 f1 ?_ h1⟩⟩
    have a1 : ∀ {w2}, Own X.K w2 → Fr w1 w2 → SqT X.K w2.H a us := fun h2 f2 => Same.seqT h2.sub (Same.seqT f2.gsub q)
    have a2 : ∀ {w2}, Own X.K w2 → Fr w1 w2 → SqT X.K w2.H b ws := fun h2 f2 => Same.seqT h2.sub (Same.seqT f2.gsub q')
    refine ⟨fun i w2 h2 f2 _ hi => ?_, fun w2 h2 f2 _ => ⟨us, ws, a1 h2 f2, a2 h2 f2, ?_⟩, fun i w2 v H' h2 f2 _ y d hd => ?_⟩
    · have hi' : i < us.length ∧ i < ws.length := by
        rw [← rs1.length, ← rs2.length]
        simp only [zipD, List.length_zipWith] at hi
        omega
      exact ⟨us, ws, us[i]'hi'.1, ws[i]'hi'.2, a1 h2 f2, a2 h2 f2, List.getElem?_eq_getElem hi'.1, List.getElem?_eq_getElem hi'.2⟩
    · simp only [zipD, List.length_zipWith, rs1.length, rs2.length]
      omega
    · obtain ⟨x', y', hx', hy', ed⟩ := zipD_get hd
      obtain ⟨T, u1, u2, e1, hT, e2, g1, g2⟩ := y
      subst ed e1 e2
      obtain ⟨v1, e3, r1⟩ := (rs1.mono f2.gsub).get hx'
      obtain ⟨v2, e4, r2⟩ := (rs2.mono f2.gsub).get hy'
      rw [g1 us (a1 h2 f2)] at e3; cases e3
      rw [g2 ws (a2 h2 f2)] at e4; cases e4
      exact pair_still h2 hT r1 r2
  | false =>
    have hy : isTup y = false := by rw [← et]; exact hx
    have n1 := isTup_not hx
    have n2 := isTup_not hy
    have e1' : lv w1.O x = some l := by rw [← qv_lv n1 (l := l)]; exact e1
    have e2' : lv w1.O y = some m := by rw [← qv_lv n2 (l := m)]; exact e2
    obtain ⟨a, us, z, q, rs1⟩ := lv_rep hw1 rx e1'
    obtain ⟨b, ws, z', q', rs2⟩ := lv_rep hw1 ry e2'
    subst z z'
    refine ⟨a, b, us, ws, rfl, .inl ⟨q, q', lk (zipD l m) _ _ w1 hw1 f1 ?_ h1⟩⟩
    have a1 : ∀ {w2}, Own X.K w2 → Fr w1 w2 → stays x l w2.O → ∃ vs, SqL X.K w2.H a vs ∧ Reps X.K w2.G l vs := fun {w2} h2 f2 st => by
      have st' : lv w2.O x = some l := by rw [← qv_lv n1 (l := l)]; exact st
      obtain ⟨b, vs, e, q, rs⟩ := lv_rep h2 (rx.mono f2.gsub) st'
      cases e
      exact ⟨vs, q, rs⟩
    have a2 : ∀ {w2}, Own X.K w2 → Fr w1 w2 → stays y m w2.O → ∃ vs, SqL X.K w2.H b vs ∧ Reps X.K w2.G m vs := fun {w2} h2 f2 st => by
      have st' : lv w2.O y = some m := by rw [← qv_lv n2 (l := m)]; exact st
      obtain ⟨b, vs, e, q, rs⟩ := lv_rep h2 (ry.mono f2.gsub) st'
      cases e
      exact ⟨vs, q, rs⟩
    refine ⟨fun i w2 h2 f2 st hi => ?_, fun w2 h2 f2 st => ?_, fun i w2 v H' h2 f2 st y d hd => ?_⟩
    · obtain ⟨us', q1, rs1'⟩ := a1 h2 f2 st.1
      obtain ⟨ws', q2, rs2'⟩ := a2 h2 f2 st.2
      have hi' : i < us'.length ∧ i < ws'.length := by
        rw [← rs1'.length, ← rs2'.length]
        simp only [zipD, List.length_zipWith] at hi
        omega
      exact ⟨us', ws', us'[i]'hi'.1, ws'[i]'hi'.2, q1, q2, List.getElem?_eq_getElem hi'.1, List.getElem?_eq_getElem hi'.2⟩
    · obtain ⟨us', q1, rs1'⟩ := a1 h2 f2 st.1
      obtain ⟨ws', q2, rs2'⟩ := a2 h2 f2 st.2
      refine ⟨us', ws', q1, q2, ?_⟩
      simp only [zipD, List.length_zipWith, rs1'.length, rs2'.length]
      omega
    · obtain ⟨us', q1, rs1'⟩ := a1 h2 f2 st.1
      obtain ⟨ws', q2, rs2'⟩ := a2 h2 f2 st.2
      obtain ⟨x', y', hx', hy', ed⟩ := zipD_get hd
      obtain ⟨T, u1, u2, e1, hT, e2, g1, g2⟩ := y
      subst ed e1 e2
      obtain ⟨v1, e3, r1⟩ := rs1'.get hx'
      obtain ⟨v2, e4, r2⟩ := rs2'.get hy'
      rw [g1 us' q1] at e3; cases e3
      rw [g2 ws' q2] at e4; cases e4
      exact pair_still h2 hT r1 r2
end
end SB

namespace SB
open PySem PySem.Spec PyProof.Rows L2

/-! ### targets: a name, or a tuple of names -/
def tgN (i : Nat) : D → DEnv → Option DEnv := fun d ρ => some (ρ.set i (some d))
def setAll : List Nat → List D → DEnv → Option DEnv
  | [], [], ρ => some ρ
  | i :: is, d :: ds, ρ => setAll is ds (ρ.set i (some d))
  | _, _, _ => none
def tgT (is : List Nat) : D → DEnv → Option DEnv := fun d ρ => match d with
  | .tup l => setAll is l ρ
  | _ => none
structure SemG (K : PySem.W.Frag) (g : TG) (gd : D → DEnv → Option DEnv) (slots : List Nat) : Prop where
  run : ∀ (w : Wd) (d : D) (v : V) (ρ ρ' : DEnv) (σ : L2.St) (Q : L2.St → Hp → Prop), Own K w → RepE K w.G ρ σ → Rep K w.G d v → gd d ρ = some ρ' →
    (∀ σ', RepE K w.G ρ' σ' → σ'.length = σ.length → (∀ j, j ∉ slots → σ'[j]? = σ[j]?) → Q σ' w.H) → g v σ w.H Q
def DG (X : Cx) (tg : Expr) (gd : D → DEnv → Option DEnv) (slots : List Nat) : Prop := ∃ g, PG X tg g ∧ SemG X.K g gd slots
section
variable {X : Cx} {K : PySem.W.Frag} {pos : Pos}
theorem sem_gName {i : Nat} : SemG K (gName i) (tgN i) [i] := ⟨fun w d v ρ ρ' σ Q hw he r e q => by
  cases e
  refine q _ (he.set r) (by simp) fun j hj => ?_
  exact List.getElem?_set_ne (fun z => hj (by simp [z]))⟩
theorem dg_name {i : Nat} {x : Str} (hN : X.N.Nodup) (hi : X.N[i]? = some x) (hx : Loc X.env.scope x) (hf : X.fn x = true ∨ X.env.scope.names.lookup x = some .local := by first | exact .inl rfl | exact .inr rfl | assumption) : DG X (.Name x pos) (tgN i) [i] :=
  ⟨_, pg_name hN hi hx hf, sem_gName⟩
/-- several -/
structure SemGs (K : PySem.W.Frag) (g : TGs) (is : List Nat) : Prop where
  run : ∀ (w : Wd) (ds : List D) (vs : List V) (ρ ρ' : DEnv) (σ : L2.St) (Q : L2.St → Hp → Prop), Own K w → RepE K w.G ρ σ → Reps K w.G ds vs → setAll is ds ρ = some ρ' →
    (∀ σ', RepE K w.G ρ' σ' → σ'.length = σ.length → (∀ j, j ∉ is → σ'[j]? = σ[j]?) → Q σ' w.H) → g vs σ w.H Q
def DGs (X : Cx) (ts : List Expr) (is : List Nat) : Prop := ∃ g, PGs X ts g ∧ SemGs X.K g is
theorem dgs_nil : DGs X [] [] := ⟨_, pgs_nil, ⟨fun w ds vs ρ ρ' σ Q hw he r e q => by
  cases ds with
  | nil =>
    cases e
    simp only [Reps] at r
    exact ⟨r, q σ he rfl fun _ _ => rfl⟩
  | cons d ds => simp [setAll] at e⟩⟩
theorem dgs_cons {t : Expr} {ts : List Expr} {i : Nat} {is : List Nat} (h1 : DG X t (tgN i) [i]) (h2 : DGs X ts is)
    (hs : (assignEach (t :: ts) X.env).map (·.2) = assign t X.env :: (assignEach ts X.env).map (·.2) := by rfl) : DGs X (t :: ts) (i :: is) := by
  obtain ⟨g, p, f⟩ := h1
  obtain ⟨gs, ps, fs⟩ := h2
  refine ⟨_, pgs_cons p ps hs, ⟨fun w ds vs ρ ρ' σ Q hw he r e q => ?_⟩⟩
  cases ds with
  | nil => simp [setAll] at e
  | cons d ds =>
    simp only [setAll] at e
    simp only [Reps] at r
    obtain ⟨v, us, ev, r1, r2⟩ := r
    subst ev
    refine ⟨v, us, rfl, f.run w d v ρ _ σ _ hw he r1 rfl fun σ1 he1 hl1 hj1 => ?_⟩
    refine fs.run w ds us _ ρ' σ1 Q hw he1 r2 e fun σ2 he2 hl2 hj2 => ?_
    refine q σ2 he2 (hl2.trans hl1) fun j hj => ?_
    rw [hj2 j (fun z => hj (List.mem_cons_of_mem _ z)), hj1 j (fun z => hj (by simp at z; simp [z]))]
theorem sem_gTup {g : TGs} {is : List Nat} (f : SemGs K g is) : SemG K (gTup K is.length g) (tgT is) is := ⟨fun w d v ρ ρ' σ Q hw he r e q => by
  cases d with
  | tup l =>
    obtain ⟨a, vs, ev, qs, rs⟩ := r.tup_of
    have hl : ∀ (is : List Nat) (l : List D) (ρ ρ' : DEnv), setAll is l ρ = some ρ' → l.length = is.length := by
      intro is
      induction is with
      | nil => intro l ρ ρ' e; cases l <;> simp_all [setAll]
      | cons i is ih =>
        intro l ρ ρ' e
        cases l with
        | nil => simp [setAll] at e
        | cons d l => simp only [setAll] at e; simp [ih l _ _ e]
    have e' : setAll is l ρ = some ρ' := e
    exact ⟨a, vs, ev, Same.seqT hw.sub qs, by rw [← rs.length]; exact hl is l ρ ρ' e', f.run w l vs ρ ρ' σ Q hw he rs e' q⟩
  | _ => simp [tgT] at e⟩
theorem dg_tup {es : List Expr} {k : Nat} {is : List Nat} (hc : Rdy X) (h : DGs X es is)
    (hn : (assignEach es X.env).length = is.length := by rfl) (hst : (assignEach es X.env).findIdx? (·.1) = none := by rfl) : DG X (.Tuple es k pos) (tgT is) is := by
  obtain ⟨g, p, f⟩ := h
  rcases hc with c | ⟨_, c⟩
  · exact ⟨_, pg_tup c p hn hst, sem_gTup f⟩
  · exact ⟨_, pg_tupH c p hn hst, sem_gTup f⟩
end

/-! ### comprehensions -/
def dYes : DTt := fun _ O Q => Q true O
def DTs (X : Cx) (ifs : List Expr) (dt : DTt) : Prop := ∃ t, PTs X ifs t ∧ SemB X.K t dt
theorem dts_nil {X : Cx} : DTs X [] dYes := ⟨_, pts_nil, fun ρ σ w Q' Q hw he lk h => lk true w hw (Fr.refl w) h⟩
theorem dts_one {X : Cx} {c : Expr} {dt : DTt} (h : DB X c dt) : DTs X [c] dt := let ⟨_, p, f⟩ := h; ⟨_, pts_one p, f⟩
/-- the items one by one, what is made so far, what is owned -/
def lcLoop (gd : D → DEnv → Option DEnv) (tt : DTt) (te : DT) (stay : Ow → Prop) (ρ : DEnv) : List D → List D → Ow → (List D → Ow → Prop) → Prop
  | [], acc, O, Q => Q acc O
  | d :: r, acc, O, Q => ∃ ρ', gd d ρ = some ρ' ∧ tt ρ' O fun b O1 => if b = true then te ρ' O1 fun y O2 => stay O2 ∧ lcLoop gd tt te stay ρ r (acc ++ [y]) O2 Q else stay O1 ∧ lcLoop gd tt te stay ρ r acc O1 Q
def dLc (mk : List D → Ow → DQ → Prop) (di : DIt) (gd : D → DEnv → Option DEnv) (tt : DTt) (te : DT) (vs : List Nat) : DT := fun ρ O Q =>
  di ρ O fun items stay O1 => items.length ≤ 100000 ∧ stay O1 ∧ lcLoop gd tt te stay (wipeD ρ vs) items [] O1 fun acc O2 => mk acc O2 Q
section
variable {X : Cx} {K : PySem.W.Frag}
/-- a world in which what stood at p is not told -/
theorem Fr.skip {w w' : Wd} (f : Fr w w') {p : Addr} {x : HO} (h : w.H p = some x) (n : w.O p = none) : w'.H p = some x := f.keep p x h n
theorem sem_lc {mk : List D → Ow → DQ → Prop} (hm : MkOk mk) {wi : TI} {g : TG} {tt : TT} {te : TE} {di : DIt} {gd : D → DEnv → Option DEnv} {dtt : DTt} {dte : DT} {vs slots : List Nat}
    (fi : SemI K wi di) (fg : SemG K g gd slots) (ft : SemB K tt dtt) (fe : Sem1 K te dte) (hv : ∀ i ∈ slots, i ∈ vs) : Sem1 K (tLc wi g tt te vs) (dLc mk di gd dtt dte vs) := by
  intro ρ σ w Q' Q hw he lk h
  refine fi ρ σ w _ _ hw he (fun items stay J w1 hw1 f1 W ⟨hlen, hst, h1⟩ => ?_) h
  intro p hp
  -- the new list stands at p, told by nobody
  have hwp : Own K ⟨w1.G, w1.O, upd w1.H p (.lst [])⟩ := ⟨fun b x e => (upd_ne (ne_of_none (hw1.sub b x e) hp)).trans (hw1.sub b x e),
    fun q o e => by
      obtain ⟨z1, x, z2, z3⟩ := hw1.own q o e
      exact ⟨z1, x, (upd_ne (ne_of_none z2 hp)).trans z2, z3⟩⟩
  have frp : Fr w1 ⟨w1.G, w1.O, upd w1.H p (.lst [])⟩ := ⟨Same.refl _, fun b x e _ => (upd_ne (ne_of_none e hp)).trans e, fun b x e _ => .inl e, fun b e => .inr e, fun b e => by
    by_cases y : b = p
    · show upd w1.H p _ b ≠ none
      rw [y, upd_same]; simp
    · show upd w1.H p _ b ≠ none
      rw [upd_ne y]; exact e⟩
  let Rest : Nat → Hp → Prop := fun i H => ∃ (w2 : Wd) (acc : List D) (us : List V), w2.H = H ∧ Own K w2 ∧ Fr w1 w2 ∧ w2.G p = none ∧ w2.O p = none ∧ H p = some (.lst us) ∧ Reps K w2.G acc us ∧ acc.length ≤ i ∧ stay w2.O ∧ lcLoop gd dtt dte stay (wipeD ρ vs) (items.drop i) acc w2.O fun acc O2 => mk acc O2 Q'
  refine ⟨fun i m H => m = items.length - i ∧ i ≤ items.length ∧ Rest i H, ⟨items.length, by simp, Nat.zero_le _, ?_⟩, ?_⟩
  · exact ⟨_, [], [], rfl, hwp, frp, (hw1.none_of hp).1, (hw1.none_of hp).2, upd_same, .nil, Nat.zero_le _, hst, by simpa using h1⟩
  rintro i m H ⟨rfl, hi, w2, acc, us, rfl, hw2, f2, gp, op, hpu, rs, hal, hst2, hl⟩
  by_cases hlt : i < items.length
  · refine .inr ⟨W.go i w2 hw2 f2 hst2 hlt, Rest (i + 1), fun H' p' => ⟨items.length - (i + 1), by omega, rfl, hlt, p'⟩, fun x H' y => ?_⟩
    have ed : items.drop i = items[i] :: items.drop (i + 1) := List.drop_eq_getElem_cons hlt
    rw [ed] at hl
    obtain ⟨ρ', eg, hl⟩ := hl
    obtain ⟨w3, eH, eO, hw3, f3, r3⟩ := W.yld i w2 x H' hw2 f2 hst2 y items[i] (List.getElem?_eq_getElem hlt)
    subst eH
    have he3 : RepE K w3.G (wipeD ρ vs) (L2.wipe σ vs) := (RepE.wipe vs he).mono (f1.gsub.trans (f2.gsub.trans f3.gsub))
    refine fg.run w3 _ x _ ρ' _ _ hw3 he3 r3 eg fun σ4 he4 hl4 hj4 => ⟨?_, ?_⟩
    · have e1 : L2.wipe (L2.wipe σ vs) vs = L2.wipe σ vs := wipe_eq (wipe_length σ vs) fun j hj => by rw [wipe_get, if_neg hj]
      rw [← e1]
      exact wipe_eq hl4 fun j hj => hj4 j fun z => hj (hv j z)
    rw [← eO] at hl
    refine ft ρ' σ4 w3 _ _ hw3 he4 (fun b w4 hw4 f4 h4 => ?_) hl
    have out4 : w4.G p = none ∧ w4.O p = none ∧ w4.H p = some (.lst us) := by
      have f24 := f3.trans f4
      have k4 := f24.keep p _ hpu op
      refine ⟨?_, ?_, k4⟩
      · cases q : w4.G p with
        | none => rfl
        | some z =>
          rcases f24.gnew p z q (by rw [hpu]; simp) with t | t
          · rw [gp] at t; cases t
          · exact absurd op t
      · cases q : w4.O p with
        | none => rfl
        | some z =>
          rcases f24.onew p (by rw [q]; simp) with t | t
          · rw [hpu] at t; cases t
          · exact absurd op t
    cases b with
    | true =>
      rw [if_pos rfl] at h4 ⊢
      refine fe ρ' σ4 w4 _ _ hw4 (he4.mono f4.gsub) (fun y vy w5 hw5 f5 r5 h5 => ?_) h4
      have k5 := f5.keep p _ out4.2.2 out4.2.1
      have g5 : w5.G p = none := by
        cases q : w5.G p with
        | none => rfl
        | some z =>
          rcases f5.gnew p z q (by rw [out4.2.2]; simp) with t | t
          · rw [out4.1] at t; cases t
          · exact absurd out4.2.1 t
      have o5 : w5.O p = none := by
        cases q : w5.O p with
        | none => rfl
        | some z =>
          rcases f5.onew p (by rw [q]; simp) with t | t
          · rw [out4.2.2] at t; cases t
          · exact absurd out4.2.1 t
      have rs5 : Reps K w5.G acc us := rs.mono (f3.gsub.trans (f4.gsub.trans f5.gsub))
      have hz : us.length < sizeLine := by
        rw [← rs.length]
        have := line100000
        omega
      have hw6 : Own K ⟨w5.G, w5.O, upd w5.H p (.lst (us ++ [vy]))⟩ := ⟨fun b x e => by
          have hb : b ≠ p := fun z => by
            have e' : w5.G b = some x := e
            rw [z, g5] at e'; cases e'
          exact (upd_ne hb).trans (hw5.sub b x e),
        fun q o e => by
          have hq : q ≠ p := fun z => by
            have e' : w5.O q = some o := e
            rw [z, o5] at e'; cases e'
          obtain ⟨z1, x, z2, z3⟩ := hw5.own q o e
          exact ⟨z1, x, (upd_ne hq).trans z2, z3⟩⟩
      have f15 : Fr w1 w5 := f2.trans (f3.trans (f4.trans f5))
      have fr6 : Fr w1 ⟨w5.G, w5.O, upd w5.H p (.lst (us ++ [vy]))⟩ := ⟨f15.gsub, fun b x e n => by
          have hb : b ≠ p := ne_of_none e hp
          exact (upd_ne hb).trans (f15.keep b x e n), f15.gnew, f15.onew, fun b e => by
          by_cases y : b = p
          · show upd w5.H p _ b ≠ none
            rw [y, upd_same]; simp
          · show upd w5.H p _ b ≠ none
            rw [upd_ne y]; exact f15.dom b e⟩
      exact ⟨us, k5, hz, _, acc ++ [y], us ++ [vy], rfl, hw6, fr6, g5, o5, upd_same, rs5.append (.cons r5 .nil), by rw [List.length_append]; simp; omega, h5.1, h5.2⟩
    | false =>
      rw [if_neg Bool.false_ne_true] at h4 ⊢
      exact ⟨w4, acc, us, rfl, hw4, f2.trans (f3.trans f4), out4.1, out4.2.1, out4.2.2, rs.mono (f3.gsub.trans f4.gsub), by omega, h4.1, h4.2⟩
  · have e : i = items.length := by omega
    subst e
    refine .inl ⟨W.stop w2 hw2 f2 hst2, ?_⟩
    rw [List.drop_length] at hl
    -- the list is given
    have base : Own K ⟨w2.G, w2.O, fun b => if b = p then none else w2.H b⟩ := ⟨fun b x e => by
        have hb : b ≠ p := fun z => by
          have e' : w2.G b = some x := e
          rw [z, gp] at e'; cases e'
        show (if b = p then none else w2.H b) = some x
        rw [if_neg hb]; exact hw2.sub b x e,
      fun q o e => by
        have hq : q ≠ p := fun z => by
          have e' : w2.O q = some o := e
          rw [z, op] at e'; cases e'
        obtain ⟨z1, x, z2, z3⟩ := hw2.own q o e
        refine ⟨z1, x, ?_, z3⟩
        show (if q = p then none else w2.H q) = some x
        rw [if_neg hq]; exact z2⟩
    have eH : upd (fun b => if b = p then none else w2.H b) p (.lst us) = w2.H := by
      funext b
      by_cases y : b = p
      · rw [y, upd_same]; exact hpu.symm
      · rw [upd_ne y, if_neg y]
    have f12 := f1.trans f2
    have frb : Fr w ⟨w2.G, w2.O, fun b => if b = p then none else w2.H b⟩ := ⟨f12.gsub, fun b x e n => by
        have hb : b ≠ p := fun z => by
          have k1 := f1.keep b x e n
          rw [z, hp] at k1; cases k1
        show (if b = p then none else w2.H b) = some x
        rw [if_neg hb]; exact f12.keep b x e n, f12.gnew, f12.onew, fun b e => by
        have hb : b ≠ p := fun z => f1.dom b e (by rw [z]; exact hp)
        show (if b = p then none else w2.H b) ≠ none
        rw [if_neg hb]; exact f12.dom b e⟩
    have fin := hm K ⟨w2.G, w2.O, fun b => if b = p then none else w2.H b⟩ acc us Q' Q p base (by simp) rs (lk.after frb) hl
    rw [show upd (fun b => if b = p then none else w2.H b) p (.lst us) = w2.H from eH] at fin
    exact fin
/-! the weakest reading, for blocks -/
def tOf (K : PySem.W.Frag) (dt : DT) : TE := fun σ H Q => ∃ ρ w Q', w.H = H ∧ Own K w ∧ RepE K w.G ρ σ ∧ Lk K w Q' Q ∧ dt ρ w.O Q'
def tOfB (K : PySem.W.Frag) (dt : DTt) : TT := fun σ H Q => ∃ ρ w Q', w.H = H ∧ Own K w ∧ RepE K w.G ρ σ ∧ LkB K w Q' Q ∧ dt ρ w.O Q'
def gOf (K : PySem.W.Frag) (gd : D → DEnv → Option DEnv) (slots : List Nat) : TG := fun v σ H Q => ∃ w d ρ ρ', w.H = H ∧ Own K w ∧ RepE K w.G ρ σ ∧ Rep K w.G d v ∧ gd d ρ = some ρ' ∧
  ∀ σ', RepE K w.G ρ' σ' → σ'.length = σ.length → (∀ j, j ∉ slots → σ'[j]? = σ[j]?) → Q σ' H
theorem sem_tOf {dt : DT} : Sem1 K (tOf K dt) dt := fun ρ σ w Q' Q hw he lk h => ⟨ρ, w, Q', rfl, hw, he, lk, h⟩
theorem sem_tOfB {dt : DTt} : SemB K (tOfB K dt) dt := fun ρ σ w Q' Q hw he lk h => ⟨ρ, w, Q', rfl, hw, he, lk, h⟩
theorem sem_gOf {gd : D → DEnv → Option DEnv} {slots : List Nat} : SemG K (gOf K gd slots) gd slots := ⟨fun w d v ρ ρ' σ Q hw he r e q => ⟨w, d, ρ, ρ', rfl, hw, he, r, e, q⟩⟩
theorem DE.canon {e : Expr} {dt : DT} (h : DE X e dt) : PE X e (tOf X.K dt) := by
  obtain ⟨t, p, f⟩ := h
  refine ⟨fun pins s σ H Q I ⟨ρ, w, Q', eH, hw, he, lk, q⟩ => p.run pins s σ H Q I ?_⟩
  subst eH
  exact f ρ σ w Q' Q hw he lk q
theorem DTs.canon {es : List Expr} {dt : DTt} (h : DTs X es dt) : PTs X es (tOfB X.K dt) := by
  obtain ⟨t, p, f⟩ := h
  refine ⟨fun pins s σ H Q I ⟨ρ, w, Q', eH, hw, he, lk, q⟩ => p.run pins s σ H Q I ?_⟩
  subst eH
  exact f ρ σ w Q' Q hw he lk q
theorem DG.canon {e : Expr} {gd : D → DEnv → Option DEnv} {slots : List Nat} (h : DG X e gd slots) : PG X e (gOf X.K gd slots) := by
  obtain ⟨t, p, f⟩ := h
  refine ⟨fun pins s σ H v u Q I r ⟨w, d, ρ, ρ', eH, hw, he, rd, e, q⟩ => p.run pins s σ H v u Q I r ?_⟩
  subst eH
  exact f.run w d v ρ ρ' σ Q hw he rd e q
variable {elt tg iter : Expr} {ifs : List Expr} {scope : Scope} {own : List (Str × Nat)} {pos : Pos} {di : DIt} {gd : D → DEnv → Option DEnv} {slots : List Nat} {dtt : DTt} {dte : DT}
/-- a comprehension's block -/
structure BlkD (B : Cx) (tg : Expr) (ifs : List Expr) (elt : Expr) (gd : D → DEnv → Option DEnv) (slots : List Nat) (dtt : DTt) (dte : DT) : Prop where
  g : DG B tg gd slots
  t : DTs B ifs dtt
  e : DE B elt dte
theorem de_lc {mk : List D → Ow → DQ → Prop} (hm : MkOk mk) (hc : Rdy X) (hN : X.N.Nodup) (hi : DI X tg iter di) (ok : BlkOk X.N X.env.scope scope own)
    (hb : ∀ (s : Shared) (H : Hp) (C : Addr) (cl : List (Str × Addr)) (fp : List Addr) (pn : List (Addr × Obj)), Up X (blkP X s H scope (compEnvC scope cl C X.env) fp pn) → BlkD (blkP X s H scope (compEnvC scope cl C X.env) fp pn) tg ifs elt gd slots dtt dte)
    (hv : ∀ i ∈ slots, i ∈ own.map (·.2) := by decide) (hs : ∀ x, foldedSetIterable iter X.env x = pure x := by intro _; rfl) :
    DE X (.ListComp elt [⟨tg, iter, ifs, 0⟩] scope pos) (dLc mk di gd dtt dte (own.map (·.2))) := by
  rcases hc with c | ⟨c, hot⟩
  · obtain ⟨wi, pi, fi⟩ := hi.cold c
    exact ⟨_, pe_lc c hN pi ok (fun s H C cl fp => (hb s H C cl fp [] (up_cold c)).g.canon) (fun s H C cl fp => (hb s H C cl fp [] (up_cold c)).t.canon) (fun s H C cl fp => (hb s H C cl fp [] (up_cold c)).e.canon) hs, sem_lc hm fi sem_gOf sem_tOfB sem_tOf hv⟩
  · obtain ⟨wi, pi, fi⟩ := hi.hot c hot
    exact ⟨_, pe_lcH hot hN pi ok hs (fun s H C cl fp => let b := hb s H C cl fp X.pn up_blk; ⟨b.g.canon, b.t.canon, b.e.canon⟩), sem_lc hm fi sem_gOf sem_tOfB sem_tOf hv⟩
end

/-! ### statements -/
structure DEnds where
  nx : DEnv → Ow → Prop
  rt : D → Ow → Prop
  bk : DEnv → Ow → Prop := fun _ _ => False
  ct : DEnv → Ow → Prop := fun _ _ => False
abbrev DS' := DEnds → DEnv → Ow → Prop
structure LkS (K : PySem.W.Frag) (w : Wd) (E : DEnds) (T : Ends) : Prop where
  nx : ∀ ρ σ w', Own K w' → Fr w w' → RepE K w'.G ρ σ → E.nx ρ w'.O → T.nx σ w'.H
  rt : ∀ d v w', Own K w' → Fr w w' → Rep K w'.G d v → E.rt d w'.O → T.rt v w'.H
  bk : ∀ ρ σ w', Own K w' → Fr w w' → RepE K w'.G ρ σ → E.bk ρ w'.O → T.bk σ w'.H
  ct : ∀ ρ σ w', Own K w' → Fr w w' → RepE K w'.G ρ σ → E.ct ρ w'.O → T.ct σ w'.H
theorem LkS.after {K : PySem.W.Frag} {w w1 : Wd} {E : DEnds} {T : Ends} (h : LkS K w E T) (f : Fr w w1) : LkS K w1 E T :=
  ⟨fun ρ σ w' a b => h.nx ρ σ w' a (f.trans b), fun d v w' a b => h.rt d v w' a (f.trans b), fun ρ σ w' a b => h.bk ρ σ w' a (f.trans b), fun ρ σ w' a b => h.ct ρ σ w' a (f.trans b)⟩
def SemS (K : PySem.W.Frag) (t : TS) (ds : DS') : Prop := ∀ ρ σ w E T, Own K w → RepE K w.G ρ σ → LkS K w E T → ds E ρ w.O → t T σ w.H
def DS (X : Cx) (st : Stmt) (ds : DS') : Prop := ∃ t, PS X st t ∧ SemS X.K t ds
def DSs (X : Cx) (st : List Stmt) (ds : DS') : Prop := ∃ t, PSs X st t ∧ SemS X.K t ds
section
variable {X : Cx} {K : PySem.W.Frag} {st : Stmt} {rest body els : List Stmt} {ds dr : DS'} {e a b c : Expr} {da db dc : DT} {dt : DTt} {pos : Pos}
def dNext : DS' := fun E ρ O => E.nx ρ O
def dThen (s r : DS') : DS' := fun E ρ O => s { E with nx := r E } ρ O
theorem dss_nil : DSs X [] dNext := ⟨_, pss_nil, fun ρ σ w E T hw he lk h => lk.nx ρ σ w hw (Fr.refl w) he h⟩
theorem dss_cons (h1 : DS X st ds) (h2 : DSs X rest dr) : DSs X (st :: rest) (dThen ds dr) := by
  obtain ⟨t, p, f⟩ := h1
  obtain ⟨u, q, g⟩ := h2
  refine ⟨_, pss_cons p q, fun ρ σ w E T hw he lk h => ?_⟩
  refine f ρ σ w { E with nx := dr E } { T with nx := u T } hw he ⟨fun ρ' σ' w' hw' f' he' h' => ?_, lk.rt, lk.bk, lk.ct⟩ h
  exact g ρ' σ' w' E T hw' he' (lk.after f') h'
theorem dss_one (h1 : DS X st ds) : DSs X [st] ds := let ⟨_, p, f⟩ := h1; ⟨_, pss_one p, f⟩
/-- an owned list of the slot i stands still from here on -/
def dFreeze (i : Nat) (r : DS') : DS' := fun E ρ O => ∃ p l, ρ[i]? = some (some (.ref p)) ∧ O p = some (.lst l) ∧ r E (ρ.set i (some (.lst l))) (O.del p)
theorem dss_freeze (i : Nat) (h : DSs X rest dr) : DSs X rest (dFreeze i dr) := by
  obtain ⟨t, p, f⟩ := h
  refine ⟨t, p, fun ρ σ w E T hw he lk ⟨q, l, e1, e2, h⟩ => ?_⟩
  obtain ⟨z1, x, z2, vs, z3, z4⟩ := hw.own q _ e2
  subst z3
  obtain ⟨v, e3, r⟩ := he.get i _ e1
  have fz := Fr.freeze (x := .lst vs) hw e2
  refine f _ σ (w.freeze q (.lst vs)) E T (hw.freeze e2 z2) ?_ (lk.after fz) h
  have he2 := (he.mono fz.gsub).set (i := i) (d := .lst l) (v := v) (by rw [r.ref_of]; exact Rep.lst (SqL.of upd_same) (z4.mono fz.gsub))
  have es : σ.set i (some v) = σ := by
    apply List.ext_getElem?
    intro j
    by_cases y : i = j
    · subst y
      rw [e3]
      exact List.getElem?_set_self (List.getElem?_eq_some_iff.mp e3).1
    · exact List.getElem?_set_ne y
  rw [es] at he2
  exact he2
/-- names forgotten, less owned -/
def dLess (fs : List Nat) (r : DS') : DS' := fun E ρ O => ∃ O', Ow.le O' O ∧ r E (forget ρ fs) O'
theorem dss_less (fs : List Nat) (h : DSs X rest dr) : DSs X rest (dLess fs dr) := by
  obtain ⟨t, p, f⟩ := h
  refine ⟨t, p, fun ρ σ w E T hw he lk ⟨O', l, h⟩ => ?_⟩
  exact f _ σ (w.drop O') E T (hw.drop l) (RepE.forget fs he) (lk.after (Fr.drop l)) h
/-- a word between two statements -/
def dCut (P : DEnv → Ow → Prop) (r : DS') : DS' := fun E ρ O => P ρ O ∧ ∀ ρ O, P ρ O → r E ρ O
theorem ds_pass : DS X (.Pass pos) dNext := ⟨_, ps_pass, fun ρ σ w E T hw he lk h => lk.nx ρ σ w hw (Fr.refl w) he h⟩
theorem ds_doc {x j pos pos'} : DS X (.Expr (.Constant (.str x) j pos) pos') dNext := ⟨_, ps_doc, fun ρ σ w E T hw he lk h => lk.nx ρ σ w hw (Fr.refl w) he h⟩
def dBreak : DS' := fun E ρ O => E.bk ρ O
def dCont : DS' := fun E ρ O => E.ct ρ O
theorem ds_break : DS X (.Break pos) dBreak := ⟨_, ps_break, fun ρ σ w E T hw he lk h => lk.bk ρ σ w hw (Fr.refl w) he h⟩
theorem ds_continue : DS X (.Continue pos) dCont := ⟨_, ps_continue, fun ρ σ w E T hw he lk h => lk.ct ρ σ w hw (Fr.refl w) he h⟩
def dNever : DS' := fun _ _ _ => False
theorem ds_never : DS X st dNever := ⟨_, ps_never, fun ρ σ w E T hw he lk h => h.elim⟩
theorem dss_never {sts : List Stmt} : DSs X sts dNever := ⟨_, pss_never, fun ρ σ w E T hw he lk h => h.elim⟩
def dDrop (da : DT) : DS' := fun E ρ O => da ρ O fun _ O1 => E.nx ρ O1
theorem ds_expr (h : DE X e da) (hs : swapsWith e none pos.line X.env = pure false := by rfl) : DS X (.Expr e pos) (dDrop da) := by
  obtain ⟨t, p, f⟩ := h
  refine ⟨_, ps_expr p hs, fun ρ σ w E T hw he lk h => ?_⟩
  exact f ρ σ w _ _ hw he (fun d v w' hw' f' r h' => lk.nx ρ σ w' hw' f' (he.mono f'.gsub) h') h
def dRet (da : DT) : DS' := fun E ρ O => da ρ O E.rt
theorem ds_ret (h : DE X e da) : DS X (.Return (some e) pos) (dRet da) := by
  obtain ⟨t, p, f⟩ := h
  refine ⟨_, ps_ret p, fun ρ σ w E T hw he lk h => ?_⟩
  exact f ρ σ w _ _ hw he (fun d v w' hw' f' r h' => lk.rt d v w' hw' f' r h') h
def dRetN : DS' := fun E _ O => E.rt .non O
theorem ds_retN : DS X (.Return none pos) dRetN := ⟨_, ps_retN, fun ρ σ w E T hw he lk h => lk.rt .non .non w hw (Fr.refl w) .non h⟩
def dIfS (c : DTt) (s r : DS') : DS' := fun E ρ O => c ρ O fun b O1 => if b = true then s E ρ O1 else r E ρ O1
theorem ds_if (hc : DB X c dt) (ha : DSs X body ds) (hb : DSs X els dr) : DS X (.If c body els pos) (dIfS dt ds dr) := by
  obtain ⟨tc, p, f⟩ := hc
  obtain ⟨ta, q, g⟩ := ha
  obtain ⟨tb, q2, g2⟩ := hb
  refine ⟨_, ps_if p q q2, fun ρ σ w E T hw he lk h => ?_⟩
  refine f ρ σ w _ _ hw he (fun k w' hw' f' h' => ?_) h
  cases k with
  | true => exact g ρ σ w' E T hw' (he.mono f'.gsub) (lk.after f') h'
  | false => exact g2 ρ σ w' E T hw' (he.mono f'.gsub) (lk.after f') h'
def dAsg (da : DT) (gd : D → DEnv → Option DEnv) : DS' := fun E ρ O => da ρ O fun d O1 => ∃ ρ', gd d ρ = some ρ' ∧ E.nx ρ' O1
theorem sem_asg {te : TE} {g : TG} {gd : D → DEnv → Option DEnv} {slots : List Nat} (f : Sem1 K te da) (fg : SemG K g gd slots) : SemS K (tAsg te g) (dAsg da gd) := by
  intro ρ σ w E T hw he lk h
  refine f ρ σ w _ _ hw he (fun d v w' hw' f' r ⟨ρ', e, h'⟩ => ?_) h
  exact fg.run w' d v ρ ρ' σ _ hw' (he.mono f'.gsub) r e fun σ' he' _ _ => lk.nx ρ' σ' w' hw' f' he' h'
theorem ds_set {i : Nat} {x : Str} {pos' : Pos} (hN : X.N.Nodup) (hi : X.N[i]? = some x) (hx : Loc X.env.scope x) (h : DE X e da) (hs : swapsWith e (some (.Name x pos')) pos.line X.env = pure false := by rfl) (hf : X.fn x = true ∨ X.env.scope.names.lookup x = some .local := by first | exact .inl rfl | exact .inr rfl | assumption) :
    DS X (.Assign [.Name x pos'] e pos) (dAsg da (tgN i)) := by
  obtain ⟨t, p, f⟩ := h
  exact ⟨_, ps_set hN hi hx p hs hf, sem_asg f sem_gName⟩
theorem ds_asg {tg : Expr} {gd : D → DEnv → Option DEnv} {slots : List Nat} (h : DE X e da) (hg : DG X tg gd slots) (hs : swapsWithSole [tg] e pos.line X.env = pure false := by rfl) (hw : swappedStores [tg] e X.env = pure none := by rfl)
    (h1 : (assignEach [tg] X.env).map (·.2) = [assign tg X.env] := by rfl) : DS X (.Assign [tg] e pos) (dAsg da gd) := by
  obtain ⟨t, p, f⟩ := h
  obtain ⟨g, q, k⟩ := hg
  exact ⟨_, ps_asg p q hs hw h1, sem_asg f k⟩
/-- name = [..] on one line -/
theorem ds_setLc {i : Nat} {y : Str} {py spos : Pos} {elt tg iter : Expr} {ifs : List Expr} {scope : Scope} {own : List (Str × Nat)} {di : DIt} {gd : D → DEnv → Option DEnv} {slots : List Nat} {dtt : DTt} {dte : DT}
    {mk : List D → Ow → DQ → Prop} (hm : MkOk mk) (hc : Rdy X) (hN : X.N.Nodup) (hy : X.N[i]? = some y) (hyl : X.env.scope.names.lookup y = some .local)
    (hsw : swapsWith (.ListComp elt [⟨tg, iter, ifs, 0⟩] scope pos) (some (.Name y py)) spos.line X.env = pure true) (hi : DI X tg iter di) (ok : BlkOk X.N X.env.scope scope own)
    (hb : ∀ (s : Shared) (H : Hp) (C : Addr) (cl : List (Str × Addr)) (fp : List Addr) (pn : List (Addr × Obj)), Up X (blkP X s H scope (compEnvC scope cl C X.env) fp pn) → BlkD (blkP X s H scope (compEnvC scope cl C X.env) fp pn) tg ifs elt gd slots dtt dte)
    (hv : ∀ i ∈ slots, i ∈ own.map (·.2) := by decide) (hs : ∀ x, foldedSetIterable iter X.env x = pure x := by intro _; rfl) :
    DS X (.Assign [.Name y py] (.ListComp elt [⟨tg, iter, ifs, 0⟩] scope pos) spos) (dAsg (dLc mk di gd dtt dte (own.map (·.2))) (tgN i)) := by
  rcases hc with c | ⟨c, hot⟩
  · obtain ⟨wi, pi, fi⟩ := hi.cold c
    exact ⟨_, ps_setLc c hN hy hyl hsw pi ok (fun s H C cl fp => (hb s H C cl fp [] (up_cold c)).g.canon) (fun s H C cl fp => (hb s H C cl fp [] (up_cold c)).t.canon) (fun s H C cl fp => (hb s H C cl fp [] (up_cold c)).e.canon) hs, sem_asg (sem_lc hm fi sem_gOf sem_tOfB sem_tOf hv) sem_gName⟩
  · obtain ⟨wi, pi, fi⟩ := hi.hot c hot
    exact ⟨_, ps_setLcH hot hN hy hyl hsw pi ok hs (fun s H C cl fp => let b := hb s H C cl fp X.pn up_blk; ⟨b.g.canon, b.t.canon, b.e.canon⟩), sem_asg (sem_lc hm fi sem_gOf sem_tOfB sem_tOf hv) sem_gName⟩
/-- a, b = x, y -/
def dPar (i j : Nat) (dl : DTa) : DS' := fun E ρ O => dl ρ O fun ds O1 => match ds with
  | [d, e] => E.nx ((ρ.set i (some d)).set j (some e)) O1
  | _ => False
/-- o[i] = e -/
def dSetI (da doo di : DT) : DS' := fun E ρ O => da ρ O fun d O1 => doo ρ O1 fun o O2 => di ρ O2 fun k O3 => match o, k with
  | .ref p, .int n => ∃ l, O3 p = some (.lst l) ∧ ∃ j, ixN l.length n = some j ∧ E.nx ρ (O3.set p (.lst (l.set j d)))
  | _, _ => False
theorem set_owned {w : Wd} {p : Addr} {l l' : List D} {vs : List V} (hw : Own K w) (e : w.O p = some (.lst l)) (r : Reps K w.G l' vs) : Own K (w.give p (.lst l') (.lst vs)) ∧ Fr w (w.give p (.lst l') (.lst vs)) :=
  ⟨hw.write e ⟨vs, rfl, r⟩, Fr.write hw e⟩
theorem ds_setI {o i : Expr} {doo di : DT} {pos' : Pos} (h : DE X e da) (ho : DE X o doo) (hi : DE X i di)
    (ha : ∀ v, assign (.Subscript o i pos') X.env v = (do
      let ov ← holding [v] (eval o X.env)
      let iv ← holding [v, ov] (eval i X.env)
      standAt pos'
      holding [v, ov, iv] (setItem ov iv v)
      release [v, ov, iv] []) := by intro _; rfl)
    (hs : swapsWithSole [.Subscript o i pos'] e pos.line X.env = pure false := by rfl) (hw : swappedStores [.Subscript o i pos'] e X.env = pure none := by rfl)
    (h1 : (assignEach [.Subscript o i pos'] X.env).map (·.2) = [assign (.Subscript o i pos') X.env] := by rfl) : DS X (.Assign [.Subscript o i pos'] e pos) (dSetI da doo di) := by
  obtain ⟨t, p, f⟩ := h
  obtain ⟨to, po, fo⟩ := ho
  obtain ⟨ti, pi, fi⟩ := hi
  refine ⟨_, ps_asg p (pg_sub po pi set_list ha) hs hw h1, fun ρ σ w E T hw0 he lk h => ?_⟩
  refine f ρ σ w _ _ hw0 he (fun d v w1 hw1 f1 r1 h1 => ?_) h
  refine fo ρ σ w1 _ _ hw1 (he.mono f1.gsub) (fun x vx w2 hw2 f2 r2 h2 => ?_) h1
  refine fi ρ σ w2 _ _ hw2 (he.mono (f1.gsub.trans f2.gsub)) (fun k vk w3 hw3 f3 r3 h3 => ?_) h2
  cases x with
  | ref q =>
    cases k with
    | int n =>
      obtain ⟨l, e1, j, e2, h3⟩ := h3
      obtain ⟨z1, x, z2, vs, z3, z4⟩ := hw3.own q _ e1
      subst z3
      refine ⟨q, vs, n, j, r2.ref_of, r3.int_of, z2, by rw [← z4.length]; exact e2, ?_⟩
      have rd : Rep X.K w3.G d v := r1.mono (f2.gsub.trans f3.gsub)
      obtain ⟨o1, o2⟩ := set_owned hw3 e1 (Reps.set rd j z4)
      exact lk.nx ρ σ _ o1 (f1.trans (f2.trans (f3.trans o2))) ((he.mono (f1.gsub.trans (f2.gsub.trans f3.gsub))).mono o2.gsub) h3
    | _ => exact h3.elim
  | _ => exact h3.elim
/-! x += e, of ints; xs[i] += e, of ints -/
def dAug (i : Nat) (g : Int → Int → Int) (da : DT) : DS' := fun E ρ O => ∃ x, ρ[i]? = some (some (.int x)) ∧ da ρ O fun d O1 => match d with
  | .int y => E.nx (ρ.set i (some (.int (g x y)))) O1
  | _ => False
theorem ds_aug {i : Nat} {x : Str} {op : Operator} {g : Int → Int → Int} {pos' : Pos} (hN : X.N.Nodup) (hi : X.N[i]? = some x) (hx : Loc X.env.scope x) (h : DE X e da) (ho : PIp X op (ipI g)) (hf : X.fn x = true ∨ X.env.scope.names.lookup x = some .local := by first | exact .inl rfl | exact .inr rfl | assumption) :
    DS X (.AugAssign (.Name x pos') op e pos) (dAug i g da) := by
  obtain ⟨t, p, f⟩ := h
  refine ⟨_, ps_aug hN hi hx p ho hf, fun ρ σ w E T hw he lk ⟨x, ex, h⟩ => ?_⟩
  obtain ⟨v, ev, r⟩ := he.get i _ ex
  refine ⟨v, ev, ?_⟩
  refine f ρ σ w _ _ hw he (fun d u w1 hw1 f1 r1 h1 => ?_) h
  cases d with
  | int y => exact ⟨x, y, r.int_of, r1.int_of, lk.nx _ _ w1 hw1 f1 ((he.mono f1.gsub).set (.int _)) h1⟩
  | _ => exact h1.elim
theorem get_list : PGet X (rIxL X.K) := by
  intro pins s σ H x y v u Q I rx ry h
  obtain ⟨p, xs, i, z, rfl, rfl, hq, he, q⟩ := h
  cases rx
  obtain ⟨t, rfl⟩ := ry
  obtain ⟨its, r, pl, hz⟩ := I.list hq
  obtain ⟨j, h1, h2, h3, h4, h5⟩ := atI_get he
  obtain ⟨w, ew, rw'⟩ := r.get h2
  have hl := r.length
  have hn := line63
  have fin : EP X pins σ Q w s := ⟨z, H, I, rw', q⟩
  by_cases h0 : 0 ≤ i
  · have hj : i.toNat = j := by
      rw [seqIndex_of h0 h5] at h1
      exact Option.some.inj h1
    exact wpAny_getItem_list pl.isList h0 (by omega) (by rw [hj]; simpa using ew) fin
  · have hj : (i + (its.toArray.size : Int)).toNat = j := by
      rw [seqIndex_neg (by omega) h4] at h1
      rw [List.size_toArray, ← hl]
      exact Option.some.inj h1
    exact wpAny_getItem_list_neg pl.isList (by omega) (by rw [List.size_toArray] <;> omega) (by omega) (by rw [hj]; simpa using ew) fin
def dAugI (g : Int → Int → Int) (doo di da : DT) : DS' := fun E ρ O => doo ρ O fun o O1 => di ρ O1 fun k O2 => match o, k with
  | .ref p, .int n => ∃ l, O2 p = some (.lst l) ∧ ∃ x, atI l n = some (.int x) ∧ da ρ O2 fun d O3 => match d with
    | .int y => ∃ l2, O3 p = some (.lst l2) ∧ ∃ j, ixN l2.length n = some j ∧ E.nx ρ (O3.set p (.lst (l2.set j (.int (g x y)))))
    | _ => False
  | _, _ => False
theorem ds_augI {o i : Expr} {op : Operator} {g : Int → Int → Int} {doo di : DT} {tpos : Pos} (ho : DE X o doo) (hi : DE X i di) (h : DE X e da) (hp : PIp X op (ipI g))
    (ha : ∀ ov iv new, augStore i ov iv new = (do holding [new, ov, iv] (setItem ov iv new); release [new, ov, iv] []; pure .next) := by intros; rfl) : DS X (.AugAssign (.Subscript o i tpos) op e pos) (dAugI g doo di da) := by
  obtain ⟨t, p, f⟩ := h
  obtain ⟨to, po, fo⟩ := ho
  obtain ⟨ti, pi, fi⟩ := hi
  refine ⟨_, ps_augS po pi get_list p hp set_list ha, fun ρ σ w E T hw0 he lk h => ?_⟩
  refine fo ρ σ w _ _ hw0 he (fun x vx w1 hw1 f1 r1 h1 => ?_) h
  refine fi ρ σ w1 _ _ hw1 (he.mono f1.gsub) (fun k vk w2 hw2 f2 r2 h2 => ?_) h1
  cases x with
  | ref q =>
    cases k with
    | int n =>
      obtain ⟨l, e1, x, e2, h2⟩ := h2
      obtain ⟨z1, y, z2, vs, z3, z4⟩ := hw2.own q _ e1
      subst z3
      obtain ⟨v, e3, rv⟩ := atI_rep z4 e2
      refine ⟨q, vs, n, v, r1.ref_of, r2.int_of, SqL.of z2, e3, ?_⟩
      refine f ρ σ w2 _ _ hw2 (he.mono (f1.gsub.trans f2.gsub)) (fun d u w3 hw3 f3 r3 h3 => ?_) h2
      cases d with
      | int y =>
        obtain ⟨l2, e4, j, e5, h3⟩ := h3
        obtain ⟨y1, y', y2, us, y3, y4⟩ := hw3.own q _ e4
        subst y3
        refine ⟨x, y, rv.int_of, r3.int_of, q, us, n, j, r1.ref_of, r2.int_of, y2, by rw [← y4.length]; exact e5, ?_⟩
        obtain ⟨o1, o2⟩ := set_owned hw3 e4 (Reps.set (K := X.K) (G := w3.G) (.int (g x y)) j y4)
        exact lk.nx ρ σ _ o1 (f1.trans (f2.trans (f3.trans o2))) ((he.mono (f1.gsub.trans (f2.gsub.trans f3.gsub))).mono o2.gsub) h3
      | _ => exact h3.elim
    | _ => exact h2.elim
  | _ => exact h2.elim
/-! for, while -/
def forLoop (gd : D → DEnv → Option DEnv) (body : DS') (fs : List Nat) (stay : Ow → Prop) (E : DEnds) : List D → DEnv → Ow → Prop
  | [], ρ, O => E.nx ρ O
  | d :: r, ρ, O => ∃ ρ', gd d ρ = some ρ' ∧ body { E with
      nx := fun ρ2 O2 => ∃ O3, Ow.le O3 O2 ∧ stay O3 ∧ forLoop gd body fs stay E r (forget ρ2 fs) O3
      ct := fun ρ2 O2 => ∃ O3, Ow.le O3 O2 ∧ stay O3 ∧ forLoop gd body fs stay E r (forget ρ2 fs) O3
      bk := E.nx } ρ' O
/-- fs: the names that are forgotten at a turn's end -/
def dFor (di : DIt) (gd : D → DEnv → Option DEnv) (body : DS') (fs : List Nat) : DS' := fun E ρ O => di ρ O fun items stay O1 => stay O1 ∧ forLoop gd body fs stay E items (forget ρ fs) O1
theorem sem_for {wi : TI} {g : TG} {tb : TS} {di : DIt} {gd : D → DEnv → Option DEnv} {slots : List Nat} {ds : DS'} (fs : List Nat) (fi : SemI X.K wi di) (fg : SemG X.K g gd slots) (fb : SemS X.K tb ds) : SemS X.K (tFor wi g tb) (dFor di gd ds fs) := by
  refine fun ρ σ w E T hw he lk h => ?_
  refine fi ρ σ w _ _ hw he (fun items stay J w1 hw1 f1 W ⟨hst, h1⟩ => ?_) h
  let P : Nat → L2.St → Hp → Prop := fun i σ H => ∃ ρ w2, w2.H = H ∧ Own X.K w2 ∧ Fr w1 w2 ∧ RepE X.K w2.G ρ σ ∧ stay w2.O ∧ forLoop gd ds fs stay E (items.drop i) ρ w2.O
  refine ⟨fun i m σ H => m = items.length - i ∧ i ≤ items.length ∧ P i σ H, ⟨items.length, by simp, Nat.zero_le _, forget ρ fs, w1, rfl, hw1, Fr.refl w1, RepE.forget fs (he.mono f1.gsub), hst, by simpa using h1⟩, ?_⟩
  rintro i m σ' H ⟨rfl, hi, ρ2, w2, rfl, hw2, f2, he2, st2, hl⟩
  by_cases hlt : i < items.length
  · refine .inr ⟨W.go i w2 hw2 f2 st2 hlt, P (i + 1), fun σ'' H' p' => ⟨items.length - (i + 1), by omega, rfl, hlt, p'⟩, fun x H' y => ?_⟩
    rw [List.drop_eq_getElem_cons hlt] at hl
    obtain ⟨ρ', eg, hl⟩ := hl
    obtain ⟨w3, eH, eO, hw3, f3, r3⟩ := W.yld i w2 x H' hw2 f2 st2 y items[i] (List.getElem?_eq_getElem hlt)
    subst eH
    refine fg.run w3 _ x ρ2 ρ' σ' _ hw3 (he2.mono f3.gsub) r3 eg fun σ4 he4 _ _ => ?_
    rw [← eO] at hl
    have fr3 : Fr w w3 := f1.trans (f2.trans f3)
    have next : ∀ ρ5 σ5 w5, Own X.K w5 → Fr w3 w5 → RepE X.K w5.G ρ5 σ5 → (∃ O3, Ow.le O3 w5.O ∧ stay O3 ∧ forLoop gd ds fs stay E (items.drop (i + 1)) (forget ρ5 fs) O3) → P (i + 1) σ5 w5.H :=
      fun ρ5 σ5 w5 hw5 f5 he5 ⟨O3, l3, s3, h5⟩ => ⟨forget ρ5 fs, w5.drop O3, rfl, hw5.drop l3, f2.trans (f3.trans (f5.trans (Fr.drop l3))), RepE.forget fs he5, s3, h5⟩
    refine fb ρ' σ4 w3 _ { T with nx := P (i + 1), ct := P (i + 1), bk := T.nx } hw3 he4 ?_ hl
    exact ⟨next, fun d v w5 a b => lk.rt d v w5 a (fr3.trans b), fun ρ5 σ5 w5 a b => lk.nx ρ5 σ5 w5 a (fr3.trans b), next⟩
  · have e : i = items.length := by omega
    subst e
    rw [List.drop_length] at hl
    exact .inl ⟨W.stop w2 hw2 f2 st2, lk.nx ρ2 σ' w2 hw2 (f1.trans f2) he2 hl⟩
theorem ds_for {tg iter : Expr} {di : DIt} {gd : D → DEnv → Option DEnv} {slots : List Nat} (fs : List Nat) (hp : PassesOwn (model X.prog X.w) X.A X.env X.xe) (hc : Rdy X) (hi : DI X tg iter di) (hg : DG X tg gd slots) (hb : DSs X body ds)
    (hs : ∀ x, foldedSetIterable iter X.env x = pure x := by intro _; rfl) : DS X (.For tg iter body [] pos) (dFor di gd ds fs) := by
  obtain ⟨g, pg, fg⟩ := hg
  obtain ⟨tb, pb, fb⟩ := hb
  rcases hc with c | ⟨c, hot⟩
  · obtain ⟨wi, pi, fi⟩ := hi.cold c
    exact ⟨_, L2.ps_for hp c pi pg pb hs, sem_for fs fi fg fb⟩
  · obtain ⟨wi, pi, fi⟩ := hi.hot c hot
    exact ⟨_, L2H.ps_forH hp hot pi pg pb hs, sem_for fs fi fg fb⟩
def dWhile (c : DTt) (body : DS') (fs : List Nat) : DS' := fun E ρ O => ∃ W : Nat → DEnv → Ow → Prop, (∃ m, W m (forget ρ fs) O) ∧ ∀ m ρ O, W m ρ O →
  c ρ O fun b O1 => if b = true then body { E with
      nx := fun ρ2 O2 => ∃ O3 m', Ow.le O3 O2 ∧ m' < m ∧ W m' (forget ρ2 fs) O3
      ct := fun ρ2 O2 => ∃ O3 m', Ow.le O3 O2 ∧ m' < m ∧ W m' (forget ρ2 fs) O3
      bk := E.nx } ρ O1 else E.nx ρ O1
theorem ds_while (fs : List Nat) (hp : PassesOwn (model X.prog X.w) X.A X.env X.xe) (hc : DB X c dt) (hb : DSs X body ds) : DS X (.While c body [] pos) (dWhile dt ds fs) := by
  obtain ⟨tc, p, f⟩ := hc
  obtain ⟨tb, q, g⟩ := hb
  refine ⟨_, ps_while hp p q, fun ρ σ w E T hw he lk ⟨W, ⟨m0, w0⟩, turn⟩ => ?_⟩
  refine ⟨fun m σ H => ∃ ρ w2, w2.H = H ∧ Own X.K w2 ∧ Fr w w2 ∧ RepE X.K w2.G ρ σ ∧ W m ρ w2.O, ⟨m0, _, w, rfl, hw, Fr.refl w, RepE.forget fs he, w0⟩, ?_⟩
  rintro m σ2 H ⟨ρ2, w2, rfl, hw2, f2, he2, h2⟩
  refine f ρ2 σ2 w2 _ _ hw2 he2 (fun b w3 hw3 f3 h3 => ?_) (turn m ρ2 w2.O h2)
  cases b with
  | false => exact lk.nx ρ2 σ2 w3 hw3 (f2.trans f3) (he2.mono f3.gsub) h3
  | true =>
    rw [if_pos rfl] at h3 ⊢
    let N : L2.St → Hp → Prop := fun σ5 H5 => ∃ m', m' < m ∧ ∃ ρ5 w5, w5.H = H5 ∧ Own X.K w5 ∧ Fr w w5 ∧ RepE X.K w5.G ρ5 σ5 ∧ W m' ρ5 w5.O
    refine ⟨N, fun σ' H' h => h, ?_⟩
    have next : ∀ ρ5 σ5 w5, Own X.K w5 → Fr w3 w5 → RepE X.K w5.G ρ5 σ5 → (∃ O3 m', Ow.le O3 w5.O ∧ m' < m ∧ W m' (forget ρ5 fs) O3) → N σ5 w5.H :=
      fun ρ5 σ5 w5 hw5 f5 he5 ⟨O3, m', l3, lm, h5⟩ => ⟨m', lm, forget ρ5 fs, w5.drop O3, rfl, hw5.drop l3, f2.trans (f3.trans (f5.trans (Fr.drop l3))), RepE.forget fs he5, h5⟩
    refine g ρ2 σ2 w3 _ { T with nx := N, ct := N, bk := T.nx } hw3 (he2.mono f3.gsub) ?_ h3
    exact ⟨next, fun d v w5 a b => lk.rt d v w5 a (f2.trans (f3.trans b)), fun ρ5 σ5 w5 a b => lk.nx ρ5 σ5 w5 a (f2.trans (f3.trans b)), next⟩
end

/-! ### a def keeps its promise -/
theorem Reps.begun {K : PySem.W.Frag} {G : Hp} {N : List Str} {ds : List D} {vs : List V} (h : Reps K G ds vs) : RepE K G (ds.map some ++ List.replicate (N.length - ds.length) none) (L2.start N vs) := by
  unfold L2.start
  rw [h.length]
  refine ⟨by simp [h.length], fun i d e => ?_⟩
  by_cases hi : i < ds.length
  · rw [List.getElem?_append_left (by simpa using hi), List.getElem?_map] at e
    cases q : ds[i]? with
    | none => rw [q] at e; cases e
    | some d' =>
      rw [q] at e
      cases e
      obtain ⟨v, e1, r⟩ := h.get q
      refine ⟨v, ?_, r⟩
      rw [List.getElem?_append_left (by rw [List.length_map, ← h.length]; exact hi), List.getElem?_map, e1]
      rfl
  · rw [List.getElem?_append_right (by simpa using hi)] at e
    have := List.getElem?_eq_some_iff.mp e
    obtain ⟨hh, e2⟩ := this
    rw [List.getElem_replicate] at e2
    cases e2
def startD (n : Nat) (ds : List D) : DEnv := ds.map some ++ List.replicate (n - ds.length) none
/-- what is handed back, less owned if wished -/
def rtEnds (Q : DQ) : DEnds := { nx := fun _ O => ∃ O', Ow.le O' O ∧ Q .non O', rt := fun d O => ∃ O', Ow.le O' O ∧ Q d O' }
section
variable {P : Program} {w : World} {K : PySem.W.Frag} {mg : Str → Option Value} {base : Heap}
theorem fn_ok {x qual : Str} {st : Stmt} {f : Addr} {fd : FuncData} {N ps : List Str} {k : Nat} {b : Bool} {s : DL} (F : Fun K x qual st f fd) (S : FnScope N ps (defScope st))
    (len : ∀ ds O Q, s ds O Q → ds.length = ps.length)
    (hbody : ∀ (cdv : Value) (A : Around) (outer : List Env) (s' : Shared) (H : Hp) (E : XK) (c : Bool) (pn : List (Addr × Obj)), (c = true ∨ b = true) → Rm k (bodyX P w K mg base N qual (defScope st) f cdv A outer s' H E c pn) →
      ∃ d, DSs (bodyX P w K mg base N qual (defScope st) f cdv A outer s' H E c pn) (defBody st) d ∧ ∀ ds O Q, s ds O Q → d (rtEnds Q) (startD N.length ds) O) :
    FnB P w K mg base b (k + 1) f fd ps (Prom K s) := by
  refine fun_okB F S (fun vs H Q E ⟨ds, w1, Q', _, _, r, _, h⟩ => ?_) (fun cdv A outer s' H vs Q E c pn hc hr ⟨ds, w1, Q', eH, hw, r, lk, h⟩ => ?_)
  · rw [← r.length]; exact len _ _ _ h
  obtain ⟨d, ⟨t, p, f⟩, hd⟩ := hbody cdv A outer s' H E c pn hc hr
  refine ⟨t, p, ?_⟩
  subst eH
  refine f _ _ w1 (rtEnds Q') { nx := fun _ H' => Q .non H', rt := Q } hw r.begun ⟨?_, ?_, fun _ _ _ _ _ _ z => z.elim, fun _ _ _ _ _ _ z => z.elim⟩ (hd ds w1.O Q' h)
  · exact fun ρ σ w' hw' f' _ ⟨O', l, q⟩ => lk .non .non (w'.drop O') (hw'.drop l) (f'.trans (Fr.drop l)) .non q
  · exact fun d v w' hw' f' rd ⟨O', l, q⟩ => lk d v (w'.drop O') (hw'.drop l) (f'.trans (Fr.drop l)) rd q
end
end SB

namespace SB
open PySem PySem.Spec PyProof.Rows L2

/-! ### built-ins -/
section
variable {K : PySem.W.Frag} {X : Cx}
/-! abs -/
def dAbs : DL := fun xs O Q => match xs with
  | [.int i] => Q (.int i.natAbs) O
  | _ => False
theorem o_abs : OpL K (fun xs H Q => ∃ i, xs = [.int i] ∧ Q (.int (if i < 0 then -i else i)) H) dAbs := by
  intro w xs vs Q' Q hw rs lk h
  unfold dAbs at h
  split at h
  · rename_i i
    refine ⟨i, rs.int1, ?_⟩
    rw [show (if i < 0 then -i else i) = ((i.natAbs : Nat) : Int) by split <;> omega]
    exact lk _ _ w hw (Fr.refl w) (.int _) h
  · exact h.elim
/-! int(n), int(flag) -/
def dInt1 : DL := fun xs O Q => match xs with
  | [.int i] => Q (.int i) O
  | [.bl k] => Q (.int (if k then 1 else 0)) O
  | _ => False
theorem Reps.bl1 {G : Hp} {i : Bool} {vs : List V} (h : Reps K G [.bl i] vs) : vs = [.bl i] := by
  obtain ⟨v, e, r⟩ := h.one1
  rw [e, r.bl_of]
theorem Reps.str1 {G : Hp} {i : Str} {vs : List V} (h : Reps K G [.str i] vs) : vs = [.str i] := by
  obtain ⟨v, e, r⟩ := h.one1
  rw [e, r.str_of]
theorem o_int1 : OpL K (fun xs H Q => (∃ i, xs = [.int i] ∧ Q (.int i) H) ∨ ∃ k, xs = [.bl k] ∧ Q (.int (if k then 1 else 0)) H) dInt1 := by
  intro w xs vs Q' Q hw rs lk h
  unfold dInt1 at h
  split at h
  · exact .inl ⟨_, rs.int1, lk _ _ w hw (Fr.refl w) (.int _) h⟩
  · exact .inr ⟨_, rs.bl1, lk _ _ w hw (Fr.refl w) (.int _) h⟩
  · exact h.elim
/-! len -/
def dLen : DL := fun xs O Q => match xs with
  | [.str z] => z.length ≤ sizeLine ∧ Q (.int z.length) O
  | [x] => ∃ l, qv O x = some l ∧ Q (.int l.length) O
  | _ => False
theorem call_lenA : CallR X (.builtin "len") (fun xs H Q => (∃ p ys, xs = [.ref p] ∧ (SqL X.K H p ys ∨ SqT X.K H p ys) ∧ Q (.int ys.length) H) ∨ ∃ z, xs = [.str z] ∧ z.length ≤ sizeLine ∧ Q (.int z.length) H) := call_len_seq.or call_len_str
theorem o_len : OpL K (fun xs H Q => (∃ p ys, xs = [.ref p] ∧ (SqL K H p ys ∨ SqT K H p ys) ∧ Q (.int ys.length) H) ∨ ∃ z, xs = [.str z] ∧ z.length ≤ sizeLine ∧ Q (.int z.length) H) dLen := by
  intro w xs vs Q' Q hw rs lk h
  unfold dLen at h
  split at h
  · exact .inr ⟨_, rs.str1, h.1, lk _ _ w hw (Fr.refl w) (.int _) h.2⟩
  · obtain ⟨l, e, q⟩ := h
    obtain ⟨v, ev, r⟩ := rs.one1
    obtain ⟨a, us, z, sq, r2⟩ := qv_rep hw r e
    refine .inl ⟨a, us, by rw [ev, z], sq, ?_⟩
    rw [← r2.length]
    exact lk _ _ w hw (Fr.refl w) (.int _) q
  · exact h.elim
/-! tuple(x), list(x) -/
def dTuple : DL := fun xs O Q => match xs with
  | [x] => ∃ l, qv O x = some l ∧ Q (.tup l) O
  | _ => False
theorem o_tuple : OpL K (fun xs H Q => ∃ p ys, xs = [.ref p] ∧ ((SqL K H p ys ∧ ∀ l, H l = none → Q (.ref l) (upd H l (.tup ys))) ∨ (SqT K H p ys ∧ Q (.ref p) H))) dTuple := by
  intro w xs vs Q' Q hw rs lk h
  unfold dTuple at h
  split at h
  rotate_left
  · exact h.elim
  rename_i x
  obtain ⟨l, e, q⟩ := h
  obtain ⟨v, ev, r⟩ := rs.one1
  by_cases ht : ∃ m, x = .tup m
  · obtain ⟨m, em⟩ := ht
    subst em
    have e' : m = l := by simpa [qv] using e
    subst e'
    obtain ⟨a, us, z, sq, r2⟩ := r.tup_of
    exact ⟨a, us, by rw [ev, z], .inr ⟨Same.seqT hw.sub sq, lk _ _ w hw (Fr.refl w) (Rep.tup sq r2) q⟩⟩
  · have hn : ∀ m, x ≠ .tup m := fun m y => ht ⟨m, y⟩
    obtain ⟨a, us, z, sq, r2⟩ := lv_rep hw r (by rw [← qv_lv hn (l := l)]; exact e)
    exact ⟨a, us, by rw [ev, z], .inl ⟨sq, fun p hp => tup_still hw hp r2 lk q⟩⟩
def dList (mk : List D → Ow → DQ → Prop) : DL := fun xs O Q => match xs with
  | [x] => ∃ l, qv O x = some l ∧ mk l O Q
  | _ => False
theorem o_list {mk : List D → Ow → DQ → Prop} (hm : MkOk mk) : OpL K (fun xs H Q => ∃ p ys, xs = [.ref p] ∧ (SqL K H p ys ∨ SqT K H p ys) ∧ ∀ l, H l = none → Q (.ref l) (upd H l (.lst ys))) (dList mk) := by
  intro w xs vs Q' Q hw rs lk h
  unfold dList at h
  split at h
  rotate_left
  · exact h.elim
  obtain ⟨l, e, q⟩ := h
  obtain ⟨v, ev, r⟩ := rs.one1
  obtain ⟨a, us, z, sq, r2⟩ := qv_rep hw r e
  exact ⟨a, us, by rw [ev, z], sq, fun p hp => hm K w _ _ Q' Q p hw hp r2 lk q⟩
/-! sum of ints, all and any of bools -/
theorem Reps.ints {G : Hp} : ∀ {ns : List Int} {vs : List V}, Reps K G (ns.map D.int) vs → vs = ns.map V.int
  | [], vs, h => by simp only [List.map_nil, Reps] at h; rw [h]; rfl
  | n :: ns, vs, h => by
    simp only [List.map_cons, Reps] at h
    obtain ⟨v, r, e, h1, h2⟩ := h
    rw [e, h1.int_of, Reps.ints h2]; rfl
theorem Reps.bls {G : Hp} : ∀ {ns : List Bool} {vs : List V}, Reps K G (ns.map D.bl) vs → vs = ns.map V.bl
  | [], vs, h => by simp only [List.map_nil, Reps] at h; rw [h]; rfl
  | n :: ns, vs, h => by
    simp only [List.map_cons, Reps] at h
    obtain ⟨v, r, e, h1, h2⟩ := h
    rw [e, h1.bl_of, Reps.bls h2]; rfl
def dSum : DL := fun xs O Q => match xs with
  | [x] => ∃ ns : List Int, lv O x = some (ns.map D.int) ∧ Q (.int ns.sum) O
  | _ => False
theorem o_sum : OpL K (rSum K) dSum := by
  intro w xs vs Q' Q hw rs lk h
  unfold dSum at h
  split at h
  rotate_left
  · exact h.elim
  obtain ⟨ns, e, q⟩ := h
  obtain ⟨v, ev, r⟩ := rs.one1
  obtain ⟨a, us, z, sq, r2⟩ := lv_rep hw r e
  exact ⟨a, ns, by rw [ev, z], by rw [← r2.ints]; exact sq, lk _ _ w hw (Fr.refl w) (.int _) q⟩
def dAll : DL := fun xs O Q => match xs with
  | [x] => ∃ ns : List Bool, lv O x = some (ns.map D.bl) ∧ Q (.bl (ns.all id)) O
  | _ => False
theorem o_all : OpL K (rAll K) dAll := by
  intro w xs vs Q' Q hw rs lk h
  unfold dAll at h
  split at h
  rotate_left
  · exact h.elim
  obtain ⟨ns, e, q⟩ := h
  obtain ⟨v, ev, r⟩ := rs.one1
  obtain ⟨a, us, z, sq, r2⟩ := lv_rep hw r e
  exact ⟨a, ns, by rw [ev, z], by rw [← r2.bls]; exact sq, lk _ _ w hw (Fr.refl w) (.bl _) q⟩
/-! isinstance -/
def tyN (O : Ow) : D → Option String
  | .non => some "NoneType"
  | .bl _ => some "bool"
  | .int _ => some "int"
  | .str _ => some "str"
  | .tup _ => some "tuple"
  | .lst _ => some "list"
  | .ref p => match O p with
    | some (.lst _) => some "list"
    | _ => none
  | .ty _ => none
theorem tyN_rep {w : Wd} {x : D} {v : V} {n : String} (hw : Own K w) (r : Rep K w.G x v) (e : tyN w.O x = some n) : TyX K w.H v (.type n) := by
  cases x with
  | non => cases e; rw [r.non_of]; exact .base .non
  | bl b => cases e; rw [r.bl_of]; exact .base (.bl b)
  | int b => cases e; rw [r.int_of]; exact .base (.int b)
  | str b => cases e; rw [r.str_of]; exact .base (.str b)
  | tup l =>
    cases e
    obtain ⟨a, us, z, sq, r2⟩ := r.tup_of
    rw [z]
    rcases Same.seqT hw.sub sq with (h | ⟨o, h⟩) | ⟨o, its, k, h1, h2, _⟩
    · exact .base (.tup h)
    · exact .fTuple h
    · exact .kTuple h1 h2
  | lst l =>
    cases e
    obtain ⟨a, us, z, sq, r2⟩ := r.lst_of
    rw [z]
    rcases hw.sub.seq sq with (h | ⟨o, h⟩) | ⟨o, its, k, h1, h2, _⟩
    · exact .base (.lst h)
    · exact .base (.frz h)
    · exact .kList h1 h2
  | ref p =>
    simp only [tyN] at e
    split at e
    · rename_i l hl
      cases e
      obtain ⟨_, y, hy, us, e2, _⟩ := hw.own p _ hl
      subst e2
      rw [r.ref_of]
      exact .base (.lst hy)
    · cases e
  | ty _ => cases e
def dIsi : DL := fun xs O Q => match xs with
  | [x, .ty T] => match tyN O x with
    | some n => match kitB n T with
      | some b => Q (.bl b) O
      | none => False
    | none => False
  | _ => False
theorem o_isi : OpL K (rIsi K) dIsi := by
  intro w xs vs Q' Q hw rs lk h
  unfold dIsi at h
  split at h
  rotate_left
  · exact h.elim
  rename_i x T
  obtain ⟨v, u, ev, r1, r2⟩ := rs.two2
  cases e1 : tyN w.O x with
  | none => rw [e1] at h; exact h.elim
  | some n =>
    rw [e1] at h
    simp only at h
    cases e2 : kitB n T with
    | none => rw [e2] at h; exact h.elim
    | some b =>
      rw [e2] at h
      exact ⟨v, .ty T, .type n, .type T, b, by rw [ev, r2.ty_of], .ty T, tyN_rep hw r1 e1, kit_ty e2, lk _ _ w hw (Fr.refl w) (.bl _) h⟩
theorem de_bty {x : Str} {T : String} {pos : Pos} (hg : Gl X x) (hm : X.mg x = none) (hv : bootBuiltins x = some (.type T)) (hn : x ≠ "__name__" := by decide) (hd : (x == ("__debug__" : Str)) = false := by decide) : DE X (.Name x pos) (dC (.ty T)) :=
  de_pe (pe_bltn (v := .ty T) hg hm hv rfl hn hd) rfl fun _ => .ty T

/-! ### methods of lists that are owned -/
abbrev DM := D → List D → Ow → DQ → Prop
def dMt (T : String) (doo : DT) (dl : DTa) (m : DM) : DT := fun ρ O Q => doo ρ O fun x O1 => tyN O1 x = some T ∧ dl ρ O1 fun xs O2 => m x xs O2 Q
def dMt0 (T : String) (doo : DT) (m : DM) : DT := fun ρ O Q => doo ρ O fun x O1 => tyN O1 x = some T ∧ m x [] O1 Q
theorem tyV_list {w : Wd} {x : D} {v : V} (hw : Own K w) (r : Rep K w.G x v) (e : tyN w.O x = some "list") : tyV K "list" v w.H := by
  cases x with
  | lst l =>
    obtain ⟨a, us, z, sq, r2⟩ := r.lst_of
    rw [z]
    exact .inl ⟨rfl, _, hw.sub.seq sq⟩
  | ref p =>
    simp only [tyN] at e
    split at e
    · rename_i l hl
      obtain ⟨_, y, hy, us, e2, _⟩ := hw.own p _ hl
      subst e2
      rw [r.ref_of]
      exact .inl ⟨rfl, _, SqL.of hy⟩
    · cases e
  | _ => simp [tyN] at e
theorem tyV_str {w : Wd} {x : D} {v : V} (hw : Own K w) (r : Rep K w.G x v) (e : tyN w.O x = some "str") : tyV K "str" v w.H := by
  cases x with
  | str l => rw [r.str_of]; rfl
  | ref p =>
    simp only [tyN] at e
    split at e <;> simp at e
  | _ => simp [tyN] at e
variable {o e : Expr} {es : List Expr} {doo : DT} {dl : DTa} {name : Str} {apos cpos : Pos} {T id : String} {r : V → List V → Hp → VK → Prop} {m : DM}
theorem de_bm (pa : PlainAttrs T) (slot : Slot T name id) (hty : typeOf (.builtin id) = pure (.type "method_descriptor")) (hm : MtR X id r)
    (hT : ∀ w x v, Own X.K w → Rep X.K w.G x v → tyN w.O x = some T → tyV X.K T v w.H) (hr : OpM X.K T r m) (ho : DE X o doo) (ha : DA X (e :: es) dl)
    (hbase : attributeBase o name X.env (eval o X.env) = eval o X.env := by rfl)
    (hfew : ((backTo cpos (starEach (e :: es) X.env)).all (fun x => !x.1) && (backToKw cpos (keywordEach [] X.env)).all (fun x => x.1.isSome)
      && decide ((e :: es).length + ([] : List Keyword).length + (if ([] : List Keyword).isEmpty then 0 else 1) < 30)) = true := by rfl)
    (hline : (apos.endLine == cpos.line) = true := by rfl) (hs : starEach (e :: es) X.env = (false, eval e X.env) :: starEach es X.env := by rfl) (hplain : (backTo cpos (starEach es X.env)).any (·.1) = false := by rfl) :
    DE X (.Call (.Attribute o name apos) (e :: es) [] cpos) (dMt T doo dl m) := by
  obtain ⟨to, po, fo⟩ := ho
  obtain ⟨tl, pl, fl⟩ := ha
  refine ⟨_, pe_bm pa slot hty hm po pl hbase hfew hline hs hplain, fun ρ σ w Q' Q hw he lk h => ?_⟩
  refine fo ρ σ w _ _ hw he (fun x vx w1 hw1 f1 r1 ⟨h1, h2⟩ => ⟨hT w1 x vx hw1 r1 h1, ?_⟩) h
  refine fl ρ σ w1 _ _ hw1 (he.mono f1.gsub) (fun xs vs w2 hw2 f2 r2 h3 => ?_) h2
  exact hr w2 x xs vx vs Q' Q hw2 (r1.mono f2.gsub) r2 (lk.after (f1.trans f2)) h3
theorem de_bm0 (pa : PlainAttrs T) (slot : Slot T name id) (hty : typeOf (.builtin id) = pure (.type "method_descriptor")) (hm : MtR X id r)
    (hT : ∀ w x v, Own X.K w → Rep X.K w.G x v → tyN w.O x = some T → tyV X.K T v w.H) (hr : OpM X.K T r m) (ho : DE X o doo)
    (hbase : attributeBase o name X.env (eval o X.env) = eval o X.env := by rfl) (hline : (apos.endLine == cpos.line) = true := by rfl) : DE X (.Call (.Attribute o name apos) [] [] cpos) (dMt0 T doo m) := by
  obtain ⟨to, po, fo⟩ := ho
  refine ⟨_, pe_bm0 pa slot hty hm po hbase hline, fun ρ σ w Q' Q hw he lk h => ?_⟩
  refine fo ρ σ w _ _ hw he (fun x vx w1 hw1 f1 r1 ⟨h1, h2⟩ => ⟨hT w1 x vx hw1 r1 h1, ?_⟩) h
  exact hr w1 x [] vx [] Q' Q hw1 r1 .nil (lk.after f1) h2
def dAppend : DM := fun x xs O Q => match x, xs with
  | .ref p, [y] => ∃ l, O p = some (.lst l) ∧ l.length < 100000 ∧ Q .non (O.set p (.lst (l ++ [y])))
  | _, _ => False
theorem lk_set {w : Wd} {p : Addr} {l l' : List D} {vs : List V} {Q' : DQ} {Q : VK} {d : D} {v : V} (hw : Own K w) (e : w.O p = some (.lst l)) (r : Reps K w.G l' vs) (rd : Rep K w.G d v) (lk : Lk K w Q' Q) (q : Q' d (w.O.set p (.lst l'))) : Q v (upd w.H p (.lst vs)) :=
  let ⟨o1, o2⟩ := set_owned hw e r
  lk d v _ o1 o2 rd q
theorem o_append : OpM K "list" rAppend dAppend := by
  intro w x xs vx vs Q' Q hw rx rs lk h
  unfold dAppend at h
  split at h
  rotate_left
  · exact h.elim
  obtain ⟨l, e, hl, q⟩ := h
  obtain ⟨z1, y, z2, us, z3, z4⟩ := hw.own _ _ e
  subst z3
  obtain ⟨v, ev, r⟩ := rs.one1
  refine ⟨_, us, v, rx.ref_of, ev, z2, ?_, lk_set hw e (z4.append (.cons r .nil)) .non lk q⟩
  rw [← z4.length]
  have := line100000
  omega
def dClear : DM := fun x xs O Q => match x, xs with
  | .ref p, [] => ∃ l, O p = some (.lst l) ∧ Q .non (O.set p (.lst []))
  | _, _ => False
theorem o_clear : OpM K "list" rClear dClear := by
  intro w x xs vx vs Q' Q hw rx rs lk h
  unfold dClear at h
  split at h
  rotate_left
  · exact h.elim
  obtain ⟨l, e, q⟩ := h
  obtain ⟨z1, y, z2, us, z3, z4⟩ := hw.own _ _ e
  subst z3
  simp only [Reps] at rs
  exact ⟨_, us, rx.ref_of, rs, z2, lk_set hw e .nil .non lk q⟩
def dReverse : DM := fun x xs O Q => match x, xs with
  | .ref p, [] => ∃ l, O p = some (.lst l) ∧ Q .non (O.set p (.lst l.reverse))
  | _, _ => False
theorem o_reverse : OpM K "list" rReverse dReverse := by
  intro w x xs vx vs Q' Q hw rx rs lk h
  unfold dReverse at h
  split at h
  rotate_left
  · exact h.elim
  obtain ⟨l, e, q⟩ := h
  obtain ⟨z1, y, z2, us, z3, z4⟩ := hw.own _ _ e
  subst z3
  simp only [Reps] at rs
  exact ⟨_, us, rx.ref_of, rs, z2, lk_set hw e z4.reverse .non lk q⟩
/-! ### slices of lists -/
def cutD (xs : List D) (lo hi : Option Int) : List D := (xs.drop (HT.sIx xs.length 0 lo)).take (HT.sIx xs.length xs.length hi - HT.sIx xs.length 0 lo)
abbrev DTo := DEnv → Ow → (Option Int → Ow → Prop) → Prop
def DPo (X : Cx) (e : Option Expr) (dt : DTo) : Prop := ∃ t, PO X e t ∧ ∀ ρ σ w (Q' : Option Int → Ow → Prop) (Q : Option Int → Hp → Prop), Own X.K w → RepE X.K w.G ρ σ → (∀ b w', Own X.K w' → Fr w w' → Q' b w'.O → Q b w'.H) → dt ρ w.O Q' → t σ w.H Q
def dNoP : DTo := fun _ O Q => Q none O
def dPart (da : DT) : DTo := fun ρ O Q => da ρ O fun d O1 => match d with
  | .int i => Q (some i) O1
  | _ => False
theorem dpo_none : DPo X none dNoP := ⟨_, po_none, fun ρ σ w Q' Q hw he lk h => lk none w hw (Fr.refl w) h⟩
theorem dpo_some {e : Expr} {da : DT} (h : DE X e da) : DPo X (some e) (dPart da) := by
  obtain ⟨t, p, f⟩ := h
  refine ⟨_, po_some p, fun ρ σ w Q' Q hw he lk h => ?_⟩
  refine f ρ σ w _ _ hw he (fun d v w1 hw1 f1 r1 h1 => ?_) h
  cases d with
  | int i => exact ⟨i, r1.int_of, lk _ w1 hw1 f1 h1⟩
  | _ => exact h1.elim
def drSlice (mk : List D → Ow → DQ → Prop) (x : D) (lo hi : Option Int) : Ow → DQ → Prop := fun O Q => match x with
  | .tup l => Q (.tup (cutD l lo hi)) O
  | x => ∃ l, lv O x = some l ∧ mk (cutD l lo hi) O Q
def dSlice (mk : List D → Ow → DQ → Prop) (da : DT) (dlo dhi : DTo) : DT := fun ρ O Q => da ρ O fun x O1 => dlo ρ O1 fun lo O2 => dhi ρ O2 fun hi O3 => drSlice mk x lo hi O3 Q
theorem Reps.cut {G : Hp} {l : List D} {vs : List V} (r : Reps K G l vs) (lo hi : Option Int) : Reps K G (cutD l lo hi) (cutV vs lo hi) := by
  unfold cutD cutV
  rw [r.length]
  exact (r.drop _).take _
theorem sIx_zero {n : Nat} {lo : Option Int} {hi : Option Int} (l : List D) (h : HT.sIx l.length 0 lo = 0 ∧ HT.sIx l.length l.length hi = l.length) : cutD l lo hi = l := by
  unfold cutD
  rw [h.1, h.2, List.drop_zero, Nat.sub_zero, List.take_length]
theorem de_slice {mk : List D → Ow → DQ → Prop} (hm : MkOk mk) {e : Expr} {lo hi : Option Expr} {da : DT} {dlo dhi : DTo} {pos p2 : Pos} (h : DE X e da) (hl : DPo X lo dlo) (hu : DPo X hi dhi) : DE X (.Subscript e (.Slice lo hi none p2) pos) (dSlice mk da dlo dhi) := by
  obtain ⟨t, p, f⟩ := h
  obtain ⟨tl, pl, fl⟩ := hl
  obtain ⟨tu, pu, fu⟩ := hu
  refine ⟨_, pe_slice (sl_list.or sl_tupA) p pl pu, fun ρ σ w Q' Q hw he lk h => ?_⟩
  refine f ρ σ w _ _ hw he (fun x v w1 hw1 f1 r1 h1 => ?_) h
  refine fl ρ σ w1 _ _ hw1 (he.mono f1.gsub) (fun lo w2 hw2 f2 h2 => ?_) h1
  refine fu ρ σ w2 _ _ hw2 (he.mono (f1.gsub.trans f2.gsub)) (fun hi w3 hw3 f3 h3 => ?_) h2
  have r3 := r1.mono (f2.gsub.trans f3.gsub)
  have lk3 := lk.after (f1.trans (f2.trans f3))
  unfold drSlice at h3
  split at h3
  · rename_i l
    obtain ⟨a, us, z, sq, r2⟩ := r3.tup_of
    refine .inr ⟨a, us, z, Same.seqT hw3.sub sq, fun hh => ?_, fun _ p hp => tup_still hw3 hp (r2.cut lo hi) lk3 h3⟩
    rw [← r2.length] at hh
    rw [sIx_zero (n := 0) l hh] at h3
    exact lk3 _ _ w3 hw3 (Fr.refl w3) (Rep.tup sq r2) h3
  · obtain ⟨l, e, q⟩ := h3
    obtain ⟨a, us, z, sq, r2⟩ := lv_rep hw3 r3 e
    exact .inl ⟨a, us, z, sq, fun p hp => hm X.K w3 (cutD l lo hi) _ Q' Q p hw3 hp (r2.cut lo hi) lk3 q⟩
end
end SB

namespace SB
open PySem PySem.Spec PyProof.Rows L2
/-! ### sizes -/
/-- below 2 ^ n -/
def Sz (n : Nat) (x : Int) : Prop := x.natAbs < 2 ^ n
instance {i j : Int} : Decidable (Mok i j) := inferInstanceAs (Decidable (_ < _))
instance {i j : Int} : Decidable (CPow i j) := inferInstanceAs (Decidable (_ ∧ _))
instance {n : Nat} {x : Int} : Decidable (Sz n x) := inferInstanceAs (Decidable (_ < _))
theorem Sz.mono {n m : Nat} {x : Int} (h : Sz n x) (l : n ≤ m) : Sz m x := Nat.lt_of_lt_of_le h (Nat.pow_le_pow_right (by decide) l)
theorem Sz.mul {n m : Nat} {x y : Int} (h : Sz n x) (k : Sz m y) : Sz (n + m) (x * y) := by
  unfold Sz at *
  rw [Int.natAbs_mul, Nat.pow_add]
  exact Nat.mul_lt_mul'' h k
theorem Sz.add {n m : Nat} {x y : Int} (h : Sz n x) (k : Sz m y) : Sz (max n m + 1) (x + y) := by
  have h1 := h.mono (Nat.le_max_left n m)
  have k1 := k.mono (Nat.le_max_right n m)
  unfold Sz at *
  rw [Nat.pow_succ]
  omega
theorem Sz.neg {n : Nat} {x : Int} (h : Sz n x) : Sz n (-x) := by unfold Sz at *; omega
theorem Sz.sub {n m : Nat} {x y : Int} (h : Sz n x) (k : Sz m y) : Sz (max n m + 1) (x - y) := by
  rw [Int.sub_eq_add_neg]; exact h.add k.neg
theorem Sz.log {n : Nat} {x : Int} (h : Sz n x) : x.natAbs.log2 ≤ n := by
  by_cases h0 : x.natAbs = 0
  · rw [h0]; simp
  · exact Nat.le_of_lt ((Nat.log2_lt h0).mpr h)
theorem Mok.of {n m : Nat} {x y : Int} (h : Sz n x) (k : Sz m y) (l : n + m < 100000000) : Mok x y := by
  have := h.log
  have := k.log
  unfold Mok
  omega
theorem Sz.of_le {n : Nat} {x : Int} (b : Nat) (h : x.natAbs ≤ b) (hb : b < 2 ^ n) : Sz n x := Nat.lt_of_le_of_lt h hb
theorem Sz.fdiv {n : Nat} {x y : Int} (h : Sz n x) (hy : y ≠ 0) : Sz (n + 1) (x.fdiv y) := by
  have e := Int.mul_fdiv_add_fmod x y
  have h1 : (x.fdiv y).natAbs ≤ x.natAbs + 1 := by
    rcases Int.lt_or_gt_of_ne hy with hn | hp
    · have e1 := Int.fdiv_eq_ediv (a := x) (b := y)
      have e2 : (x / y).natAbs ≤ x.natAbs := Int.natAbs_ediv_le_natAbs x y
      rw [e1]
      split <;> omega
    · rw [Int.fdiv_eq_ediv_of_nonneg x (by omega)]
      have e2 : (x / y).natAbs ≤ x.natAbs := Int.natAbs_ediv_le_natAbs x y
      omega
  unfold Sz at *
  rw [Nat.pow_succ]
  have : 0 < 2 ^ n := Nat.two_pow_pos n
  omega
theorem Dok.small {x y : Int} (h0 : y ≠ 0) (h : y.natAbs < 1073741824) : Dok x y := ⟨h0, PyProof.noPylong_small h⟩
theorem Dok.sz {x y : Int} (h0 : y ≠ 0) (h : Sz 8999 y) : Dok x y := ⟨h0, PyProof.noPylong_of_log2 (by have := h.log; omega)⟩
theorem Dok.szx {x y : Int} (h0 : y ≠ 0) (h : Sz 13000 x) : Dok x y := by
  refine ⟨h0, ?_⟩
  have hl := h.log
  have key : (if x == 0 then 0 else x.natAbs.log2 / 30 + 1) ≤ 434 := by
    by_cases hx : (x == 0) = true
    · rw [if_pos hx]; exact Nat.zero_le _
    · rw [if_neg hx]; omega
  show (decide ((if y == 0 then 0 else y.natAbs.log2 / 30 + 1) > 300) && decide ((if x == 0 then 0 else x.natAbs.log2 / 30 + 1) > (if y == 0 then 0 else y.natAbs.log2 / 30 + 1) + 150)) = false
  by_cases hy : (if y == 0 then 0 else y.natAbs.log2 / 30 + 1) > 300
  · rw [decide_eq_true hy, decide_eq_false (by omega)]; rfl
  · rw [decide_eq_false hy]; rfl

/-! ### how data is reckoned out -/
theorem le_rfl' {O : Ow} : ∃ O', Ow.le O' O ∧ O' = O := ⟨O, Ow.le.refl O, rfl⟩
theorem rt_here {Q : DQ} {d : D} {O : Ow} (h : Q d O) : (rtEnds Q).rt d O := ⟨O, Ow.le.refl O, h⟩
theorem gt0 {α : Type} {x : α} {l : List α} : atI (x :: l) 0 = some x := atI_nat (j := 0) rfl
theorem gt1 {α : Type} {x y : α} {l : List α} : atI (x :: y :: l) 1 = some y := atI_nat (j := 1) rfl
theorem gt2 {α : Type} {x y z : α} {l : List α} : atI (x :: y :: z :: l) 2 = some z := atI_nat (j := 2) rfl
theorem gt3 {α : Type} {x y z u : α} {l : List α} : atI (x :: y :: z :: u :: l) 3 = some u := atI_nat (j := 3) rfl
theorem ix0 {α : Type} {x : α} {l : List α} : ixN (x :: l).length 0 = some 0 := by simp [ixN]
theorem ix1 {α : Type} {x y : α} {l : List α} : ixN (x :: y :: l).length 1 = some 1 := by simp [ixN]; omega
theorem dEq_ii {i j : Int} {O : Ow} {Q : DQ} : dEq (.int i) (.int j) O Q = Q (.bl (i == j)) O := by simp [dEq, vw, okE, eqv]
theorem dNe_ii {i j : Int} {O : Ow} {Q : DQ} : dNe (.int i) (.int j) O Q = Q (.bl (!(i == j))) O := by simp [dNe, vw, okE, eqv]
theorem dEq_bb {i j : Bool} {O : Ow} {Q : DQ} : dEq (.bl i) (.bl j) O Q = Q (.bl (i == j)) O := by simp [dEq, vw, okE, eqv]
theorem dNe_bb {i j : Bool} {O : Ow} {Q : DQ} : dNe (.bl i) (.bl j) O Q = Q (.bl (!(i == j))) O := by simp [dNe, vw, okE, eqv]
theorem ix20 : ixN 2 0 = some 0 := by decide
theorem ix21 : ixN 2 1 = some 1 := by decide
theorem ix30 : ixN 3 0 = some 0 := by decide
theorem ix31 : ixN 3 1 = some 1 := by decide
theorem ix32 : ixN 3 2 = some 2 := by decide
theorem forget_nil {ρ : DEnv} : forget ρ [] = ρ := rfl
theorem forget_cons {ρ : DEnv} {i : Nat} {r : List Nat} : forget ρ (i :: r) = forget (ρ.set i none) r := rfl
theorem kit_int_int : kitB "int" "int" = some true := by decide +kernel
theorem kit_int_bool : kitB "int" "bool" = some false := by decide +kernel
theorem kit_bool_int : kitB "bool" "int" = some true := by decide +kernel
theorem kit_bool_bool : kitB "bool" "bool" = some true := by decide +kernel
theorem kit_tup_tup : kitB "tuple" "tuple" = some true := by decide +kernel
theorem kit_lst_lst : kitB "list" "list" = some true := by decide +kernel
theorem kit_tup_int : kitB "tuple" "int" = some false := by decide +kernel
theorem kit_tup_lst : kitB "tuple" "list" = some false := by decide +kernel
theorem kit_lst_tup : kitB "list" "tuple" = some false := by decide +kernel
theorem kit_str_str : kitB "str" "str" = some true := by decide +kernel
theorem kit_non_tup : kitB "NoneType" "tuple" = some false := by decide +kernel
theorem kit_non_lst : kitB "NoneType" "list" = some false := by decide +kernel
/-! ### loops by a word -/
theorem forLoop_inv {gd : D → DEnv → Option DEnv} {body : DS'} {fs : List Nat} {stay : Ow → Prop} {E : DEnds} (I : List D → DEnv → Ow → Prop)
    (step : ∀ d r ρ O (E' : DEnds), I (d :: r) ρ O → (∀ ρ2 O2 O3, Ow.le O3 O2 → stay O3 → I r (forget ρ2 fs) O3 → E'.nx ρ2 O2) → (∀ ρ2 O2 O3, Ow.le O3 O2 → stay O3 → I r (forget ρ2 fs) O3 → E'.ct ρ2 O2) →
      E'.rt = E.rt → E'.bk = E.nx → ∃ ρ', gd d ρ = some ρ' ∧ body E' ρ' O)
    (fin : ∀ ρ O, I [] ρ O → E.nx ρ O) : ∀ items ρ O, I items ρ O → forLoop gd body fs stay E items ρ O
  | [], ρ, O, h => fin ρ O h
  | d :: r, ρ, O, h => step d r ρ O _ h (fun ρ2 O2 O3 l s i => ⟨O3, l, s, forLoop_inv I step fin r _ _ i⟩) (fun ρ2 O2 O3 l s i => ⟨O3, l, s, forLoop_inv I step fin r _ _ i⟩) rfl rfl
theorem lcLoop_inv {gd : D → DEnv → Option DEnv} {tt : DTt} {te : DT} {stay : Ow → Prop} {ρ : DEnv} {Q : List D → Ow → Prop} (I : List D → List D → Ow → Prop)
    (step : ∀ d r acc O (R : List D → Ow → Prop), I (d :: r) acc O → (∀ acc O, I r acc O → R acc O) →
      ∃ ρ', gd d ρ = some ρ' ∧ tt ρ' O fun b O1 => if b = true then te ρ' O1 fun y O2 => stay O2 ∧ R (acc ++ [y]) O2 else stay O1 ∧ R acc O1)
    (fin : ∀ acc O, I [] acc O → Q acc O) : ∀ items acc O, I items acc O → lcLoop gd tt te stay ρ items acc O Q
  | [], acc, O, h => fin acc O h
  | d :: r, acc, O, h => step d r acc O (fun acc O => lcLoop gd tt te stay ρ r acc O Q) h fun acc O i => lcLoop_inv I step fin r acc O i
/-- a comprehension that reckons f of each, and nothing else -/
theorem lc_map {α : Type} {gd : D → DEnv → Option DEnv} {te : DT} {stay : Ow → Prop} {ρ : DEnv} {O : Ow} {Q : List D → Ow → Prop} (enc f : α → D) (hst : stay O) :
    ∀ (xs : List α) (acc : List D), (∀ x ∈ xs, ∃ ρ', gd (enc x) ρ = some ρ' ∧ ∀ R : DQ, R (f x) O → te ρ' O R) → Q (acc ++ xs.map f) O → lcLoop gd dYes te stay ρ (xs.map enc) acc O Q
  | [], acc, _, q => by
    rw [List.map_nil, List.append_nil] at q
    exact q
  | x :: xs, acc, h, q => by
    obtain ⟨ρ', e, k⟩ := h x List.mem_cons_self
    refine ⟨ρ', e, ?_⟩
    simp only [dYes, if_true]
    refine k _ ⟨hst, lc_map enc f hst xs _ (fun y hy => h y (List.mem_cons_of_mem _ hy)) ?_⟩
    simpa using q
/-- .. of those that pass a test -/
theorem lc_filter {α : Type} {gd : D → DEnv → Option DEnv} {tt : DTt} {te : DT} {stay : Ow → Prop} {ρ : DEnv} {O : Ow} {Q : List D → Ow → Prop} (enc f : α → D) (t : α → Bool) (hst : stay O) :
    ∀ (xs : List α) (acc : List D), (∀ x ∈ xs, ∃ ρ', gd (enc x) ρ = some ρ' ∧ (∀ R : Bool → Ow → Prop, R (t x) O → tt ρ' O R) ∧ ∀ R : DQ, R (f x) O → te ρ' O R) →
      Q (acc ++ (xs.filter t).map f) O → lcLoop gd tt te stay ρ (xs.map enc) acc O Q
  | [], acc, _, q => by
    rw [List.filter_nil, List.map_nil, List.append_nil] at q
    exact q
  | x :: xs, acc, h, q => by
    obtain ⟨ρ', e, k1, k2⟩ := h x List.mem_cons_self
    refine ⟨ρ', e, k1 _ ?_⟩
    cases ht : t x with
    | true =>
      rw [if_pos rfl]
      refine k2 _ ⟨hst, lc_filter enc f t hst xs _ (fun y hy => h y (List.mem_cons_of_mem _ hy)) ?_⟩
      simpa [List.filter_cons, ht] using q
    | false =>
      rw [if_neg Bool.false_ne_true]
      refine ⟨hst, lc_filter enc f t hst xs _ (fun y hy => h y (List.mem_cons_of_mem _ hy)) ?_⟩
      simpa [List.filter_cons, ht] using q
theorem zipD_map {α β : Type} (f : α → D) (g : β → D) : ∀ (a : List α) (b : List β), zipD (a.map f) (b.map g) = (a.zip b).map fun p => .tup [f p.1, g p.2]
  | [], b => by simp [zipD]
  | x :: a, [] => by simp [zipD]
  | x :: a, y :: b => by
    have := zipD_map f g a b
    unfold zipD at this ⊢
    simp [this]
theorem enumD_map {α : Type} (f : α → D) (a : List α) : enumD (a.map f) = a.zipIdx.map fun p => .tup [.int (p.2 : Nat), f p.1] := by
  unfold enumD
  rw [List.zipIdx_map, List.map_map]
  rfl
theorem rangeD_map {n : Nat} : rangeD 0 n = (List.range n).map fun (i : Nat) => .int (i : Int) := by
  unfold rangeD
  simp
abbrev kst (a b : Int) : D := .tup [.int a, .int b]
/-! a ratio as data -/
def rat (q : Rat) : D := .tup [.int q.num, .int (q.den : Int)]
theorem fold0 : D.tup [.int 0, .int 1] = rat 0 := rfl
theorem fold1 : D.tup [.int 1, .int 1] = rat 1 := rfl
theorem qv_rat {O : Ow} {q : Rat} : qv O (rat q) = some [.int q.num, .int (q.den : Int)] := rfl
theorem tyN_rat {O : Ow} {q : Rat} : tyN O (rat q) = some "tuple" := rfl
theorem isNon_rat {q : Rat} : isNon (rat q) = false := rfl
theorem dIx_r0 {q : Rat} {O : Ow} {Q : DQ} : dIx (rat q) (.int 0) O Q = Q (.int q.num) O := by
  simp only [dIx, rat, qv, Option.some.injEq, exists_eq_left', gt0]
theorem dIx_r1 {q : Rat} {O : Ow} {Q : DQ} : dIx (rat q) (.int 1) O Q = Q (.int (q.den : Int)) O := by
  simp only [dIx, rat, qv, Option.some.injEq, exists_eq_left', gt1]
theorem dLen_rat {q : Rat} {O : Ow} {Q : DQ} : dLen [rat q] O Q = Q (.int 2) O := by
  simp only [dLen, rat, qv, Option.some.injEq, exists_eq_left', List.length_cons, List.length_nil]
  rfl
theorem eqv_rat {a b : Rat} : eqv (rat a) (rat b) = decide (a = b) := by
  simp only [rat, eqv, eqvs, Bool.and_true]
  by_cases h : a = b
  · subst h; simp
  · rw [decide_eq_false h]
    by_cases h1 : a.num = b.num
    · by_cases h2 : a.den = b.den
      · exact absurd (Rat.ext h1 h2) h
      · have : ¬ ((a.den : Int) = (b.den : Int)) := by omega
        simp [h1, this]
    · simp [h1]
theorem okE_rat {n : Nat} {a : Rat} : okE (n + 1) (rat a) = true := by simp [rat, okE, okEs]
theorem vw_rat {O : Ow} {a : Rat} : vw O (rat a) = rat a := rfl
theorem dEq_rr {a b : Rat} {O : Ow} {Q : DQ} : dEq (rat a) (rat b) O Q = Q (.bl (decide (a = b))) O := by
  simp only [dEq, vw_rat, okE_rat, eqv_rat, true_and]
theorem dNe_rr {a b : Rat} {O : Ow} {Q : DQ} : dNe (rat a) (rat b) O Q = Q (.bl (!decide (a = b))) O := by
  simp only [dNe, vw_rat, okE_rat, eqv_rat, true_and]
theorem dIx_tup {l : List D} {i : Int} {O : Ow} {Q : DQ} : dIx (.tup l) (.int i) O Q = ∃ d, atI l i = some d ∧ Q d O := by
  simp only [dIx, qv, Option.some.injEq, exists_eq_left']
theorem dIx_lst {l : List D} {i : Int} {O : Ow} {Q : DQ} : dIx (.lst l) (.int i) O Q = ∃ d, atI l i = some d ∧ Q d O := by
  simp only [dIx, qv, lv, Option.some.injEq, exists_eq_left']
theorem dIx_ref {p : Addr} {i : Int} {O : Ow} {Q : DQ} : dIx (.ref p) (.int i) O Q = ∃ l, lv O (.ref p) = some l ∧ ∃ d, atI l i = some d ∧ Q d O := rfl
theorem dIx_str {z : Str} {i : Int} {O : Ow} {Q : DQ} : dIx (.str z) (.int i) O Q = (z.length ≤ sizeLine ∧ ∃ c, atI z.cps.toList i = some c ∧ Q (.str ⟨#[c]⟩) O) := rfl
theorem dLen_tup {l : List D} {O : Ow} {Q : DQ} : dLen [.tup l] O Q = Q (.int l.length) O := by
  simp only [dLen, qv, Option.some.injEq, exists_eq_left']
theorem dLen_lst {l : List D} {O : Ow} {Q : DQ} : dLen [.lst l] O Q = Q (.int l.length) O := by
  simp only [dLen, qv, lv, Option.some.injEq, exists_eq_left']
theorem dLen_ref {p : Addr} {O : Ow} {Q : DQ} : dLen [.ref p] O Q = ∃ l, lv O (.ref p) = some l ∧ Q (.int l.length) O := rfl
theorem dLen_str {z : Str} {O : Ow} {Q : DQ} : dLen [.str z] O Q = (z.length ≤ sizeLine ∧ Q (.int z.length) O) := rfl
theorem qv_tup {l : List D} {O : Ow} : qv O (.tup l) = some l := rfl
theorem qv_lst {l : List D} {O : Ow} : qv O (.lst l) = some l := rfl
theorem qv_ref {p : Addr} {O : Ow} : qv O (.ref p) = lv O (.ref p) := rfl
theorem lv_lst {l : List D} {O : Ow} : lv O (.lst l) = some l := rfl
theorem lv_ref {p : Addr} {O : Ow} {l : List D} (h : O p = some (.lst l)) : lv O (.ref p) = some l := by simp only [lv, h]
theorem lv_set {p : Addr} {O : Ow} {l : List D} : lv (O.set p (.lst l)) (.ref p) = some l := lv_ref Ow.set_same
theorem tyN_int {i : Int} {O : Ow} : tyN O (.int i) = some "int" := rfl
theorem tyN_bl {i : Bool} {O : Ow} : tyN O (.bl i) = some "bool" := rfl
theorem tyN_non {O : Ow} : tyN O .non = some "NoneType" := rfl
theorem tyN_str {i : Str} {O : Ow} : tyN O (.str i) = some "str" := rfl
theorem tyN_tup {i : List D} {O : Ow} : tyN O (.tup i) = some "tuple" := rfl
theorem tyN_lst {i : List D} {O : Ow} : tyN O (.lst i) = some "list" := rfl
theorem tyN_ref {p : Addr} {O : Ow} {l : List D} (h : O p = some (.lst l)) : tyN O (.ref p) = some "list" := by simp only [tyN, h]
theorem tyN_set {p : Addr} {O : Ow} {l : List D} : tyN (O.set p (.lst l)) (.ref p) = some "list" := tyN_ref Ow.set_same
theorem isNon_non : isNon .non = true := rfl
theorem isNon_int {i : Int} : isNon (.int i) = false := rfl
theorem isNon_tup {i : List D} : isNon (.tup i) = false := rfl
theorem isNon_lst {i : List D} : isNon (.lst i) = false := rfl
theorem isNon_ref {i : Addr} : isNon (.ref i) = false := rfl
theorem isNon_str {i : Str} : isNon (.str i) = false := rfl
theorem setAll_nil {ρ : DEnv} : setAll [] [] ρ = some ρ := rfl
theorem setAll_cons {i : Nat} {is : List Nat} {d : D} {ds : List D} {ρ : DEnv} : setAll (i :: is) (d :: ds) ρ = setAll is ds (ρ.set i (some d)) := rfl
theorem tgT_tup {is : List Nat} {l : List D} {ρ : DEnv} : tgT is (.tup l) ρ = setAll is l ρ := rfl
theorem nc2 : ((2 : Nat) : Int) = 2 := rfl
theorem nc3 : ((3 : Nat) : Int) = 3 := rfl
theorem nc4 : ((4 : Nat) : Int) = 4 := rfl
theorem e42 : ((4 : Int) == 2) = false := by decide
theorem e24 : ((2 : Int) == 4) = false := by decide
/-! what comes behind a call is not looked into ahead of its time -/
inductive Bx (Q : DQ) : Type | mk
def lz (Q : DQ) (b : Bx Q) : DQ := Q
theorem lz_ap {Q : DQ} {b : Bx Q} {x : D} {O : Ow} : lz Q b x O = Q x O := rfl
def dCallZ (s : DL) (dl : DTa) : DT := fun ρ O Q => dl ρ O fun ds O1 => s ds O1 (lz Q .mk)
theorem dCallZ_ap {s : DL} {dl : DTa} {ρ : DEnv} {O : Ow} {Q : DQ} : dCallZ s dl ρ O Q = dl ρ O fun ds O1 => s ds O1 (lz Q .mk) := rfl

/-! ### instances of the text's classes -/
theorem ClsAt.inj {K : PySem.W.Frag} {n : Str} {C C' : Addr} (h : ClsAt K n C) (h' : ClsAt K n C') : C = C' := by
  unfold ClsAt at h h'
  rw [h] at h'
  cases h'
  rfl
structure ClsOk (K : PySem.W.Frag) (n : Str) (C : Addr) : Prop where
  at_ : ClsAt K n C
  cls : Cls K C
def putD (f : Str) (d : D) : List (Str × D) → List (Str × D)
  | [] => [(f, d)]
  | (g, x) :: r => if g = f then (g, d) :: r else (g, x) :: putD f d r
section
variable {K : PySem.W.Frag} {G : Hp} {f : Str}
theorem RepF.put {d : D} {v : V} (r : Rep K G d v) : ∀ {fs : List (Str × D)} {gs : List (Str × V)}, RepF K G fs gs → RepF K G (putD f d fs) (putF f v gs)
  | [], _, h => by
    cases h
    exact .cons ⟨rfl, r⟩ .nil
  | (g, x) :: fs, _, h => by
    cases h with
    | cons a t =>
      rename_i b l
      obtain ⟨g', y⟩ := b
      obtain ⟨e, ry⟩ := a
      have e : g = g' := e
      subst e
      unfold putD putF
      by_cases q : g = f
      · rw [if_pos q, if_pos q]
        exact .cons ⟨rfl, r⟩ t
      · rw [if_neg q, if_neg q]
        exact .cons ⟨rfl, ry⟩ (RepF.put r t)
theorem RepF.get : ∀ {fs : List (Str × D)} {gs : List (Str × V)} {d : D}, RepF K G fs gs → fs.lookup f = some d → ∃ v, gs.lookup f = some v ∧ Rep K G d v
  | [], _, _, _, e => by simp at e
  | (g, x) :: fs, _, d, h, e => by
    cases h with
    | cons a t =>
      rename_i b l
      obtain ⟨g', y⟩ := b
      obtain ⟨e2, ry⟩ := a
      have e2 : g = g' := e2
      subst e2
      rw [List.lookup_cons] at e ⊢
      split at e
      · cases e
        exact ⟨y, rfl, ry⟩
      · exact RepF.get t e
theorem RepF.none : ∀ {fs : List (Str × D)} {gs : List (Str × V)}, RepF K G fs gs → fs.lookup f = none → gs.lookup f = none
  | [], _, h, e => by cases h; rfl
  | (g, x) :: fs, _, h, e => by
    cases h with
    | cons a t =>
      rename_i b l
      obtain ⟨g', y⟩ := b
      obtain ⟨e2, ry⟩ := a
      have e2 : g = g' := e2
      subst e2
      rw [List.lookup_cons] at e ⊢
      split at e
      · cases e
      · exact RepF.none t e
theorem RepF.length : ∀ {fs : List (Str × D)} {gs : List (Str × V)}, RepF K G fs gs → fs.length = gs.length
  | [], _, h => by cases h; rfl
  | _ :: fs, _, h => by
    cases h with
    | cons a t => simp [RepF.length t]
end
section
variable {X : Cx} {e o : Expr} {es : List Expr} {da doo : DT} {dl : DTa} {n f m : Str} {C : Addr} {pos pos' apos : Pos}
theorem ins_own {K : PySem.W.Frag} {w : Wd} {p : Addr} {fs : List (Str × D)} (hw : Own K w) (hc : ClsOk K n C) (e : w.O p = some (.ins n fs)) : ∃ dx gs, w.H p = some (.ins C dx gs) ∧ RepF K w.G fs gs := by
  obtain ⟨_, h, hh, C', dx, gs, ca, eh, r⟩ := hw.own p _ e
  obtain rfl := ca.inj hc.at_
  subst eh
  exact ⟨dx, gs, hh, r⟩
def dFld (n f : Str) (da : DT) : DT := fun ρ O Q => da ρ O fun x O1 => ∃ p fs d, x = .ref p ∧ O1 p = some (.ins n fs) ∧ fs.lookup f = some d ∧ Q d O1
theorem de_fld (hc : ClsOk X.K n C) (na : NoAttr X.K C f) (h : DE X e da) (hb : attributeBase e f X.env (eval e X.env) = eval e X.env := by rfl) : DE X (.Attribute e f pos) (dFld n f da) := by
  obtain ⟨t, p, fa⟩ := h
  refine ⟨_, pe_fld p hb, fun ρ σ w Q' Q hw he lk h => ?_⟩
  refine fa ρ σ w _ _ hw he (fun x vx w1 hw1 f1 rx ⟨q, fs, d, ex, eo, el, h1⟩ => ?_) h
  subst ex
  obtain ⟨dx, gs, hh, r⟩ := ins_own hw1 hc eo
  obtain ⟨v, ev, rv⟩ := r.get el
  exact ⟨q, C, dx, gs, v, rx.ref_of, hh, hc.cls, na, ev, lk d v w1 hw1 f1 rv h1⟩
def dSetF (n f : Str) (da doo : DT) : DS' := fun E ρ O => da ρ O fun d O1 => doo ρ O1 fun x O2 => ∃ p fs, x = .ref p ∧ O2 p = some (.ins n fs) ∧ fs.length < 100 ∧ E.nx ρ (O2.set p (.ins n (putD f d fs)))
theorem ds_fld (hc : ClsOk X.K n C) (na : NoAttr X.K C f) (h : DE X e da) (ho : DE X o doo) (hs : swapsWith e (some (.Attribute o f pos')) pos.line X.env = pure false := by rfl) : DS X (.Assign [.Attribute o f pos'] e pos) (dSetF n f da doo) := by
  obtain ⟨t, p, fa⟩ := h
  obtain ⟨to, po, fo⟩ := ho
  refine ⟨_, ps_fld po p hs, fun ρ σ w E T hw he lk h => ?_⟩
  refine fa ρ σ w _ _ hw he (fun d v w1 hw1 f1 rd h1 => ?_) h
  refine fo ρ σ w1 _ _ hw1 (he.mono f1.gsub) (fun x vx w2 hw2 f2 rx ⟨q, fs, ex, eo, hl, h2⟩ => ?_) h1
  subst ex
  obtain ⟨_, h', hh, C', dx, gs, ca, eh, r⟩ := hw2.own q _ eo
  obtain rfl := ca.inj hc.at_
  subst eh
  refine ⟨q, C', dx, gs, rx.ref_of, hh, hc.cls, na, by rw [← r.length]; omega, ?_⟩
  have ro : RepO X.K w2.G (.ins n (putD f d fs)) (.ins C' dx (putF f v gs)) := ⟨C', dx, _, ca, rfl, r.put (rd.mono f2.gsub)⟩
  have hw3 := hw2.write eo ro
  have f3 := Fr.write (x := .ins C' dx (putF f v gs)) (o := .ins n (putD f d fs)) hw2 eo
  exact lk.nx ρ σ _ hw3 (f1.trans (f2.trans f3)) (he.mono (f1.gsub.trans (f2.gsub.trans f3.gsub))) h2
variable {b : Bool} {k : Nat} {g : Addr} {fd : FuncData} {ps : List Str} {s : DL} {x : Str} {p : Pos}
def dMeth (n m : Str) (s : DL) (doo : DT) (dl : DTa) : DT := fun ρ O Q => doo ρ O fun x O1 => ∃ p fs, x = .ref p ∧ O1 p = some (.ins n fs) ∧ fs.lookup m = none ∧ dl ρ O1 fun ds O2 => s (x :: ds) O2 Q
theorem de_meth (hc : ClsOk X.K n C) (hm : Meth X.K C m g) (F : FnB X.prog X.w X.K X.mg X.base b k g fd ps (Prom X.K s)) (hr : Rm k X) (hcm : X.calm = true) (hb : Binds X.K fd ps []) (ho : DE X o doo) (ha : DA X (e :: es) dl)
    (hst : starEach (e :: es) X.env = (false, eval e X.env) :: starEach es X.env := by rfl) (hpl : (backTo pos (starEach es X.env)).any (·.1) = false := by rfl)
    (pl : Sem Bool)
    (ht : eval (.Call (.Attribute o m apos) (e :: es) [] pos) X.env = (do
      let ov ← eval o X.env
      standAt apos.atName
      let (f, first) ← holding [ov] (getMethod ov m pl)
      callWith pos f first (backTo pos (starEach (e :: es) X.env)) (backToKw pos (keywordEach [] X.env)))) :
    DE X (.Call (.Attribute o m apos) (e :: es) [] pos) (dMeth n m s doo dl) := by
  obtain ⟨to, po, fo⟩ := ho
  obtain ⟨tl, pl', fl⟩ := ha
  refine ⟨_, pe_meth (pl := pl) po hc.cls hm F.ok (hr.room hcm) hb .nil pass0 pl' hst hpl ht, fun ρ σ w Q' Q hw he lk h => ?_⟩
  refine fo ρ σ w _ _ hw he (fun x vx w1 hw1 f1 rx ⟨q, fs, ex, eo, el, h1⟩ => ?_) h
  subst ex
  obtain ⟨dx, gs, hh, r⟩ := ins_own hw1 hc eo
  refine ⟨q, dx, gs, rx.ref_of, hh, r.none el, ?_⟩
  refine fl ρ σ w1 _ _ hw1 (he.mono f1.gsub) (fun ds vs w2 hw2 f2 rs h2 => ?_) h1
  rw [List.append_nil]
  exact ⟨_, w2, Q', rfl, hw2, .cons (rx.mono f2.gsub) rs, lk.after (f1.trans f2), h2⟩
theorem de_meth0 (hc : ClsOk X.K n C) (hm : Meth X.K C m g) (F : FnB X.prog X.w X.K X.mg X.base b k g fd ps (Prom X.K s)) (hr : Rm k X) (hcm : X.calm = true) (hb : Binds X.K fd ps []) (ho : DE X o doo)
    (pl : Sem Bool)
    (ht : eval (.Call (.Attribute o m apos) [] [] pos) X.env = (do
      let ov ← eval o X.env
      standAt apos.atName
      let (f, first) ← holding [ov] (getMethod ov m pl)
      callWith pos f first (backTo pos (starEach [] X.env)) (backToKw pos (keywordEach [] X.env)))) :
    DE X (.Call (.Attribute o m apos) [] [] pos) (dMeth n m s doo dNil) := by
  obtain ⟨to, po, fo⟩ := ho
  refine ⟨_, pe_meth0 (pl := pl) po hc.cls hm F.ok (hr.room hcm) hb .nil pass0 ht, fun ρ σ w Q' Q hw he lk h => ?_⟩
  refine fo ρ σ w _ _ hw he (fun x vx w1 hw1 f1 rx ⟨q, fs, ex, eo, el, h1⟩ => ?_) h
  subst ex
  obtain ⟨dx, gs, hh, r⟩ := ins_own hw1 hc eo
  refine ⟨q, dx, gs, rx.ref_of, hh, r.none el, ?_⟩
  exact ⟨[.ref q], w1, Q', rfl, hw1, .cons rx .nil, lk.after f1, h1⟩
def dMake (n : Str) (s : DL) (dl : DTa) : DT := fun ρ O Q => dl ρ O fun ds O1 => ∀ p, O1 p = none → s (.ref p :: ds) (O1.set p (.ins n [])) fun v O2 => v = .non ∧ Q (.ref p) O2
/-- an object that nobody tells of -/
theorem Own.more {K : PySem.W.Frag} {w : Wd} {q : Addr} {o : HO} (h : Own K w) (e : w.H q = none) : Own K ⟨w.G, w.O, upd w.H q o⟩ ∧ Fr w ⟨w.G, w.O, upd w.H q o⟩ :=
  ⟨⟨fun b x z => (upd_ne (ne_of_none (h.sub b x z) e)).trans (h.sub b x z), fun b u z => let ⟨z1, x, z2, z3⟩ := h.own b u z; ⟨z1, x, (upd_ne (ne_of_none z2 e)).trans z2, z3⟩⟩,
   ⟨Same.refl _, fun b x z _ => (upd_ne (ne_of_none z e)).trans z, fun b x z _ => .inl z, fun b z => .inr z, fun b z => by
    by_cases y : b = q
    · show upd w.H q o b ≠ none
      rw [y, upd_same]; simp
    · show upd w.H q o b ≠ none
      rw [upd_ne y]; exact z⟩⟩
theorem sem_make {t : TA} (hc : ClsOk X.K n C) (f : SemA X.K t dl) : Sem1 X.K (tMake C (Prom X.K s) [] E0 t) (dMake n s dl) := by
  intro ρ σ w Q' Q hw he lk h
  refine f ρ σ w _ _ hw he (fun ds vs w1 hw1 f1 rs h1 x dx nx ndx ne => ?_) h
  rw [List.append_nil]
  obtain ⟨o2, fr2⟩ := Own.more (o := .own x) hw1 ndx
  have nx2 : upd w1.H dx (.own x) x = none := (upd_ne (fun z => ne z.symm)).trans nx
  have ro : RepO X.K w1.G (.ins n []) (.ins C dx []) := ⟨C, dx, [], hc.at_, rfl, .nil⟩
  have o3 := o2.give (o := .ins n []) (x := .ins C dx []) nx2 ro
  have fr3 := Fr.give (o := .ins n []) (x := .ins C dx []) o2 nx2
  refine ⟨.ref x :: ds, _, fun v O2 => v = .non ∧ Q' (.ref x) O2, rfl, o3, .cons (.ref x) rs, fun d v w' hw' f' rv ⟨ev, q⟩ => ?_, h1 x (hw1.none_of nx).2⟩
  subst ev
  exact ⟨rv.non_of, lk _ _ w' hw' (f1.trans (fr2.trans (fr3.trans f'))) (.ref x) q⟩
theorem de_make {M : Addr} (hc : ClsOk X.K n C) (mk : Mk X.K C M) (F : FnB X.prog X.w X.K X.mg X.base b k M fd ps (Prom X.K s)) (hr : Rm (k + 1) X) (hcm : X.calm = true) (hg : Gl X x) (hm : X.mg x = some (.ref C)) (hb : Binds X.K fd ps []) (ha : DA X (e :: es) dl)
    (hdb : (x == ("__debug__" : Str)) = false := by decide) (he : starEach (e :: es) X.env = (false, eval e X.env) :: starEach es X.env := by rfl) (hpl : (backTo pos (starEach es X.env)).any (·.1) = false := by rfl) :
    DE X (.Call (.Name x p) (e :: es) [] pos) (dMake n s dl) := by
  obtain ⟨t, pa, fa⟩ := ha
  exact ⟨_, pe_make mk F.ok (hr.room hcm) hg hm hb .nil pass0 pa hdb he hpl, sem_make hc fa⟩
theorem de_make0 {M : Addr} (hc : ClsOk X.K n C) (mk : Mk X.K C M) (F : FnB X.prog X.w X.K X.mg X.base b k M fd ps (Prom X.K s)) (hr : Rm (k + 1) X) (hcm : X.calm = true) (hg : Gl X x) (hm : X.mg x = some (.ref C)) (hb : Binds X.K fd ps [])
    (hdb : (x == ("__debug__" : Str)) = false := by decide) : DE X (.Call (.Name x p) [] [] pos) (dMake n s dNil) := by
  refine ⟨_, pe_make0 mk F.ok (hr.room hcm) hg hm hb .nil pass0 hdb, sem_make hc ?_⟩
  intro ρ σ w Q' Q hw he lk h
  exact lk [] [] w hw (Fr.refl w) .nil h
/-- a def without parameters -/
theorem de_call0 (F : FnB X.prog X.w X.K X.mg X.base b k g fd ps (Prom X.K s)) (hr : Rm k X) (hcm : X.calm = true) (hg : Gl X x) (hm : X.mg x = some (.ref g)) (hk : PySem.W.keepIn X.K (.ref g) = true) (hb : Binds X.K fd ps [])
    (hdb : (x == ("__debug__" : Str)) = false := by decide) : DE X (.Call (.Name x p) [] [] pos) (dCall s dNil) := by
  refine ⟨_, pe_call0 F.ok (hr.room hcm) hg hm hk hb .nil pass0 hdb, sem_call ?_⟩
  intro ρ σ w Q' Q hw he lk h
  exact lk [] [] w hw (Fr.refl w) .nil h
end
/-! ### constants of the text: pairs of ints -/
theorem konst {K : PySem.W.Frag} {a : Addr} {od : Option Addr} {n : Nat} {sl : Array (Option Value)} {x y : Int} {t u : Tok} (h : K.lookup a = some ⟨.type "tuple", od, .seq #[.int x t, .int y u] n, sl⟩) {G : Hp} : Rep K G (kst x y) (.ref a) := by
  refine Rep.tup (vs := [.int x, .int y]) (.inr ⟨_, _, _, h, rfl, rfl, by show 2 ≤ sizeLine; decide, ?_⟩) (.cons (.int x) (.cons (.int y) .nil))
  exact .cons ⟨_, rfl⟩ (.cons ⟨_, rfl⟩ .nil)
/-! ### loops that only look -/
theorem for_all {α : Type} {gd : D → DEnv → Option DEnv} {body : DS'} {fs : List Nat} {stay : Ow → Prop} {E : DEnds} {O : Ow} {ρ0 : DEnv} (enc : α → D) (hst : stay O) : ∀ (xs : List α),
    (∀ x ∈ xs, ∀ E' : DEnds, (∀ ρ2, forget ρ2 fs = ρ0 → E'.nx ρ2 O) → (∀ ρ2 O2, forget ρ2 fs = ρ0 → Ow.le O O2 → E'.nx ρ2 O2) → E'.rt = E.rt → ∃ ρ', gd (enc x) ρ0 = some ρ' ∧ body E' ρ' O) → E.nx ρ0 O → forLoop gd body fs stay E (xs.map enc) ρ0 O
  | [], _, q => q
  | x :: xs, h, q => by
    have h1 : ∀ ρ2 O2, forget ρ2 fs = ρ0 → Ow.le O O2 → ∃ O3, Ow.le O3 O2 ∧ stay O3 ∧ forLoop gd body fs stay E (xs.map enc) (forget ρ2 fs) O3 := fun ρ2 O2 e l => ⟨O, l, hst, by rw [e]; exact for_all enc hst xs (fun y hy => h y (List.mem_cons_of_mem _ hy)) q⟩
    exact h x List.mem_cons_self _ (fun ρ2 e => h1 ρ2 O e (Ow.le.refl _)) h1 rfl
/-- .. over the places of a list -/
theorem for_range {gd : D → DEnv → Option DEnv} {body : DS'} {fs : List Nat} {stay : Ow → Prop} {E : DEnds} {O : Ow} {ρ0 : DEnv} {n : Nat} (hst : stay O)
    (h : ∀ i, i < n → ∀ E' : DEnds, (∀ ρ2, forget ρ2 fs = ρ0 → E'.nx ρ2 O) → (∀ ρ2 O2, forget ρ2 fs = ρ0 → Ow.le O O2 → E'.nx ρ2 O2) → E'.rt = E.rt → ∃ ρ', gd (.int (i : Int)) ρ0 = some ρ' ∧ body E' ρ' O) (q : E.nx ρ0 O) : forLoop gd body fs stay E (rangeD 0 n) ρ0 O := by
  rw [rangeD_map]
  exact for_all (fun (i : Nat) => .int (i : Int)) hst _ (fun i hi => h i (List.mem_range.mp hi)) q
/-- a comprehension over range(n) that reckons f of each place -/
theorem lc_range {gd : D → DEnv → Option DEnv} {te : DT} {stay : Ow → Prop} {ρ : DEnv} {O : Ow} {Q : List D → Ow → Prop} {n : Nat} (f : Nat → D) (hst : stay O)
    (h : ∀ i, i < n → ∃ ρ', gd (.int (i : Int)) ρ = some ρ' ∧ ∀ R : DQ, R (f i) O → te ρ' O R) (q : Q ((List.range n).map f) O) : lcLoop gd dYes te stay ρ (rangeD 0 n) [] O Q := by
  rw [rangeD_map]
  exact lc_map (fun (i : Nat) => .int (i : Int)) f hst _ _ (fun i hi => h i (List.mem_range.mp hi)) (by rw [List.nil_append]; exact q)
theorem lc_range_if {gd : D → DEnv → Option DEnv} {tt : DTt} {te : DT} {stay : Ow → Prop} {ρ : DEnv} {O : Ow} {Q : List D → Ow → Prop} {n : Nat} (f : Nat → D) (t : Nat → Bool) (hst : stay O)
    (h : ∀ i, i < n → ∃ ρ', gd (.int (i : Int)) ρ = some ρ' ∧ (∀ R : Bool → Ow → Prop, R (t i) O → tt ρ' O R) ∧ ∀ R : DQ, R (f i) O → te ρ' O R) (q : Q (((List.range n).filter t).map f) O) : lcLoop gd tt te stay ρ (rangeD 0 n) [] O Q := by
  rw [rangeD_map]
  exact lc_filter (fun (i : Nat) => .int (i : Int)) f t hst _ _ (fun i hi => h i (List.mem_range.mp hi)) (by rw [List.nil_append]; exact q)
theorem lc_map' {α : Type} {gd : D → DEnv → Option DEnv} {te : DT} {stay : Ow → Prop} {ρ : DEnv} {O : Ow} {Q : List D → Ow → Prop} (enc f : α → D) (hst : stay O) (xs : List α)
    (h : ∀ x ∈ xs, ∃ ρ', gd (enc x) ρ = some ρ' ∧ ∀ R : DQ, R (f x) O → te ρ' O R) (q : Q (xs.map f) O) : lcLoop gd dYes te stay ρ (xs.map enc) [] O Q :=
  lc_map enc f hst xs [] h (by rw [List.nil_append]; exact q)
/-! by the place in what is walked -/
theorem for_idx {gd : D → DEnv → Option DEnv} {body : DS'} {fs : List Nat} {stay : Ow → Prop} {E : DEnds} {items : List D} (I : Nat → DEnv → Ow → Prop)
    (step : ∀ k (hk : k < items.length) ρ O (E' : DEnds), I k ρ O → (∀ ρ2 O2 O3, Ow.le O3 O2 → stay O3 → I (k + 1) (forget ρ2 fs) O3 → E'.nx ρ2 O2) → (∀ ρ2 O2 O3, Ow.le O3 O2 → stay O3 → I (k + 1) (forget ρ2 fs) O3 → E'.ct ρ2 O2) →
      E'.rt = E.rt → E'.bk = E.nx → ∃ ρ', gd items[k] ρ = some ρ' ∧ body E' ρ' O)
    (fin : ∀ ρ O, I items.length ρ O → E.nx ρ O) {ρ : DEnv} {O : Ow} (h : I 0 ρ O) : forLoop gd body fs stay E items ρ O := by
  refine forLoop_inv (fun r ρ O => ∃ k, r = items.drop k ∧ k ≤ items.length ∧ I k ρ O) ?_ ?_ _ _ _ ⟨0, rfl, Nat.zero_le _, h⟩
  · rintro d r ρ O E' ⟨k, e, hk, hi⟩ hnx hct hrt hbk
    by_cases hlt : k < items.length
    · rw [List.drop_eq_getElem_cons hlt] at e
      cases e
      exact step k hlt ρ O E' hi (fun ρ2 O2 O3 l s i => hnx ρ2 O2 O3 l s ⟨k + 1, rfl, hlt, i⟩) (fun ρ2 O2 O3 l s i => hct ρ2 O2 O3 l s ⟨k + 1, rfl, hlt, i⟩) hrt hbk
    · rw [List.drop_eq_nil_of_le (by omega)] at e
      cases e
  · rintro ρ O ⟨k, e, hk, hi⟩
    have : k = items.length := by
      have := congrArg List.length e
      rw [List.length_drop, List.length_nil] at this
      omega
    subst this
    exact fin ρ O hi
theorem lc_idx {gd : D → DEnv → Option DEnv} {tt : DTt} {te : DT} {stay : Ow → Prop} {ρ : DEnv} {Q : List D → Ow → Prop} {items : List D} (I : Nat → List D → Ow → Prop)
    (step : ∀ k (hk : k < items.length) acc O (R : List D → Ow → Prop), I k acc O → (∀ acc O, I (k + 1) acc O → R acc O) →
      ∃ ρ', gd items[k] ρ = some ρ' ∧ tt ρ' O fun b O1 => if b = true then te ρ' O1 fun y O2 => stay O2 ∧ R (acc ++ [y]) O2 else stay O1 ∧ R acc O1)
    (fin : ∀ acc O, I items.length acc O → Q acc O) {O : Ow} (h : I 0 [] O) : lcLoop gd tt te stay ρ items [] O Q := by
  refine lcLoop_inv (fun r acc O => ∃ k, r = items.drop k ∧ k ≤ items.length ∧ I k acc O) ?_ ?_ _ _ _ ⟨0, rfl, Nat.zero_le _, h⟩
  · rintro d r acc O R ⟨k, e, hk, hi⟩ hR
    by_cases hlt : k < items.length
    · rw [List.drop_eq_getElem_cons hlt] at e
      cases e
      exact step k hlt acc O R hi fun acc O i => hR acc O ⟨k + 1, rfl, hlt, i⟩
    · rw [List.drop_eq_nil_of_le (by omega)] at e
      cases e
  · rintro acc O ⟨k, e, hk, hi⟩
    have : k = items.length := by
      have := congrArg List.length e
      rw [List.length_drop, List.length_nil] at this
      omega
    subst this
    exact fin acc O hi
theorem rangeD_len {lo : Int} {n : Nat} : (rangeD lo n).length = n := by simp [rangeD]
theorem rangeD_at {n k : Nat} (h : k < (rangeD 0 n).length) : (rangeD 0 n)[k] = .int (k : Int) := by simp [rangeD]
theorem enumD_len {l : List D} : (enumD l).length = l.length := by simp [enumD]
theorem enumD_at {l : List D} {k : Nat} (h : k < (enumD l).length) : (enumD l)[k] = .tup [.int (k : Int), l[k]'(by simpa [enumD] using h)] := by simp [enumD]
theorem zipD_len {l m : List D} : (zipD l m).length = min l.length m.length := by simp [zipD]
theorem zipD_at {l m : List D} {k : Nat} (h : k < (zipD l m).length) : (zipD l m)[k] = .tup [l[k]'(by rw [zipD_len] at h; omega), m[k]'(by rw [zipD_len] at h; omega)] := by simp [zipD]
/-! ### a list by its view; what is equal to itself -/
theorem lv_not {O : Ow} {d : D} {l : List D} (h : lv O d = some l) : (∃ p, d = .ref p) ∨ d = .lst l := by
  cases d with
  | lst m => simp only [lv, Option.some.injEq] at h; exact .inr (by rw [h])
  | ref p => exact .inl ⟨p, rfl⟩
  | _ => simp [lv] at h
theorem len_lv {O : Ow} {d : D} {l : List D} {Q : DQ} (h : lv O d = some l) (q : Q (.int l.length) O) : dLen [d] O Q := by
  rcases lv_not h with ⟨p, rfl⟩ | rfl
  · rw [dLen_ref]; exact ⟨l, h, q⟩
  · rw [dLen_lst]; exact q
theorem ix_lv {O : Ow} {d x : D} {l : List D} {i : Int} {Q : DQ} (h : lv O d = some l) (hi : atI l i = some x) (q : Q x O) : dIx d (.int i) O Q := by
  rcases lv_not h with ⟨p, rfl⟩ | rfl
  · rw [dIx_ref]; exact ⟨l, h, x, hi, q⟩
  · rw [dIx_lst]; exact ⟨x, hi, q⟩
theorem atI_get' {α : Type} {l : List α} {i : Nat} (h : i < l.length) : atI l (i : Int) = some l[i] := atI_nat (List.getElem?_eq_getElem h)
theorem atI_map {α : Type} {l : List α} {f : α → D} {i : Nat} (h : i < l.length) : atI (l.map f) (i : Int) = some (f l[i]) := atI_nat (by rw [List.getElem?_map, List.getElem?_eq_getElem h]; rfl)
theorem tyN_lv {O : Ow} {d : D} {l : List D} (h : lv O d = some l) : tyN O d = some "list" := by
  cases d with
  | lst m => rfl
  | ref p =>
    simp only [lv] at h
    split at h
    · rename_i m hm
      simp only [tyN, hm]
    · cases h
  | _ => simp [lv] at h
theorem vw_lv {O : Ow} {d : D} {l : List D} (h : lv O d = some l) : vw O d = .lst l := by
  cases d with
  | lst m => simp only [lv, Option.some.injEq] at h; rw [h]; rfl
  | ref p =>
    simp only [lv] at h
    split at h
    · rename_i m hm
      cases h
      simp only [vw, hm]
    · cases h
  | _ => simp [lv] at h
mutual
theorem eqv_refl : ∀ (n : Nat) (d : D), okE n d = true → eqv d d = true
  | n, .non, _ => by simp [eqv]
  | n, .bl _, _ => by simp [eqv]
  | n, .int _, _ => by simp [eqv]
  | n, .str _, _ => by simp [eqv]
  | 0, .lst _, h => by simp [okE] at h
  | 0, .tup _, h => by simp [okE] at h
  | n + 1, .lst l, h => by simp only [okE] at h; simp only [eqv]; exact eqvs_refl n l h
  | n + 1, .tup l, h => by simp only [okE] at h; simp only [eqv]; exact eqvs_refl n l h
  | 0, .ref _, h => by simp [okE] at h
  | n + 1, .ref _, h => by simp [okE] at h
  | 0, .ty _, h => by simp [okE] at h
  | n + 1, .ty _, h => by simp [okE] at h
theorem eqvs_refl : ∀ (n : Nat) (l : List D), okEs n l = true → eqvs l l = true
  | n, [], _ => by simp [eqvs]
  | n, x :: l, h => by
    simp only [okEs, Bool.and_eq_true] at h
    simp only [eqvs, eqv_refl n x h.1, eqvs_refl n l h.2, Bool.and_self]
end
theorem dNe_same {O : Ow} {x y d : D} {Q : DQ} (hx : vw O x = d) (hy : vw O y = d) (h : okE 60 d = true) (q : Q (.bl false) O) : dNe x y O Q := by
  unfold dNe
  rw [hx, hy, eqv_refl 60 d h]
  exact ⟨h, h, q⟩
theorem dEq_same {O : Ow} {x y d : D} {Q : DQ} (hx : vw O x = d) (hy : vw O y = d) (h : okE 60 d = true) (q : Q (.bl true) O) : dEq x y O Q := by
  unfold dEq
  rw [hx, hy, eqv_refl 60 d h]
  exact ⟨h, h, q⟩
theorem okEs_map {α : Type} {n : Nat} {f : α → D} : ∀ {l : List α}, (∀ x ∈ l, okE n (f x) = true) → okEs n (l.map f) = true
  | [], _ => by simp [okEs]
  | x :: l, h => by
    simp only [List.map_cons, okEs, h x List.mem_cons_self, okEs_map fun y hy => h y (List.mem_cons_of_mem _ hy), Bool.and_self]
theorem okE_int {n : Nat} {i : Int} : okE n (.int i) = true := by cases n <;> simp [okE]
theorem okE_non {n : Nat} : okE n .non = true := by cases n <;> simp [okE]
theorem okE_bl {n : Nat} {b : Bool} : okE n (.bl b) = true := by cases n <;> simp [okE]
/-! ### a list either way -/
def mkA : List D → Ow → DQ → Prop := fun l O Q => mkO l O Q ∨ mkF l O Q
theorem mk_A : MkOk mkA := fun K w l vs Q' Q p h e r lk q => q.elim (mk_O K w l vs Q' Q p h e r lk) (mk_F K w l vs Q' Q p h e r lk)
local macro_rules | `(tactic| walk_at "ds") => `(tactic| try simp (dsimp := false) only [↓lz_ap, ↓dCallZ_ap, dVar, dC, dOp, dUn, dTest, asB, dAnd, dOr, dNot, dAndV, dOrV, dNotV, dIf, dNil, dCons, dTup, dLst, mkF, mkO, dCall, dBu, dII, dI0, dNeg, dAdd, dIsN, dNotN, isNon_non, isNon_int, isNon_tup, isNon_lst, isNon_ref, isNon_str,
  dIx_r0, dIx_r1, dLen_rat, tyN_rat, isNon_rat, dEq_rr, dNe_rr, fold0, fold1, qv_rat, dIx_tup, dIx_lst, dIx_ref, dIx_str, dLen_tup, dLen_lst, dLen_ref, dLen_str, qv_tup, qv_lst, qv_ref, lv_lst, lv_set, dAbs, dInt1, dTuple, dList, dSum, dAll, dIsi, tyN_int, tyN_bl, tyN_non, tyN_str, tyN_tup, tyN_lst, tyN_set, dMt, dMt0, dAppend, dClear, dReverse, dNext, dThen, dDrop, dRet, dRetN, dIfS, dAsg, dBreak, dCont, dNever, tgN, tgT_tup, setAll_nil, setAll_cons, dSetI, dAug, dAugI, dSlice, drSlice, dPart, dNoP, dYes,
  dFor, dSeq, dRng1, dRng2, dEnum, dZip, dLc, startD, List.map_cons, List.map_nil, List.length_cons, List.length_nil, List.replicate_zero, List.replicate_succ, List.cons_append, List.nil_append, List.set_cons_zero, List.set_cons_succ, List.getElem?_cons_zero, List.getElem?_cons_succ,
  Option.some.injEq, exists_eq_left', exists_eq_left, forget_nil, forget_cons, wipeD, gt0, gt1, gt2, gt3, Ow.set_same, Ow.set_set, OO.lst.injEq, ix20, ix21, ix30, ix31, ix32, List.length_set, kit_int_int, kit_int_bool, kit_bool_int, kit_bool_bool, kit_tup_tup, kit_lst_lst, kit_tup_int, kit_tup_lst, kit_lst_tup, kit_str_str, kit_non_tup, kit_non_lst,
  dEq_ii, dNe_ii, dEq_bb, dNe_bb, dSub, dMul, dFdiv, dMod, dPow, dLt, dLe, dGt, dGe, Nat.reduceLeDiff, Bool.false_eq_true, reduceIte, beq_self_eq_true, true_and, and_true, if_true, Bool.not_true, Bool.not_false, dMeth, dMake, dSetF, nc2, nc3, nc4, e42, e24, Option.isNone_none, Option.isNone_some, Option.isSome_none, Option.isSome_some, Nat.reduceAdd, Nat.reduceSub])


-- startD 3
def B_common : DS' :=
  (dThen (dWhile (dTest (dOp dGt (dVar 1) (dC (.int 0))))
  (dThen (dAsg (dOp dMod (dVar 0) (dVar 1)) (tgN 2))
  (dThen (dAsg (dVar 1) (tgN 0))
  (dAsg (dVar 2) (tgN 1)))) [2])
  (dRet (dVar 0)))

def sp_common : DL := fun ds O Q => ∃ a b : Int, ds = [.int a, .int b] ∧ 0 ≤ a ∧ 0 ≤ b ∧ Q (.int (Int.gcd a b)) O
theorem ln_common : ∀ ds O Q, sp_common ds O Q → ds.length = 2 := by rintro ds O Q ⟨a, b, rfl, _⟩; rfl
theorem gcd_step {x y : Int} (hx : 0 ≤ x) (hy : 0 ≤ y) : Int.gcd y (x % y) = Int.gcd y x := by
  obtain ⟨a, rfl⟩ := Int.eq_ofNat_of_zero_le hx
  obtain ⟨b, rfl⟩ := Int.eq_ofNat_of_zero_le hy
  have e : ((a : Int) % (b : Int)) = ((a % b : Nat) : Int) := rfl
  rw [e]
  show Nat.gcd b (a % b) = Nat.gcd b a
  rw [Nat.gcd_comm b (a % b), ← Nat.gcd_rec]
theorem hb_common : ∀ ds O Q, sp_common ds O Q → B_common (rtEnds Q) (startD 3 ds) O := by
  rintro ds O Q ⟨a, b, rfl, ha, hb, q⟩
  unfold B_common
  walk_at "ds"
  refine ⟨fun m ρ O' => ∃ x y : Int, ρ = [some (.int x), some (.int y), none] ∧ 0 ≤ x ∧ 0 ≤ y ∧ m = y.toNat ∧ O' = O ∧ Int.gcd x y = Int.gcd a b, ⟨b.toNat, a, b, rfl, ha, hb, rfl, rfl, rfl⟩, ?_⟩
  rintro m ρ O' ⟨x, y, rfl, hx, hy, rfl, rfl, e⟩
  walk_at "ds"
  split
  · rename_i h
    have h := of_decide_eq_true h
    have e1 : x.fmod y = x % y := Int.fmod_eq_emod_of_nonneg x hy
    have h1 := Int.emod_nonneg x (show y ≠ 0 by omega)
    have h2 := Int.emod_lt_of_pos x h
    refine ⟨by omega, O', _, Ow.le.refl _, ?_, y, x % y, by rw [e1], hy, h1, rfl, rfl, ?_⟩
    · omega
    · rw [← e, Int.gcd_comm x y]
      exact gcd_step hx hy
  · rename_i h
    have h0 : y = 0 := by
      have := of_decide_eq_false (Bool.eq_false_iff.mpr h)
      omega
    subst h0
    refine rt_here ?_
    rw [← e] at q
    have : (Int.gcd x 0 : Int) = x := by simp [Int.gcd]; omega
    rw [this] at q
    exact q
-- startD 3
def B_l_most : DS' :=
  (dThen (dWhile (dTest (dOp dGt (dVar 1) (dC (.int 0))))
  (dThen (dAsg (dOp dMod (dVar 0) (dVar 1)) (tgN 2))
  (dThen (dAsg (dVar 1) (tgN 0))
  (dAsg (dVar 2) (tgN 1)))) [2])
  (dRet (dVar 0)))

abbrev sp_l_most := sp_common
theorem ln_l_most : ∀ ds O Q, sp_l_most ds O Q → ds.length = 2 := ln_common
theorem hb_l_most : ∀ ds O Q, sp_l_most ds O Q → B_l_most (rtEnds Q) (startD 3 ds) O := hb_common

/-! ratios -/
def SzR (n : Nat) (q : Rat) : Prop := Sz n q.num ∧ Sz n (q.den : Int)
theorem SzR.mono {n m : Nat} {q : Rat} (h : SzR n q) (l : n ≤ m) : SzR m q := ⟨h.1.mono l, h.2.mono l⟩
theorem divInt_sz {n m : Nat} {t b : Int} (ht : Sz n t) (hb : Sz m b) (h0 : b ≠ 0) : Sz n (Rat.divInt t b).num ∧ Sz m ((Rat.divInt t b).den : Int) := by
  constructor
  · rw [Rat.num_divInt]
    have h1 : ((b.sign * t) / (b.gcd t : Int)).natAbs ≤ (b.sign * t).natAbs := Int.natAbs_ediv_le_natAbs _ _
    have h2 : (b.sign * t).natAbs ≤ t.natAbs := by
      rw [Int.natAbs_mul]
      rcases Int.lt_or_gt_of_ne h0 with h | h
      · rw [Int.sign_eq_neg_one_of_neg h]; simp
      · rw [Int.sign_eq_one_of_pos h]; simp
    unfold Sz at *
    omega
  · rw [Rat.den_divInt, if_neg h0]
    have h1 : b.natAbs / b.gcd t ≤ b.natAbs := Nat.div_le_self _ _
    unfold Sz at *
    rw [Int.natAbs_natCast]
    omega
theorem rat_den_pos (q : Rat) : (0 : Int) < (q.den : Int) := by have := q.den_pos; omega
theorem SzR.divInt {n : Nat} {t b : Int} (ht : Sz n t) (hb : Sz n b) (h0 : b ≠ 0) : SzR n (Rat.divInt t b) := divInt_sz ht hb h0
theorem add_raw (a b : Rat) : Rat.divInt (a.num * (b.den : Int) + b.num * (a.den : Int)) ((a.den : Int) * (b.den : Int)) = a + b := by
  have h1 := Rat.divInt_add_divInt a.num b.num (d₁ := (a.den : Int)) (d₂ := (b.den : Int)) (by have := rat_den_pos a; omega) (by have := rat_den_pos b; omega)
  rw [Rat.num_divInt_den, Rat.num_divInt_den] at h1
  exact h1.symm
theorem sub_raw (a b : Rat) : Rat.divInt (a.num * (b.den : Int) - b.num * (a.den : Int)) ((a.den : Int) * (b.den : Int)) = a - b := by
  have h1 := Rat.divInt_sub_divInt a.num b.num (d₁ := (a.den : Int)) (d₂ := (b.den : Int)) (by have := rat_den_pos a; omega) (by have := rat_den_pos b; omega)
  rw [Rat.num_divInt_den, Rat.num_divInt_den] at h1
  exact h1.symm
theorem mul_raw (a b : Rat) : Rat.divInt (a.num * b.num) ((a.den : Int) * (b.den : Int)) = a * b := by
  have h1 := Rat.divInt_mul_divInt a.num b.num (d₁ := (a.den : Int)) (d₂ := (b.den : Int))
  rw [Rat.num_divInt_den, Rat.num_divInt_den] at h1
  exact h1.symm
theorem div_raw (a b : Rat) : Rat.divInt (a.num * (b.den : Int)) ((a.den : Int) * b.num) = a / b := by
  have h1 := Rat.divInt_mul_divInt a.num (b.den : Int) (d₁ := (a.den : Int)) (d₂ := b.num)
  rw [Rat.num_divInt_den] at h1
  rw [← h1, Rat.div_def, Rat.inv_def]
theorem dens_ne (a b : Rat) : ((a.den : Int) * (b.den : Int)) ≠ 0 := by
  have h1 := rat_den_pos a
  have h2 := rat_den_pos b
  exact Int.ne_of_gt (Int.mul_pos h1 h2)
theorem SzR.add {n m : Nat} {a b : Rat} (ha : SzR n a) (hb : SzR m b) : SzR (n + m + 1) (a + b) := by
  rw [← add_raw]
  refine SzR.divInt (((ha.1.mul hb.2).add (hb.1.mul ha.2)).mono (by omega)) ((ha.2.mul hb.2).mono (by omega)) (dens_ne a b)
theorem SzR.sub {n m : Nat} {a b : Rat} (ha : SzR n a) (hb : SzR m b) : SzR (n + m + 1) (a - b) := by
  rw [← sub_raw]
  refine SzR.divInt (((ha.1.mul hb.2).sub (hb.1.mul ha.2)).mono (by omega)) ((ha.2.mul hb.2).mono (by omega)) (dens_ne a b)
theorem SzR.mul {n m : Nat} {a b : Rat} (ha : SzR n a) (hb : SzR m b) : SzR (n + m) (a * b) := by
  rw [← mul_raw]
  exact SzR.divInt (ha.1.mul hb.1) (ha.2.mul hb.2) (dens_ne a b)
theorem SzR.neg {n : Nat} {a : Rat} (ha : SzR n a) : SzR n (-a) := ⟨by rw [Rat.neg_num]; exact ha.1.neg, by rw [Rat.neg_den]; exact ha.2⟩
theorem gcd_ne {t b : Int} (h : b ≠ 0) : ((Int.gcd t b : Nat) : Int) ≠ 0 := by
  have : Int.gcd t b ≠ 0 := fun z => h (Int.gcd_eq_zero_iff.mp z).2
  omega
/-- top // most, bottom // most, the greatest one's sign the bottom's -/
theorem ratio_eq {t b : Int} (h : b ≠ 0) :
    (0 < b → D.tup [.int (t.fdiv (Int.gcd t b)), .int (b.fdiv (Int.gcd t b))] = rat (Rat.divInt t b)) ∧
    (b < 0 → D.tup [.int (t.fdiv (-(Int.gcd t b : Int))), .int (b.fdiv (-(Int.gcd t b : Int)))] = rat (Rat.divInt t b)) := by
  have g0 := gcd_ne (t := t) h
  have d1 : ((Int.gcd t b : Nat) : Int) ∣ t := Int.gcd_dvd_left _ _
  have d2 : ((Int.gcd t b : Nat) : Int) ∣ b := Int.gcd_dvd_right _ _
  unfold rat
  rw [Rat.num_divInt, Rat.den_divInt, if_neg h, Int.gcd_comm b t]
  have eN : ((b.natAbs / t.gcd b : Nat) : Int) = (b.natAbs : Int) / (t.gcd b : Int) := rfl
  rw [eN]
  constructor
  · intro hp
    rw [Int.fdiv_eq_ediv_of_dvd d1, Int.fdiv_eq_ediv_of_dvd d2, Int.sign_eq_one_of_pos hp, Int.one_mul, show ((b.natAbs : Nat) : Int) = b by omega]
  · intro hn
    rw [Int.fdiv_eq_ediv_of_dvd (Int.neg_dvd.mpr d1), Int.fdiv_eq_ediv_of_dvd (Int.neg_dvd.mpr d2), Int.ediv_neg, Int.ediv_neg, Int.sign_eq_neg_one_of_neg hn, show ((b.natAbs : Nat) : Int) = -b by omega]
    rw [show (-1 : Int) * t = -t by omega, Int.neg_ediv_of_dvd d1, Int.neg_ediv_of_dvd d2]
def sp_ratio : DL := fun ds O Q => ∃ t b : Int, ds = [.int t, .int b] ∧ b ≠ 0 ∧ Sz 13000 t ∧ Sz 13000 b ∧ Q (rat (Rat.divInt t b)) O
theorem ln_ratio : ∀ ds O Q, sp_ratio ds O Q → ds.length = 2 := by rintro ds O Q ⟨a, b, rfl, _⟩; rfl
theorem ratio_ap {t b : Int} {O : Ow} {Q : DQ} (h : b ≠ 0) (ht : Sz 13000 t) (hb : Sz 13000 b) (q : Q (rat (Rat.divInt t b)) O) : sp_ratio [.int t, .int b] O Q := ⟨t, b, rfl, h, ht, hb, q⟩
theorem ratio_fin {t b : Int} {O : Ow} {Q : DQ} (h : b ≠ 0) (ht : Sz 13000 t) (hb : Sz 13000 b) (q : Q (rat (Rat.divInt t b)) O) :
    if decide (b < 0) = true then (Dok t (-(Int.gcd t b : Int)) ∧ Dok b (-(Int.gcd t b : Int)) ∧ Q (D.tup [.int (t.fdiv (-(Int.gcd t b : Int))), .int (b.fdiv (-(Int.gcd t b : Int)))]) O)
    else (Dok t (Int.gcd t b) ∧ Dok b (Int.gcd t b) ∧ Q (D.tup [.int (t.fdiv (Int.gcd t b)), .int (b.fdiv (Int.gcd t b))]) O) := by
  have g0 := gcd_ne (t := t) h
  obtain ⟨e1, e2⟩ := ratio_eq (t := t) h
  by_cases hn : b < 0
  · rw [if_pos (decide_eq_true hn)]
    exact ⟨.szx (by omega) ht, .szx (by omega) hb, by rw [e2 hn]; exact q⟩
  · rw [if_neg (by rw [decide_eq_false hn]; exact Bool.false_ne_true)]
    exact ⟨.szx g0 ht, .szx g0 hb, by rw [e1 (by omega)]; exact q⟩
-- startD 3
def B_ratio : DS' :=
  (dThen (dIfS (dTest (dOp dEq (dVar 1) (dC (.int 0)))) dNever dNext)
  (dThen (dAsg (dCall sp_common (dCons (dBu dAbs (dCons (dVar 0) dNil)) (dCons (dBu dAbs (dCons (dVar 1) dNil)) dNil))) (tgN 2))
  (dThen (dIfS (dTest (dOp dLt (dVar 1) (dC (.int 0)))) (dAsg (dUn dNeg (dVar 2)) (tgN 2)) dNext)
  (dRet (dTup (dCons (dOp dFdiv (dVar 0) (dVar 2)) (dCons (dOp dFdiv (dVar 1) (dVar 2)) dNil)))))))

theorem natAbs_gcd (t b : Int) : Int.gcd (t.natAbs : Int) (b.natAbs : Int) = Int.gcd t b := by simp [Int.gcd]
theorem hb_ratio : ∀ ds O Q, sp_ratio ds O Q → B_ratio (rtEnds Q) (startD 3 ds) O := by
  rintro ds O Q ⟨t, b, rfl, h, ht, hb, q⟩
  unfold B_ratio
  walk_at "ds"
  rw [show (b == 0) = false from beq_eq_false_iff_ne.mpr h]
  walk_at "ds"
  refine ⟨_, _, rfl, by omega, by omega, ?_⟩
  walk_at "ds"
  rw [natAbs_gcd]
  exact ratio_fin (Q := (rtEnds Q).rt) h ht hb (rt_here q)
-- startD 3
def B_l_ratio : DS' :=
  (dThen (dAsg (dCall sp_l_most (dCons (dBu dAbs (dCons (dVar 0) dNil)) (dCons (dBu dAbs (dCons (dVar 1) dNil)) dNil))) (tgN 2))
  (dThen (dIfS (dTest (dOp dLt (dVar 1) (dC (.int 0)))) (dAsg (dUn dNeg (dVar 2)) (tgN 2)) dNext)
  (dRet (dTup (dCons (dOp dFdiv (dVar 0) (dVar 2)) (dCons (dOp dFdiv (dVar 1) (dVar 2)) dNil))))))

abbrev sp_l_ratio := sp_ratio
theorem ln_l_ratio : ∀ ds O Q, sp_l_ratio ds O Q → ds.length = 2 := ln_ratio
theorem hb_l_ratio : ∀ ds O Q, sp_l_ratio ds O Q → B_l_ratio (rtEnds Q) (startD 3 ds) O := by
  rintro ds O Q ⟨t, b, rfl, h, ht, hb, q⟩
  unfold B_l_ratio
  walk_at "ds"
  refine ⟨_, _, rfl, by omega, by omega, ?_⟩
  walk_at "ds"
  rw [natAbs_gcd]
  exact ratio_fin (Q := (rtEnds Q).rt) h ht hb (rt_here q)
/-! sums, differences, products -/
def spR2 (f : Rat → Rat → Rat) : DL := fun ds O Q => ∃ (a : Rat) (x y : Int), ds = [rat a, .tup [.int x, .int y]] ∧ SzR 6000 a ∧ Sz 6000 x ∧ Sz 6000 y ∧ 0 < y ∧ Q (rat (f a (Rat.divInt x y))) O
theorem R2_raw {f : Rat → Rat → Rat} {a : Rat} {x y : Int} {O : Ow} {Q : DQ} (ha : SzR 6000 a) (hx : Sz 6000 x) (hy : Sz 6000 y) (h0 : 0 < y) (q : Q (rat (f a (Rat.divInt x y))) O) : spR2 f [rat a, .tup [.int x, .int y]] O Q := ⟨a, x, y, rfl, ha, hx, hy, h0, q⟩
theorem R2_ap {f : Rat → Rat → Rat} {a b : Rat} {O : Ow} {Q : DQ} (ha : SzR 6000 a) (hb : SzR 6000 b) (q : Q (rat (f a b)) O) : spR2 f [rat a, rat b] O Q := ⟨a, b.num, (b.den : Int), rfl, ha, hb.1, hb.2, rat_den_pos b, by rw [Rat.num_divInt_den]; exact q⟩
theorem lnR2 {f : Rat → Rat → Rat} : ∀ ds O Q, spR2 f ds O Q → ds.length = 2 := by rintro ds O Q ⟨a, x, y, rfl, _⟩; rfl
theorem mok6 {a b : Int} (ha : Sz 6000 a) (hb : Sz 6000 b) : Mok a b := .of ha hb (by decide)
abbrev sp_plus := spR2 (· + ·)
abbrev sp_minus := spR2 (· - ·)
abbrev sp_times := spR2 (· * ·)
abbrev ln_plus := @lnR2 (· + ·)
abbrev ln_minus := @lnR2 (· - ·)
abbrev ln_times := @lnR2 (· * ·)
abbrev sp_l_plus := spR2 (· + ·)
abbrev sp_l_minus := spR2 (· - ·)
abbrev sp_l_times := spR2 (· * ·)
abbrev ln_l_plus := @lnR2 (· + ·)
abbrev ln_l_minus := @lnR2 (· - ·)
abbrev ln_l_times := @lnR2 (· * ·)
theorem den_ne {a : Rat} {y : Int} (h : 0 < y) : (a.den : Int) * y ≠ 0 := Int.ne_of_gt (Int.mul_pos (rat_den_pos a) h)
theorem add_raw2 {a : Rat} {x y : Int} (h : 0 < y) : Rat.divInt (a.num * y + x * (a.den : Int)) ((a.den : Int) * y) = a + Rat.divInt x y := by
  have h1 := Rat.divInt_add_divInt a.num x (d₁ := (a.den : Int)) (d₂ := y) (by have := rat_den_pos a; omega) (by omega)
  rw [Rat.num_divInt_den] at h1
  exact h1.symm
theorem sub_raw2 {a : Rat} {x y : Int} (h : 0 < y) : Rat.divInt (a.num * y - x * (a.den : Int)) ((a.den : Int) * y) = a - Rat.divInt x y := by
  have h1 := Rat.divInt_sub_divInt a.num x (d₁ := (a.den : Int)) (d₂ := y) (by have := rat_den_pos a; omega) (by omega)
  rw [Rat.num_divInt_den] at h1
  exact h1.symm
theorem mul_raw2 {a : Rat} {x y : Int} : Rat.divInt (a.num * x) ((a.den : Int) * y) = a * Rat.divInt x y := by
  have h1 := Rat.divInt_mul_divInt a.num x (d₁ := (a.den : Int)) (d₂ := y)
  rw [Rat.num_divInt_den] at h1
  exact h1.symm
theorem plus_fin {a : Rat} {x y : Int} {O : Ow} {Q : DQ} (ha : SzR 6000 a) (hx : Sz 6000 x) (hy : Sz 6000 y) (h0 : 0 < y) (q : Q (rat (a + Rat.divInt x y)) O) :
    Mok a.num y ∧ Mok x a.den ∧ Mok a.den y ∧ sp_ratio [.int (a.num * y + x * (a.den : Int)), .int ((a.den : Int) * y)] O Q :=
  ⟨mok6 ha.1 hy, mok6 hx ha.2, mok6 ha.2 hy, ratio_ap (den_ne h0) (((ha.1.mul hy).add (hx.mul ha.2)).mono (by decide)) ((ha.2.mul hy).mono (by decide)) (by rw [add_raw2 h0]; exact q)⟩
theorem minus_fin {a : Rat} {x y : Int} {O : Ow} {Q : DQ} (ha : SzR 6000 a) (hx : Sz 6000 x) (hy : Sz 6000 y) (h0 : 0 < y) (q : Q (rat (a - Rat.divInt x y)) O) :
    Mok a.num y ∧ Mok x a.den ∧ Mok a.den y ∧ sp_ratio [.int (a.num * y - x * (a.den : Int)), .int ((a.den : Int) * y)] O Q :=
  ⟨mok6 ha.1 hy, mok6 hx ha.2, mok6 ha.2 hy, ratio_ap (den_ne h0) (((ha.1.mul hy).sub (hx.mul ha.2)).mono (by decide)) ((ha.2.mul hy).mono (by decide)) (by rw [sub_raw2 h0]; exact q)⟩
theorem times_fin {a : Rat} {x y : Int} {O : Ow} {Q : DQ} (ha : SzR 6000 a) (hx : Sz 6000 x) (hy : Sz 6000 y) (h0 : 0 < y) (q : Q (rat (a * Rat.divInt x y)) O) :
    Mok a.num x ∧ Mok a.den y ∧ sp_ratio [.int (a.num * x), .int ((a.den : Int) * y)] O Q :=
  ⟨mok6 ha.1 hx, mok6 ha.2 hy, ratio_ap (den_ne h0) ((ha.1.mul hx).mono (by decide)) ((ha.2.mul hy).mono (by decide)) (by rw [mul_raw2]; exact q)⟩
-- startD 2
def B_plus : DS' :=
  (dRet (dCall sp_ratio (dCons (dOp (dAdd mkF) (dOp dMul (dOp dIx (dVar 0) (dC (.int 0))) (dOp dIx (dVar 1) (dC (.int 1)))) (dOp dMul (dOp dIx (dVar 1) (dC (.int 0))) (dOp dIx (dVar 0) (dC (.int 1))))) (dCons (dOp dMul (dOp dIx (dVar 0) (dC (.int 1))) (dOp dIx (dVar 1) (dC (.int 1)))) dNil))))

-- startD 2
def B_minus : DS' :=
  (dRet (dCall sp_ratio (dCons (dOp dSub (dOp dMul (dOp dIx (dVar 0) (dC (.int 0))) (dOp dIx (dVar 1) (dC (.int 1)))) (dOp dMul (dOp dIx (dVar 1) (dC (.int 0))) (dOp dIx (dVar 0) (dC (.int 1))))) (dCons (dOp dMul (dOp dIx (dVar 0) (dC (.int 1))) (dOp dIx (dVar 1) (dC (.int 1)))) dNil))))

-- startD 2
def B_times : DS' :=
  (dRet (dCall sp_ratio (dCons (dOp dMul (dOp dIx (dVar 0) (dC (.int 0))) (dOp dIx (dVar 1) (dC (.int 0)))) (dCons (dOp dMul (dOp dIx (dVar 0) (dC (.int 1))) (dOp dIx (dVar 1) (dC (.int 1)))) dNil))))

-- startD 2
def B_l_plus : DS' :=
  (dRet (dCall sp_l_ratio (dCons (dOp (dAdd mkF) (dOp dMul (dOp dIx (dVar 0) (dC (.int 0))) (dOp dIx (dVar 1) (dC (.int 1)))) (dOp dMul (dOp dIx (dVar 1) (dC (.int 0))) (dOp dIx (dVar 0) (dC (.int 1))))) (dCons (dOp dMul (dOp dIx (dVar 0) (dC (.int 1))) (dOp dIx (dVar 1) (dC (.int 1)))) dNil))))

-- startD 2
def B_l_minus : DS' :=
  (dRet (dCall sp_l_ratio (dCons (dOp dSub (dOp dMul (dOp dIx (dVar 0) (dC (.int 0))) (dOp dIx (dVar 1) (dC (.int 1)))) (dOp dMul (dOp dIx (dVar 1) (dC (.int 0))) (dOp dIx (dVar 0) (dC (.int 1))))) (dCons (dOp dMul (dOp dIx (dVar 0) (dC (.int 1))) (dOp dIx (dVar 1) (dC (.int 1)))) dNil))))

-- startD 2
def B_l_times : DS' :=
  (dRet (dCall sp_l_ratio (dCons (dOp dMul (dOp dIx (dVar 0) (dC (.int 0))) (dOp dIx (dVar 1) (dC (.int 0)))) (dCons (dOp dMul (dOp dIx (dVar 0) (dC (.int 1))) (dOp dIx (dVar 1) (dC (.int 1)))) dNil))))

theorem hb_plus : ∀ ds O Q, sp_plus ds O Q → B_plus (rtEnds Q) (startD 2 ds) O := by
  rintro ds O Q ⟨a, x, y, rfl, ha, hx, hy, h0, q⟩
  unfold B_plus
  walk_at "ds"
  exact plus_fin (Q := (rtEnds Q).rt) ha hx hy h0 (rt_here q)
theorem hb_minus : ∀ ds O Q, sp_minus ds O Q → B_minus (rtEnds Q) (startD 2 ds) O := by
  rintro ds O Q ⟨a, x, y, rfl, ha, hx, hy, h0, q⟩
  unfold B_minus
  walk_at "ds"
  exact minus_fin (Q := (rtEnds Q).rt) ha hx hy h0 (rt_here q)
theorem hb_times : ∀ ds O Q, sp_times ds O Q → B_times (rtEnds Q) (startD 2 ds) O := by
  rintro ds O Q ⟨a, x, y, rfl, ha, hx, hy, h0, q⟩
  unfold B_times
  walk_at "ds"
  exact times_fin (Q := (rtEnds Q).rt) ha hx hy h0 (rt_here q)
theorem hb_l_plus : ∀ ds O Q, sp_l_plus ds O Q → B_l_plus (rtEnds Q) (startD 2 ds) O := by
  rintro ds O Q ⟨a, x, y, rfl, ha, hx, hy, h0, q⟩
  unfold B_l_plus
  walk_at "ds"
  exact plus_fin (Q := (rtEnds Q).rt) ha hx hy h0 (rt_here q)
theorem hb_l_minus : ∀ ds O Q, sp_l_minus ds O Q → B_l_minus (rtEnds Q) (startD 2 ds) O := by
  rintro ds O Q ⟨a, x, y, rfl, ha, hx, hy, h0, q⟩
  unfold B_l_minus
  walk_at "ds"
  exact minus_fin (Q := (rtEnds Q).rt) ha hx hy h0 (rt_here q)
theorem hb_l_times : ∀ ds O Q, sp_l_times ds O Q → B_l_times (rtEnds Q) (startD 2 ds) O := by
  rintro ds O Q ⟨a, x, y, rfl, ha, hx, hy, h0, q⟩
  unfold B_l_times
  walk_at "ds"
  exact times_fin (Q := (rtEnds Q).rt) ha hx hy h0 (rt_here q)
/-! whether the one is less -/
def sp_under : DL := fun ds O Q => ∃ a b : Rat, ds = [rat a, rat b] ∧ SzR 6000 a ∧ SzR 6000 b ∧ Q (.bl (decide (a < b))) O
theorem ln_under : ∀ ds O Q, sp_under ds O Q → ds.length = 2 := by rintro ds O Q ⟨a, b, rfl, _⟩; rfl
-- startD 2
def B_under : DS' :=
  (dRet (dOp dLt (dOp dMul (dOp dIx (dVar 0) (dC (.int 0))) (dOp dIx (dVar 1) (dC (.int 1)))) (dOp dMul (dOp dIx (dVar 1) (dC (.int 0))) (dOp dIx (dVar 0) (dC (.int 1))))))

theorem hb_under : ∀ ds O Q, sp_under ds O Q → B_under (rtEnds Q) (startD 2 ds) O := by
  rintro ds O Q ⟨a, b, rfl, ha, hb, q⟩
  unfold B_under
  walk_at "ds"
  refine ⟨mok6 ha.1 hb.2, mok6 hb.1 ha.2, rt_here ?_⟩
  have e : decide (a.num * (b.den : Int) < b.num * (a.den : Int)) = decide (a < b) := by
    rw [decide_eq_decide]; exact (Rat.lt_iff a b).symm
  rw [e]; exact q

/-! what a law draws from its script -/
theorem sz0 {n : Nat} : Sz n 0 := by unfold Sz; simp [Nat.two_pow_pos]
theorem Sz.lit {n : Nat} {x : Int} (h : x.natAbs < 2 ^ n) : Sz n x := h
theorem fmod_range {x y : Int} (h : 0 < y) : 0 ≤ x.fmod y ∧ x.fmod y < y := by
  rw [Int.fmod_eq_emod_of_nonneg x (by omega)]
  exact ⟨Int.emod_nonneg x (by omega), Int.emod_lt_of_pos x h⟩
theorem Sz.lt {n : Nat} {x b : Int} (h0 : 0 ≤ x) (h : x < b) (hb : b ≤ 2 ^ n) : Sz n x := by
  unfold Sz
  have : ((x.natAbs : Nat) : Int) < ((2 ^ n : Nat) : Int) := by
    rw [Int.natCast_pow]
    have e : ((2 : Nat) : Int) = 2 := rfl
    rw [e]; omega
  omega
def sp_l_cell : DL := fun ds O Q => ∃ (ns : List Int) (k : Int), ds = [.lst (ns.map .int), .int k] ∧ ns.length ≤ 63 ∧ (∀ z ∈ ns, Sz 1048576 z) ∧ 0 ≤ k ∧ k ≤ 1000000 ∧ ∀ c, Sz 1048576 c → Q (.int c) O
theorem ln_l_cell : ∀ ds O Q, sp_l_cell ds O Q → ds.length = 2 := by rintro ds O Q ⟨a, b, rfl, _⟩; rfl
theorem cell_ap {ns : List Int} {k : Int} {O : Ow} {Q : DQ} (h : ns.length ≤ 63) (hz : ∀ z ∈ ns, Sz 1048576 z) (h0 : 0 ≤ k) (h1 : k ≤ 1000000) (q : ∀ c, Sz 1048576 c → Q (.int c) O) : sp_l_cell [.lst (ns.map .int), .int k] O Q := ⟨ns, k, rfl, h, hz, h0, h1, q⟩
theorem at_ints {ns : List Int} {i : Int} (h0 : 0 ≤ i) (h : i < ns.length) : ∃ z, z ∈ ns ∧ atI (ns.map D.int) i = some (.int z) := by
  obtain ⟨j, rfl⟩ := Int.eq_ofNat_of_zero_le h0
  have hi : j < ns.length := by omega
  exact ⟨ns[j], List.getElem_mem hi, atI_nat (by rw [List.getElem?_map, List.getElem?_eq_getElem hi]; rfl)⟩
-- startD 4
def B_l_cell : DS' :=
  (dThen (dIfS (dTest (dOp dLt (dVar 1) (dBu dLen (dCons (dVar 0) dNil)))) (dRet (dOp dIx (dVar 0) (dVar 1))) dNext)
  (dThen (dAsg (dOp dMul (dVar 1) (dC (.int 7919))) (tgN 2))
  (dThen (dIfS (dTest (dOp dGt (dBu dLen (dCons (dVar 0) dNil)) (dC (.int 0)))) (dAsg (dOp (dAdd mkF) (dVar 2) (dOp dMod (dOp dIx (dVar 0) (dOp dMod (dVar 1) (dBu dLen (dCons (dVar 0) dNil)))) (dC (.int 65537)))) (tgN 2)) dNext)
  (dThen (dAsg (dOp dMod (dOp dMul (dVar 2) (dC (.int 48271))) (dC (.int 65537))) (tgN 3))
  (dRet (dOp dMod (dOp dFdiv (dOp dMul (dVar 3) (dOp (dAdd mkF) (dOp (dAdd mkF) (dVar 3) (dOp dMul (dC (.int 2)) (dVar 1))) (dC (.int 1)))) (dC (.int 7))) (dC (.int 65521))))))))

theorem cell_end {k s : Int} {O : Ow} {Q : DQ} (hk0 : 0 ≤ k) (hk : k ≤ 1000000) (hs : 0 ≤ s) (hs2 : s ≤ 10000000000) (q : ∀ c, Sz 1048576 c → Q (.int c) O) :
    Mok s 48271 ∧ (65537 : Int) ≠ 0 ∧ Mok 2 k ∧ Mok ((s * 48271).fmod 65537) ((s * 48271).fmod 65537 + 2 * k + 1) ∧ Dok ((s * 48271).fmod 65537 * ((s * 48271).fmod 65537 + 2 * k + 1)) 7 ∧ (65521 : Int) ≠ 0 ∧
      (rtEnds Q).rt (.int ((((s * 48271).fmod 65537 * ((s * 48271).fmod 65537 + 2 * k + 1)).fdiv 7).fmod 65521)) O := by
  obtain ⟨h1, h2⟩ := fmod_range (x := s * 48271) (y := 65537) (by decide)
  refine ⟨Mok.of (n := 64) (m := 64) (Sz.lt hs (b := 10000000001) (by omega) (by decide)) (by decide) (by decide), by decide, Mok.of (n := 2) (m := 64) (by decide) (Sz.lt hk0 (b := 1000001) (by omega) (by decide)) (by decide),
    Mok.of (n := 64) (m := 64) (Sz.lt h1 h2 (by decide)) (Sz.lt (b := 10000000) (by omega) (by omega) (by decide)) (by decide), Dok.small (by decide) (by decide), by decide, rt_here (q _ ?_)⟩
  obtain ⟨h3, h4⟩ := fmod_range (x := ((s * 48271).fmod 65537 * ((s * 48271).fmod 65537 + 2 * k + 1)).fdiv 7) (y := 65521) (by decide)
  exact (Sz.lt (n := 64) h3 h4 (by decide)).mono (by decide)
theorem hb_l_cell : ∀ ds O Q, sp_l_cell ds O Q → B_l_cell (rtEnds Q) (startD 4 ds) O := by
  rintro ds O Q ⟨ns, k, rfl, hl, hz, h0, h1, q⟩
  unfold B_l_cell
  walk_at "ds"
  rw [List.length_map]
  split
  · rename_i h
    have h := of_decide_eq_true h
    obtain ⟨z, hm, e⟩ := at_ints h0 h
    exact ⟨_, e, rt_here (q z (hz z hm))⟩
  · refine ⟨Mok.of (n := 64) (m := 64) (Sz.lt h0 (b := 1000001) (by omega) (by decide)) (by decide) (by decide), ?_⟩
    split
    · rename_i h
      have h := of_decide_eq_true h
      obtain ⟨a1, a2⟩ := fmod_range (x := k) h
      obtain ⟨z, hm, e⟩ := at_ints (ns := ns) a1 a2
      refine ⟨by omega, _, e, ?_⟩
      obtain ⟨b1, b2⟩ := fmod_range (x := z) (y := 65537) (by decide)
      exact ⟨by decide, cell_end h0 h1 (by omega) (by omega) q⟩
    · exact cell_end h0 h1 (by omega) (by omega) q
/-! found is a whole number -/
def sp_l_whole : DL := fun ds O Q => ∃ i : Int, ds = [.int i] ∧ Q (.bl true) O
theorem ln_l_whole : ∀ ds O Q, sp_l_whole ds O Q → ds.length = 1 := by rintro ds O Q ⟨a, rfl, _⟩; rfl
theorem whole_ap {i : Int} {O : Ow} {Q : DQ} (q : Q (.bl true) O) : sp_l_whole [.int i] O Q := ⟨i, rfl, q⟩
-- startD 1
def B_l_whole : DS' :=
  (dRet (dAndV (dBu dIsi (dCons (dVar 0) (dCons (dC (.ty "int")) dNil))) (dNotV (dBu dIsi (dCons (dVar 0) (dCons (dC (.ty "bool")) dNil))))))

theorem hb_l_whole : ∀ ds O Q, sp_l_whole ds O Q → B_l_whole (rtEnds Q) (startD 1 ds) O := by
  rintro ds O Q ⟨i, rfl, q⟩
  unfold B_l_whole
  walk_at "ds"
  exact rt_here q
/-! found is the ratio -/
def sp_l_is : DL := fun ds O Q => ∃ (q : Rat) (t b : Int), ds = [rat q, .int t, .int b] ∧ SzR 20000 q ∧ Sz 20000 t ∧ Sz 20000 b ∧ Q (.bl (q.num * b == t * (q.den : Int))) O
theorem ln_l_is : ∀ ds O Q, sp_l_is ds O Q → ds.length = 3 := by rintro ds O Q ⟨a, b, c, rfl, _⟩; rfl
theorem is_eq {q : Rat} {t b : Int} (h : b ≠ 0) (e : q = Rat.divInt t b) : (q.num * b == t * (q.den : Int)) = true := by
  have h2 := Rat.num_divInt_den q
  rw [e] at h2
  have h3 := (Rat.divInt_eq_divInt_iff (n₁ := (Rat.divInt t b).num) (n₂ := t) (by have := rat_den_pos (Rat.divInt t b); omega) h).mp h2
  rw [← e] at h3
  exact beq_iff_eq.mpr h3
theorem is_ap {q : Rat} {t b : Int} {O : Ow} {Q : DQ} (h : b ≠ 0) (e : q = Rat.divInt t b) (hq : SzR 20000 q) (ht : Sz 20000 t) (hb : Sz 20000 b) (k : Q (.bl true) O) : sp_l_is [rat q, .int t, .int b] O Q :=
  ⟨q, t, b, rfl, hq, ht, hb, by rw [is_eq h e]; exact k⟩
-- startD 3
def B_l_is : DS' :=
  (dThen (dIfS (dOr (dNot (dTest (dBu dIsi (dCons (dVar 0) (dCons (dC (.ty "tuple")) dNil))))) (dTest (dOp dNe (dBu dLen (dCons (dVar 0) dNil)) (dC (.int 2))))) (dRet (dC (.bl false))) dNext)
  (dThen (dIfS (dOr (dNot (dTest (dCall sp_l_whole (dCons (dOp dIx (dVar 0) (dC (.int 0))) dNil)))) (dOr (dNot (dTest (dCall sp_l_whole (dCons (dOp dIx (dVar 0) (dC (.int 1))) dNil)))) (dTest (dOp dLt (dOp dIx (dVar 0) (dC (.int 1))) (dC (.int 1)))))) (dRet (dC (.bl false))) dNext)
  (dRet (dAndV (dOp dEq (dOp dMul (dOp dIx (dVar 0) (dC (.int 0))) (dVar 2)) (dOp dMul (dVar 1) (dOp dIx (dVar 0) (dC (.int 1))))) (dOp dEq (dCall sp_l_most (dCons (dBu dAbs (dCons (dOp dIx (dVar 0) (dC (.int 0))) dNil)) (dCons (dOp dIx (dVar 0) (dC (.int 1))) dNil))) (dC (.int 1)))))))

theorem hb_l_is : ∀ ds O Q, sp_l_is ds O Q → B_l_is (rtEnds Q) (startD 3 ds) O := by
  rintro ds O Q ⟨q, t, b, rfl, hq, ht, hb, k⟩
  unfold B_l_is
  walk_at "ds"
  refine whole_ap ?_
  walk_at "ds"
  walk_at "ds"
  refine whole_ap ?_
  walk_at "ds"
  walk_at "ds"
  have hd := rat_den_pos q
  rw [if_neg (by rw [decide_eq_false (by omega)]; exact Bool.false_ne_true)]
  refine ⟨.of hq.1 hb (by decide), .of ht hq.2 (by decide), ?_⟩
  split
  · rename_i h
    refine ⟨_, _, rfl, by omega, by omega, ?_⟩
    walk_at "ds"
    refine rt_here ?_
    have e : Int.gcd (q.num.natAbs : Int) (q.den : Int) = 1 := by
      have := q.reduced
      simpa [Int.gcd, Nat.Coprime] using this
    rw [e]
    rw [h] at k
    exact k
  · rename_i h
    refine rt_here ?_
    rw [Bool.eq_false_iff.mpr h] at k
    exact k
/-! the bag from which is drawn -/
def bagD (a m : Int) : OO := .lst [.int a, .int m]
def okB (n : Nat) (a m : Int) : Prop := Sz 1048578 a ∧ 0 ≤ m ∧ m ≤ n
theorem okB.mono {n k : Nat} {a m : Int} (h : okB n a m) (l : n ≤ k) : okB k a m := ⟨h.1, h.2.1, by have := h.2.2; omega⟩
def sp_l_bag : DL := fun ds O Q => ∃ c : Int, ds = [.int c] ∧ Sz 1048576 c ∧ ∀ p a m, O p = none → okB 1 a m → Q (.ref p) (O.set p (bagD a m))
theorem ln_l_bag : ∀ ds O Q, sp_l_bag ds O Q → ds.length = 1 := by rintro ds O Q ⟨a, rfl, _⟩; rfl
theorem bag_ap {c : Int} {O : Ow} {Q : DQ} (h : Sz 1048576 c) (q : ∀ p a m, O p = none → okB 1 a m → Q (.ref p) (O.set p (bagD a m))) : sp_l_bag [.int c] O Q := ⟨c, rfl, h, q⟩
-- startD 1
def B_l_bag : DS' :=
  (dThen (dIfS (dAnd (dTest (dOp dEq (dOp dMod (dVar 0) (dC (.int 2))) (dC (.int 0)))) (dOr (dTest (dOp dLt (dVar 0) (dUn dNeg (dC (.int 1000000))))) (dTest (dOp dLt (dC (.int 1000000)) (dVar 0))))) (dRet (dLst mkO (dCons (dOp dFdiv (dVar 0) (dC (.int 2))) (dCons (dC (.int 0)) dNil)))) dNext)
  (dRet (dLst mkO (dCons (dOp dFdiv (dVar 0) (dC (.int 2))) (dCons (dC (.int 1)) dNil)))))

theorem hb_l_bag : ∀ ds O Q, sp_l_bag ds O Q → B_l_bag (rtEnds Q) (startD 1 ds) O := by
  rintro ds O Q ⟨c, rfl, hc, q⟩
  unfold B_l_bag
  have hd : Sz 1048578 (c.fdiv 2) := (hc.fdiv (by decide)).mono (by decide)
  have e0 : ∀ p, O p = none → (rtEnds Q).rt (.ref p) (O.set p (.lst [.int (c.fdiv 2), .int 0])) := fun p hp => rt_here (q p _ 0 hp ⟨hd, by decide, by decide⟩)
  have e1 : ∀ p, O p = none → (rtEnds Q).rt (.ref p) (O.set p (.lst [.int (c.fdiv 2), .int 1])) := fun p hp => rt_here (q p _ 1 hp ⟨hd, by decide, by decide⟩)
  have k2 : Dok c 2 := Dok.small (by decide) (by decide)
  walk_at "ds"
  refine ⟨by decide, ?_⟩
  split
  · split
    · exact ⟨k2, e0⟩
    · split
      · exact ⟨k2, e0⟩
      · exact ⟨k2, e1⟩
  · exact ⟨k2, e1⟩
def sp_l_take : DL := fun ds O Q => ∃ (p : Addr) (a m k : Int) (n : Nat), ds = [.ref p, .int k] ∧ O p = some (bagD a m) ∧ okB n a m ∧ n < 1000000000 ∧ 0 < k ∧ Sz 8000 k ∧
  ∀ r a' m', 0 ≤ r → r < k → okB (n + 1) a' m' → Q (.int r) (O.set p (bagD a' m'))
theorem ln_l_take : ∀ ds O Q, sp_l_take ds O Q → ds.length = 2 := by rintro ds O Q ⟨p, a, m, k, n, rfl, _⟩; rfl
theorem take_ap {p : Addr} {a m k : Int} {n : Nat} {O : Ow} {Q : DQ} (h : O p = some (bagD a m)) (hb : okB n a m) (hn : n < 1000000000) (hk : 0 < k) (hz : Sz 8000 k)
    (q : ∀ r a' m', 0 ≤ r → r < k → okB (n + 1) a' m' → Q (.int r) (O.set p (bagD a' m'))) : sp_l_take [.ref p, .int k] O Q := ⟨p, a, m, k, n, rfl, h, hb, hn, hk, hz, q⟩
-- startD 3
def B_l_take : DS' :=
  (dThen (dIfS (dTest (dOp dEq (dOp dIx (dVar 0) (dC (.int 1))) (dC (.int 0)))) (dThen (dAsg (dOp dMod (dOp dIx (dVar 0) (dC (.int 0))) (dVar 1)) (tgN 2))
  (dThen (dSetI (dOp dFdiv (dOp dIx (dVar 0) (dC (.int 0))) (dVar 1)) (dVar 0) (dC (.int 0)))
  (dRet (dVar 2)))) dNext)
  (dThen (dSetI (dOp dMod (dOp (dAdd mkF) (dOp (dAdd mkF) (dOp dMul (dOp dIx (dVar 0) (dC (.int 0))) (dC (.int 48271))) (dOp dMul (dOp dMul (dC (.int 7919)) (dOp dIx (dVar 0) (dC (.int 1)))) (dOp dIx (dVar 0) (dC (.int 1))))) (dC (.int 17))) (dC (.int 2147483647))) (dVar 0) (dC (.int 0)))
  (dThen (dSetI (dOp (dAdd mkF) (dOp dIx (dVar 0) (dC (.int 1))) (dC (.int 1))) (dVar 0) (dC (.int 1)))
  (dRet (dOp dMod (dOp dMod (dOp dMul (dOp dIx (dVar 0) (dC (.int 0))) (dC (.int 69621))) (dC (.int 2147483629))) (dVar 1))))))

theorem hb_l_take : ∀ ds O Q, sp_l_take ds O Q → B_l_take (rtEnds Q) (startD 3 ds) O := by
  rintro ds O Q ⟨p, a, m, k, n, rfl, h, ⟨ha, hm0, hm⟩, hn, hk, hz, q⟩
  unfold B_l_take
  unfold bagD at h
  have hl := lv_ref h
  walk_at "ds"
  rw [hl]
  walk_at "ds"
  rw [hl]
  walk_at "ds"
  rw [h]
  walk_at "ds"
  split
  · rename_i e
    have e : m = 0 := beq_iff_eq.mp e
    subst e
    refine ⟨by omega, Dok.sz (by omega) (hz.mono (by decide)), ?_⟩
    obtain ⟨h1, h2⟩ := fmod_range (x := a) hk
    refine rt_here (q _ _ _ h1 h2 ⟨?_, by decide, by omega⟩)
    have e2 : (a.fdiv k).natAbs ≤ a.natAbs := by
      rw [Int.fdiv_eq_ediv_of_nonneg a (by omega)]
      exact Int.natAbs_ediv_le_natAbs a k
    unfold Sz at *
    omega
  · rename_i e
    have hm9 : Sz 64 m := Sz.lt hm0 (b := 10000000000) (by omega) (by decide)
    refine ⟨.of ha (m := 64) (by decide) (by decide), .of (n := 64) (m := 64) (by decide) hm9 (by decide), .of (n := 100) (m := 64) (((Sz.lit (n := 20) (x := 7919) (by decide)).mul hm9).mono (by decide)) hm9 (by decide), by decide, ?_⟩
    obtain ⟨h1, h2⟩ := fmod_range (x := a * 48271 + 7919 * m * m + 17) (y := 2147483647) (by decide)
    refine ⟨.of (n := 64) (m := 64) (Sz.lt h1 h2 (by decide)) (by decide) (by decide), by decide, by omega, ?_⟩
    obtain ⟨h3, h4⟩ := fmod_range (x := ((a * 48271 + 7919 * m * m + 17).fmod 2147483647 * 69621).fmod 2147483629) hk
    exact rt_here (q _ _ _ h3 h4 ⟨(Sz.lt (n := 64) h1 h2 (by decide)).mono (by decide), by omega, by omega⟩)
/-- .. where it doesn't matter what else is owned -/
theorem take_any {p : Addr} {a m k : Int} {n : Nat} {O : Ow} {Q : DQ} (h : O p = some (bagD a m)) (hb : okB n a m) (hn : n < 1000000000) (hk : 0 < k) (hz : Sz 8000 k)
    (q : ∀ r a' m' O', 0 ≤ r → r < k → okB (n + 1) a' m' → O' p = some (bagD a' m') → (∀ q, q ≠ p → O' q = O q) → Q (.int r) O') : sp_l_take [.ref p, .int k] O Q :=
  take_ap h hb hn hk hz fun r a' m' h0 h1 hb' => q r a' m' _ h0 h1 hb' Ow.set_same fun q hq => Ow.set_ne hq
def spDraw (c : Nat) (P : D → Prop) : DL := fun ds O Q => ∃ p a m n, ds = [.ref p] ∧ O p = some (bagD a m) ∧ okB n a m ∧ n < 900000000 ∧ ∀ d a' m', P d → okB (n + c) a' m' → Q d (O.set p (bagD a' m'))
theorem lnDraw {c : Nat} {P : D → Prop} : ∀ ds O Q, spDraw c P ds O Q → ds.length = 1 := by rintro ds O Q ⟨p, a, m, n, rfl, _⟩; rfl
theorem draw_ap {c : Nat} {P : D → Prop} {p : Addr} {a m : Int} {n : Nat} {O : Ow} {Q : DQ} (h : O p = some (bagD a m)) (hb : okB n a m) (hn : n < 900000000) (q : ∀ d a' m', P d → okB (n + c) a' m' → Q d (O.set p (bagD a' m'))) : spDraw c P [.ref p] O Q := ⟨p, a, m, n, rfl, h, hb, hn, q⟩
theorem draw_any {c : Nat} {P : D → Prop} {p : Addr} {a m : Int} {n : Nat} {O : Ow} {Q : DQ} (h : O p = some (bagD a m)) (hb : okB n a m) (hn : n < 900000000)
    (q : ∀ d a' m' O', P d → okB (n + c) a' m' → O' p = some (bagD a' m') → (∀ q, q ≠ p → O' q = O q) → Q d O') : spDraw c P [.ref p] O Q :=
  draw_ap h hb hn fun d a' m' hd hb' => q d a' m' _ hd hb' Ow.set_same fun q hq => Ow.set_ne hq
local macro_rules | `(tactic| walk_at "take") => `(tactic| (
  refine take_ap (by first | assumption | exact Ow.set_same) (by assumption) (by omega) (by first | omega | decide) (by first | decide | assumption) ?_
  intro _ _ _ _ _ _
  walk_at "ds"))
/-! where a law starts -/
def spLaw : DL := fun ds O Q => ∃ ns : List Int, ds = [.lst (ns.map .int)] ∧ ns.length ≤ 63 ∧ (∀ z ∈ ns, Sz 1048576 z) ∧ ∀ O', Q (.bl true) O'
theorem lnLaw : ∀ ds O Q, spLaw ds O Q → ds.length = 1 := by rintro ds O Q ⟨a, rfl, _⟩; rfl
theorem Reps.of_ints {K : PySem.W.Frag} {G : Hp} : ∀ ns : List Int, Reps K G (ns.map D.int) (ns.map V.int)
  | [] => .nil
  | n :: ns => .cons (.int n) (Reps.of_ints ns)
theorem bits_sz {z : Int} (h : Builtin.Int.intBits z ≤ 1048576) : Sz 1048576 z := by
  unfold Builtin.Int.intBits at h
  unfold Sz
  by_cases h0 : z.natAbs = 0
  · rw [h0]; exact Nat.two_pow_pos _
  · have hz : ¬ (z.natAbs = 0) := h0
    refine (Nat.log2_lt h0).mp ?_
    split at h
    · rename_i e
      exact absurd (by simpa using e) h0
    · omega
theorem law_start {K : PySem.W.Frag} {H : Hp} {a : Addr} {ns : List Int} (hl : ns.length ≤ 63) (hb : ∀ z ∈ ns, Builtin.Int.intBits z ≤ 1048576) (hS : SqL K H a (ns.map V.int)) :
    Prom K spLaw [.ref a] H (fun v _ => v = .bl true) fun _ _ _ => False := by
  refine ⟨[.lst (ns.map .int)], ⟨H, fun _ => none, H⟩, fun d _ => d = .bl true, rfl, ⟨Same.refl _, fun p o e => by cases e⟩, .cons (Rep.lst hS (Reps.of_ints ns)) .nil, fun d v w' _ _ r e => ?_, ns, rfl, hl, fun z hz => bits_sz (hb z hz), fun _ => rfl⟩
  subst e
  exact r.bl_of

/-! ### the end by an exception: the class's name, the place of its dict; names, what is owned -/
abbrev DXQ := Str → Option Addr → DEnv → Ow → Prop
abbrev DRt := DXQ → DEnv → Ow → Prop
abbrev DLX := List D → Ow → (Str → Option Addr → Ow → Prop) → Prop
structure LkW (K : PySem.W.Frag) (w : Wd) (Ex : DXQ) (W : WX) : Prop where
  x : ∀ n C d ρ σ w', ClsAt K n C → Own K w' → Fr w w' → RepE K w'.G ρ σ → Ex n d ρ w'.O → W (.ref C) d σ w'.H
structure LkX (K : PySem.W.Frag) (w : Wd) (Ex : Str → Option Addr → Ow → Prop) (E : XK) : Prop where
  x : ∀ n C d w', ClsAt K n C → Own K w' → Fr w w' → Ex n d w'.O → E (.ref C) d w'.H
theorem LkW.after {K : PySem.W.Frag} {w w1 : Wd} {Ex : DXQ} {W : WX} (h : LkW K w Ex W) (f : Fr w w1) : LkW K w1 Ex W :=
  ⟨fun n C d ρ σ w' a b c => h.x n C d ρ σ w' a b (f.trans c)⟩
def PromR (K : PySem.W.Frag) (s : DLX) : Sp := fun vs H _ E => ∃ ds w Ex, w.H = H ∧ Own K w ∧ Reps K w.G ds vs ∧ LkX K w Ex E ∧ s ds w.O Ex
def SemR1 (K : PySem.W.Frag) (t : WX → TE) (dr : DRt) : Prop := ∀ Ex W ρ σ w Q, Own K w → RepE K w.G ρ σ → LkW K w Ex W → dr Ex ρ w.O → t W σ w.H Q
def SemRA (K : PySem.W.Frag) (t : WX → TA) (dr : DRt) : Prop := ∀ Ex W ρ σ w Q, Own K w → RepE K w.G ρ σ → LkW K w Ex W → dr Ex ρ w.O → t W σ w.H Q
def SemRB (K : PySem.W.Frag) (t : WX → TT) (dr : DRt) : Prop := ∀ Ex W ρ σ w Q, Own K w → RepE K w.G ρ σ → LkW K w Ex W → dr Ex ρ w.O → t W σ w.H Q
def SemRS (K : PySem.W.Frag) (t : WX → TS) (dr : DRt) : Prop := ∀ Ex W ρ σ w T, Own K w → RepE K w.G ρ σ → LkW K w Ex W → dr Ex ρ w.O → t W T σ w.H
def DRE (X : Cx) (e : Expr) (dr : DRt) : Prop := ∃ t : WX → TE, (∀ W, L2N.Takes X W → PE X e (t W)) ∧ SemR1 X.K t dr
def DRA (X : Cx) (es : List Expr) (dr : DRt) : Prop := ∃ t : WX → TA, (∀ W, L2N.Takes X W → PA X es (t W)) ∧ SemRA X.K t dr
def DRB (X : Cx) (e : Expr) (dr : DRt) : Prop := ∃ t : WX → TT, (∀ W, L2N.Takes X W → PT X e (t W)) ∧ SemRB X.K t dr
def DRS (X : Cx) (st : Stmt) (dr : DRt) : Prop := ∃ t : WX → TS, (∀ W, L2N.Takes X W → PS X st (t W)) ∧ SemRS X.K t dr
def DRSs (X : Cx) (sts : List Stmt) (dr : DRt) : Prop := ∃ t : WX → TS, (∀ W, L2N.Takes X W → PSs X sts (t W)) ∧ SemRS X.K t dr
section
variable {X : Cx} {e a b c : Expr} {es : List Expr} {st : Stmt} {rest body els : List Stmt} {ds : DS'} {dr dr2 : DRt} {da db : DT} {dl : DTa} {dt : DTt} {pos : Pos}
/-! a call -/
variable {k : Nat} {f : Addr} {fd : FuncData} {ps : List Str} {s : DLX} {x : Str} {p : Pos}
def drCall (s : DLX) (dl : DTa) : DRt := fun Ex ρ O => dl ρ O fun ds O1 => s ds O1 fun n d O2 => Ex n d ρ O2
theorem dre_call (F : FnOk X.prog X.w X.K X.mg X.base (L2N.CX X.prog X.w) k f fd ps (PromR X.K s)) (hr : Rm k X) (hcm : X.calm = true) (hg : Gl X x) (hm : X.mg x = some (.ref f)) (hk : PySem.W.keepIn X.K (.ref f) = true) (hb : Binds X.K fd ps []) (ha : DA X (e :: es) dl)
    (hdb : (x == ("__debug__" : Str)) = false := by decide) (he : starEach (e :: es) X.env = (false, eval e X.env) :: starEach es X.env := by rfl) (hpl : (backTo pos (starEach es X.env)).any (·.1) = false := by rfl) :
    DRE X (.Call (.Name x p) (e :: es) [] pos) (drCall s dl) := by
  obtain ⟨t, pa, fa⟩ := ha
  refine ⟨fun W => tCallS (PromR X.K s) (WE W) t, fun W tk => pe_callS F (hr.room hcm) hg hm hk hb (fun σ => L2N.passAt tk σ) pa hdb he hpl, fun Ex W ρ σ w Q hw he' lk h => ?_⟩
  refine fa ρ σ w _ _ hw he' (fun ds vs w1 hw1 f1 rs h1 => ?_) h
  exact ⟨ds, w1, _, rfl, hw1, rs, ⟨fun n C d w' a b c q => lk.x n C d ρ σ w' a b (f1.trans c) (he'.mono (f1.gsub.trans c.gsub)) q⟩, h1⟩
/-! what holds an expression that raises -/
theorem dre_ix (h : DRE X a dr) (hb : DE X b db) (hs : PlainIx b) : DRE X (.Subscript a b pos) dr := by
  obtain ⟨t, p, f⟩ := h
  obtain ⟨u, q, _⟩ := hb
  exact ⟨fun W => _, fun W tk => pe_ix ix_seq (p W tk) q hs, fun Ex W ρ σ w Q hw he lk h => f Ex W ρ σ w _ hw he lk h⟩
/-! arguments: the first that raises -/
theorem dra_here (h : DRE X e dr) (hr : DA X es dl) (hs : starEach (e :: es) X.env = (false, eval e X.env) :: starEach es X.env := by rfl) : DRA X (e :: es) dr := by
  obtain ⟨t, p, f⟩ := h
  obtain ⟨u, q, _⟩ := hr
  exact ⟨fun W => _, fun W tk => pa_cons (p W tk) q hs, fun Ex W ρ σ w Q hw he lk h => f Ex W ρ σ w _ hw he lk h⟩
theorem dre_tup {x1} (h : DRA X es dr) : DRE X (.Tuple es x1 pos) dr := by
  obtain ⟨t, p, f⟩ := h
  exact ⟨fun W => _, fun W tk => pe_tup (p W tk), fun Ex W ρ σ w Q hw he lk h => f Ex W ρ σ w _ hw he lk h⟩
/-! a test whose first part raises -/
theorem dre_cmp {op : CmpOp} {r : R2} (ho : OpR X (compareOp op) r) (ha : DRE X a dr) (hb : DE X b db) (hm : behindInMarks op b = false) : DRB X (.Compare a [op] [b] pos) dr := by
  obtain ⟨t, p, f⟩ := ha
  obtain ⟨u, q, _⟩ := hb
  exact ⟨fun W => _, fun W tk => pt_cmpR ho (p W tk) q hm, fun Ex W ρ σ w Q hw he lk h => f Ex W ρ σ w _ hw he lk h⟩
/-! statements -/
theorem drs_ret (h : DRE X e dr) : DRS X (.Return (some e) pos) dr := by
  obtain ⟨t, p, f⟩ := h
  exact ⟨fun W => _, fun W tk => ps_ret (p W tk), fun Ex W ρ σ w T hw he lk h => f Ex W ρ σ w _ hw he lk h⟩
theorem drs_expr (h : DRE X e dr) (hs : swapsWith e none pos.line X.env = pure false := by rfl) : DRS X (.Expr e pos) dr := by
  obtain ⟨t, p, f⟩ := h
  exact ⟨fun W => _, fun W tk => ps_expr (p W tk) hs, fun Ex W ρ σ w T hw he lk h => f Ex W ρ σ w _ hw he lk h⟩
theorem drs_set {i : Nat} {x : Str} {pos' : Pos} (hN : X.N.Nodup) (hi : X.N[i]? = some x) (hx : Loc X.env.scope x) (h : DRE X e dr) (hs : swapsWith e (some (.Name x pos')) pos.line X.env = pure false := by rfl) (hf : X.fn x = true ∨ X.env.scope.names.lookup x = some .local := by first | exact .inl rfl | exact .inr rfl | assumption) :
    DRS X (.Assign [.Name x pos'] e pos) dr := by
  obtain ⟨t, p, f⟩ := h
  exact ⟨fun W => _, fun W tk => ps_set hN hi hx (p W tk) hs hf, fun Ex W ρ σ w T hw he lk h => f Ex W ρ σ w _ hw he lk h⟩
theorem drs_asg {tg : Expr} {gd : D → DEnv → Option DEnv} {slots : List Nat} (h : DRE X e dr) (hg : DG X tg gd slots) (hs : swapsWithSole [tg] e pos.line X.env = pure false := by rfl) (hw : swappedStores [tg] e X.env = pure none := by rfl)
    (h1 : (assignEach [tg] X.env).map (·.2) = [assign tg X.env] := by rfl) : DRS X (.Assign [tg] e pos) dr := by
  obtain ⟨t, p, f⟩ := h
  obtain ⟨g, q, _⟩ := hg
  exact ⟨fun W => _, fun W tk => ps_asg (p W tk) q hs hw h1, fun Ex W ρ σ w T hw he lk h => f Ex W ρ σ w _ hw he lk h⟩
/-- the ends of a statement behind which one is surely raised -/
def rEnds (r : DEnv → Ow → Prop) : DEnds := { nx := r, rt := fun _ _ => False }
theorem rLk {K : PySem.W.Frag} {t : WX → TS} {Ex : DXQ} {W : WX} {w : Wd} {T : Ends} (f : SemRS K t dr) (lk : LkW K w Ex W) : LkS K w (rEnds (dr Ex)) { T with nx := t W T } :=
  ⟨fun ρ σ w' hw' f' he' h => f Ex W ρ σ w' T hw' he' (lk.after f') h, fun _ _ _ _ _ _ z => z.elim, fun _ _ _ _ _ _ z => z.elim, fun _ _ _ _ _ _ z => z.elim⟩
def drSkip (s : DS') (r : DRt) : DRt := fun Ex ρ O => s (rEnds (r Ex)) ρ O
theorem drs_skip (h1 : DS X st ds) (h2 : DRSs X rest dr) : DRSs X (st :: rest) (drSkip ds dr) := by
  obtain ⟨t, p, f⟩ := h1
  obtain ⟨u, q, g⟩ := h2
  refine ⟨fun W => _, fun W tk => pss_cons p (q W tk), fun Ex W ρ σ w T hw he lk h => ?_⟩
  exact f ρ σ w _ _ hw he (rLk g lk) h
theorem drs_here (h : DRS X st dr) : DRSs X (st :: rest) dr := by
  obtain ⟨t, p, f⟩ := h
  exact ⟨fun W => _, fun W tk => pss_cons (p W tk) (pss_never (sts := rest)), fun Ex W ρ σ w T hw he lk h => f Ex W ρ σ w _ hw he lk h⟩
theorem pss_or {t u : TS} {sts : List Stmt} (h1 : PSs X sts t) (h2 : PSs X sts u) : PSs X sts (fun D σ H => t D σ H ∨ u D σ H) :=
  ⟨fun pins s σ H D I h => h.elim (h1.run pins s σ H D I) (h2.run pins s σ H D I)⟩
theorem ps_or {t u : TS} (h1 : PS X st t) (h2 : PS X st u) : PS X st (fun D σ H => t D σ H ∨ u D σ H) :=
  ⟨fun pins s σ H D I h => h.elim (h1.run pins s σ H D I) (h2.run pins s σ H D I)⟩
def drOr (r1 r2 : DRt) : DRt := fun Ex ρ O => r1 Ex ρ O ∨ r2 Ex ρ O
theorem drss_or {sts : List Stmt} (h1 : DRSs X sts dr) (h2 : DRSs X sts dr2) : DRSs X sts (drOr dr dr2) := by
  obtain ⟨t, p, f⟩ := h1
  obtain ⟨u, q, g⟩ := h2
  exact ⟨fun W => _, fun W tk => pss_or (p W tk) (q W tk), fun Ex W ρ σ w T hw he lk h => h.elim (fun h => .inl (f Ex W ρ σ w T hw he lk h)) fun h => .inr (g Ex W ρ σ w T hw he lk h)⟩
def drNever : DRt := fun _ _ _ => False
theorem drss_never {sts : List Stmt} : DRSs X sts drNever := ⟨fun _ => _, fun _ _ => pss_never, fun _ _ _ _ _ _ _ _ _ h => h.elim⟩
def drIf (c : DTt) (s r : DRt) : DRt := fun Ex ρ O => c ρ O fun b O1 => if b = true then s Ex ρ O1 else r Ex ρ O1
theorem drs_if (hc : DB X c dt) (ha : DRSs X body dr) (hb : DRSs X els dr2) : DRS X (.If c body els pos) (drIf dt dr dr2) := by
  obtain ⟨tc, p, f⟩ := hc
  obtain ⟨ta, q, g⟩ := ha
  obtain ⟨tb, q2, g2⟩ := hb
  refine ⟨fun W => _, fun W tk => ps_if p (q W tk) (q2 W tk), fun Ex W ρ σ w T hw he lk h => ?_⟩
  refine f ρ σ w _ _ hw he (fun k w' hw' f' h' => ?_) h
  cases k with
  | true => exact g Ex W ρ σ w' T hw' (he.mono f'.gsub) (lk.after f') h'
  | false => exact g2 Ex W ρ σ w' T hw' (he.mono f'.gsub) (lk.after f') h'
/-- the test itself raises -/
theorem drs_ifT (hc : DRB X c dr) : DRS X (.If c body els pos) dr := by
  obtain ⟨tc, p, f⟩ := hc
  exact ⟨fun W => _, fun W tk => ps_if (p W tk) (pss_never (sts := body)) (pss_never (sts := els)), fun Ex W ρ σ w T hw he lk h => f Ex W ρ σ w _ hw he lk h⟩
/-- a loop in whose first turn one is surely raised -/
def drFor1 (di : DIt) (gd : D → DEnv → Option DEnv) (r : DRt) (fs : List Nat) : DRt := fun Ex ρ O => di ρ O fun items stay O1 => stay O1 ∧ ∃ d rest ρ', items = d :: rest ∧ gd d (forget ρ fs) = some ρ' ∧ r Ex ρ' O1
theorem drs_for1 {tg iter : Expr} {di : DIt} {gd : D → DEnv → Option DEnv} {slots : List Nat} (fs : List Nat) (hp : PassesOwn (model X.prog X.w) X.A X.env X.xe) (hcm : X.calm = true) (hi : DI X tg iter di) (hg : DG X tg gd slots) (hb : DRSs X body dr)
    (hs : ∀ x, foldedSetIterable iter X.env x = pure x := by intro _; rfl) : DRS X (.For tg iter body [] pos) (drFor1 di gd dr fs) := by
  obtain ⟨wi, pi, fi⟩ := hi.cold hcm
  obtain ⟨g, pg, fg⟩ := hg
  obtain ⟨t, p, f⟩ := hb
  refine ⟨fun W => tFor wi g (t W), fun W tk => L2.ps_for hp hcm pi pg (p W tk) hs, fun Ex W ρ σ w T hw he lk h => ?_⟩
  refine fi ρ σ w _ _ hw he (fun items stay J w1 hw1 f1 Wk ⟨hst, d, rest, ρ', ei, eg, h1⟩ => ?_) h
  have he1 : RepE X.K w1.G (forget ρ fs) σ := RepE.forget fs (he.mono f1.gsub)
  refine ⟨fun i m σ2 H => i = 0 ∧ m = 0 ∧ σ2 = σ ∧ H = w1.H, ⟨0, rfl, rfl, rfl, rfl⟩, ?_⟩
  rintro i m σ2 H ⟨rfl, rfl, rfl, rfl⟩
  have hlt : 0 < items.length := by rw [ei]; simp
  refine .inr ⟨Wk.go 0 w1 hw1 (Fr.refl w1) hst hlt, fun _ _ => False, fun _ _ z => z.elim, fun x H' y => ?_⟩
  obtain ⟨w3, eH, eO, hw3, f3, r3⟩ := Wk.yld 0 w1 x H' hw1 (Fr.refl w1) hst y d (by rw [ei]; rfl)
  subst eH
  refine fg.run w3 d x _ ρ' σ2 _ hw3 (he1.mono f3.gsub) r3 eg fun σ4 he4 _ _ => ?_
  rw [← eO] at h1
  exact f Ex W ρ' σ4 w3 _ hw3 he4 (lk.after (f1.trans f3)) h1
/-! raise -/
/-- a class over ValueError without an own __init__ -/
structure XOwn (K : PySem.W.Frag) (n : Str) (C : Addr) : Prop where
  at_ : ClsAt K n C
  ex : PySem.W.excIn K C PySem.HandSPX.veTail "ValueError.__new__" = true
  kC : PySem.W.keepIn K (.ref C) = true
  sub : PySem.W.subIn K (.ref C) (.type "BaseException") = some true
  ty : PySem.W.typeIn K (.ref C) = some (.type "type")
def drRaise (n : Str) : DRt := fun Ex ρ O => Ex n none ρ O
theorem drs_raise {m : Str} {j : Nat} {p2 pos' : Pos} {C : Addr} {n : Str} (hx : XOwn X.K n C) (hc : X.calm = true) (hg : Gl X x) (hm : X.mg x = some (.ref C)) (hdb : (x == ("__debug__" : Str)) = false := by decide) :
    DRS X (.Raise (some (.Call (.Name x p) [.Constant (.str m) j p2] [] pos)) none pos') (drRaise n) :=
  ⟨fun W => _, fun W tk => L2N.ps_raise hc tk (L2N.pmk_own PySem.F.excBase_ValueError hx.ex hm hx.kC (raises_own hx.sub hx.ty) hg hdb), fun Ex W ρ σ w T hw he lk h => lk.x n C none ρ σ w hx.at_ hw (Fr.refl w) he h⟩
/-! raise C(e), C with an own __init__(self, f) that calls its base's and keeps f -/
/-- what the written part says of the base class whose __init__ is called -/
structure BaseI (K : PySem.W.Frag) (B : Addr) : Prop where
  rd : PySem.W.readsIn K B (.type "type") = true
  ga : PySem.W.specialIn K (.ref B) "__getattribute__" = some (some (.builtin "type.__getattribute__"))
  vi : PySem.W.findCls K (.ref B) (.type "type") "__init__" = some (.val (.builtin "ValueError.__init__"))
theorem pe_seinit {pl : Sem Bool} {B : Addr} {ta : TA} {p1 p2 : Pos} (Bi : BaseI X.K B) (hg : Gl X x) (hm : X.mg x = some (.ref B)) (ha : PA X (e :: es) ta) (hdb : (x == ("__debug__" : Str)) = false := by decide)
    (hc : eval (.Call (.Attribute (.Name x p1) "__init__" p2) (e :: es) [] pos) X.env = (do
      let ov ← eval (.Name x p1) X.env
      standAt p2.atName
      let (f, first) ← holding [ov] (getMethod ov "__init__" pl)
      callWith pos f first (backTo pos (starEach (e :: es) X.env)) (backToKw pos (keywordEach [] X.env))) := by rfl)
    (he : starEach (e :: es) X.env = (false, eval e X.env) :: starEach es X.env := by rfl) (hpl : (backTo pos (starEach es X.env)).any (·.1) = false := by rfl) :
    PE X (.Call (.Attribute (.Name x p1) "__init__" p2) (e :: es) [] pos) (tVeI X.K ta) := by
  refine ⟨fun pins s σ H Q I h => ?_⟩
  refine PySem.W.methodCall_KW (ld_glob I hg hm ?_ hdb) hc
  refine PySem.W.method_cls I.kIn Bi.ga (PySem.W.cls_value I.kIn Bi.rd Bi.vi (by decide +kernel) ?_)
  show wpAny _ _ (callWith pos (Value.builtin "ValueError.__init__") [] (backTo pos (starEach (e :: es) X.env)) []) _ _ _
  refine PyProof.Rows.callWith_method1 (thn (ha.run pos pins _ σ H _ (I.tok _) h) fun us s1 ⟨vs, H1, I1, r1, a, C, ws, ev, hl, T, ea, q⟩ => ?_) he hpl
  subst ev
  cases r1 with
  | @cons _ u0 _ ur ra rw' =>
    obtain rfl : u0 = Value.ref a := ra
    have hlen : ur.length ≤ sizeLine := by
      rw [← Paired.length rw', sizeLine_eq]
      omega
    exact oinit_ok T I1 ea hlen fun s' J => ⟨.non, H1, J, rfl, q⟩
/-- __init__'s promise -/
def spIni (C : Addr) (f : Str) : Sp := fun vs H Q _ => ∃ a y, vs = [.ref a, y] ∧ H a = some (exo a C none) ∧ ∀ dx, H dx = none → dx ≠ a → Q .non (upd (upd H dx (exd dx [(f, y)])) a (exo a C (some dx)))
def tIni (K : PySem.W.Frag) (m f : Str) : TS := tSeq (tDrop (tVeI K (tCons (tVar 0) (tCons (tC (.str m)) tNil)))) (tOst K f (tVar 0) (tVar 1))
theorem ini_ok {P : Program} {w : World} {K : PySem.W.Frag} {mg : Str → Option Value} {base : Heap} {qual m f : Str} {st : Stmt} {fI C : Addr} {fd : FuncData} {k : Nat} (F : Fun K "__init__" qual st fI fd) (S : FnScope ["self", f] ["self", f] (defScope st)) (ox : OexC K C) (no : PySem.W.findIn K (.ref C) f = some none)
    (hbody : ∀ (cdv : Value) (A : Around) (outer : List Env) (s' : Shared) (H : Hp) (E : XK), PSs (cxOf CX0 P w K mg base ["self", f] qual (defScope st) fI cdv A outer s' H E).nox (defBody st) (tIni K m f)) :
    FnOk P w K mg base CX0 (k + 1) fI fd ["self", f] (spIni C f) := by
  refine F.ok S (fun vs H Q E ⟨a, y, e, _⟩ => by rw [e]; rfl) (fun cdv A outer s' H vs Q E hr ⟨a, y, e, ea, q⟩ => ⟨_, hbody cdv A outer s' H E, ?_⟩)
  subst e
  exact ⟨.ref a, rfl, a, C, [.str m], rfl, by show 1 ≤ 1000; decide, ox, ea, y, rfl, .ref a, rfl, a, C, rfl, ox, no, .inl ⟨ea, fun dx n ne => q dx n ne⟩⟩
structure XIni (K : PySem.W.Frag) (n : Str) (C fI : Addr) (f : Str) : Prop where
  at_ : ClsAt K n C
  ox : OexC K C
  ini : PySem.W.findIn K (.ref C) "__init__" = some (some (.ref fI))
  tyI : PySem.W.typeIn K (.ref fI) = some (.type "function")
  no : PySem.W.findIn K (.ref C) f = some none
/-- C(e), its context None -/
theorem pmkN_oex {ta : TA} {C fI : Addr} {sp : Sp} (T : OexC X.K C) (iC : PySem.W.findIn X.K (.ref C) "__init__" = some (some (.ref fI))) (tI : PySem.W.typeIn X.K (.ref fI) = some (.type "function"))
    (F1 : FnOk X.prog X.w X.K X.mg X.base CX0 k fI fd ps sp) (hr : Room (k + 1) X.A) (hb : Binds X.K fd ps []) (hg : Gl X x) (hm : X.mg x = some (.ref C)) (ha : PA X (e :: es) ta)
    (hdb : (x == ("__debug__" : Str)) = false) (he : starEach (e :: es) X.env = (false, eval e X.env) :: starEach es X.env) (hpl : (backTo pos (starEach es X.env)).any (·.1) = false) :
    L2N.PMk X (.Call (.Name x p) (e :: es) [] pos) (tMkO C sp [] ta) := by
  intro pins s σ H Q I h
  obtain ⟨_, _, _, _, bm, _, _, _, _, _, _, _, _, _, _, hC, hbm⟩ := T.cls
  refine wpAny_Call_Name_kw (ld_glob I hg hm (PySem.W.callWith_K (h₀ := X.base) I.ok.mod.kin T.kC (thn (ha.run pos pins s σ H _ I h) ?_) he hpl) hdb)
  rintro us ⟨hp, g, dr, tk, os⟩ ⟨vs, H1, I1, r1, hz, q1⟩
  refine ⟨I1.kIn, ?_⟩
  show wpAny _ _ (call (.ref C) us) _ _ _
  obtain ⟨a, ea⟩ : ∃ a, a = hp.objs.size + 1 := ⟨_, rfl⟩
  have lt : hp.objs.size ≤ a := by rw [ea]; exact Nat.le_succ _
  have hq := q1 a (I1.hok.fresh lt)
  rw [List.append_nil] at hq
  obtain ⟨h1, eh⟩ : ∃ h1 : Heap, h1 = (hp.push (PySem.W.kdv_tup us)).push (PySem.HandSPX.excO C hp.objs.size) := ⟨_, rfl⟩
  have kk : ∀ b o, hp.get? b = some o → h1.get? b = some o := fun b o e => by rw [eh]; exact Heap.get?_push_of_some _ (Heap.get?_push_of_some _ e)
  have hget : h1.get? a = some (PySem.HandSPX.excO C hp.objs.size) := by rw [eh, ea]; heap_get
  have I2 : Inv X pins σ (upd H1 a (exo a C none)) ⟨h1, g, dr, tk, os⟩ := I1.laid (t' := tk) (h' := h1) kk lt (exo_ok hget)
  have r2 : Vals (V.ref a :: vs) (Value.ref a :: us) := .cons rfl r1
  have hl : (Value.ref a :: us).length = ps.length := by rw [← F1.len _ _ _ _ hq, r2.length]
  have b2 := hb _ (Value.ref a :: us) I2.kIn (by rw [List.append_nil]; exact hl)
  rw [List.append_nil] at b2
  have hus : us.length ≤ sizeLine := by
    rw [← Paired.length r1, sizeLine_eq]
    omega
  subst eh
  subst ea
  refine wpAny_call (PySem.HandSPX.call_own F.excBase_ValueError (fun Y => PySem.HandSPX.refsVE_contains Y bm hbm) (I1.kIn _ _ hC) (PySem.W.looks_findIn I1.kIn iC) (fun self => PySem.W.bind_fn I1.kIn self tI) hus
    (codeAny_mono (F1.run _ X.stack _ _ ⟨Value.ref (hp.objs.size + 1) :: us, []⟩ _ _ _ (fun _ _ _ => False) (hr.make C us []) (I2.env0.make C us []) b2 r2 hq) ?_))
  rintro (er | fl) s' hq'
  · exact hq'.elim
  cases fl with
  | ret u =>
    obtain ⟨v, H2, os2, bare2, un2, hok2, rv, ev, d, fs, ea2, ed, hd1, q2⟩ := hq'
    subst ev
    obtain ⟨h2, g2, d2, t2, os'⟩ := s'
    obtain ⟨t0, G, J, kG, ge, hoe, na⟩ := mk_end0 (d2 := d2) (t2 := t2) I1 lt kk un2 hok2 os2 bare2 ea2 ed hd1
    refine ⟨rv, hp.objs.size + 1, _, _, ⟨G, g2, d2, t2, os'⟩, _, .ref C, some d, rfl, J, kG, ge, hoe, ⟨rfl, rfl, ?_⟩, rfl, rfl, na, rfl, bare2, raises_own T.exC T.tyC, q2⟩
    rintro vs hv
    cases hv
    rfl
  | next => exact hq'.elim
  | brk => exact hq'.elim
  | cont => exact hq'.elim
def drRaiseI (n f : Str) (dl : DTa) : DRt := fun Ex ρ O => dl ρ O fun ds O1 => ∃ v, ds = [v] ∧ ∀ p, O1 p = none → Ex n (some p) ρ (O1.set p (.xd [(f, v)]))
theorem drs_raiseI {C fI : Addr} {n g : Str} {p2 : Pos} (hx : XIni X.K n C fI g) (F : FnOk X.prog X.w X.K X.mg X.base CX0 k fI fd ps (spIni C g)) (hr : Rm (k + 1) X) (hb : Binds X.K fd ps []) (hc : X.calm = true) (hg : Gl X x) (hm : X.mg x = some (.ref C)) (ha : DA X [e] dl)
    (hdb : (x == ("__debug__" : Str)) = false := by decide) (he : starEach [e] X.env = (false, eval e X.env) :: starEach [] X.env := by rfl) (hpl : (backTo pos (starEach [] X.env)).any (·.1) = false := by rfl) :
    DRS X (.Raise (some (.Call (.Name x p) [e] [] pos)) none p2) (drRaiseI n g dl) := by
  obtain ⟨t, p1, f1⟩ := ha
  refine ⟨fun W => _, fun W tk => L2N.ps_raise hc tk (pmkN_oex hx.ox hx.ini hx.tyI F (hr.room hc) hb hg hm p1 hdb he hpl), fun Ex W ρ σ w T hw he lk h => ?_⟩
  refine f1 ρ σ w _ _ hw he (fun ds vs w1 hw1 fr1 rs h1 => ?_) h
  obtain ⟨d, e1, h1⟩ := h1
  subst e1
  obtain ⟨v, e2, rd⟩ : ∃ v, vs = [v] ∧ Rep X.K w1.G d v := by
    simp only [Reps] at rs
    obtain ⟨v, r, e1, h2, e3⟩ := rs
    subst e3
    exact ⟨v, e1, h2⟩
  subst e2
  refine ⟨by show 1 ≤ 1000; decide, fun a na => ⟨a, v, rfl, upd_same, fun dx ndx hne => ⟨rfl, dx, [(g, v)], upd_same, ?_, ?_, ?_⟩⟩⟩
  · rw [upd_ne hne, upd_same]
  · rw [upd_ne hne] at ndx
    exact ndx
  · rw [upd_ne hne] at ndx
    have eH : upd (del (upd (upd (upd w1.H a (exo a C none)) dx (exd dx [(g, v)])) a (exo a C (some dx))) a) dx (.xd [(g, v)]) = upd w1.H dx (.xd [(g, v)]) := by
      funext b
      by_cases hb1 : b = dx
      · rw [hb1, upd_same, upd_same]
      · rw [upd_ne hb1, upd_ne hb1]
        by_cases hb2 : b = a
        · rw [hb2, del_same, na]
        · rw [del_ne hb2, upd_ne hb2, upd_ne hb1, upd_ne hb2]
    rw [eH]
    exact lk.x n C (some dx) ρ σ (w1.give dx (.xd [(g, d)]) (.xd [(g, v)])) hx.at_ (hw1.give ndx ⟨_, rfl, .cons ⟨rfl, rd⟩ .nil⟩) (fr1.trans (Fr.give hw1 ndx)) (he.mono fr1.gsub) (h1 dx (hw1.none_of ndx).2)
/-! try .. except X: .. -/
def tOfS (K : PySem.W.Frag) (d : DS') : TS := fun D σ H => ∃ E ρ w, w.H = H ∧ Own K w ∧ RepE K w.G ρ σ ∧ LkS K w E D ∧ d E ρ w.O
def tOfR (K : PySem.W.Frag) (r : DRt) (W : WX) : TS := fun _ σ H => ∃ Ex ρ w, w.H = H ∧ Own K w ∧ RepE K w.G ρ σ ∧ LkW K w Ex W ∧ r Ex ρ w.O
theorem pss_ofS {sts : List Stmt} (h : DSs X sts ds) : PSs X sts (tOfS X.K ds) := by
  obtain ⟨t, p, f⟩ := h
  refine ⟨fun pins s σ H D I ⟨E, ρ, w, eH, hw, he, lk, q⟩ => ?_⟩
  subst eH
  exact p.run pins s σ w.H D I (f ρ σ w E D hw he lk q)
theorem pss_ofR {sts : List Stmt} {W : WX} (h : DRSs X sts dr) (tk : L2N.Takes X W) : PSs X sts (tOfR X.K dr W) := by
  obtain ⟨t, p, f⟩ := h
  refine ⟨fun pins s σ H D I ⟨Ex, ρ, w, eH, hw, he, lk, q⟩ => ?_⟩
  subst eH
  exact (p W tk).run pins s σ w.H D I (f Ex W ρ σ w D hw he lk q)
theorem takesN0 : L2N.Takes X (fun _ _ _ _ => False) := fun _ _ ⟨_, _, _, _, _, _, _, _, _, _, _, _, _, _, _, _, z⟩ => z.elim
/-- a class n that is named in a clause; the classes ms that it takes -/
structure XCat (K : PySem.W.Frag) (mg : Str → Option Value) (n : Str) (C : Addr) (ms : List Str) : Prop where
  mg_ : mg n = some (.ref C)
  ex : ∀ m ∈ ms, ∀ C', ClsAt K m C' → PySem.W.exmOne K (.ref C') (.ref C) = some true
theorem xcat_nil {K : PySem.W.Frag} {mg : Str → Option Value} {n : Str} {C : Addr} (h : mg n = some (.ref C)) : XCat K mg n C [] := ⟨h, fun m hm => nomatch hm⟩
theorem xcat_cons {K : PySem.W.Frag} {mg : Str → Option Value} {n m : Str} {C C2 : Addr} {ms : List Str} (a : ClsAt K m C2) (e : PySem.W.exmOne K (.ref C2) (.ref C) = some true) (r : XCat K mg n C ms) : XCat K mg n C (m :: ms) := by
  refine ⟨r.mg_, fun m' hm C' h => ?_⟩
  rcases List.mem_cons.mp hm with rfl | hm
  · obtain rfl := h.inj a
    exact e
  · exact r.ex m' hm C' h
def dTry (dn : DS') (r : DRt) (ms : List Str) (du : DS') : DS' := fun E ρ O => dn E ρ O ∨ r (fun m _ ρ' O' => m ∈ ms ∧ du E ρ' O') ρ O
theorem ds_try {C : Addr} {n : Str} {ms : List Str} {b₀ : Stmt} {suite : List Stmt} {np pos' : Pos} {dn du : DS'} (hc : XCat X.K X.mg n C ms) (hcm : X.calm = true) (hb : DSs X body dn)
    (hr : ∀ (pn : List (Addr × Obj)) (xe : Value → Shared → Prop), PassesOwn (model X.prog X.w) X.A X.env xe → DRSs (X.tr pn xe) body dr) (hu : ∀ (a : Addr) (oe : Obj) (pn : List (Addr × Obj)), Up X (X.suite a ((a, oe) :: pn)) → DSs (X.suite a ((a, oe) :: pn)) (b₀ :: suite) du)
    (hn : ∀ e s, ¬ X.xe e s := by exact fun _ _ z => z) (hs : X.stack = X.env :: X.outer := by rfl) (hf : X.env.frame = some X.env.locals := by rfl) (hg : Gl X n := by rfl) (hdb : (n == ("__debug__" : Str)) = false := by decide) :
    DS X (.Try body [.ExceptHandler (some (.Name n np)) none (b₀ :: suite) pos'] [] [] pos) (dTry dn dr ms du) := by
  obtain ⟨t, p, f⟩ := hb
  refine ⟨_, ps_or (ps_try_never (u := tNext) hn p pss_nil) (L2N.ps_try_many (tb := fun W => tOfR X.K dr W) (l := [(Value.ref C, fun _ _ _ => tOfS X.K du)]) (Wout := fun _ _ _ _ => False) hs hf takesN0 (fun W pn xe tk po => pss_ofR (hr pn xe po) tk)
    (.cons ⟨hg, hdb, .inl hc.mg_⟩ (fun a oe cls d pn hz hd => pss_ofS (hu a oe pn (up_suite hcm hz hd))) .nil)), fun ρ σ w E T hw he lk h => ?_⟩
  refine h.elim (fun h => .inl (f ρ σ w E _ hw he lk h)) (fun h => .inr ⟨_, ρ, w, rfl, hw, he, ⟨fun m C' d ρ' σ' w' ca hw' fr' he' q => ?_⟩, h⟩)
  exact ⟨true, hc.ex m q.1 C' ca, fun _ a _ => ⟨E, ρ', w', rfl, hw', he', lk.after fr', q.2⟩, fun z => nomatch z⟩
/-! try .. except X as e: .. -/
/-- one class m may come; e in the slot i -/
def dTryAs (dn : DS') (r : DRt) (m : Str) (i : Nat) (du : Addr → Option Addr → DS') : DS' := fun E ρ O => dn E ρ O ∨
  r (fun m' d ρ' O' => m' = m ∧ ∀ a, du a d { nx := fun ρ2 O2 => E.nx (ρ2.set i none) O2, rt := E.rt, bk := fun ρ2 O2 => E.bk (ρ2.set i none) O2, ct := fun ρ2 O2 => E.ct (ρ2.set i none) O2 } (ρ'.set i (some (.ref a))) O') ρ O
theorem RepE.gone {K : PySem.W.Frag} {G : Hp} {ρ : DEnv} {σ : L2.St} (h : RepE K G ρ σ) (i : Nat) : RepE K G (ρ.set i none) (σ.set i none) := by
  refine ⟨by rw [List.length_set, List.length_set]; exact h.1, fun j d e => ?_⟩
  by_cases hj : i = j
  · subst hj
    by_cases hl : i < ρ.length
    · rw [List.getElem?_set_self hl] at e; cases e
    · rw [List.getElem?_eq_none (by simpa using hl)] at e; cases e
  · rw [List.getElem?_set_ne hj] at e ⊢
    exact h.get j d e
theorem ds_tryAs {C C0 : Addr} {n m x : Str} {i : Nat} {b₀ : Stmt} {suite : List Stmt} {np pos' : Pos} {dn : DS'} {du : Addr → Option Addr → DS'} (hc : XCat X.K X.mg n C [m]) (h0 : ClsAt X.K m C0) (hcm : X.calm = true) (hN : X.N.Nodup) (hi : X.N[i]? = some x) (hln : X.env.kindOf x = some .local) (hb : DSs X body dn)
    (hr : ∀ (pn : List (Addr × Obj)) (xe : Value → Shared → Prop), PassesOwn (model X.prog X.w) X.A X.env xe → DRSs (X.tr pn xe) body dr)
    (hu : ∀ (a : Addr) (oe : Obj) (d : Option Addr) (pn : List (Addr × Obj)), L2N.Zn (.ref C0) d oe → (∃ vs, oe.data = .fields vs) → Up X (X.suite a ((a, oe) :: pn)) → DSs (X.suite a ((a, oe) :: pn)) (b₀ :: suite) (du a d))
    (hn : ∀ e s, ¬ X.xe e s := by exact fun _ _ z => z) (hs : X.stack = X.env :: X.outer := by rfl) (hf : X.env.frame = some X.env.locals := by rfl) (hg : Gl X n := by rfl) (hdb : (n == ("__debug__" : Str)) = false := by decide) :
    DS X (.Try body [.ExceptHandler (some (.Name n np)) (some x) (b₀ :: suite) pos'] [] [] pos) (dTryAs dn dr m i du) := by
  obtain ⟨t, p, f⟩ := hb
  refine ⟨_, ps_or (ps_try_never (u := tNext) hn p pss_nil) (L2N.ps_try_as (i := i) (tb := fun W => tOfR X.K dr W) (c := Value.ref C) (ts := fun a cls d D σ H => cls = .ref C0 ∧ tOfS X.K (du a d) D σ H) (Wout := fun _ _ _ _ => False) hs hf hN hi hln ⟨hg, hdb, .inl hc.mg_⟩ takesN0
    (fun W pn xe tk po => pss_ofR (hr pn xe po) tk) (fun a oe cls d pn hz hd => ⟨fun pins s σ H D I ⟨ec, q⟩ => ?_⟩)), fun ρ σ w E T hw he lk h => ?_⟩
  · subst ec
    exact (pss_ofS (hu a oe d pn hz hd (up_suite hcm hz hd))).run pins s σ H D I q
  · refine h.elim (fun h => .inl (f ρ σ w E _ hw he lk h)) (fun h => .inr ⟨_, ρ, w, rfl, hw, he, ⟨fun m' C' d ρ' σ' w' ca hw' fr' he' q => ?_⟩, h⟩)
    obtain ⟨rfl, q⟩ := q
    obtain rfl := ca.inj h0
    refine ⟨true, hc.ex _ (List.mem_singleton.mpr rfl) C' ca, fun _ a _ => ⟨rfl, _, _, w', rfl, hw', he'.set (.ref a), ?_, q a⟩, fun z => nomatch z⟩
    have lk' := lk.after fr'
    exact ⟨fun ρ2 σ2 w2 a1 a2 a3 => lk'.nx _ _ w2 a1 a2 (a3.gone i), lk'.rt, fun ρ2 σ2 w2 a1 a2 a3 => lk'.bk _ _ w2 a1 a2 (a3.gone i), fun ρ2 σ2 w2 a1 a2 a3 => lk'.ct _ _ w2 a1 a2 (a3.gone i)⟩
/-- e.f in that suite -/
def dXf (a : Addr) (d : Option Addr) (f : Str) (da : DT) : DT := fun ρ O Q => da ρ O fun x O1 => x = .ref a ∧ ∃ dd fs v, d = some dd ∧ O1 dd = some (.xd fs) ∧ fs.lookup f = some v ∧ Q v O1
theorem de_xf {a C : Addr} {oe : Obj} {d : Option Addr} {pn : List (Addr × Obj)} {f : Str} (T : XfC X.K C) (hno : PySem.W.findIn X.K (.ref C) f = some none) (hz : L2N.Zn (.ref C) d oe) (hf : ∃ vs, oe.data = .fields vs) (h : DE (X.suite a ((a, oe) :: pn)) e da)
    (hb : attributeBase e f X.env (eval e X.env) = eval e X.env := by rfl) : DE (X.suite a ((a, oe) :: pn)) (.Attribute e f pos) (dXf a d f da) := by
  obtain ⟨t, p, fa⟩ := h
  refine ⟨_, pe_xf T hno hz.zc hf p hb, fun ρ σ w Q' Q hw he lk h => ?_⟩
  refine fa ρ σ w _ _ hw he (fun x vx w1 hw1 f1 rx ⟨ex, dd, fs, v, ed, eo, el, h1⟩ => ?_) h
  subst ex
  obtain ⟨_, hh, e1, gs, e2, rf⟩ := hw1.own dd _ eo
  subst e2
  obtain ⟨u, eu, ru⟩ := rf.get el
  exact ⟨rx.ref_of, rfl, dd, gs, u, ed, e1, eu, lk v u w1 hw1 f1 ru h1⟩
end
section
variable {P : Program} {w : World} {K : PySem.W.Frag} {mg : Str → Option Value} {base : Heap}
theorem fnR_ok {x qual : Str} {st : Stmt} {f : Addr} {fd : FuncData} {N ps : List Str} {k : Nat} {s : DLX} (F : Fun K x qual st f fd) (S : FnScope N ps (defScope st))
    (len : ∀ ds O Ex, s ds O Ex → ds.length = ps.length)
    (hbody : ∀ (cdv : Value) (A : Around) (outer : List Env) (s' : Shared) (H : Hp) (E : XK), Rm k (cxOf (L2N.CX P w) P w K mg base N qual (defScope st) f cdv A outer s' H E) → PassesOwn (model P w) (cxOf (L2N.CX P w) P w K mg base N qual (defScope st) f cdv A outer s' H E).A (envOfC qual (defScope st) s'.heap.objs.size f cdv) (cxOf (L2N.CX P w) P w K mg base N qual (defScope st) f cdv A outer s' H E).xe →
      ∃ d, DRSs (cxOf (L2N.CX P w) P w K mg base N qual (defScope st) f cdv A outer s' H E) (defBody st) d ∧ ∀ ds O Ex, s ds O Ex → d (fun n d _ O' => Ex n d O') (startD N.length ds) O) :
    FnOk P w K mg base (L2N.CX P w) (k + 1) f fd ps (PromR K s) := by
  obtain ⟨oc, od, kV, doc, pm, an, cdv, ct, osl, rfl, lk, hcd⟩ := F.ex
  refine fn_of lk hcd S (fun vs H Q E ⟨ds, w1, Ex, _, _, r, _, h⟩ => ?_) (fun A outer s' H vs Q E hr ⟨ds, w1, Ex, eH, hw, r, lk, h⟩ => ?_)
  · rw [← r.length]; exact len _ _ _ h
  obtain ⟨d, ⟨t, p, f⟩, hd⟩ := hbody cdv A outer s' H E (.inl ⟨rfl, hr⟩) PassesOwn.leaving
  subst eH
  refine ⟨t (fun cls d _ H' => E cls d H'), p _ (L2N.takes_of rfl rfl rfl rfl), ?_⟩
  exact f _ _ _ _ w1 _ hw r.begun ⟨fun n C d ρ σ w' a b c _ h' => lk.x n C d w' a b c h'⟩ (hd ds w1.O Ex h)
theorem exm_two {S C : Addr} (h1 : PySem.W.subIn K (.ref C) (.type "BaseException") = some true) (h2 : PySem.W.isClsIn K C = true) (h3 : PySem.W.typeIn K (.ref C) = some (.type "type")) (h4 : PySem.W.subIn K (.ref S) (.ref C) = some true) :
    PySem.W.exmOne K (.ref S) (.ref C) = some true := by
  have e1 : (PySem.W.subIn K (.ref C) (.type "BaseException") == some true) = true := by rw [h1] <;> rfl
  have e2 : ((PySem.W.clsIn K C).isSome && PySem.W.typeIn K (.ref C) == some (.type "type")) = true := by
    have h2' : (PySem.W.clsIn K C).isSome = true := h2
    rw [h2', h3] <;> rfl
  show (if (PySem.W.subIn K (.ref C) (.type "BaseException") == some true) = true then (if ((PySem.W.clsIn K C).isSome && PySem.W.typeIn K (.ref C) == some (.type "type")) = true then PySem.W.subIn K (.ref S) (.ref C) else none) else none) = some true
  rw [if_pos e1, if_pos e2]
  exact h4
end

/-! ### isinstance of an exception -/
/-- the classes that are asked, as a name or a tuple of names -/
def KIs (K : PySem.W.Frag) (C : Addr) (H : Hp) (c : V) (b : Bool) : Prop := (∃ cv, ClsV c cv ∧ PySem.W.kitOne K (.ref C) cv = some b) ∨ ∃ tp cs us, c = .ref tp ∧ H tp = some (.tup cs) ∧ Paired ClsV cs us ∧ PySem.W.kitAny K (.ref C) us = some b
/-- its dict is told, if it has one -/
def XdT (H : Hp) (d : Option Addr) : Prop := d = none ∨ ∃ dd gs, d = some dd ∧ H dd = some (.xd gs)
def XdTO (O : Ow) (d : Option Addr) : Prop := d = none ∨ ∃ dd fs, d = some dd ∧ O dd = some (.xd fs)
theorem XdTO.told {K : PySem.W.Frag} {w : Wd} {d : Option Addr} (hw : Own K w) (h : XdTO w.O d) : XdT w.H d := h.imp id fun ⟨dd, fs, e, eo⟩ => by
  obtain ⟨_, hh, e1, gs, e2, _⟩ := hw.own dd _ eo
  exact ⟨dd, gs, e, by rw [e1, e2]⟩
section
variable {X : Cx} {pins : List (Addr × Obj)} {σ : L2.St} {H : Hp} {s : Shared}
theorem inst_at {a C : Addr} {oe : Obj} {d : Option Addr} (I : Inv X pins σ H s) (ha : s.heap.get? a = some oe) (hc : oe.cls = .ref C) (hd : oe.dict = d) (hf : ∃ vs, oe.data = .fields vs) (t : XdT H d) : ∃ od, PySem.W.InstAt s.heap a oe C od := by
  obtain ⟨vs, hv⟩ := hf
  have no : PySem.W.notCls oe = true := by unfold PySem.W.notCls; rw [hv] <;> rfl
  rcases t with rfl | ⟨dd, gs, rfl, e⟩
  · exact ⟨none, ha, hc, no, by rw [hd]; trivial⟩
  · have hx : ObjOk X.prog X.w H s.heap dd (.xd gs) := I.hok dd _ e
    obtain ⟨mA, hns, _⟩ := hx
    obtain ⟨od, ho, _⟩ := lookIn_ns hns
    exact ⟨some od, ha, hc, no, by rw [hd]; exact ho⟩
theorem isx_core {a C : Addr} {ox : Obj} {od : Option Obj} {c : V} {u : Value} {b : Bool} {Q : VK} {E : Value → Shared → Prop} (T : ExcC X.K C) (I : Inv X pins σ H s) (J : PySem.W.InstAt s.heap a ox C od) (k : KIs X.K C H c b) (r : RelV c u) (q : Q (.bl b) H) :
    wpAny (model X.prog X.w) X.A (call (.builtin "isinstance") [.ref a, u]) (EP X pins σ Q) E s := by
  obtain ⟨cdD, hcD, _⟩ := PySem.W.any_some T.hd
  have Z := PySem.W.kitx_exc (x := a) (ox := ox) (od := od) (by rw [hcD]; rfl) T.hg T.hk T.hs T.ha T.hn T.ht T.hm
  rcases k with ⟨cv, hcv, e⟩ | ⟨tp, cs, us, ec, hT, hp, e⟩
  · have := hcv.eq r
    subst this
    exact PySem.W.kia_one Z I.kIn J e (fun z => nomatch z) fun tk => ⟨.bl b, H, I.tok tk, rfl, q⟩
  · subst ec
    cases (show u = Value.ref tp from r)
    obtain ⟨_, its, rv, o, h1, h2, n, h3⟩ := (show ObjOk X.prog X.w H s.heap tp (.tup cs) from I.hok tp _ hT)
    have e3 := ClsV.all hp rv
    subst e3
    obtain ⟨oc, od', dt, sl⟩ := o
    simp only at h2 h3
    subst h2 h3
    exact PySem.W.kia_tup Z I.kIn J h1 e (fun z => nomatch z) fun tk => ⟨.bl b, H, I.tok tk, rfl, q⟩
/-- in the suite that caught it -/
def rIsX (K : PySem.W.Frag) (C a : Addr) (d : Option Addr) : List V → Hp → VK → Prop := fun xs H Q => ∃ c b, xs = [.ref a, c] ∧ XdT H d ∧ KIs K C H c b ∧ Q (.bl b) H
theorem call_isX {a C : Addr} {oe : Obj} {d : Option Addr} {pn : List (Addr × Obj)} (T : ExcC X.K C) (hz : Zc (.ref C) d oe) (hf : ∃ vs, oe.data = .fields vs) : CallR (X.suite a ((a, oe) :: pn)) (.builtin "isinstance") (rIsX X.K C a d) := by
  rintro pins s σ H xs us Q I r ⟨c, b, rfl, t, k, q⟩
  obtain ⟨u1, u2, rfl, r1, r2⟩ := vals2 r
  cases (show u1 = Value.ref a from r1)
  obtain ⟨hget, _⟩ := I.pin (a, oe) (List.mem_append.mpr (.inl List.mem_cons_self))
  obtain ⟨od, J⟩ := inst_at I hget hz.1 hz.2 hf t
  exact isx_core (X := X.suite a ((a, oe) :: pn)) T I J k r2 q
/-- of one that is kept -/
def rIsK (K : PySem.W.Frag) : List V → Hp → VK → Prop := fun xs H Q => ∃ (a C : Addr) (d : Option Addr) (c : V) (b : Bool), xs = [.ref a, c] ∧ H a = some (excO a C d) ∧ ExcC K C ∧ XdT H d ∧ KIs K C H c b ∧ Q (.bl b) H
theorem call_isK : CallR X (.builtin "isinstance") (rIsK X.K) := by
  rintro pins s σ H xs us Q I r ⟨a, C, d, c, b, rfl, e, T, t, k, q⟩
  obtain ⟨u1, u2, rfl, r1, r2⟩ := vals2 r
  cases (show u1 = Value.ref a from r1)
  obtain ⟨⟨oe, vs, h1, h2, h3, h4⟩, _⟩ := (show ObjOk X.prog X.w H s.heap a (excO a C d) from I.hok a _ e)
  obtain ⟨od, J⟩ := inst_at I h1 h2 h3 ⟨vs, h4⟩ t
  exact isx_core T I J k r2 q
end
/-! the classes, as arguments -/
def CArg (X : Cx) (e : Expr) (v : V) (u : Value) : Prop := PE X e (tC v) ∧ ClsV v u
theorem ca_own {X : Cx} {x : Str} {C : Addr} {pos : Pos} (hg : Gl X x) (hm : X.mg x = some (.ref C)) (hd : (x == ("__debug__" : Str)) = false := by decide) : CArg X (.Name x pos) (.ref C) (.ref C) := ⟨pe_glob hg hm rfl hd, .own C⟩
theorem ca_ty {X : Cx} {x : Str} {T : String} {pos : Pos} (hg : Gl X x) (hm : X.mg x = none) (hv : bootBuiltins x = some (.type T)) (hn : x ≠ "__name__" := by decide) (hd : (x == ("__debug__" : Str)) = false := by decide) : CArg X (.Name x pos) (.ty T) (.type T) := ⟨pe_bltn (v := .ty T) hg hm hv rfl hn hd, .ty T⟩
def CArgs (X : Cx) (es : List Expr) (vs : List V) (us : List Value) : Prop := (∃ t, PA X es t ∧ ∀ σ H (Q : List V → Hp → Prop), Q vs H → t σ H Q) ∧ Paired ClsV vs us
theorem cas_nil {X : Cx} : CArgs X [] [] [] := ⟨⟨_, pa_nil, fun _ _ _ q => q⟩, .nil⟩
theorem cas_cons {X : Cx} {e : Expr} {es : List Expr} {v : V} {vs : List V} {u : Value} {us : List Value} (h : CArg X e v u) (r : CArgs X es vs us) (hs : starEach (e :: es) X.env = (false, eval e X.env) :: starEach es X.env := by rfl) : CArgs X (e :: es) (v :: vs) (u :: us) := by
  obtain ⟨p, k⟩ := h
  obtain ⟨⟨t, pt, ft⟩, kt⟩ := r
  exact ⟨⟨_, pa_cons p pt hs, fun σ H Q q => ft σ H _ q⟩, .cons k kt⟩
/-! kitOne, by what the written part says -/
theorem kit_sub {K : PySem.W.Frag} {C C2 : Addr} {b : Bool} (hi : PySem.W.isClsIn K C2 = true) (ht : PySem.W.typeIn K (.ref C2) = some (.type "type")) (h0 : PySem.W.subIn K (.ref C) (.ref C) = some true) (hs : PySem.W.subIn K (.ref C) (.ref C2) = some b) : PySem.W.kitOne K (.ref C) (.ref C2) = some b := by
  unfold PySem.W.kitOne
  by_cases e : (Value.ref C == Value.ref C2) = true
  · rw [if_pos e]
    have e' : C = C2 := Value.ref.inj (beq_iff_eq.mp e)
    subst e'
    rw [h0] at hs
    cases hs
    rfl
  · rw [if_neg e]
    show (if ((PySem.W.clsIn K C2).isSome && PySem.W.typeIn K (.ref C2) == some (.type "type")) = true then PySem.W.subIn K (.ref C) (.ref C2) else none) = some b
    have e2 : ((PySem.W.clsIn K C2).isSome && PySem.W.typeIn K (.ref C2) == some (.type "type")) = true := by
      have h2' : (PySem.W.clsIn K C2).isSome = true := hi
      rw [h2', ht] <;> rfl
    rw [if_pos e2]
    exact hs
theorem kit_bi {K : PySem.W.Frag} {C : Addr} {T : String} {b : Bool} (hk : PySem.W.kitMeta T = true) (hs : PySem.W.subIn K (.ref C) (.type T) = some b) : PySem.W.kitOne K (.ref C) (.type T) = some b := by
  unfold PySem.W.kitOne
  rw [if_neg (by intro z; cases (beq_iff_eq.mp z))]
  show (if PySem.W.kitMeta T = true then PySem.W.subIn K (.ref C) (.type T) else none) = some b
  rw [if_pos hk]
  exact hs
theorem kany_nil {K : PySem.W.Frag} {t : Value} : PySem.W.kitAny K t [] = some false := rfl
theorem kany_yes {K : PySem.W.Frag} {t c : Value} {cs : List Value} (h : PySem.W.kitOne K t c = some true) : PySem.W.kitAny K t (c :: cs) = some true := by
  unfold PySem.W.kitAny
  rw [h]
theorem kany_no {K : PySem.W.Frag} {t c : Value} {cs : List Value} {b : Bool} (h : PySem.W.kitOne K t c = some false) (r : PySem.W.kitAny K t cs = some b) : PySem.W.kitAny K t (c :: cs) = some b := by
  unfold PySem.W.kitAny
  rw [h]
  exact r
/-! over data -/
section
variable {X : Cx} {e : Expr} {da : DT} {pos p : Pos}
def dIsX (a : Addr) (d : Option Addr) (b : Bool) (da : DT) : DT := fun ρ O Q => da ρ O fun x O1 => x = .ref a ∧ XdTO O1 d ∧ Q (.bl b) O1
theorem de_isX1 {a C : Addr} {oe : Obj} {d : Option Addr} {pn : List (Addr × Obj)} {c : Expr} {v : V} {u : Value} {b : Bool} (T : ExcC X.K C) (hz : L2N.Zn (.ref C) d oe) (hf : ∃ vs, oe.data = .fields vs) (h : DE (X.suite a ((a, oe) :: pn)) e da) (hc : CArg (X.suite a ((a, oe) :: pn)) c v u) (k : PySem.W.kitOne X.K (.ref C) u = some b)
    (hg : Gl X "isinstance") (hm : X.mg "isinstance" = none) (he : starEach [e, c] X.env = (false, eval e X.env) :: starEach [c] X.env := by rfl) (he2 : starEach [c] X.env = (false, eval c X.env) :: starEach [] X.env := by rfl) (hpl : (backTo pos (starEach [c] X.env)).any (·.1) = false := by rfl) :
    DE (X.suite a ((a, oe) :: pn)) (.Call (.Name "isinstance" p) [e, c] [] pos) (dIsX a d b da) := by
  obtain ⟨t, pe, f⟩ := h
  refine ⟨_, pe_callB (call_isX T hz.zc hf) hg hm (by decide +kernel) (pa_cons pe (pa_cons hc.1 pa_nil he2) he) (by decide) (by decide) he hpl, fun ρ σ w Q' Q hw he' lk h => ?_⟩
  refine f ρ σ w _ _ hw he' (fun x vx w1 hw1 f1 rx ⟨ex, xt, h1⟩ => ?_) h
  subst ex
  exact ⟨v, b, by rw [rx.ref_of], xt.told hw1, .inl ⟨u, hc.2, k⟩, lk _ _ w1 hw1 f1 (.bl b) h1⟩
theorem de_isXT {a C : Addr} {oe : Obj} {d : Option Addr} {pn : List (Addr × Obj)} {cs : List Expr} {kt : Nat} {tpos : Pos} {vs : List V} {us : List Value} {b : Bool} (T : ExcC X.K C) (hz : L2N.Zn (.ref C) d oe) (hf : ∃ vs, oe.data = .fields vs) (h : DE (X.suite a ((a, oe) :: pn)) e da) (hc : CArgs (X.suite a ((a, oe) :: pn)) cs vs us) (k : PySem.W.kitAny X.K (.ref C) us = some b)
    (hl : vs.length ≤ 1000) (hg : Gl X "isinstance") (hm : X.mg "isinstance" = none) (he : starEach [e, .Tuple cs kt tpos] X.env = (false, eval e X.env) :: starEach [.Tuple cs kt tpos] X.env := by rfl) (he2 : starEach [.Tuple cs kt tpos] X.env = (false, eval (.Tuple cs kt tpos) X.env) :: starEach [] X.env := by rfl) (hpl : (backTo pos (starEach [.Tuple cs kt tpos] X.env)).any (·.1) = false := by rfl) :
    DE (X.suite a ((a, oe) :: pn)) (.Call (.Name "isinstance" p) [e, .Tuple cs kt tpos] [] pos) (dIsX a d b da) := by
  obtain ⟨t, pe, f⟩ := h
  obtain ⟨⟨tc, pc, fc⟩, kc⟩ := hc
  refine ⟨_, pe_callB (call_isX T hz.zc hf) hg hm (by decide +kernel) (pa_cons pe (pa_cons (pe_tup pc) pa_nil he2) he) (by decide) (by decide) he hpl, fun ρ σ w Q' Q hw he' lk h => ?_⟩
  refine f ρ σ w _ _ hw he' (fun x vx w1 hw1 f1 rx ⟨ex, xt, h1⟩ => ?_) h
  subst ex
  refine fc σ w1.H _ ⟨Nat.le_trans hl line1000, fun q hq => ?_⟩
  obtain ⟨o2, f2⟩ := Own.more (o := .tup vs) hw1 hq
  have xt2 : XdT (upd w1.H q (.tup vs)) d := (xt.told hw1).imp id fun ⟨dd, gs, e1, e2⟩ => ⟨dd, gs, e1, (upd_ne (ne_of_none e2 hq)).trans e2⟩
  exact ⟨.ref q, b, by rw [rx.ref_of], xt2, .inr ⟨q, vs, us, rfl, upd_same, kc, k⟩, lk _ _ ⟨w1.G, w1.O, upd w1.H q (.tup vs)⟩ o2 (f1.trans f2) (.bl b) h1⟩
end

/-! ### an exception that is kept: the try rule that tracks it -/
section
variable {X : Cx} {pins : List (Addr × Obj)} {σ : L2.St} {H : Hp} {sI s : Shared} {a C : Addr} {d : Option Addr} {oe : Obj} {vs : Array Value}
/-- what was made since sI may be known from now on -/
theorem inv_track (I : Inv X pins σ H sI) (J : Inv X pins σ H s) (hn : sI.heap.get? a = none) (he : s.heap.get? a = some oe) (hc : oe.cls = .ref C) (hd : oe.dict = d) (hv : oe.data = .fields vs) (na : H a = none) (nL : a ≠ X.env.locals) :
    Inv X pins σ (upd H a (excO a C d)) s := by
  have ne : ∀ b o, sI.heap.get? b = some o → b ≠ a := fun b o e z => by rw [z, hn] at e; cases e
  have nh : ∀ b u, H b = some u → b ≠ a := fun b u e z => by rw [z, na] at e; cases e
  refine ⟨J.ok, J.os, J.bare, ⟨J.base.keep, J.base.slot, fun b o e n hx => ?_, J.base.there, fun b xs e => ?_, fun b o u e => ?_, fun b ps e => ?_⟩, J.loc, J.cell, ?_, fun x c e => ?_, fun p hp => ?_, fun b u e => ?_, J.len⟩
  · obtain ⟨o', e'⟩ := I.base.there b o e hx
    rw [upd_ne (ne b o' e')]
    exact J.base.free b o e n hx
  · have q := J.base.tups b xs e
    rw [upd_ne (nh b _ q)]; exact q
  · have q := J.base.frzs b o u e
    rw [upd_ne (nh b _ q)]; exact q
  · obtain ⟨more, q⟩ := J.base.tbls b ps e
    exact ⟨more, by rw [upd_ne (nh b _ q)]; exact q⟩
  · rw [upd_ne (Ne.symm nL)]; exact J.free
  · have h1 := J.freeC x c e
    obtain ⟨v, h2⟩ := I.cell x c e
    have : c ≠ a := fun z => by
      subst z
      first
        | exact ne _ _ h2 rfl
        | (obtain ⟨o, h3, _⟩ := h2; exact ne _ _ h3 rfl)
    rw [upd_ne this]; exact h1
  · obtain ⟨h1, h2, h3⟩ := J.pin p hp
    have hne := ne _ _ (I.pin p hp).1
    exact ⟨h1, by rw [upd_ne hne]; exact h2, h3⟩
  · by_cases hb : b = a
    · subst hb
      rw [upd_same] at e
      cases e
      exact ⟨⟨oe, vs, he, hc, hd, hv⟩, ⟨_, he⟩, fun h1 h2 ⟨o1, v1, q1, q2⟩ k => ⟨o1, v1, k _ q1, q2⟩⟩
    · rw [upd_ne hb] at e
      exact (J.hok b u e).stay (fun c v _ q => q) (fun c q => by rw [upd_ne (nh c _ q)]; exact q) fun c xs q => by rw [upd_ne (nh c _ q)]; exact q
theorem inv_hotK (I : Inv X pins σ H s) (a : Addr) : Inv (X.suite a (X.pn ++ pins)) [] σ H s :=
  ⟨I.ok.suite _ _, I.os, I.bare, I.base, I.loc, I.cell, I.free, I.freeC, fun p hp => I.pin p (by rw [List.append_nil] at hp; exact hp), I.hok, I.len⟩
theorem inv_coldK (I : Inv (X.suite a (X.pn ++ pins)) [] σ H s) (ok : X.Ok) : Inv X pins σ H s :=
  ⟨ok, I.os, I.bare, I.base, I.loc, I.cell, I.free, I.freeC, fun p hp => I.pin p (by rw [List.append_nil]; exact hp), I.hok, I.len⟩
end
/-- what a clause that keeps it asks: it catches it, and the suite runs with it known -/
def wK (K : PySem.W.Frag) (c : Value) (i : Nat) (ts : Addr → Addr → Option Addr → TS) (D : Ends) : WX := fun cls d σ H =>
  PySem.W.exmOne K cls c = some true ∧ ∃ C, cls = .ref C ∧ ∀ a, H a = none → ts a C d { nx := fun σ' H' => D.nx (σ'.set i none) H', rt := D.rt, bk := fun σ' H' => D.bk (σ'.set i none) H', ct := fun σ' H' => D.ct (σ'.set i none) H' } (σ.set i (some (.ref a))) (upd H a (excO a C d))
section
variable {X : Cx} {x n : Str} {c : Value} {i : Nat} {body suite : List Stmt} {b₀ : Stmt} {np pos pos' : Pos} {tb : WX → TS} {ts : Addr → Addr → Option Addr → TS}
/-- try: body, except x as n: a suite in which n's exception is known, and behind which it stays known -/
theorem ps_try_keep (hs : X.stack = X.env :: X.outer) (hf : X.env.frame = some X.env.locals) (hN : X.N.Nodup) (hi : X.N[i]? = some n) (hln : X.env.kindOf n = some .local) (hg : Gl X x) (hdb : (x == ("__debug__" : Str)) = false) (hm : X.mg x = some c)
    (hb : ∀ (W : WX) (pn : List (Addr × Obj)) (xe : Value → Shared → Prop), L2N.Takes (X.tr pn xe) W → PassesOwn (model X.prog X.w) X.A X.env xe → PSs (X.tr pn xe) body (tb W))
    (hsu : ∀ (a C : Addr) (d : Option Addr) (pn : List (Addr × Obj)), PSs (X.suite a pn) (b₀ :: suite) (ts a C d)) :
    PS X (.Try body [.ExceptHandler (some (.Name x np)) (some n) (b₀ :: suite) pos'] [] [] pos) (fun D σ H => tb (wK X.K c i ts D) D σ H) := by
  refine ⟨fun pins s σ H D I h => ?_⟩
  have ok := I.ok
  have hfr : X.A.frames = some (X.env :: X.outer) := by rw [ok.frames, hs]
  -- the whole clause, from the moment it is thrown
  let T : Value → Shared → Prop := fun e s1 => wpAny (model X.prog X.w) X.A (noteFrame e X.env) (fun _ s2 => wpAny (model X.prog X.w) X.A (setFlight e none) (fun _ s3 =>
    wpAny (model X.prog X.w) X.A (handleBy e X.env [.ExceptHandler (some (.Name x np)) (some n) (b₀ :: suite) pos']) (SP X pins D) X.xe s3) X.xe s2) X.xe s1
  have caught : ∀ u s1, L2N.XE (X.tr (X.pn ++ pins) T) (wK X.K c i ts D) u s1 → T u s1 := by
    rintro u s1 ⟨a, B, sI, pins', σ', H', cls, d, rfl, J', nb, up, sky, na, os, ag, hx, C, rfl, suit⟩
    have J : Inv X pins σ' H' sI := J'.ofTry ok
    have sky' : L2.Sky B (X.env :: X.outer) a (L2N.Zn (.ref C) d) X.env.locals s1.heap := by rw [← hs]; exact sky
    show wpAny (model X.prog X.w) X.A (noteFrame (.ref a) X.env) _ _ _
    refine L2N.Sky.land L2N.Zn.steady hfr hf sky' fun h3 fl3 up3 => ?_
    obtain ⟨oe3, vs3, he3, hz3, hd3⟩ := fl3.there
    have J3 : Inv X pins σ' H' { s1 with heap := h3 } := J.landed nb fl3.1 (up.trans up3) os ag
    have nfr : a ∉ frs (X.env :: X.outer) := fun hm' => by
      obtain ⟨_, o', e', q⟩ := fl3.2.2.1.mem hm'
      rw [he3] at e'; cases e'
      exact q _ hd3
    have nL : a ≠ X.env.locals := fun z => nfr (List.mem_filterMap.mpr ⟨X.env, List.mem_cons_self, by rw [hf, z]⟩)
    have new : sI.heap.get? a = none := by
      cases e : sI.heap.get? a with
      | none => rfl
      | some o =>
        have := nb a o e (by rw [hs]; exact nfr)
        rw [fl3.2.1] at this; cases this
    have K3 := inv_track (a := a) (C := C) (d := d) J J3 new he3 hz3.1 hz3.2.1 hd3 na nL
    refine wpAny_handleBy_cons (codeAny_handlers_test ?_) (fun z => nomatch z)
    refine ld_glob (X := X.suite a (X.pn ++ pins)) (inv_hotK K3 a) hg hm ?_ hdb
    refine (PySem.W.exm_one (M := model X.prog X.w) J3.kIn (fun A Q E s k q => wpAny_typeOf_ref (k _ _ he3) (by rw [hz3.1]; exact q)) hx).here ?_
    refine codeAny_handlers_suite_as ?_
    refine HandSPX.lands_againZ fl3 fun h4 fl4 up4 => ?_
    obtain ⟨oe4, vs4, he4, hz4, hd4⟩ := fl4.there
    have J4 : Inv X pins σ' H' { s1 with heap := h4 } := J.landed nb fl4.1 ((up.trans up3).trans up4) os ag
    have K4 := inv_track (a := a) (C := C) (d := d) J J4 new he4 hz4.1 hz4.2.1 hd4 na nL
    refine store_ok (X := X.suite a (X.pn ++ pins)) (v := .ref a) (inv_hotK K4 a) hN hi (.inl hln) rfl (fun s5 S5 => ?_) (.inr hln)
    refine wpAny_mono ((hsu a C d (X.pn ++ pins)).run [] s5 _ _ _ S5 (suit a na)) (fun f s6 hsp => ?_) (fun _ _ z => False.elim z)
    have leave : ∀ {σ6 : L2.St} {H6 : Hp} {Q : Shared → Prop}, Inv (X.suite a (X.pn ++ pins)) [] σ6 H6 s6 → (∀ s7, Inv X pins (σ6.set i none) H6 s7 → Q s7) →
        wpAny (model X.prog X.w) X.A (do bindName X.env n .none; unbindBehindTheSuite X.env n pos') (fun _ s7 => Q s7) X.xe s6 := fun S6 hq => gone_ok (inv_coldK S6 ok) hN hi hln hq
    cases f with
    | next => obtain ⟨σ6, H6, S6, q6⟩ := hsp; exact leave S6 fun s7 J7 => ⟨_, _, J7, q6⟩
    | brk => obtain ⟨σ6, H6, S6, q6⟩ := hsp; exact leave S6 fun s7 J7 => ⟨_, _, J7, q6⟩
    | cont => obtain ⟨σ6, H6, S6, q6⟩ := hsp; exact leave S6 fun s7 J7 => ⟨_, _, J7, q6⟩
    | ret u => obtain ⟨v6, σ6, H6, S6, r6, q6⟩ := hsp; exact leave S6 fun s7 J7 => ⟨_, _, _, J7, r6, q6⟩
  refine wpAny_Try_except ?_
  refine wpAny_mono ((hb (wK X.K c i ts D) (X.pn ++ pins) T caught PassesOwn.looking).run [] s σ H D (I.toTry _) h) (fun f s1 hsp => ?_) (fun e s1 he => he)
  cases f with
  | next => obtain ⟨σ', H', J', q⟩ := hsp; exact wpAny_execs_nil ⟨σ', H', J'.ofTry ok, q⟩
  | brk => obtain ⟨σ', H', J', q⟩ := hsp; exact ⟨σ', H', J'.ofTry ok, q⟩
  | cont => obtain ⟨σ', H', J', q⟩ := hsp; exact ⟨σ', H', J'.ofTry ok, q⟩
  | ret u => obtain ⟨v, σ', H', J', r, q⟩ := hsp; exact ⟨v, σ', H', J'.ofTry ok, r, q⟩
end
/-! over data -/
def dTryK (dn : DS') (r : DRt) (m : Str) (i : Nat) (du : DS') : DS' := fun E ρ O => dn E ρ O ∨
  r (fun m' d ρ' O' => m' = m ∧ ∀ a, O' a = none → du { nx := fun ρ2 O2 => E.nx (ρ2.set i none) O2, rt := E.rt, bk := fun ρ2 O2 => E.bk (ρ2.set i none) O2, ct := fun ρ2 O2 => E.ct (ρ2.set i none) O2 } (ρ'.set i (some (.ref a))) (O'.set a (.exc a m d))) ρ O
theorem ds_tryK {X : Cx} {body : List Stmt} {dr : DRt} {pos : Pos} {C C0 : Addr} {n m x : Str} {i : Nat} {b₀ : Stmt} {suite : List Stmt} {np pos' : Pos} {dn : DS'} {du : DS'} (hc : XCat X.K X.mg n C [m]) (h0 : ClsAt X.K m C0) (hN : X.N.Nodup) (hi : X.N[i]? = some x) (hln : X.env.kindOf x = some .local) (hb : DSs X body dn)
    (hr : ∀ (pn : List (Addr × Obj)) (xe : Value → Shared → Prop), PassesOwn (model X.prog X.w) X.A X.env xe → DRSs (X.tr pn xe) body dr)
    (hu : ∀ (a : Addr) (pn : List (Addr × Obj)), DSs (X.suite a pn) (b₀ :: suite) du)
    (hn : ∀ e s, ¬ X.xe e s := by exact fun _ _ z => z) (hs : X.stack = X.env :: X.outer := by rfl) (hf : X.env.frame = some X.env.locals := by rfl) (hg : Gl X n := by rfl) (hdb : (n == ("__debug__" : Str)) = false := by decide) :
    DS X (.Try body [.ExceptHandler (some (.Name n np)) (some x) (b₀ :: suite) pos'] [] [] pos) (dTryK dn dr m i du) := by
  obtain ⟨t, p, f⟩ := hb
  refine ⟨_, ps_or (ps_try_never (u := tNext) hn p pss_nil) (ps_try_keep (i := i) (tb := fun W => tOfR X.K dr W) (c := Value.ref C) (ts := fun a C' d D σ H => C' = C0 ∧ tOfS X.K du D σ H) hs hf hN hi hln hg hdb hc.mg_
    (fun W pn xe tk po => pss_ofR (hr pn xe po) tk) (fun a C' d pn => ⟨fun pins s σ H D I ⟨ec, q⟩ => (pss_ofS (hu a pn)).run pins s σ H D I q⟩)), fun ρ σ w E T hw he lk h => ?_⟩
  refine h.elim (fun h => .inl (f ρ σ w E _ hw he lk h)) (fun h => .inr ⟨_, ρ, w, rfl, hw, he, ⟨fun m' C' d ρ' σ' w' ca hw' fr' he' q => ?_⟩, h⟩)
  obtain ⟨rfl, q⟩ := q
  obtain rfl := ca.inj h0
  refine ⟨hc.ex _ (List.mem_singleton.mpr rfl) C' ca, C', rfl, fun a na => ⟨rfl, ?_⟩⟩
  have lk' := lk.after fr'
  have hg' : RepO X.K w'.G (.exc a m' d) (excO a C' d) := ⟨C', ca, rfl⟩
  have hO := hw'.give (x := excO a C' d) na hg'
  have fO : Fr w' (w'.give a (.exc a m' d) (excO a C' d)) := Fr.give hw' na
  have lk2 := lk'.after fO
  refine ⟨_, _, w'.give a (.exc a m' d) (excO a C' d), rfl, hO, he'.set (.ref a), ?_, q a (hw'.none_of na).2⟩
  exact ⟨fun ρ2 σ2 w2 a1 a2 a3 => lk2.nx _ _ w2 a1 a2 (a3.gone i), lk2.rt, fun ρ2 σ2 w2 a1 a2 a3 => lk2.bk _ _ w2 a1 a2 (a3.gone i), fun ρ2 σ2 w2 a1 a2 a3 => lk2.ct _ _ w2 a1 a2 (a3.gone i)⟩
/-- isinstance of a kept one, of the class m -/
def dIsK (m : Str) (b : Bool) (da : DT) : DT := fun ρ O Q => da ρ O fun x O1 => ∃ a d, x = .ref a ∧ O1 a = some (.exc a m d) ∧ XdTO O1 d ∧ Q (.bl b) O1
section
variable {X : Cx} {e : Expr} {da : DT} {pos p : Pos}
theorem de_isK1 {C : Addr} {m : Str} {c : Expr} {v : V} {u : Value} {b : Bool} (h0 : ClsAt X.K m C) (T : ExcC X.K C) (h : DE X e da) (hc : CArg X c v u) (k : PySem.W.kitOne X.K (.ref C) u = some b)
    (hg : Gl X "isinstance") (hm : X.mg "isinstance" = none) (he : starEach [e, c] X.env = (false, eval e X.env) :: starEach [c] X.env := by rfl) (he2 : starEach [c] X.env = (false, eval c X.env) :: starEach [] X.env := by rfl) (hpl : (backTo pos (starEach [c] X.env)).any (·.1) = false := by rfl) :
    DE X (.Call (.Name "isinstance" p) [e, c] [] pos) (dIsK m b da) := by
  obtain ⟨t, pe, f⟩ := h
  refine ⟨_, pe_callB call_isK hg hm (by decide +kernel) (pa_cons pe (pa_cons hc.1 pa_nil he2) he) (by decide) (by decide) he hpl, fun ρ σ w Q' Q hw he' lk h => ?_⟩
  refine f ρ σ w _ _ hw he' (fun x vx w1 hw1 f1 rx ⟨a, d, ex, ea, xt, h1⟩ => ?_) h
  subst ex
  obtain ⟨_, hh, e1, C', ca, e2⟩ := hw1.own a _ ea
  obtain rfl := ca.inj h0
  subst e2
  rw [rx.ref_of]
  exact ⟨a, C', d, v, b, rfl, e1, T, xt.told hw1, .inl ⟨u, hc.2, k⟩, lk _ _ w1 hw1 f1 (.bl b) h1⟩
theorem de_isKT {C : Addr} {m : Str} {cs : List Expr} {kt : Nat} {tpos : Pos} {vs : List V} {us : List Value} {b : Bool} (h0 : ClsAt X.K m C) (T : ExcC X.K C) (h : DE X e da) (hc : CArgs X cs vs us) (k : PySem.W.kitAny X.K (.ref C) us = some b)
    (hl : vs.length ≤ 1000) (hg : Gl X "isinstance") (hm : X.mg "isinstance" = none) (he : starEach [e, .Tuple cs kt tpos] X.env = (false, eval e X.env) :: starEach [.Tuple cs kt tpos] X.env := by rfl) (he2 : starEach [.Tuple cs kt tpos] X.env = (false, eval (.Tuple cs kt tpos) X.env) :: starEach [] X.env := by rfl) (hpl : (backTo pos (starEach [.Tuple cs kt tpos] X.env)).any (·.1) = false := by rfl) :
    DE X (.Call (.Name "isinstance" p) [e, .Tuple cs kt tpos] [] pos) (dIsK m b da) := by
  obtain ⟨t, pe, f⟩ := h
  obtain ⟨⟨tc, pc, fc⟩, kc⟩ := hc
  refine ⟨_, pe_callB call_isK hg hm (by decide +kernel) (pa_cons pe (pa_cons (pe_tup pc) pa_nil he2) he) (by decide) (by decide) he hpl, fun ρ σ w Q' Q hw he' lk h => ?_⟩
  refine f ρ σ w _ _ hw he' (fun x vx w1 hw1 f1 rx ⟨a, d, ex, ea, xt, h1⟩ => ?_) h
  subst ex
  obtain ⟨_, hh, e1, C', ca, e2⟩ := hw1.own a _ ea
  obtain rfl := ca.inj h0
  subst e2
  rw [rx.ref_of]
  refine fc σ w1.H _ ⟨Nat.le_trans hl line1000, fun q hq => ?_⟩
  obtain ⟨o2, f2⟩ := Own.more (o := .tup vs) hw1 hq
  have xt2 : XdT (upd w1.H q (.tup vs)) d := (xt.told hw1).imp id fun ⟨dd, gs, e1, e2⟩ => ⟨dd, gs, e1, (upd_ne (ne_of_none e2 hq)).trans e2⟩
  exact ⟨a, C', d, .ref q, b, rfl, (upd_ne (ne_of_none e1 hq)).trans e1, T, xt2, .inr ⟨q, vs, us, rfl, upd_same, kc, k⟩, lk _ _ ⟨w1.G, w1.O, upd w1.H q (.tup vs)⟩ o2 (f1.trans f2) (.bl b) h1⟩
end

abbrev sp_law_k01 := spLaw
abbrev ln_law_k01 := lnLaw
def spR_ratio : DLX := fun ds O Ex => ∃ t : Int, ds = [.int t, .int 0] ∧ Ex "NoRatio" none O
theorem lnR_ratio : ∀ ds O Ex, spR_ratio ds O Ex → ds.length = 2 := by rintro ds O Q ⟨a, rfl, _⟩; rfl
def BR_ratio : DRt :=
  (drIf (dTest (dOp dEq (dVar 1) (dC (.int 0)))) (drRaise "NoRatio") drNever)

theorem hbR_ratio : ∀ ds O Ex, spR_ratio ds O Ex → BR_ratio (fun n d _ O' => Ex n d O') (startD 3 ds) O := by
  rintro ds O Ex ⟨t, rfl, q⟩
  unfold BR_ratio drIf
  walk_at "ds"
  exact q
def PairP (d : D) : Prop := ∃ x y : Int, d = .tup [.int x, .int y] ∧ Sz 110 x ∧ Sz 110 y ∧ y ≠ 0
def sp_l_pair : DL := spDraw 6 PairP
def ln_l_pair := @lnDraw 6 PairP
def sp_l_refusal_4c2e : DL := fun ds O Q => ∃ t : Int, ds = [.int t] ∧ ∀ a, O a = none → Q (.ref a) (O.set a (.exc a "NoRatio" none))
theorem ln_l_refusal_4c2e : ∀ ds O Q, sp_l_refusal_4c2e ds O Q → ds.length = 1 := by rintro ds O Q ⟨a, rfl, _⟩; rfl
def sp_l_only : DL := fun ds O Q => ∃ a : Addr, ds = [.ref a] ∧ O a = some (.exc a "NoRatio" none) ∧ Q (.bl true) O
theorem ln_l_only : ∀ ds O Q, sp_l_only ds O Q → ds.length = 1 := by rintro ds O Q ⟨a, rfl, _⟩; rfl
-- startD 4
def B_l_pair_r1 : DS' :=
  (dRet (dTup (dCons (dVar 1) (dCons (dVar 2) dNil))))
def B_l_pair_r2 : DS' :=
  (dThen (dIfS (dTest (dOp dEq (dCall sp_l_take (dCons (dVar 0) (dCons (dC (.int 2)) dNil))) (dC (.int 0)))) (dAsg (dUn dNeg (dVar 2)) (tgN 2)) dNext)
  B_l_pair_r1)
def B_l_pair_r3 : DS' :=
  (dThen (dIfS (dTest (dOp dGt (dVar 3) (dC (.int 1)))) (dAsg (dOp (dAdd mkF) (dC (.int 1)) (dCall sp_l_take (dCons (dVar 0) (dCons (dOp dSub (dOp dPow (dC (.int 10)) (dC (.int 30))) (dC (.int 1))) dNil)))) (tgN 2)) dNext)
  B_l_pair_r2)
def B_l_pair : DS' :=
  (dThen (dAsg (dOp dSub (dCall sp_l_take (dCons (dVar 0) (dCons (dC (.int 41)) dNil))) (dC (.int 20))) (tgN 1))
  (dThen (dAsg (dOp (dAdd mkF) (dC (.int 1)) (dCall sp_l_take (dCons (dVar 0) (dCons (dC (.int 12)) dNil)))) (tgN 2))
  (dThen (dAsg (dCall sp_l_take (dCons (dVar 0) (dCons (dC (.int 4)) dNil))) (tgN 3))
  (dThen (dIfS (dTest (dOp dEq (dVar 3) (dC (.int 2)))) (dAsg (dOp (dAdd mkF) (dOp dSub (dCall sp_l_take (dCons (dVar 0) (dCons (dOp dSub (dOp dMul (dC (.int 2)) (dOp dPow (dC (.int 10)) (dC (.int 30)))) (dC (.int 1))) dNil))) (dOp dPow (dC (.int 10)) (dC (.int 30)))) (dC (.int 1))) (tgN 1)) dNext)
  B_l_pair_r3))))

-- startD 2
def B_l_refusal_4c2e : DS' :=
  (dThen (dTryK (dDrop (dCall sp_ratio (dCons (dVar 0) (dCons (dC (.int 0)) dNil)))) (drCall spR_ratio (dCons (dVar 0) (dCons (dC (.int 0)) dNil))) "NoRatio" 1 (dRet (dVar 1)))
  (dRet (dC .non)))

-- startD 1
def B_l_only : DS' :=
  (dThen (dIfS (dOr (dNot (dTest (dIsK "NoRatio" true (dVar 0)))) (dNot (dTest (dIsK "NoRatio" true (dVar 0))))) (dRet (dC (.bl false))) dNext)
  (dThen (dIfS (dOr (dTest (dIsK "NoRatio" false (dVar 0))) (dOr (dTest (dIsK "NoRatio" false (dVar 0))) (dTest (dIsK "NoRatio" false (dVar 0))))) (dRet (dC (.bl false))) dNext)
  (dRet (dAndV (dNotV (dIsK "NoRatio" false (dVar 0))) (dNotV (dIsK "NoRatio" false (dVar 0)))))))

-- startD 8
def B_law_k01_b1 : DS' :=
  (dIfS (dNot (dTest (dCallZ sp_l_is (dCons (dCallZ sp_ratio (dCons (dVar 6) (dCons (dVar 7) dNil))) (dCons (dVar 6) (dCons (dVar 7) dNil)))))) (dRet (dC (.bl false))) dNext)
def B_law_k01_r2 : DS' :=
  (dIfS (dOr (dNot (dTest (dCallZ sp_l_only (dCons (dCallZ sp_l_refusal_4c2e (dCons (dVar 3) dNil)) dNil)))) (dNot (dTest (dCallZ sp_l_only (dCons (dCallZ sp_l_refusal_4c2e (dCons (dC (.int 0)) dNil)) dNil))))) (dRet (dC (.bl false))) dNext)
def B_law_k01_b3 : DS' :=
  (dThen (dAsg (dCallZ sp_l_pair (dCons (dVar 1) dNil)) (tgT [3, 4]))
  (dThen (dAsg (dOp (dAdd mkF) (dC (.int 2)) (dCallZ sp_l_take (dCons (dVar 1) (dCons (dC (.int 12)) dNil)))) (tgN 5))
  (dThen (dFor (dSeq (dLst mkF (dCons (dTup (dCons (dVar 3) (dCons (dVar 4) dNil))) (dCons (dTup (dCons (dOp dMul (dVar 3) (dVar 5)) (dCons (dOp dMul (dVar 4) (dVar 5)) dNil))) (dCons (dTup (dCons (dC (.int 0)) (dCons (dVar 4) dNil))) dNil))))) (tgT [6, 7])
  B_law_k01_b1 [0, 2, 4, 5, 6, 7])
  B_law_k01_r2)))
def B_law_k01 : DS' :=
  (dThen (dAsg (dCallZ sp_l_bag (dCons (dCallZ sp_l_cell (dCons (dVar 0) (dCons (dC (.int 0)) dNil))) dNil)) (tgN 1))
  (dThen (dFor (dRng1 (dCons (dOp (dAdd mkF) (dC (.int 1)) (dCallZ sp_l_take (dCons (dVar 1) (dCons (dC (.int 16)) dNil)))) dNil)) (tgN 2)
  B_law_k01_b3 [0, 2, 3, 4, 5, 6, 7])
  (dRet (dC (.bl true)))))

theorem hb_l_only : ∀ ds O Q, sp_l_only ds O Q → B_l_only (rtEnds Q) (startD 1 ds) O := by
  rintro ds O Q ⟨a, rfl, ha, q⟩
  have is : ∀ (m : Str) (b : Bool) (R : DQ), m = "NoRatio" → R (.bl b) O → dIsK m b (dVar 0) [some (.ref a)] O R := fun m b R e h => ⟨_, rfl, a, none, rfl, by rw [e]; exact ha, .inl rfl, h⟩
  unfold B_l_only
  walk_at "ds"
  refine is _ _ _ rfl ?_
  walk_at "ds"
  refine is _ _ _ rfl ?_
  walk_at "ds"
  refine is _ _ _ rfl ?_
  walk_at "ds"
  refine is _ _ _ rfl ?_
  walk_at "ds"
  refine is _ _ _ rfl ?_
  walk_at "ds"
  refine is _ _ _ rfl ?_
  walk_at "ds"
  refine is _ _ _ rfl ?_
  walk_at "ds"
  exact rt_here q
theorem hb_l_refusal_4c2e : ∀ ds O Q, sp_l_refusal_4c2e ds O Q → B_l_refusal_4c2e (rtEnds Q) (startD 2 ds) O := by
  rintro ds O Q ⟨t, rfl, q⟩
  unfold B_l_refusal_4c2e dTryK drCall
  walk_at "ds"
  exact .inr ⟨t, rfl, rfl, fun a ha => rt_here (q a ha)⟩
theorem k01_r1 {p : Addr} {x y : Int} {x3 : Option D} {O : Ow} {Q : DQ} (q : Q (.tup [.int x, .int y]) O) : B_l_pair_r1 (rtEnds Q) [some (.ref p), some (.int x), some (.int y), x3] O := by
  unfold B_l_pair_r1
  walk_at "ds"
  exact rt_here q
theorem k01_r2 {p : Addr} {x y a m : Int} {n : Nat} {x3 : Option D} {O : Ow} {Q : DQ} (h : O p = some (bagD a m)) (hb : okB n a m) (hn : n < 900000100) (q : ∀ y' a' m', (y' = y ∨ y' = -y) → okB (n + 1) a' m' → Q (.tup [.int x, .int y']) (O.set p (bagD a' m'))) : B_l_pair_r2 (rtEnds Q) [some (.ref p), some (.int x), some (.int y), x3] O := by
  unfold B_l_pair_r2
  walk_at "ds"
  refine take_ap (k := 2) h hb (by omega) (by decide) (by decide) fun t a1 m1 t0 t1 hb1 => ?_
  walk_at "ds"
  split
  · exact k01_r1 (q _ _ _ (.inr rfl) hb1)
  · exact k01_r1 (q _ _ _ (.inl rfl) hb1)
theorem k01_r3 {p : Addr} {x y a m w : Int} {n : Nat} {O : Ow} {Q : DQ} (h : O p = some (bagD a m)) (hb : okB n a m) (hn : n < 900000050) (hx : Sz 110 x) (hy : 0 < y ∧ y < 13) (q : ∀ y' a' m', y' ≠ 0 → Sz 110 y' → okB (n + 2) a' m' → Q (.tup [.int x, .int y']) (O.set p (bagD a' m'))) : B_l_pair_r3 (rtEnds Q) [some (.ref p), some (.int x), some (.int y), some (.int w)] O := by
  unfold B_l_pair_r3
  walk_at "ds"
  split
  · refine ⟨by decide, ?_⟩
    refine take_ap (k := 10 ^ Int.toNat 30 - 1) h hb (by omega) (by decide) (by decide) fun t a1 m1 t0 t1 hb1 => ?_
    have e30 : (10 : Int) ^ Int.toNat 30 = 1000000000000000000000000000000 := by decide
    rw [e30] at t1
    refine k01_r2 Ow.set_same hb1 (by omega) fun y' a2 m2 hy' hb2 => ?_
    rw [Ow.set_set]
    refine q y' a2 m2 (by omega) ?_ hb2
    exact (Sz.lit (n := 101) (by rcases hy' with rfl | rfl <;> omega)).mono (by decide)
  · refine k01_r2 h hb (by omega) fun y' a2 m2 hy' hb2 => ?_
    exact q y' a2 m2 (by omega) ((Sz.lit (n := 5) (by rcases hy' with rfl | rfl <;> omega)).mono (by decide)) (hb2.mono (by omega))
theorem hb_l_pair : ∀ ds O Q, sp_l_pair ds O Q → B_l_pair (rtEnds Q) (startD 4 ds) O := by
  rintro ds O Q ⟨p, a, m, n, rfl, h, hb, hn, q⟩
  unfold B_l_pair
  walk_at "ds"
  refine take_ap (k := 41) h hb (by omega) (by decide) (by decide) fun t a1 m1 t0 t1 hb1 => ?_
  walk_at "ds"
  refine take_ap (k := 12) Ow.set_same hb1 (by omega) (by decide) (by decide) fun u a2 m2 u0 u1 hb2 => ?_
  walk_at "ds"
  refine take_ap (k := 4) Ow.set_same hb2 (by omega) (by decide) (by decide) fun way a3 m3 w0 w1 hb3 => ?_
  walk_at "ds"
  have fin : ∀ x : Int, Sz 110 x → ∀ (a4 m4 : Int), okB (n + 4) a4 m4 → B_l_pair_r3 (rtEnds Q) [some (.ref p), some (.int x), some (.int (1 + u)), some (.int way)] (O.set p (bagD a4 m4)) := fun x hx a4 m4 hb4 => by
    refine k01_r3 Ow.set_same hb4 (by omega) hx (by omega) fun y a5 m5 hy0 hy hb5 => ?_
    rw [Ow.set_set]
    exact q _ _ _ ⟨x, y, rfl, hx, hy, hy0⟩ hb5
  split
  · have e30 : (10 : Int) ^ Int.toNat 30 = 1000000000000000000000000000000 := by decide
    refine ⟨by decide, by decide, ?_⟩
    refine take_ap (k := 2 * 10 ^ Int.toNat 30 - 1) Ow.set_same hb3 (by omega) (by decide) (by decide) fun v a4 m4 v0 v1 hb4 => ?_
    refine ⟨by decide, ?_⟩
    rw [e30] at v1
    show B_l_pair_r3 _ [_, some (.int (v - 10 ^ Int.toNat 30 + 1)), _, _] _
    rw [e30, Ow.set_set]
    have zv : Sz 102 (v - 1000000000000000000000000000000 + 1) := Sz.lit (by omega)
    exact fin _ (zv.mono (by decide)) _ _ hb4
  · exact fin _ ((Sz.lit (n := 6) (by omega)).mono (by decide)) _ _ (hb3.mono (by omega))
theorem hb_law_k01 : ∀ ds O Q, sp_law_k01 ds O Q → B_law_k01 (rtEnds Q) (startD 8 ds) O := by
  rintro ds O Q ⟨ns, rfl, hl, hz, q⟩
  unfold B_law_k01
  walk_at "ds"
  refine cell_ap hl hz (by decide) (by decide) fun c hc => ?_
  walk_at "ds"
  refine bag_ap hc fun p a m hp hb => ?_
  walk_at "ds"
  refine take_ap (k := 16) Ow.set_same hb (by omega) (by decide) (by decide) fun t a1 m1 t0 t1 hb1 => ?_
  walk_at "ds"
  refine ⟨by omega, by omega, ?_⟩
  refine for_idx (fun k ρ O' => k ≤ 16 ∧ ∃ a' m' : Int, okB (2 + 20 * k) a' m' ∧ O' p = some (bagD a' m') ∧ ρ = [none, some (.ref p), none, none, none, none, none, none]) ?_ ?_ ⟨Nat.zero_le _, a1, m1, hb1, Ow.set_same, rfl⟩
  · rintro k hk ρ O' E' ⟨hk2, a2, m2, hb2, g, rfl⟩ hnx hct hrt hbk
    rw [rangeD_len] at hk
    rw [rangeD_at]
    refine ⟨_, rfl, ?_⟩
    unfold B_law_k01_b3
    walk_at "ds"
    refine draw_any g hb2 (by omega) ?_
    rintro _ a3 m3 O3 ⟨x, y, rfl, hx, hy, hy0⟩ hb3 hO3 _
    walk_at "ds"
    refine take_any (k := 12) hO3 hb3 (by omega) (by decide) (by decide) fun u a4 m4 O4 u0 u1 hb4 hO4 _ => ?_
    have zu : Sz 5 (2 + u) := Sz.lit (by omega)
    walk_at "ds"
    have hf0 : 0 < 2 + u := by omega
    generalize 2 + u = f at *
    have items : [D.tup [.int x, .int y], .tup [.int (x * f), .int (y * f)], .tup [.int 0, .int y]] = [(x, y), (x * f, y * f), ((0 : Int), y)].map fun (z : Int × Int) => D.tup [.int z.1, .int z.2] := rfl
    refine ⟨mok6 (hx.mono (by decide)) (zu.mono (by decide)), mok6 (hy.mono (by decide)) (zu.mono (by decide)), rfl, ?_⟩
    rw [items]
    refine for_all (fun (z : Int × Int) => D.tup [.int z.1, .int z.2]) (by rfl) [(x, y), (x * f, y * f), ((0 : Int), y)] (fun z hz2 E2 hnx2 _ _ => ⟨_, rfl, ?_⟩) ?_
    · obtain ⟨z1, z2⟩ := z
      have hzz : Sz 120 z1 ∧ Sz 120 z2 ∧ z2 ≠ 0 := by
        simp only [List.mem_cons, Prod.mk.injEq, List.not_mem_nil, or_false] at hz2
        rcases hz2 with ⟨rfl, rfl⟩ | ⟨rfl, rfl⟩ | ⟨rfl, rfl⟩
        · exact ⟨hx.mono (by decide), hy.mono (by decide), hy0⟩
        · exact ⟨(hx.mul zu).mono (by decide), (hy.mul zu).mono (by decide), Int.mul_ne_zero hy0 (by omega)⟩
        · exact ⟨by decide, hy.mono (by decide), hy0⟩
      obtain ⟨k1, k2, k3⟩ := hzz
      unfold B_law_k01_b1
      walk_at "ds"
      refine ratio_ap k3 (k1.mono (by decide)) (k2.mono (by decide)) ?_
      walk_at "ds"
      refine is_ap k3 rfl ?_ (k1.mono (by decide)) (k2.mono (by decide)) ?_
      · exact (SzR.divInt k1 k2 k3).mono (by decide)
      walk_at "ds"
      exact hnx2 _ rfl
    · unfold B_law_k01_r2
      walk_at "ds"
      refine ⟨x, rfl, fun b1 hb1' => ?_⟩
      walk_at "ds"
      refine ⟨b1, rfl, Ow.set_same, ?_⟩
      walk_at "ds"
      refine ⟨0, rfl, fun b2 hb2' => ?_⟩
      walk_at "ds"
      refine ⟨b2, rfl, Ow.set_same, ?_⟩
      walk_at "ds"
      have n1 : p ≠ b1 := fun z => by rw [← z, hO4] at hb1'; cases hb1'
      have g1 : (O4.set b1 (.exc b1 "NoRatio" none)) p = some (bagD a4 m4) := by rw [Ow.set_ne n1]; exact hO4
      have n2 : p ≠ b2 := fun z => by rw [← z, g1] at hb2'; cases hb2'
      refine hnx _ _ _ (Ow.le.refl _) trivial ⟨by omega, a4, m4, hb4.mono (by omega), by rw [Ow.set_ne n2]; exact g1, rfl⟩
  · rintro ρ O' ⟨-, a2, m2, hb2, g, rfl⟩
    walk_at "ds"
    exact rt_here (q _)

def topS (i : Nat) : Stmt := PySem.Challenge.pw_surebook_k01_ratios_made.main.body.getD i (.Pass ⟨0, 0, 0, 0⟩)
theorem sc_common : FnScope ["one", "other", "rest"] ["one", "other"] (defScope (topS 9)) := ⟨rfl, rfl, rfl, by decide +kernel, rfl, by decide +kernel, by decide +kernel⟩
theorem sc_ratio : FnScope ["top", "bottom", "most"] ["top", "bottom"] (defScope (topS 10)) := ⟨rfl, rfl, rfl, by decide +kernel, rfl, by decide +kernel, by decide +kernel⟩
theorem sc_l_cell : FnScope ["_law_script", "_law_k", "_law_seed", "_law_some"] ["_law_script", "_law_k"] (defScope (topS 12)) := ⟨rfl, rfl, rfl, by decide +kernel, rfl, by decide +kernel, by decide +kernel⟩
theorem sc_l_whole : FnScope ["_law_found"] ["_law_found"] (defScope (topS 13)) := ⟨rfl, rfl, rfl, by decide +kernel, rfl, by decide +kernel, by decide +kernel⟩
theorem sc_l_most : FnScope ["_law_one", "_law_other", "_law_rest"] ["_law_one", "_law_other"] (defScope (topS 14)) := ⟨rfl, rfl, rfl, by decide +kernel, rfl, by decide +kernel, by decide +kernel⟩
theorem sc_l_is : FnScope ["_law_found", "_law_top", "_law_bottom"] ["_law_found", "_law_top", "_law_bottom"] (defScope (topS 15)) := ⟨rfl, rfl, rfl, by decide +kernel, rfl, by decide +kernel, by decide +kernel⟩
theorem sc_l_bag : FnScope ["_law_cell_here"] ["_law_cell_here"] (defScope (topS 17)) := ⟨rfl, rfl, rfl, by decide +kernel, rfl, by decide +kernel, by decide +kernel⟩
theorem sc_l_take : FnScope ["_law_bag_here", "_law_many", "_law_some"] ["_law_bag_here", "_law_many"] (defScope (topS 18)) := ⟨rfl, rfl, rfl, by decide +kernel, rfl, by decide +kernel, by decide +kernel⟩
theorem sc_l_pair : FnScope ["_law_bag_here", "_law_top", "_law_bottom", "_law_way"] ["_law_bag_here"] (defScope (topS 19)) := ⟨rfl, rfl, rfl, by decide +kernel, rfl, by decide +kernel, by decide +kernel⟩
theorem sc_l_refusal : FnScope ["_law_top", "e"] ["_law_top"] (defScope (topS 20)) := ⟨rfl, rfl, rfl, by decide +kernel, rfl, by decide +kernel, by decide +kernel⟩
theorem sc_l_only : FnScope ["_law_some"] ["_law_some"] (defScope (topS 21)) := ⟨rfl, rfl, rfl, by decide +kernel, rfl, by decide +kernel, by decide +kernel⟩
theorem sc_law : FnScope ["_law_script", "_law_bag_here", "_law_k", "_law_top", "_law_bottom", "_law_more", "_law_one", "_law_other"] ["_law_script"] (defScope (topS 22)) := ⟨rfl, rfl, rfl, by decide +kernel, rfl, by decide +kernel, by decide +kernel⟩
structure Ad where
  x_NoChance : Addr
  x_NoFair : Addr
  x_NoName : Addr
  x_NoRatio : Addr
  x_NoRow : Addr
  x_NoText : Addr
  x_SureError : Addr
  a_common : Addr
  d_common : FuncData
  a_ratio : Addr
  d_ratio : FuncData
  a_l_cell : Addr
  d_l_cell : FuncData
  a_l_whole : Addr
  d_l_whole : FuncData
  a_l_most : Addr
  d_l_most : FuncData
  a_l_is : Addr
  d_l_is : FuncData
  a_l_bag : Addr
  d_l_bag : FuncData
  a_l_take : Addr
  d_l_take : FuncData
  a_l_pair : Addr
  d_l_pair : FuncData
  a_l_refusal : Addr
  d_l_refusal : FuncData
  a_l_only : Addr
  d_l_only : FuncData
  a_law : Addr
  d_law : FuncData
structure Tx (K : PySem.W.Frag) (mg : Str → Option Value) (A : Ad) : Prop where
  h_NoChance : mg "NoChance" = some (.ref A.x_NoChance)
  h_NoFair : mg "NoFair" = some (.ref A.x_NoFair)
  h_NoName : mg "NoName" = some (.ref A.x_NoName)
  h_NoRatio : mg "NoRatio" = some (.ref A.x_NoRatio)
  h_NoRow : mg "NoRow" = some (.ref A.x_NoRow)
  h_NoText : mg "NoText" = some (.ref A.x_NoText)
  h_SureError : mg "SureError" = some (.ref A.x_SureError)
  x_SureError : XCat K mg "SureError" A.x_SureError ["NoRatio"]
  l_NoRatio : ClsAt K "NoRatio" A.x_NoRatio
  ec_NoRatio : ExcC K A.x_NoRatio
  ss_NoRatio : PySem.W.subIn K (.ref A.x_NoRatio) (.ref A.x_NoRatio) = some true
  ci_NoChance : PySem.W.isClsIn K A.x_NoChance = true
  ct_NoChance : PySem.W.typeIn K (.ref A.x_NoChance) = some (.type "type")
  ci_NoFair : PySem.W.isClsIn K A.x_NoFair = true
  ct_NoFair : PySem.W.typeIn K (.ref A.x_NoFair) = some (.type "type")
  ci_NoName : PySem.W.isClsIn K A.x_NoName = true
  ct_NoName : PySem.W.typeIn K (.ref A.x_NoName) = some (.type "type")
  ci_NoRatio : PySem.W.isClsIn K A.x_NoRatio = true
  ct_NoRatio : PySem.W.typeIn K (.ref A.x_NoRatio) = some (.type "type")
  ci_NoRow : PySem.W.isClsIn K A.x_NoRow = true
  ct_NoRow : PySem.W.typeIn K (.ref A.x_NoRow) = some (.type "type")
  ci_NoText : PySem.W.isClsIn K A.x_NoText = true
  ct_NoText : PySem.W.typeIn K (.ref A.x_NoText) = some (.type "type")
  su_NoRatio_NoChance : PySem.W.subIn K (.ref A.x_NoRatio) (.ref A.x_NoChance) = some false
  su_NoRatio_NoFair : PySem.W.subIn K (.ref A.x_NoRatio) (.ref A.x_NoFair) = some false
  su_NoRatio_NoName : PySem.W.subIn K (.ref A.x_NoRatio) (.ref A.x_NoName) = some false
  su_NoRatio_NoRatio : PySem.W.subIn K (.ref A.x_NoRatio) (.ref A.x_NoRatio) = some true
  su_NoRatio_NoRow : PySem.W.subIn K (.ref A.x_NoRatio) (.ref A.x_NoRow) = some false
  su_NoRatio_NoText : PySem.W.subIn K (.ref A.x_NoRatio) (.ref A.x_NoText) = some false
  sb_NoRatio_ValueError : PySem.W.subIn K (.ref A.x_NoRatio) (.type "ValueError") = some true
  o_NoRatio : XOwn K "NoRatio" A.x_NoRatio
  F_common : Fun K "common" "common" (topS 9) A.a_common A.d_common
  b_common : Binds K A.d_common ["one", "other"] []
  g_common : mg "common" = some (.ref A.a_common)
  F_ratio : Fun K "ratio" "ratio" (topS 10) A.a_ratio A.d_ratio
  b_ratio : Binds K A.d_ratio ["top", "bottom"] []
  g_ratio : mg "ratio" = some (.ref A.a_ratio)
  F_l_cell : Fun K "_law_cell" "_law_cell" (topS 12) A.a_l_cell A.d_l_cell
  b_l_cell : Binds K A.d_l_cell ["_law_script", "_law_k"] []
  g_l_cell : mg "_law_cell" = some (.ref A.a_l_cell)
  F_l_whole : Fun K "_law_whole" "_law_whole" (topS 13) A.a_l_whole A.d_l_whole
  b_l_whole : Binds K A.d_l_whole ["_law_found"] []
  g_l_whole : mg "_law_whole" = some (.ref A.a_l_whole)
  F_l_most : Fun K "_law_most" "_law_most" (topS 14) A.a_l_most A.d_l_most
  b_l_most : Binds K A.d_l_most ["_law_one", "_law_other"] []
  g_l_most : mg "_law_most" = some (.ref A.a_l_most)
  F_l_is : Fun K "_law_is" "_law_is" (topS 15) A.a_l_is A.d_l_is
  b_l_is : Binds K A.d_l_is ["_law_found", "_law_top", "_law_bottom"] []
  g_l_is : mg "_law_is" = some (.ref A.a_l_is)
  F_l_bag : Fun K "_law_bag" "_law_bag" (topS 17) A.a_l_bag A.d_l_bag
  b_l_bag : Binds K A.d_l_bag ["_law_cell_here"] []
  g_l_bag : mg "_law_bag" = some (.ref A.a_l_bag)
  F_l_take : Fun K "_law_take" "_law_take" (topS 18) A.a_l_take A.d_l_take
  b_l_take : Binds K A.d_l_take ["_law_bag_here", "_law_many"] []
  g_l_take : mg "_law_take" = some (.ref A.a_l_take)
  F_l_pair : Fun K "_law_pair" "_law_pair" (topS 19) A.a_l_pair A.d_l_pair
  b_l_pair : Binds K A.d_l_pair ["_law_bag_here"] []
  g_l_pair : mg "_law_pair" = some (.ref A.a_l_pair)
  F_l_refusal : Fun K "_law_refusal" "_law_refusal" (topS 20) A.a_l_refusal A.d_l_refusal
  b_l_refusal : Binds K A.d_l_refusal ["_law_top"] []
  g_l_refusal : mg "_law_refusal" = some (.ref A.a_l_refusal)
  F_l_only : Fun K "_law_only" "_law_only" (topS 21) A.a_l_only A.d_l_only
  b_l_only : Binds K A.d_l_only ["_law_some"] []
  g_l_only : mg "_law_only" = some (.ref A.a_l_only)
  F_law : Fun K "law" "law" (topS 22) A.a_law A.d_law
  b_law : Binds K A.d_law ["_law_script"] []
  g_law : mg "law" = some (.ref A.a_law)
  m_ValueError : mg "ValueError" = none
  m_abs : mg "abs" = none
  m_bool : mg "bool" = none
  m_int : mg "int" = none
  m_isinstance : mg "isinstance" = none
  m_len : mg "len" = none
  m_range : mg "range" = none
  m_tuple : mg "tuple" = none
section
variable {P : Program} {w : World} {K : PySem.W.Frag} {mg : Str → Option Value} {base : Heap} {A : Ad}
theorem Tx.ok_common (T : Tx K mg A) : FnB P w K mg base true 1 A.a_common A.d_common ["one", "other"] (Prom K sp_common) := by
  refine fn_ok (k := 0) T.F_common sc_common ln_common (fun cdv A' outer s' H E c pn hc hr => ⟨B_common, ?_, hb_common⟩)
  exact (dss_cons (ds_while [2] PassesOwn.never (db_cmp op_gt o_gt (de_var 1) de_int (nomark _))
  (dss_cons (ds_set (i := 2) sc_common.nd rfl (by first | exact .inl rfl | exact .inr rfl) (de_op op_modN o_mod (de_var 0) (de_var 1)))
  (dss_cons (ds_set (i := 0) sc_common.nd rfl (by first | exact .inl rfl | exact .inr rfl) (de_var 1))
  (dss_one (ds_set (i := 1) sc_common.nd rfl (by first | exact .inl rfl | exact .inr rfl) (de_var 2))))))
  (dss_one (ds_ret (de_var 0))))
theorem Tx.okR_ratio (T : Tx K mg A) : FnOk P w K mg base (L2N.CX P w) 2 A.a_ratio A.d_ratio ["top", "bottom"] (PromR K spR_ratio) := by
  refine fnR_ok (k := 1) T.F_ratio sc_ratio lnR_ratio (fun cdv A' outer s' H E hr po => ⟨BR_ratio, ?_, hbR_ratio⟩)
  exact (drs_here (drs_if (db_cmp (op_eqD hr.units) o_eq (de_var 1) de_int (nomark _)) (drs_here (drs_raise T.o_NoRatio rfl (by rfl) T.h_NoRatio)) drss_never))
theorem Tx.ok_ratio (T : Tx K mg A) : FnB P w K mg base true 2 A.a_ratio A.d_ratio ["top", "bottom"] (Prom K sp_ratio) := by
  refine fn_ok (k := 1) T.F_ratio sc_ratio ln_ratio (fun cdv A' outer s' H E c pn hc hr => ⟨B_ratio, ?_, hb_ratio⟩)
  exact (dss_cons (ds_if (db_cmp (op_eqD hr.units) o_eq (de_var 1) de_int (nomark _)) (dss_one ds_never) dss_nil)
  (dss_cons (ds_set (i := 2) sc_ratio.nd rfl (by first | exact .inl rfl | exact .inr rfl) (de_call T.ok_common (hr.mono (by decide)) (by rfl) T.g_common T.F_common.kp T.b_common (da_cons (de_callB call_abs o_abs (by rfl) T.m_abs (by decide +kernel) (da_cons (de_var 0) da_nil)) (da_cons (de_callB call_abs o_abs (by rfl) T.m_abs (by decide +kernel) (da_cons (de_var 1) da_nil)) da_nil))))
  (dss_cons (ds_if (db_cmp op_lt o_lt (de_var 1) de_int (nomark _)) (dss_one (ds_set (i := 2) sc_ratio.nd rfl (by first | exact .inl rfl | exact .inr rfl) (de_un un_neg o_neg (de_var 2)))) dss_nil)
  (dss_one (ds_ret (de_tup (da_cons (de_op op_fdivX o_fdiv (de_var 0) (de_var 2)) (da_cons (de_op op_fdivX o_fdiv (de_var 1) (de_var 2)) da_nil))))))))
theorem Tx.ok_l_cell (T : Tx K mg A) : FnB P w K mg base true 1 A.a_l_cell A.d_l_cell ["_law_script", "_law_k"] (Prom K sp_l_cell) := by
  refine fn_ok (k := 0) T.F_l_cell sc_l_cell ln_l_cell (fun cdv A' outer s' H E c pn hc hr => ⟨B_l_cell, ?_, hb_l_cell⟩)
  exact (dss_cons (ds_if (db_cmp op_lt o_lt (de_var 1) (de_callB call_lenA o_len (by rfl) T.m_len (by decide +kernel) (da_cons (de_var 0) da_nil)) (nomark _)) (dss_one (ds_ret (de_ix (de_var 0) (de_var 1) (fun _ _ => rfl)))) dss_nil)
  (dss_cons (ds_set (i := 2) sc_l_cell.nd rfl (by first | exact .inl rfl | exact .inr rfl) (de_op op_mulX o_mul (de_var 1) de_int))
  (dss_cons (ds_if (db_cmp op_gt o_gt (de_callB call_lenA o_len (by rfl) T.m_len (by decide +kernel) (da_cons (de_var 0) da_nil)) de_int (nomark _)) (dss_one (ds_set (i := 2) sc_l_cell.nd rfl (by first | exact .inl rfl | exact .inr rfl) (de_op op_addA (o_add mk_F) (de_var 2) (de_op op_modN o_mod (de_ix (de_var 0) (de_op op_modN o_mod (de_var 1) (de_callB call_lenA o_len (by rfl) T.m_len (by decide +kernel) (da_cons (de_var 0) da_nil))) (fun _ _ => rfl)) de_int)))) dss_nil)
  (dss_cons (ds_set (i := 3) sc_l_cell.nd rfl (by first | exact .inl rfl | exact .inr rfl) (de_op op_modN o_mod (de_op op_mulX o_mul (de_var 2) de_int) de_int))
  (dss_one (ds_ret (de_op op_modN o_mod (de_op op_fdivX o_fdiv (de_op op_mulX o_mul (de_var 3) (de_op op_addA (o_add mk_F) (de_op op_addA (o_add mk_F) (de_var 3) (de_op op_mulX o_mul de_int (de_var 1))) de_int)) de_int) de_int)))))))
theorem Tx.ok_l_whole (T : Tx K mg A) : FnB P w K mg base true 1 A.a_l_whole A.d_l_whole ["_law_found"] (Prom K sp_l_whole) := by
  refine fn_ok (k := 0) T.F_l_whole sc_l_whole ln_l_whole (fun cdv A' outer s' H E c pn hc hr => ⟨B_l_whole, ?_, hb_l_whole⟩)
  exact (dss_one (ds_ret (de_and (de_callB call_isi o_isi (by rfl) T.m_isinstance (by decide +kernel) (da_cons (de_var 0) (da_cons (de_bty (by rfl) T.m_int (by decide +kernel)) da_nil))) (de_one (de_not (de_callB call_isi o_isi (by rfl) T.m_isinstance (by decide +kernel) (da_cons (de_var 0) (da_cons (de_bty (by rfl) T.m_bool (by decide +kernel)) da_nil))))))))
theorem Tx.ok_l_most (T : Tx K mg A) : FnB P w K mg base true 1 A.a_l_most A.d_l_most ["_law_one", "_law_other"] (Prom K sp_l_most) := by
  refine fn_ok (k := 0) T.F_l_most sc_l_most ln_l_most (fun cdv A' outer s' H E c pn hc hr => ⟨B_l_most, ?_, hb_l_most⟩)
  exact (dss_cons (ds_while [2] PassesOwn.never (db_cmp op_gt o_gt (de_var 1) de_int (nomark _))
  (dss_cons (ds_set (i := 2) sc_l_most.nd rfl (by first | exact .inl rfl | exact .inr rfl) (de_op op_modN o_mod (de_var 0) (de_var 1)))
  (dss_cons (ds_set (i := 0) sc_l_most.nd rfl (by first | exact .inl rfl | exact .inr rfl) (de_var 1))
  (dss_one (ds_set (i := 1) sc_l_most.nd rfl (by first | exact .inl rfl | exact .inr rfl) (de_var 2))))))
  (dss_one (ds_ret (de_var 0))))
theorem Tx.ok_l_is (T : Tx K mg A) : FnB P w K mg base true 2 A.a_l_is A.d_l_is ["_law_found", "_law_top", "_law_bottom"] (Prom K sp_l_is) := by
  refine fn_ok (k := 1) T.F_l_is sc_l_is ln_l_is (fun cdv A' outer s' H E c pn hc hr => ⟨B_l_is, ?_, hb_l_is⟩)
  exact (dss_cons (ds_if (db_w (dw_or (db_not (db_val (de_callB call_isi o_isi (by rfl) T.m_isinstance (by decide +kernel) (da_cons (de_var 0) (da_cons (de_bty (by rfl) T.m_tuple (by decide +kernel)) da_nil))))) (dw_or1 (db_cmp (op_neD hr.units) o_ne (de_callB call_lenA o_len (by rfl) T.m_len (by decide +kernel) (da_cons (de_var 0) da_nil)) de_int (nomark _))))) (dss_one (ds_ret de_bl)) dss_nil)
  (dss_cons (ds_if (db_w (dw_or (db_not (db_val (de_call T.ok_l_whole (hr.mono (by decide)) (by rfl) T.g_l_whole T.F_l_whole.kp T.b_l_whole (da_cons (de_ix (de_var 0) de_int (fun _ _ => rfl)) da_nil)))) (dw_or (db_not (db_val (de_call T.ok_l_whole (hr.mono (by decide)) (by rfl) T.g_l_whole T.F_l_whole.kp T.b_l_whole (da_cons (de_ix (de_var 0) de_int (fun _ _ => rfl)) da_nil)))) (dw_or1 (db_cmp op_lt o_lt (de_ix (de_var 0) de_int (fun _ _ => rfl)) de_int (nomark _)))))) (dss_one (ds_ret de_bl)) dss_nil)
  (dss_one (ds_ret (de_and (de_cmp (op_eqD hr.units) o_eq (de_op op_mulX o_mul (de_ix (de_var 0) de_int (fun _ _ => rfl)) (de_var 2)) (de_op op_mulX o_mul (de_var 1) (de_ix (de_var 0) de_int (fun _ _ => rfl))) (nomark _)) (de_one (de_cmp (op_eqD hr.units) o_eq (de_call T.ok_l_most (hr.mono (by decide)) (by rfl) T.g_l_most T.F_l_most.kp T.b_l_most (da_cons (de_callB call_abs o_abs (by rfl) T.m_abs (by decide +kernel) (da_cons (de_ix (de_var 0) de_int (fun _ _ => rfl)) da_nil)) (da_cons (de_ix (de_var 0) de_int (fun _ _ => rfl)) da_nil))) de_int (nomark _))))))))
theorem Tx.ok_l_bag (T : Tx K mg A) : FnB P w K mg base true 1 A.a_l_bag A.d_l_bag ["_law_cell_here"] (Prom K sp_l_bag) := by
  refine fn_ok (k := 0) T.F_l_bag sc_l_bag ln_l_bag (fun cdv A' outer s' H E c pn hc hr => ⟨B_l_bag, ?_, hb_l_bag⟩)
  exact (dss_cons (ds_if (db_w (dw_and (db_cmp (op_eqD hr.units) o_eq (de_op op_modN o_mod (de_var 0) de_int) de_int (nomark _)) (dw_and1 (db_w (dw_or (db_cmp op_lt o_lt (de_var 0) (de_un un_neg o_neg de_int) (nomark _)) (dw_or1 (db_cmp op_lt o_lt de_int (de_var 0) (nomark _)))))))) (dss_one (ds_ret (de_lst mk_O (da_cons (de_op op_fdivX o_fdiv (de_var 0) de_int) (da_cons de_int da_nil))))) dss_nil)
  (dss_one (ds_ret (de_lst mk_O (da_cons (de_op op_fdivX o_fdiv (de_var 0) de_int) (da_cons de_int da_nil))))))
theorem Tx.ok_l_take (T : Tx K mg A) : FnB P w K mg base true 1 A.a_l_take A.d_l_take ["_law_bag_here", "_law_many"] (Prom K sp_l_take) := by
  refine fn_ok (k := 0) T.F_l_take sc_l_take ln_l_take (fun cdv A' outer s' H E c pn hc hr => ⟨B_l_take, ?_, hb_l_take⟩)
  exact (dss_cons (ds_if (db_cmp (op_eqD hr.units) o_eq (de_ix (de_var 0) de_int (fun _ _ => rfl)) de_int (nomark _)) (dss_cons (ds_set (i := 2) sc_l_take.nd rfl (by first | exact .inl rfl | exact .inr rfl) (de_op op_modN o_mod (de_ix (de_var 0) de_int (fun _ _ => rfl)) (de_var 1)))
  (dss_cons (ds_setI (de_op op_fdivX o_fdiv (de_ix (de_var 0) de_int (fun _ _ => rfl)) (de_var 1)) (de_var 0) de_int)
  (dss_one (ds_ret (de_var 2))))) dss_nil)
  (dss_cons (ds_setI (de_op op_modN o_mod (de_op op_addA (o_add mk_F) (de_op op_addA (o_add mk_F) (de_op op_mulX o_mul (de_ix (de_var 0) de_int (fun _ _ => rfl)) de_int) (de_op op_mulX o_mul (de_op op_mulX o_mul de_int (de_ix (de_var 0) de_int (fun _ _ => rfl))) (de_ix (de_var 0) de_int (fun _ _ => rfl)))) de_int) de_int) (de_var 0) de_int)
  (dss_cons (ds_setI (de_op op_addA (o_add mk_F) (de_ix (de_var 0) de_int (fun _ _ => rfl)) de_int) (de_var 0) de_int)
  (dss_one (ds_ret (de_op op_modN o_mod (de_op op_modN o_mod (de_op op_mulX o_mul (de_ix (de_var 0) de_int (fun _ _ => rfl)) de_int) de_int) (de_var 1)))))))
theorem Tx.ok_l_pair (T : Tx K mg A) : FnB P w K mg base true 2 A.a_l_pair A.d_l_pair ["_law_bag_here"] (Prom K sp_l_pair) := by
  refine fn_ok (k := 1) T.F_l_pair sc_l_pair ln_l_pair (fun cdv A' outer s' H E c pn hc hr => ⟨B_l_pair, ?_, hb_l_pair⟩)
  exact (dss_cons (ds_set (i := 1) sc_l_pair.nd rfl (by first | exact .inl rfl | exact .inr rfl) (de_op op_sub o_sub (de_call T.ok_l_take (hr.mono (by decide)) (by rfl) T.g_l_take T.F_l_take.kp T.b_l_take (da_cons (de_var 0) (da_cons de_int da_nil))) de_int))
  (dss_cons (ds_set (i := 2) sc_l_pair.nd rfl (by first | exact .inl rfl | exact .inr rfl) (de_op op_addA (o_add mk_F) de_int (de_call T.ok_l_take (hr.mono (by decide)) (by rfl) T.g_l_take T.F_l_take.kp T.b_l_take (da_cons (de_var 0) (da_cons de_int da_nil)))))
  (dss_cons (ds_set (i := 3) sc_l_pair.nd rfl (by first | exact .inl rfl | exact .inr rfl) (de_call T.ok_l_take (hr.mono (by decide)) (by rfl) T.g_l_take T.F_l_take.kp T.b_l_take (da_cons (de_var 0) (da_cons de_int da_nil))))
  (dss_cons (ds_if (db_cmp (op_eqD hr.units) o_eq (de_var 3) de_int (nomark _)) (dss_one (ds_set (i := 1) sc_l_pair.nd rfl (by first | exact .inl rfl | exact .inr rfl) (de_op op_addA (o_add mk_F) (de_op op_sub o_sub (de_call T.ok_l_take (hr.mono (by decide)) (by rfl) T.g_l_take T.F_l_take.kp T.b_l_take (da_cons (de_var 0) (da_cons (de_op op_sub o_sub (de_op op_mulX o_mul de_int (de_op op_pow o_pow de_int de_int)) de_int) da_nil))) (de_op op_pow o_pow de_int de_int)) de_int))) dss_nil)
  (dss_cons (ds_if (db_cmp op_gt o_gt (de_var 3) de_int (nomark _)) (dss_one (ds_set (i := 2) sc_l_pair.nd rfl (by first | exact .inl rfl | exact .inr rfl) (de_op op_addA (o_add mk_F) de_int (de_call T.ok_l_take (hr.mono (by decide)) (by rfl) T.g_l_take T.F_l_take.kp T.b_l_take (da_cons (de_var 0) (da_cons (de_op op_sub o_sub (de_op op_pow o_pow de_int de_int) de_int) da_nil)))))) dss_nil)
  (dss_cons (ds_if (db_cmp (op_eqD hr.units) o_eq (de_call T.ok_l_take (hr.mono (by decide)) (by rfl) T.g_l_take T.F_l_take.kp T.b_l_take (da_cons (de_var 0) (da_cons de_int da_nil))) de_int (nomark _)) (dss_one (ds_set (i := 2) sc_l_pair.nd rfl (by first | exact .inl rfl | exact .inr rfl) (de_un un_neg o_neg (de_var 2)))) dss_nil)
  (dss_one (ds_ret (de_tup (da_cons (de_var 1) (da_cons (de_var 2) da_nil)))))))))))
theorem Tx.ok_l_refusal (T : Tx K mg A) : FnB P w K mg base false 3 A.a_l_refusal A.d_l_refusal ["_law_top"] (Prom K sp_l_refusal_4c2e) := by
  refine fn_ok (k := 2) T.F_l_refusal sc_l_refusal ln_l_refusal_4c2e (fun cdv A' outer s' H E c pn hc hr => ⟨B_l_refusal_4c2e, ?_, hb_l_refusal_4c2e⟩)
  obtain rfl := cold_of hc
  exact (dss_cons (ds_tryK (i := 1) T.x_SureError T.l_NoRatio sc_l_refusal.nd rfl rfl (dss_one (ds_expr (de_call T.ok_ratio (hr.mono (by decide)) (by rfl) T.g_ratio T.F_ratio.kp T.b_ratio (da_cons (de_var 0) (da_cons de_int da_nil))))) (fun pn xe po => (drs_here (drs_expr (dre_call T.okR_ratio ((up_tr rfl _ hr).mono (by decide)) rfl (by rfl) T.g_ratio T.F_ratio.kp T.b_ratio (da_cons (de_var 0) (da_cons de_int da_nil)))))) (fun a pn => (dss_one (ds_ret (de_var 1)))))
  (dss_one (ds_ret de_non)))
theorem Tx.ok_l_only (T : Tx K mg A) : FnB P w K mg base true 1 A.a_l_only A.d_l_only ["_law_some"] (Prom K sp_l_only) := by
  refine fn_ok (k := 0) T.F_l_only sc_l_only ln_l_only (fun cdv A' outer s' H E c pn hc hr => ⟨B_l_only, ?_, hb_l_only⟩)
  exact (dss_cons (ds_if (db_w (dw_or (db_not (db_val (de_isK1 T.l_NoRatio T.ec_NoRatio (de_var 0) (ca_own (by rfl) T.h_NoRatio) (kit_sub T.ci_NoRatio T.ct_NoRatio T.ss_NoRatio T.su_NoRatio_NoRatio) (by rfl) T.m_isinstance))) (dw_or1 (db_not (db_val (de_isK1 T.l_NoRatio T.ec_NoRatio (de_var 0) (ca_ty (by rfl) T.m_ValueError (by decide +kernel)) (kit_bi (by decide +kernel) T.sb_NoRatio_ValueError) (by rfl) T.m_isinstance)))))) (dss_one (ds_ret de_bl)) dss_nil)
  (dss_cons (ds_if (db_w (dw_or (db_val (de_isK1 T.l_NoRatio T.ec_NoRatio (de_var 0) (ca_own (by rfl) T.h_NoFair) (kit_sub T.ci_NoFair T.ct_NoFair T.ss_NoRatio T.su_NoRatio_NoFair) (by rfl) T.m_isinstance)) (dw_or (db_val (de_isK1 T.l_NoRatio T.ec_NoRatio (de_var 0) (ca_own (by rfl) T.h_NoChance) (kit_sub T.ci_NoChance T.ct_NoChance T.ss_NoRatio T.su_NoRatio_NoChance) (by rfl) T.m_isinstance)) (dw_or1 (db_val (de_isK1 T.l_NoRatio T.ec_NoRatio (de_var 0) (ca_own (by rfl) T.h_NoText) (kit_sub T.ci_NoText T.ct_NoText T.ss_NoRatio T.su_NoRatio_NoText) (by rfl) T.m_isinstance)))))) (dss_one (ds_ret de_bl)) dss_nil)
  (dss_one (ds_ret (de_and (de_not (de_isK1 T.l_NoRatio T.ec_NoRatio (de_var 0) (ca_own (by rfl) T.h_NoRow) (kit_sub T.ci_NoRow T.ct_NoRow T.ss_NoRatio T.su_NoRatio_NoRow) (by rfl) T.m_isinstance)) (de_one (de_not (de_isK1 T.l_NoRatio T.ec_NoRatio (de_var 0) (ca_own (by rfl) T.h_NoName) (kit_sub T.ci_NoName T.ct_NoName T.ss_NoRatio T.su_NoRatio_NoName) (by rfl) T.m_isinstance))))))))
theorem Tx.ok_law (T : Tx K mg A) : FnB P w K mg base false 4 A.a_law A.d_law ["_law_script"] (Prom K sp_law_k01) := by
  refine fn_ok (k := 3) T.F_law sc_law ln_law_k01 (fun cdv A' outer s' H E c pn hc hr => ⟨B_law_k01, ?_, hb_law_k01⟩)
  obtain rfl := cold_of hc
  exact (dss_cons (ds_set (i := 1) sc_law.nd rfl (by first | exact .inl rfl | exact .inr rfl) (de_call T.ok_l_bag (hr.mono (by decide)) (by rfl) T.g_l_bag T.F_l_bag.kp T.b_l_bag (da_cons (de_call T.ok_l_cell (hr.mono (by decide)) (by rfl) T.g_l_cell T.F_l_cell.kp T.b_l_cell (da_cons (de_var 0) (da_cons de_int da_nil))) da_nil)))
  (dss_cons (ds_for [0, 2, 3, 4, 5, 6, 7] PassesOwn.never hr.rdy (di_range1 (by rfl) T.m_range (da_cons (de_op op_addA (o_add mk_F) de_int (de_call T.ok_l_take (hr.mono (by decide)) (by rfl) T.g_l_take T.F_l_take.kp T.b_l_take (da_cons (de_var 1) (da_cons de_int da_nil)))) da_nil)) (dg_name (i := 2) sc_law.nd rfl (by first | exact .inl rfl | exact .inr rfl))
  (dss_cons (ds_asg (de_call T.ok_l_pair (hr.mono (by decide)) (by rfl) T.g_l_pair T.F_l_pair.kp T.b_l_pair (da_cons (de_var 1) da_nil)) (dg_tup hr.rdy (dgs_cons (dg_name (i := 3) sc_law.nd rfl (by first | exact .inl rfl | exact .inr rfl)) (dgs_cons (dg_name (i := 4) sc_law.nd rfl (by first | exact .inl rfl | exact .inr rfl)) dgs_nil))))
  (dss_cons (ds_set (i := 5) sc_law.nd rfl (by first | exact .inl rfl | exact .inr rfl) (de_op op_addA (o_add mk_F) de_int (de_call T.ok_l_take (hr.mono (by decide)) (by rfl) T.g_l_take T.F_l_take.kp T.b_l_take (da_cons (de_var 1) (da_cons de_int da_nil)))))
  (dss_cons (ds_for [0, 2, 4, 5, 6, 7] PassesOwn.never hr.rdy (di_seq (de_lst mk_F (da_cons (de_tup (da_cons (de_var 3) (da_cons (de_var 4) da_nil))) (da_cons (de_tup (da_cons (de_op op_mulX o_mul (de_var 3) (de_var 5)) (da_cons (de_op op_mulX o_mul (de_var 4) (de_var 5)) da_nil))) (da_cons (de_tup (da_cons de_int (da_cons (de_var 4) da_nil))) da_nil))))) (dg_tup hr.rdy (dgs_cons (dg_name (i := 6) sc_law.nd rfl (by first | exact .inl rfl | exact .inr rfl)) (dgs_cons (dg_name (i := 7) sc_law.nd rfl (by first | exact .inl rfl | exact .inr rfl)) dgs_nil)))
  (dss_one (ds_if (db_not (db_val (de_call T.ok_l_is (hr.mono (by decide)) (by rfl) T.g_l_is T.F_l_is.kp T.b_l_is (da_cons (de_call T.ok_ratio (hr.mono (by decide)) (by rfl) T.g_ratio T.F_ratio.kp T.b_ratio (da_cons (de_var 6) (da_cons (de_var 7) da_nil))) (da_cons (de_var 6) (da_cons (de_var 7) da_nil)))))) (dss_one (ds_ret de_bl)) dss_nil)))
  (dss_one (ds_if (db_w (dw_or (db_not (db_val (de_call T.ok_l_only (hr.mono (by decide)) (by rfl) T.g_l_only T.F_l_only.kp T.b_l_only (da_cons (de_call T.ok_l_refusal (hr.mono (by decide)) (by rfl) T.g_l_refusal T.F_l_refusal.kp T.b_l_refusal (da_cons (de_var 3) da_nil)) da_nil)))) (dw_or1 (db_not (db_val (de_call T.ok_l_only (hr.mono (by decide)) (by rfl) T.g_l_only T.F_l_only.kp T.b_l_only (da_cons (de_call T.ok_l_refusal (hr.mono (by decide)) (by rfl) T.g_l_refusal T.F_l_refusal.kp T.b_l_refusal (da_cons de_int da_nil)) da_nil))))))) (dss_one (ds_ret de_bl)) dss_nil))))))
  (dss_one (ds_ret de_bl))))
end
theorem all_mk {l : PySem.W.OpenLaw} {w : World} {K : PySem.W.Frag} {h : Heap} {mg : Str → Option Value} {fa : Addr} (X : K.In h) (G : h.Ns mainGlobals mg) (hfa : mg "law" = some (.ref fa))
    {X_NoChance : Addr}
    {X_NoFair : Addr}
    {X_NoName : Addr}
    {X_NoRatio : Addr}
    {X_NoRow : Addr}
    {X_NoText : Addr}
    {X_SureError : Addr}
    {f0 : Addr} {od0 an0 : Option Addr} {sl0 : Array (Option Value)} {oc0 kV0 dc0 pm0 cd0 ct0 : Value}
    {f1 : Addr} {od1 an1 : Option Addr} {sl1 : Array (Option Value)} {oc1 kV1 dc1 pm1 cd1 ct1 : Value}
    {f2 : Addr} {od2 an2 : Option Addr} {sl2 : Array (Option Value)} {oc2 kV2 dc2 pm2 cd2 ct2 : Value}
    {f3 : Addr} {od3 an3 : Option Addr} {sl3 : Array (Option Value)} {oc3 kV3 dc3 pm3 cd3 ct3 : Value}
    {f4 : Addr} {od4 an4 : Option Addr} {sl4 : Array (Option Value)} {oc4 kV4 dc4 pm4 cd4 ct4 : Value}
    {f5 : Addr} {od5 an5 : Option Addr} {sl5 : Array (Option Value)} {oc5 kV5 dc5 pm5 cd5 ct5 : Value}
    {f6 : Addr} {od6 an6 : Option Addr} {sl6 : Array (Option Value)} {oc6 kV6 dc6 pm6 cd6 ct6 : Value}
    {f7 : Addr} {od7 an7 : Option Addr} {sl7 : Array (Option Value)} {oc7 kV7 dc7 pm7 cd7 ct7 : Value}
    {f8 : Addr} {od8 an8 : Option Addr} {sl8 : Array (Option Value)} {oc8 kV8 dc8 pm8 cd8 ct8 : Value}
    {f9 : Addr} {od9 an9 : Option Addr} {sl9 : Array (Option Value)} {oc9 kV9 dc9 pm9 cd9 ct9 : Value}
    {f10 : Addr} {od10 an10 : Option Addr} {sl10 : Array (Option Value)} {oc10 kV10 dc10 pm10 cd10 ct10 : Value}
    {f11 : Addr} {od11 an11 : Option Addr} {sl11 : Array (Option Value)} {oc11 kV11 dc11 pm11 cd11 ct11 : Value}
    (aX_NoChance : PySem.W.nsIn K mainGlobals "NoChance" = some (some (.ref X_NoChance)))
    (kX_NoChance : PySem.W.keepIn K (.ref X_NoChance) = true) (bX_NoChance : PySem.W.subIn K (.ref X_NoChance) (.type "BaseException") = some true) (tX_NoChance : PySem.W.typeIn K (.ref X_NoChance) = some (.type "type")) (iX_NoChance : PySem.W.isClsIn K X_NoChance = true)
    (aX_NoFair : PySem.W.nsIn K mainGlobals "NoFair" = some (some (.ref X_NoFair)))
    (kX_NoFair : PySem.W.keepIn K (.ref X_NoFair) = true) (bX_NoFair : PySem.W.subIn K (.ref X_NoFair) (.type "BaseException") = some true) (tX_NoFair : PySem.W.typeIn K (.ref X_NoFair) = some (.type "type")) (iX_NoFair : PySem.W.isClsIn K X_NoFair = true)
    (aX_NoName : PySem.W.nsIn K mainGlobals "NoName" = some (some (.ref X_NoName)))
    (kX_NoName : PySem.W.keepIn K (.ref X_NoName) = true) (bX_NoName : PySem.W.subIn K (.ref X_NoName) (.type "BaseException") = some true) (tX_NoName : PySem.W.typeIn K (.ref X_NoName) = some (.type "type")) (iX_NoName : PySem.W.isClsIn K X_NoName = true)
    (aX_NoRatio : PySem.W.nsIn K mainGlobals "NoRatio" = some (some (.ref X_NoRatio)))
    (kX_NoRatio : PySem.W.keepIn K (.ref X_NoRatio) = true) (bX_NoRatio : PySem.W.subIn K (.ref X_NoRatio) (.type "BaseException") = some true) (tX_NoRatio : PySem.W.typeIn K (.ref X_NoRatio) = some (.type "type")) (iX_NoRatio : PySem.W.isClsIn K X_NoRatio = true)
    (eha_NoRatio : PySem.W.findIn K (.ref X_NoRatio) "__class__" = some (some (.builtin "object.__class__"))) (ehm_NoRatio : PySem.W.mroIn K X_NoRatio (.type "object") = some true)
    (fga_NoRatio : PySem.W.findIn K (.ref X_NoRatio) "__getattribute__" = some (some (.builtin "BaseException.__getattribute__"))) (fgg_NoRatio : PySem.W.findIn K (.ref X_NoRatio) "__getattr__" = some none) (fhd_NoRatio : PySem.W.hasDictIn K X_NoRatio = true)
    (xX_NoRatio : PySem.W.excIn K X_NoRatio [.type "ValueError", .type "Exception", .type "BaseException", .type "object"] "ValueError.__new__" = true)
    (aX_NoRow : PySem.W.nsIn K mainGlobals "NoRow" = some (some (.ref X_NoRow)))
    (kX_NoRow : PySem.W.keepIn K (.ref X_NoRow) = true) (bX_NoRow : PySem.W.subIn K (.ref X_NoRow) (.type "BaseException") = some true) (tX_NoRow : PySem.W.typeIn K (.ref X_NoRow) = some (.type "type")) (iX_NoRow : PySem.W.isClsIn K X_NoRow = true)
    (aX_NoText : PySem.W.nsIn K mainGlobals "NoText" = some (some (.ref X_NoText)))
    (kX_NoText : PySem.W.keepIn K (.ref X_NoText) = true) (bX_NoText : PySem.W.subIn K (.ref X_NoText) (.type "BaseException") = some true) (tX_NoText : PySem.W.typeIn K (.ref X_NoText) = some (.type "type")) (iX_NoText : PySem.W.isClsIn K X_NoText = true)
    (aX_SureError : PySem.W.nsIn K mainGlobals "SureError" = some (some (.ref X_SureError)))
    (kX_SureError : PySem.W.keepIn K (.ref X_SureError) = true) (bX_SureError : PySem.W.subIn K (.ref X_SureError) (.type "BaseException") = some true) (tX_SureError : PySem.W.typeIn K (.ref X_SureError) = some (.type "type")) (iX_SureError : PySem.W.isClsIn K X_SureError = true)
    (ehn : PySem.W.specialIn K (.builtin "object.__class__") "__get__" = some (some (.builtin "getset_descriptor.__get__"))) (eht : PySem.W.takesIn K (.builtin "object.__class__") = some true)
    (essX_NoRatio : PySem.W.subIn K (.ref X_NoRatio) (.ref X_NoRatio) = some true)
    (esX_NoRatio_NoChance : PySem.W.subIn K (.ref X_NoRatio) (.ref X_NoChance) = some false)
    (esX_NoRatio_NoFair : PySem.W.subIn K (.ref X_NoRatio) (.ref X_NoFair) = some false)
    (esX_NoRatio_NoName : PySem.W.subIn K (.ref X_NoRatio) (.ref X_NoName) = some false)
    (esX_NoRatio_NoRatio : PySem.W.subIn K (.ref X_NoRatio) (.ref X_NoRatio) = some true)
    (esX_NoRatio_NoRow : PySem.W.subIn K (.ref X_NoRatio) (.ref X_NoRow) = some false)
    (esX_NoRatio_NoText : PySem.W.subIn K (.ref X_NoRatio) (.ref X_NoText) = some false)
    (ebX_NoRatio_ValueError : PySem.W.subIn K (.ref X_NoRatio) (.type "ValueError") = some true)
    (sX_NoRatio_SureError : PySem.W.subIn K (.ref X_NoRatio) (.ref X_SureError) = some true)
    (a0 : PySem.W.nsIn K mainGlobals "common" = some (some (.ref f0))) (l0 : K.lookup f0 = some ⟨oc0, od0, .func (PySem.W.fnOf "common" "common" (defArgs (topS 9)) (defBody (topS 9)) (defScope (topS 9)) .none kV0 dc0 pm0 an0 cd0 ct0), sl0⟩) (c0 : PySem.W.codeIn K cd0 "common" = true) (k0 : PySem.W.keepIn K (.ref f0) = true)
    (a1 : PySem.W.nsIn K mainGlobals "ratio" = some (some (.ref f1))) (l1 : K.lookup f1 = some ⟨oc1, od1, .func (PySem.W.fnOf "ratio" "ratio" (defArgs (topS 10)) (defBody (topS 10)) (defScope (topS 10)) .none kV1 dc1 pm1 an1 cd1 ct1), sl1⟩) (c1 : PySem.W.codeIn K cd1 "ratio" = true) (k1 : PySem.W.keepIn K (.ref f1) = true)
    (a2 : PySem.W.nsIn K mainGlobals "_law_cell" = some (some (.ref f2))) (l2 : K.lookup f2 = some ⟨oc2, od2, .func (PySem.W.fnOf "_law_cell" "_law_cell" (defArgs (topS 12)) (defBody (topS 12)) (defScope (topS 12)) .none kV2 dc2 pm2 an2 cd2 ct2), sl2⟩) (c2 : PySem.W.codeIn K cd2 "_law_cell" = true) (k2 : PySem.W.keepIn K (.ref f2) = true)
    (a3 : PySem.W.nsIn K mainGlobals "_law_whole" = some (some (.ref f3))) (l3 : K.lookup f3 = some ⟨oc3, od3, .func (PySem.W.fnOf "_law_whole" "_law_whole" (defArgs (topS 13)) (defBody (topS 13)) (defScope (topS 13)) .none kV3 dc3 pm3 an3 cd3 ct3), sl3⟩) (c3 : PySem.W.codeIn K cd3 "_law_whole" = true) (k3 : PySem.W.keepIn K (.ref f3) = true)
    (a4 : PySem.W.nsIn K mainGlobals "_law_most" = some (some (.ref f4))) (l4 : K.lookup f4 = some ⟨oc4, od4, .func (PySem.W.fnOf "_law_most" "_law_most" (defArgs (topS 14)) (defBody (topS 14)) (defScope (topS 14)) .none kV4 dc4 pm4 an4 cd4 ct4), sl4⟩) (c4 : PySem.W.codeIn K cd4 "_law_most" = true) (k4 : PySem.W.keepIn K (.ref f4) = true)
    (a5 : PySem.W.nsIn K mainGlobals "_law_is" = some (some (.ref f5))) (l5 : K.lookup f5 = some ⟨oc5, od5, .func (PySem.W.fnOf "_law_is" "_law_is" (defArgs (topS 15)) (defBody (topS 15)) (defScope (topS 15)) .none kV5 dc5 pm5 an5 cd5 ct5), sl5⟩) (c5 : PySem.W.codeIn K cd5 "_law_is" = true) (k5 : PySem.W.keepIn K (.ref f5) = true)
    (a6 : PySem.W.nsIn K mainGlobals "_law_bag" = some (some (.ref f6))) (l6 : K.lookup f6 = some ⟨oc6, od6, .func (PySem.W.fnOf "_law_bag" "_law_bag" (defArgs (topS 17)) (defBody (topS 17)) (defScope (topS 17)) .none kV6 dc6 pm6 an6 cd6 ct6), sl6⟩) (c6 : PySem.W.codeIn K cd6 "_law_bag" = true) (k6 : PySem.W.keepIn K (.ref f6) = true)
    (a7 : PySem.W.nsIn K mainGlobals "_law_take" = some (some (.ref f7))) (l7 : K.lookup f7 = some ⟨oc7, od7, .func (PySem.W.fnOf "_law_take" "_law_take" (defArgs (topS 18)) (defBody (topS 18)) (defScope (topS 18)) .none kV7 dc7 pm7 an7 cd7 ct7), sl7⟩) (c7 : PySem.W.codeIn K cd7 "_law_take" = true) (k7 : PySem.W.keepIn K (.ref f7) = true)
    (a8 : PySem.W.nsIn K mainGlobals "_law_pair" = some (some (.ref f8))) (l8 : K.lookup f8 = some ⟨oc8, od8, .func (PySem.W.fnOf "_law_pair" "_law_pair" (defArgs (topS 19)) (defBody (topS 19)) (defScope (topS 19)) .none kV8 dc8 pm8 an8 cd8 ct8), sl8⟩) (c8 : PySem.W.codeIn K cd8 "_law_pair" = true) (k8 : PySem.W.keepIn K (.ref f8) = true)
    (a9 : PySem.W.nsIn K mainGlobals "_law_refusal" = some (some (.ref f9))) (l9 : K.lookup f9 = some ⟨oc9, od9, .func (PySem.W.fnOf "_law_refusal" "_law_refusal" (defArgs (topS 20)) (defBody (topS 20)) (defScope (topS 20)) .none kV9 dc9 pm9 an9 cd9 ct9), sl9⟩) (c9 : PySem.W.codeIn K cd9 "_law_refusal" = true) (k9 : PySem.W.keepIn K (.ref f9) = true)
    (a10 : PySem.W.nsIn K mainGlobals "_law_only" = some (some (.ref f10))) (l10 : K.lookup f10 = some ⟨oc10, od10, .func (PySem.W.fnOf "_law_only" "_law_only" (defArgs (topS 21)) (defBody (topS 21)) (defScope (topS 21)) .none kV10 dc10 pm10 an10 cd10 ct10), sl10⟩) (c10 : PySem.W.codeIn K cd10 "_law_only" = true) (k10 : PySem.W.keepIn K (.ref f10) = true)
    (a11 : PySem.W.nsIn K mainGlobals "law" = some (some (.ref f11))) (l11 : K.lookup f11 = some ⟨oc11, od11, .func (PySem.W.fnOf "law" "law" (defArgs (topS 22)) (defBody (topS 22)) (defScope (topS 22)) .none kV11 dc11 pm11 an11 cd11 ct11), sl11⟩) (c11 : PySem.W.codeIn K cd11 "law" = true) (k11 : PySem.W.keepIn K (.ref f11) = true)
    (z_ValueError : PySem.W.nsIn K mainGlobals "ValueError" = some none)
    (z_abs : PySem.W.nsIn K mainGlobals "abs" = some none)
    (z_bool : PySem.W.nsIn K mainGlobals "bool" = some none)
    (z_int : PySem.W.nsIn K mainGlobals "int" = some none)
    (z_isinstance : PySem.W.nsIn K mainGlobals "isinstance" = some none)
    (z_len : PySem.W.nsIn K mainGlobals "len" = some none)
    (z_range : PySem.W.nsIn K mainGlobals "range" = some none)
    (z_tuple : PySem.W.nsIn K mainGlobals "tuple" = some none) :
    ∃ fd : FuncData, (∀ (s : Shared) (v : Value), BindsTo s fd ⟨[v], []⟩ [("_law_script", v)]) ∧ ∀ base : Heap, K.In base → base.Ns mainGlobals mg → FnOk l.prog w K mg base CX0 4 fa fd ["_law_script"] (Prom K sp_law_k01) := by
  have e := hfa.symm.trans (PySem.W.mg_of X G a11)
  cases e
  have T : Tx K mg ⟨X_NoChance, X_NoFair, X_NoName, X_NoRatio, X_NoRow, X_NoText, X_SureError, f0, (PySem.W.fnOf "common" "common" (defArgs (topS 9)) (defBody (topS 9)) (defScope (topS 9)) .none kV0 dc0 pm0 an0 cd0 ct0), f1, (PySem.W.fnOf "ratio" "ratio" (defArgs (topS 10)) (defBody (topS 10)) (defScope (topS 10)) .none kV1 dc1 pm1 an1 cd1 ct1), f2, (PySem.W.fnOf "_law_cell" "_law_cell" (defArgs (topS 12)) (defBody (topS 12)) (defScope (topS 12)) .none kV2 dc2 pm2 an2 cd2 ct2), f3, (PySem.W.fnOf "_law_whole" "_law_whole" (defArgs (topS 13)) (defBody (topS 13)) (defScope (topS 13)) .none kV3 dc3 pm3 an3 cd3 ct3), f4, (PySem.W.fnOf "_law_most" "_law_most" (defArgs (topS 14)) (defBody (topS 14)) (defScope (topS 14)) .none kV4 dc4 pm4 an4 cd4 ct4), f5, (PySem.W.fnOf "_law_is" "_law_is" (defArgs (topS 15)) (defBody (topS 15)) (defScope (topS 15)) .none kV5 dc5 pm5 an5 cd5 ct5), f6, (PySem.W.fnOf "_law_bag" "_law_bag" (defArgs (topS 17)) (defBody (topS 17)) (defScope (topS 17)) .none kV6 dc6 pm6 an6 cd6 ct6), f7, (PySem.W.fnOf "_law_take" "_law_take" (defArgs (topS 18)) (defBody (topS 18)) (defScope (topS 18)) .none kV7 dc7 pm7 an7 cd7 ct7), f8, (PySem.W.fnOf "_law_pair" "_law_pair" (defArgs (topS 19)) (defBody (topS 19)) (defScope (topS 19)) .none kV8 dc8 pm8 an8 cd8 ct8), f9, (PySem.W.fnOf "_law_refusal" "_law_refusal" (defArgs (topS 20)) (defBody (topS 20)) (defScope (topS 20)) .none kV9 dc9 pm9 an9 cd9 ct9), f10, (PySem.W.fnOf "_law_only" "_law_only" (defArgs (topS 21)) (defBody (topS 21)) (defScope (topS 21)) .none kV10 dc10 pm10 an10 cd10 ct10), fa, (PySem.W.fnOf "law" "law" (defArgs (topS 22)) (defBody (topS 22)) (defScope (topS 22)) .none kV11 dc11 pm11 an11 cd11 ct11)⟩ := ⟨PySem.W.mg_of X G aX_NoChance,
    PySem.W.mg_of X G aX_NoFair,
    PySem.W.mg_of X G aX_NoName,
    PySem.W.mg_of X G aX_NoRatio,
    PySem.W.mg_of X G aX_NoRow,
    PySem.W.mg_of X G aX_NoText,
    PySem.W.mg_of X G aX_SureError,
    xcat_cons aX_NoRatio (exm_two bX_SureError iX_SureError tX_SureError sX_NoRatio_SureError) (xcat_nil (PySem.W.mg_of X G aX_SureError)),
    aX_NoRatio,
    ⟨fga_NoRatio, fgg_NoRatio, bX_NoRatio, fhd_NoRatio, eha_NoRatio, ehn, eht, ehm_NoRatio⟩,
    essX_NoRatio,
    iX_NoChance,
    tX_NoChance,
    iX_NoFair,
    tX_NoFair,
    iX_NoName,
    tX_NoName,
    iX_NoRatio,
    tX_NoRatio,
    iX_NoRow,
    tX_NoRow,
    iX_NoText,
    tX_NoText,
    esX_NoRatio_NoChance,
    esX_NoRatio_NoFair,
    esX_NoRatio_NoName,
    esX_NoRatio_NoRatio,
    esX_NoRatio_NoRow,
    esX_NoRatio_NoText,
    ebX_NoRatio_ValueError,
    ⟨aX_NoRatio, xX_NoRatio, kX_NoRatio, bX_NoRatio, tX_NoRatio⟩,
    fun_mk (st := (topS 9)) l0 c0 k0,
    (fun_mk (st := (topS 9)) l0 c0 k0).binds (ps := ["one", "other"]) (fun _ _ _ _ _ _ us hl => match us, hl with | [_, _], _ => rfl),
    PySem.W.mg_of X G a0,
    fun_mk (st := (topS 10)) l1 c1 k1,
    (fun_mk (st := (topS 10)) l1 c1 k1).binds (ps := ["top", "bottom"]) (fun _ _ _ _ _ _ us hl => match us, hl with | [_, _], _ => rfl),
    PySem.W.mg_of X G a1,
    fun_mk (st := (topS 12)) l2 c2 k2,
    (fun_mk (st := (topS 12)) l2 c2 k2).binds (ps := ["_law_script", "_law_k"]) (fun _ _ _ _ _ _ us hl => match us, hl with | [_, _], _ => rfl),
    PySem.W.mg_of X G a2,
    fun_mk (st := (topS 13)) l3 c3 k3,
    (fun_mk (st := (topS 13)) l3 c3 k3).binds (ps := ["_law_found"]) (fun _ _ _ _ _ _ us hl => match us, hl with | [_], _ => rfl),
    PySem.W.mg_of X G a3,
    fun_mk (st := (topS 14)) l4 c4 k4,
    (fun_mk (st := (topS 14)) l4 c4 k4).binds (ps := ["_law_one", "_law_other"]) (fun _ _ _ _ _ _ us hl => match us, hl with | [_, _], _ => rfl),
    PySem.W.mg_of X G a4,
    fun_mk (st := (topS 15)) l5 c5 k5,
    (fun_mk (st := (topS 15)) l5 c5 k5).binds (ps := ["_law_found", "_law_top", "_law_bottom"]) (fun _ _ _ _ _ _ us hl => match us, hl with | [_, _, _], _ => rfl),
    PySem.W.mg_of X G a5,
    fun_mk (st := (topS 17)) l6 c6 k6,
    (fun_mk (st := (topS 17)) l6 c6 k6).binds (ps := ["_law_cell_here"]) (fun _ _ _ _ _ _ us hl => match us, hl with | [_], _ => rfl),
    PySem.W.mg_of X G a6,
    fun_mk (st := (topS 18)) l7 c7 k7,
    (fun_mk (st := (topS 18)) l7 c7 k7).binds (ps := ["_law_bag_here", "_law_many"]) (fun _ _ _ _ _ _ us hl => match us, hl with | [_, _], _ => rfl),
    PySem.W.mg_of X G a7,
    fun_mk (st := (topS 19)) l8 c8 k8,
    (fun_mk (st := (topS 19)) l8 c8 k8).binds (ps := ["_law_bag_here"]) (fun _ _ _ _ _ _ us hl => match us, hl with | [_], _ => rfl),
    PySem.W.mg_of X G a8,
    fun_mk (st := (topS 20)) l9 c9 k9,
    (fun_mk (st := (topS 20)) l9 c9 k9).binds (ps := ["_law_top"]) (fun _ _ _ _ _ _ us hl => match us, hl with | [_], _ => rfl),
    PySem.W.mg_of X G a9,
    fun_mk (st := (topS 21)) l10 c10 k10,
    (fun_mk (st := (topS 21)) l10 c10 k10).binds (ps := ["_law_some"]) (fun _ _ _ _ _ _ us hl => match us, hl with | [_], _ => rfl),
    PySem.W.mg_of X G a10,
    fun_mk (st := (topS 22)) l11 c11 k11,
    (fun_mk (st := (topS 22)) l11 c11 k11).binds (ps := ["_law_script"]) (fun _ _ _ _ _ _ us hl => match us, hl with | [_], _ => rfl),
    PySem.W.mg_of X G a11,
    PySem.W.mg_none_of X G z_ValueError,
    PySem.W.mg_none_of X G z_abs,
    PySem.W.mg_none_of X G z_bool,
    PySem.W.mg_none_of X G z_int,
    PySem.W.mg_none_of X G z_isinstance,
    PySem.W.mg_none_of X G z_len,
    PySem.W.mg_none_of X G z_range,
    PySem.W.mg_none_of X G z_tuple⟩
  exact ⟨_, fun s v => .of_eq rfl, fun base _ _ => T.ok_law.ok⟩
end SB
open PySem PySem.W PyProof.Rows
set_option maxHeartbeats 0 in
theorem PySem.Challenge.cw_surebook_k01_ratios_made_holds : PySem.Challenge.rw_surebook_k01_ratios_made.Holds := by
  w_on; o_law; k_head; (case hw => w_witness2)
  k_fill
  refine L2.walk_ofB (l := PySem.Challenge.rw_surebook_k01_ratios_made) (n := 63) (k := 4) (x := "_law_script") (CX := fun _ => L2.CX0) (sp := fun w => SB.Prom _ SB.sp_law_k01) rfl (by decide) rfl ⟨rfl, by decide, by decide⟩ (fun w h Y => PySem.W.kIn_of Y) ?F (fun w H a ns hl hb _ hS => SB.law_start hl hb hS) (fun _ _ _ _ _ h => h)
  case F =>
    intro w mg fa h KX G hmg
    refine' SB.all_mk KX G hmg ?aX_NoChance ?kX_NoChance ?bX_NoChance ?tX_NoChance ?iX_NoChance ?aX_NoFair ?kX_NoFair ?bX_NoFair ?tX_NoFair ?iX_NoFair ?aX_NoName ?kX_NoName ?bX_NoName ?tX_NoName ?iX_NoName ?aX_NoRatio ?kX_NoRatio ?bX_NoRatio ?tX_NoRatio ?iX_NoRatio ?eha_NoRatio ?ehm_NoRatio ?fga_NoRatio ?fgg_NoRatio ?fhd_NoRatio ?xX_NoRatio ?aX_NoRow ?kX_NoRow ?bX_NoRow ?tX_NoRow ?iX_NoRow ?aX_NoText ?kX_NoText ?bX_NoText ?tX_NoText ?iX_NoText ?aX_SureError ?kX_SureError ?bX_SureError ?tX_SureError ?iX_SureError ?ehn ?eht ?essX_NoRatio ?esX_NoRatio_NoChance ?esX_NoRatio_NoFair ?esX_NoRatio_NoName ?esX_NoRatio_NoRatio ?esX_NoRatio_NoRow ?esX_NoRatio_NoText ?ebX_NoRatio_ValueError ?sX_NoRatio_SureError ?a0 ?l0 ?c0 ?k0 ?a1 ?l1 ?c1 ?k1 ?a2 ?l2 ?c2 ?k2 ?a3 ?l3 ?c3 ?k3 ?a4 ?l4 ?c4 ?k4 ?a5 ?l5 ?c5 ?k5 ?a6 ?l6 ?c6 ?k6 ?a7 ?l7 ?c7 ?k7 ?a8 ?l8 ?c8 ?k8 ?a9 ?l9 ?c9 ?k9 ?a10 ?l10 ?c10 ?k10 ?a11 ?l11 ?c11 ?k11 ?z_ValueError ?z_abs ?z_bool ?z_int ?z_isinstance ?z_len ?z_range ?z_tuple
    (case aX_NoChance => k_is); (case kX_NoChance => k_is); (case bX_NoChance => k_is); (case tX_NoChance => k_is); (case iX_NoChance => k_is); (case aX_NoFair => k_is); (case kX_NoFair => k_is); (case bX_NoFair => k_is); (case tX_NoFair => k_is); (case iX_NoFair => k_is); (case aX_NoName => k_is); (case kX_NoName => k_is); (case bX_NoName => k_is); (case tX_NoName => k_is); (case iX_NoName => k_is); (case aX_NoRatio => k_is); (case kX_NoRatio => k_is); (case bX_NoRatio => k_is); (case tX_NoRatio => k_is); (case iX_NoRatio => k_is); (case eha_NoRatio => k_is); (case ehm_NoRatio => k_is); (case fga_NoRatio => k_is); (case fgg_NoRatio => k_is); (case fhd_NoRatio => k_is); (case xX_NoRatio => k_exc); (case aX_NoRow => k_is); (case kX_NoRow => k_is); (case bX_NoRow => k_is); (case tX_NoRow => k_is); (case iX_NoRow => k_is); (case aX_NoText => k_is); (case kX_NoText => k_is); (case bX_NoText => k_is); (case tX_NoText => k_is); (case iX_NoText => k_is); (case aX_SureError => k_is); (case kX_SureError => k_is); (case bX_SureError => k_is); (case tX_SureError => k_is); (case iX_SureError => k_is); (case ehn => k_is); (case eht => k_is); (case essX_NoRatio => first | rfl | k_is); (case esX_NoRatio_NoChance => first | rfl | k_is); (case esX_NoRatio_NoFair => first | rfl | k_is); (case esX_NoRatio_NoName => first | rfl | k_is); (case esX_NoRatio_NoRatio => first | rfl | k_is); (case esX_NoRatio_NoRow => first | rfl | k_is); (case esX_NoRatio_NoText => first | rfl | k_is); (case ebX_NoRatio_ValueError => first | rfl | k_is); (case sX_NoRatio_SureError => first | rfl | k_is); (case a0 => k_is); (case l0 => k_is); (case c0 => k_is); (case k0 => k_is); (case a1 => k_is); (case l1 => k_is); (case c1 => k_is); (case k1 => k_is); (case a2 => k_is); (case l2 => k_is); (case c2 => k_is); (case k2 => k_is); (case a3 => k_is); (case l3 => k_is); (case c3 => k_is); (case k3 => k_is); (case a4 => k_is); (case l4 => k_is); (case c4 => k_is); (case k4 => k_is); (case a5 => k_is); (case l5 => k_is); (case c5 => k_is); (case k5 => k_is); (case a6 => k_is); (case l6 => k_is); (case c6 => k_is); (case k6 => k_is); (case a7 => k_is); (case l7 => k_is); (case c7 => k_is); (case k7 => k_is); (case a8 => k_is); (case l8 => k_is); (case c8 => k_is); (case k8 => k_is); (case a9 => k_is); (case l9 => k_is); (case c9 => k_is); (case k9 => k_is); (case a10 => k_is); (case l10 => k_is); (case c10 => k_is); (case k10 => k_is); (case a11 => k_is); (case l11 => k_is); (case c11 => k_is); (case k11 => k_is); (case z_ValueError => k_is); (case z_abs => k_is); (case z_bool => k_is); (case z_int => k_is); (case z_isinstance => k_is); (case z_len => k_is); (case z_range => k_is); (case z_tuple => k_is)
