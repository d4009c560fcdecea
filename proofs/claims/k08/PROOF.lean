import PyProof.Rows.All
import HandS.HotCalls
import HandS.ExcIs
import HandS.Comp
import HandS.Iter
import HandS.Zip
import HandS.Text
import HandS.Lambda
import HandS.ExcCtx
import Wide.All
import OpenK.AllK
import Wide.FinOn
import PyProof.EqAt
import PyProof.EqKinds
import PyProof.TupleCall
import HandS.Base
import HandS.Call
import HandS.List
import HandS.ForMost
import HandS.Exc
import HandS.Deep
import HandS.TupAny
import HandS.TupMul
import HandS.Style
import HandS.IsInst
import HandS.Strs
import HandS.Conv
import HandS.SetFor
import HandS.SortInts
import HandS.WordsExc
import HandS.NoneIn
import HandS.ExcOwn
import HandS.Defaults
import HandS.Words
import HandS.HeadHook4
import HandS.HeadWalk
import HandS.HeadHook1
import HandS.HeadHook2
import HandS.NestedK
import PySem.Challenge.RW_anyrounds_k08_whole_shares
import HandS.Head0
import HandS.Head1
import HandS.Head2
import HandS.HeadEnd
import KE.KStateDown
set_option Elab.async false
set_option linter.all false
set_option maxRecDepth 100000
set_option maxHeartbeats 4000000
/-! Ht1: walks that end while an exception is handled. -/
namespace Ht
open PySem PySem.Spec PyProof.Rows HotX
section
variable {prog : Program} {w : World} {A : Around} {E : Value → Shared → Prop} {q : Shared}
/-- a new StopIteration, raised while x1 is handled -/
theorem stop_hot {α : Type} {x1 u : Addr} {r : Shared} {Q : α → Shared → Prop} (hot : HotAt A x1 r.heap)
    (hE : ∀ h' e, r.heap.StaysIn h' → r.heap.objs.size ≤ e → (∃ o, h'.get? e = some o ∧ o.cls = .type "StopIteration") → E (.ref e) { r with heap := h' }) :
    wpAny (model prog w) A (newExc (.type "StopIteration") [] >>= fun e => (raiseNew e : Sem α)) Q E r := by
  obtain ⟨hh, o1, vs1, g1, d1, c1⟩ := hot
  refine wpAny_bind ?_
  (simp only [newExc, newTuple]; refine wpAny_bind (wpAny_newObj_type ?_ (by size_fits)))
  (refine wpAny_bind (m := firstArgMember _ _) (wpAny_of_eq (a := Value.none) (by first | rfl | (simp only [firstArgMember]; rfl)) ?_); refine wpAny_newObj_type ?_ (by size_fits))
  refine raiseNew_hot ⟨hh, o1, vs1, Heap.get?_push_of_some _ (Heap.get?_push_of_some _ g1), d1, c1⟩ (Nat.ne_of_lt (Heap.lt_size (Heap.get?_push_of_some _ g1))) (Heap.get?_push_size _ rfl) rfl (by first | (simp; done) | (simp; omega) | (simp only [Array.size_append]; simp; omega)) (hE _ _ (fun b o e => ?_) ?_ ⟨_, Heap.get?_update_self _ (Heap.get?_push_size _ rfl) rfl, rfl⟩)
  · (rw [Heap.get?_update_other _ _ (Nat.ne_of_gt (Heap.lt_size (Heap.get?_push_of_some _ e)))]; exact Heap.get?_push_of_some _ (Heap.get?_push_of_some _ e))
  · rw [Heap.size_push]
    exact Nat.le_succ _
/-- a list's iterator, at its end -/
theorem list_end_hot {x1 u v : Addr} {i : Nat} {items : Array Value} {Q : Value → Shared → Prop} (hot : HotAt A x1 q.heap) (hne : x1 ≠ u) (hu : q.heap.IsListIter u v i) (hv : q.heap.IsList v items) (hx : items[i]? = none)
    (hE : ∀ h' e, Heap.ExtBut u q.heap h' → (∃ o, h'.get? e = some o ∧ o.cls = .type "StopIteration") → E (.ref e) { q with heap := h' }) : wpAny (model prog w) A (Builtin.SmallTypes.nextOf (.ref u)) Q E q := by
  obtain ⟨o, ho, hc, hd⟩ := id hu
  obtain ⟨ov, hov, _, nv, hdv⟩ := hv
  obtain ⟨hh, o1, vs1, g1, d1, c1⟩ := hot
  unfold Builtin.SmallTypes.nextOf
  refine wpAny_bind (wpAny_callSpecial?_slot (name := Str.ofString "__next__") hu.typeIs slot_listiter_next (wpAny_call_entry slot_listiter_next hu.typeIs entry_listiter_next ?_ (args_listiter_next _)))
  show wpAny _ _ (field (.ref u) 0 >>= _) _ _ q
  refine wpAny_bind (wpAny_field ho hd (x := .ref v) rfl ?_)
  show wpAny _ _ (if (Value.ref v == Value.none) = true then _ else _) _ _ q
  rw [if_neg (show ¬ ((Value.ref v == Value.none) = true) from Bool.false_ne_true)]
  show wpAny _ _ (field (.ref u) 1 >>= _) _ _ q
  (refine wpAny_bind (wpAny_field ho hd (x := .int i 0) rfl ?_); show wpAny _ _ (seqItems? (.ref v) >>= _) _ _ q)
  (refine wpAny_bind (wpAny_seqItems hov hdv ?_); simp only [Int.toNat_natCast, hx])
  (refine wpAny_bind (wpAny_rule (wpAny_bind (wpAny_setField ho hd (by simp) ?_))))
  refine stop_hot (u := u) ⟨hh, o1, vs1, by rw [Heap.get?_update_other _ _ (fun z => hne z.symm)]; exact g1, d1, c1⟩ fun h' e st _ he => ?_
  exact hE h' e (fun b ob hb eb => st b ob (by rw [Heap.get?_update_other _ _ (fun z => hb z.symm)]; exact eb)) he
theorem HotAt.but {x1 u : Addr} {h h' : Heap} (hot : HotAt A x1 h) (k : ∀ b o, b ≠ u → h.get? b = some o → h'.get? b = some o) (ne : x1 ≠ u) : HotAt A x1 h' := by
  obtain ⟨hh, o1, vs1, g1, d1, c1⟩ := hot
  exact ⟨hh, o1, vs1, k _ _ ne g1, d1, c1⟩
/-- a pair's iterator over two lists, where the first ends -/
theorem zip_end_hot {x1 z t1 t2 i1 i2 l1 : Addr} {k1 : Nat} {xs : Array Value} {a b : Value} {Q : Option Value → Shared → Prop} (hot : HotAt A x1 q.heap) (n1 : x1 ≠ z) (n2 : x1 ≠ i1) (iz : i1 ≠ z) (lz : l1 ≠ z)
    (hz : IsZip q.heap z t1 t2 .none) (h1 : IsPair q.heap t1 (.ref i1) (.ref i2)) (h2 : IsPair q.heap t2 a b) (hu : q.heap.IsListIter i1 l1 k1) (hl : q.heap.IsList l1 xs) (hend : xs[k1]? = none)
    (hQ : ∀ h', (∀ c o, c ≠ z → c ≠ i1 → q.heap.get? c = some o → h'.get? c = some o) → Q none { q with heap := h' }) : wpAny (model prog w) A (pyNext (.ref z)) Q E q := by
  have ty : q.TypeIs (.ref z) "zip" := ⟨_, hz, rfl⟩
  have run : ∀ (Q' : Fin → Shared → Prop) (A' : Around) (E' : Value → Shared → Prop), HotAt A' x1 q.heap → (∀ (h' : Heap) (e : Addr), (∀ c o, c ≠ z → c ≠ i1 → q.heap.get? c = some o → h'.get? c = some o) → (∃ o, h'.get? e = some o ∧ o.cls = .type "StopIteration") → E' (.ref e) { q with heap := h' }) →
      wpAny (model prog w) A' (Builtin.«zip.__next__» ⟨[.ref z], []⟩) Q' E' q := by
    intro Q' A' E' hot' hE
    show wpAny _ _ (field (.ref z) 2 >>= _) _ _ q
    (refine wpAny_bind (wpAny_field hz rfl (x := .bool false) rfl ?_); show wpAny _ _ (field (.ref z) 3 >>= _) _ _ q)
    (refine wpAny_bind (wpAny_field hz rfl (x := .ref t1) rfl ?_); refine wpAny_bind (wpAny_seqItems h1 rfl ?_))
    show wpAny _ _ (Builtin.SmallTypes.ownedTupleIsFree (.ref z) >>= _) _ _ q
    refine wpAny_bind ?_
    unfold Builtin.SmallTypes.ownedTupleIsFree
    (refine wpAny_bind (wpAny_field hz rfl (x := .none) rfl (wpAny_pure ?_)); simp only [if_true])
    (refine wpAny_bind (wpAny_rule ?_); refine wpAny_bind (wpAny_field hz rfl (x := .ref t2) rfl ?_))
    refine wpAny_bind (wpAny_setField_rec hz (by simp) fun g1 hz1 s1 => ?_)
    (refine wpAny_bind ?_; simp only [List.zipIdx_cons, List.zipIdx_nil, List.forIn_cons, List.forIn_nil])
    (refine wpAny_bind (wpAny_bind (wpAny_onRaise ?_)); show wpAny _ _ (Builtin.SmallTypes.nextOf (.ref i1) >>= _) _ _ { q with heap := g1 })
    refine wpAny_bind (list_end_hot (HotAt.but hot' (fun b o hb e => s1.extBut b o hb e) n1) n2 (hu.extBut s1.extBut iz) (hl.extBut s1.extBut lz) hend fun g2 e s2 he => ?_)
    obtain ⟨oe, hoe, hce⟩ := he
    have hz2 : IsZip g2 z t1 t2 .ellipsis := s2 _ _ iz.symm hz1
    have hez : e ≠ z := fun x => by subst x; rw [hz2] at hoe; cases hoe; simp at hce
    refine wpAny_setField_rec hz2 (by simp) fun g3 _ s3 => hE g3 e (fun c o c1 c3 x => s3.extBut _ _ c1 (s2 _ _ c3 (s1.extBut _ _ c1 x))) ⟨oe, s3.extBut _ _ hez hoe, hce⟩
  unfold pyNext
  refine wpAny_bind (wpAny_attempt (wpAny_callSpecial?_slot (name := Str.ofString "__next__") ty F.slot_zip_next (wpAny_call_entry F.slot_zip_next ty F.entry_zip_next (run _ _ _ hot fun h' e hk he => ?_) (F.args_zip_next_1 _))))
  obtain ⟨o, ho, hc⟩ := he
  exact wpAny_bind (wpAny_isInstance (T := "StopIteration") (b := true) ⟨o, ho, hc⟩ isSubtype_stop (wpAny_pure (hQ _ hk)))
/-- a tuple's iterator, at its end -/
theorem tup_end_hot {x1 u v : Addr} {i : Nat} {items : Array Value} {Q : Option Value → Shared → Prop} (hot : HotAt A x1 q.heap) (hne : x1 ≠ u) (hu : IsTupIter q.heap u v i) (hv : IsTup q.heap v items) (hx : items[i]? = none)
    (hQ : ∀ h', Heap.ExtBut u q.heap h' → Q none { q with heap := h' }) : wpAny (model prog w) A (pyNext (.ref u)) Q E q := by
  obtain ⟨o, ho, hc, hd⟩ := id hu
  obtain ⟨ov, hov, _, nv, hdv⟩ := hv
  obtain ⟨hh, o1, vs1, g1, d1, c1⟩ := hot
  unfold pyNext
  refine wpAny_bind (wpAny_attempt (wpAny_callSpecial?_slot (name := Str.ofString "__next__") hu.typeIs slot_tupleiter_next (wpAny_call_entry slot_tupleiter_next hu.typeIs entry_tupleiter_next ?_ (args_tupleiter_next _))))
  show wpAny _ _ (field (.ref u) 0 >>= _) _ _ q
  refine wpAny_bind (wpAny_field ho hd (x := .ref v) rfl ?_)
  show wpAny _ _ (if (Value.ref v == Value.none) = true then _ else _) _ _ q
  rw [if_neg (show ¬ ((Value.ref v == Value.none) = true) from Bool.false_ne_true)]
  show wpAny _ _ (field (.ref u) 1 >>= _) _ _ q
  (refine wpAny_bind (wpAny_field ho hd (x := .int i 0) rfl ?_); show wpAny _ _ (seqItems? (.ref v) >>= _) _ _ q)
  (refine wpAny_bind (wpAny_seqItems hov hdv ?_); simp only [Int.toNat_natCast, hx])
  (refine wpAny_bind (wpAny_rule (wpAny_bind (wpAny_setField ho hd (by simp) ?_))))
  refine stop_hot (u := u) ⟨hh, o1, vs1, by rw [Heap.get?_update_other _ _ (fun z => hne z.symm)]; exact g1, d1, c1⟩ fun h' e st _ he => ?_
  obtain ⟨oe, hoe, hce⟩ := he
  exact wpAny_bind (wpAny_isInstance (T := "StopIteration") (b := true) ⟨oe, hoe, hce⟩ isSubtype_stop (wpAny_pure (hQ h' (fun b ob hb eb => st b ob (by rw [Heap.get?_update_other _ _ (fun z => hb z.symm)]; exact eb)))))
theorem unpack_hot {x1 v : Addr} {items : Array Value} {Q : List Value → Shared → Prop} (hot : HotAt A x1 q.heap) (hv : IsTup q.heap v items)
    (hQ : ∀ h', Heap.ExtBut q.heap.objs.size q.heap h' → Q items.toList { q with heap := h' }) : wpAny (model prog w) A (unpackItems (.ref v) items.size none) Q E q := by
  have hlt : v ≠ q.heap.objs.size := by obtain ⟨o, ho, _⟩ := hv; exact Nat.ne_of_lt (Heap.lt_size ho)
  have hx1 : x1 ≠ q.heap.objs.size := by obtain ⟨_, o, _, ho, _⟩ := hot; exact Nat.ne_of_lt (Heap.lt_size ho)
  unfold unpackItems
  refine wpAny_bind ?_
  unfold notIterableAtAll
  (refine wpAny_bind (wpAny_specialOf hv.typeIs slot_tuple_iter.lookup ?_); refine wpAny_pure ?_)
  (simp only [Bool.false_eq_true, if_false]; refine wpAny_bind (wpAny_holding (iter_tuple hv ?_)))
  refine wpAny_bind (wpAny_holding (draw_tuple hlt items.size 0 _ _ ⟨_, Heap.get?_push_size _ rfl, rfl, rfl⟩ (hv.push _) (by omega) fun g1 hi1 s1 => ?_))
  have all : List.take items.size (List.drop 0 items.toList) = items.toList := by (rw [List.drop_zero]; exact List.take_of_length_le (by simp))
  rw [all, if_neg (by simp)]
  have hv1 : IsTup g1 v items := (hv.push _).extBut s1.extBut hlt
  have hot1 : HotAt A x1 g1 := HotAt.but (u := q.heap.objs.size) hot (fun b o hb e => s1.extBut b o hb (Heap.get?_push_of_some _ e)) hx1
  refine wpAny_bind (wpAny_holding (tup_end_hot hot1 hx1 hi1 hv1 (by simp) fun g2 s2 => ?_))
  simp only [Option.isSome_none, Bool.false_eq_true, if_false]
  exact wpAny_pure (hQ g2 fun b o hb e => s2 b o hb (s1.extBut b o hb (Heap.get?_push_of_some _ e)))
theorem assign_hot {env : Env} {elts : List Expr} {kk : Nat} {pos : Pos} {x1 v : Addr} {items : Array Value} {Q : Unit → Shared → Prop} (hot : HotAt A x1 q.heap) (hv : IsTup q.heap v items)
    (hn : (assignEach elts env).length = items.size) (hst : (assignEach elts env).findIdx? (·.1) = none)
    (h : ∀ h', Heap.ExtBut q.heap.objs.size q.heap h' → wpAny (model prog w) A (assignInOrder ((assignEach elts env).map (·.2)) items.toList) Q E { q with heap := h' }) : wpAny (model prog w) A (assign (.Tuple elts kk pos) env (.ref v)) Q E q := by
  rw [assign_Tuple]
  refine wpAny_bind (wpAny_standAt ?_)
  unfold unpack
  rw [hn, hst]
  exact wpAny_bind (wpAny_holding (unpack_hot hot hv h))
end
end Ht
set_option Elab.async false
set_option linter.all false
set_option maxRecDepth 100000
set_option maxHeartbeats 4000000
/-! Ht2: a comprehension over pairs, while an exception is handled. -/
namespace Ht
open PySem PySem.Spec PyProof.Rows HotX L2 L2H
/-- a block that bears the pins of its def -/
abbrev blkH (X : Cx) (s : Shared) (H : Hp) (scope : Scope) (ce : PySem.Env) (fp : List Addr) : Cx := { X.blk s H scope ce fp with pn := X.pn }
section
variable {X : Cx} {pins : List (Addr × Obj)} {σ : L2.St} {H : Hp} {s : Shared}
theorem toH {s0 s1 : Shared} {H0 : Hp} {scope : Scope} {ce : PySem.Env} {fp : List Addr} (I : Inv (X.blk s0 H0 scope ce fp) [] σ H s1)
    (hp : ∀ p ∈ X.pn, s1.heap.get? p.1 = some p.2 ∧ H p.1 = none ∧ p.1 ≠ ce.locals ∧ p.1 ∉ frs X.stack ∧ ∀ v, p.2.data ≠ .cell v) : Inv (blkH X s0 H0 scope ce fp) [] σ H s1 :=
  have o := I.ok
  ⟨⟨o.mod, o.kind, o.glob, o.blt, o.above, o.inj, o.has, o.cab, o.hd, o.frames, o.stk, o.exf, o.bs, o.bsz, o.noex, o.exfs, o.funs, o.frf⟩, I.os, I.bare, I.base, I.loc, I.cell, I.free, I.freeC, fun p hq => hp p (by simpa using hq), I.hok, I.len⟩
/-- the pairs' iterator: it stops where the first list does -/
def Itz1 (K : PySem.W.Frag) (a b : Addr) : It := ⟨(Itz K a b).go, (Itz K a b).yld, fun i H => ∃ xs : List V, SqL K H a xs ∧ xs.length ≤ i⟩
theorem turn_zipH {P : Program} {w : World} {K : PySem.W.Frag} {elts : List Expr} {kk : Nat} {tpos : Pos} {a b z t1 t2 i1 i2 : Addr} (D : ZipApart z t1 t2 i1 i2 a b) :
    TurnH P w K (.Tuple elts kk tpos) (Itz1 K a b) [z, t1, t2, i1, i2] z (fun i h => IsZip h z t1 t2 .none ∧ IsPair h t1 (.ref i1) (.ref i2) ∧ (∃ x y, IsPair h t2 x y) ∧ h.IsListIter i1 a i ∧ h.IsListIter i2 b i) where
  mem := by simp
  obj := fun i h st => (turn_zip (P := P) (w := w) (K := K) (elts := elts) (kk := kk) (tpos := tpos) D).obj i h st
  keep := fun i h h' st k => (turn_zip (P := P) (w := w) (K := K) (elts := elts) (kk := kk) (tpos := tpos) D).keep i h h' st k
  item := by
    intro X hP hw hK hc i pins s σ H E I hf st hg
    subst hP hw hK
    obtain ⟨hz, e1, ⟨x0, y0, e2⟩, h1, h2⟩ := st
    obtain ⟨xs, ys, x, y, qx, qy, ex, ey⟩ := hg
    obtain ⟨its, rv, p, _⟩ := I.list qx
    obtain ⟨its2, rv2, p2, _⟩ := I.list qy
    obtain ⟨u, hu, ru⟩ := rv.get ex
    obtain ⟨u2, hu2, ru2⟩ := rv2.get ey
    have lz : z < s.heap.objs.size := Heap.lt_size hz
    refine wpAny_pyNext_zip_item D hz e1 e2 h1 h2 p.isList p2.isList (x := u) (y := u2) (by simpa using hu) (by simpa using hu2) fun g1 z1 w1 k1 k2 hT hsz hk => ⟨_, rfl, wpAny_letOwnedTupleGo_zip (s := { s with heap := g1 }) z1 fun g2 z2 sb => ?_⟩
    have up : ∀ c o, c ∉ [z, t1, t2, i1, i2] → s.heap.get? c = some o → g2.get? c = some o := fun c o hb q => by
      simp only [List.mem_cons, List.not_mem_nil, or_false, not_or] at hb
      exact (sb.2 c hb.1).trans (hk c o hb.1 hb.2.2.1 hb.2.2.2.1 hb.2.2.2.2 q)
    have new : ObjOk X.prog X.w (upd H s.heap.objs.size (.tup [x, y])) g2 s.heap.objs.size (.tup [x, y]) := ⟨by show 2 ≤ sizeLine; decide, [u, u2], .cons ru (.cons ru2 .nil), ⟨_, (sb.2 _ (Nat.ne_of_gt lz)).trans hT, rfl, _, rfl⟩⟩
    have I1 : Inv X pins σ (upd H s.heap.objs.size (.tup [x, y])) { s with heap := g2 } := I.turnedNew (t' := s.toks) (ch := [z, t1, t2, i1, i2]) up hf (Nat.le_refl _) new
    refine ⟨.ref s.heap.objs.size, _, I1, rfl, ⟨_, x, y, rfl, I.hok.fresh (Nat.le_refl _), rfl, fun l hl => (I.list_inj hl qx) ▸ ex, fun l hl => (I.list_inj hl qy) ▸ ey⟩, ⟨z2, (sb.2 _ D.TIz).trans (hk _ _ D.TIz D.TITO D.TIi1 D.TIi2 e1), ⟨u, u2, (sb.2 _ D.TOz).trans w1⟩, k1.at fun o q => (sb.2 _ D.i1z).trans q, k2.at fun o q => (sb.2 _ D.i2z).trans q⟩, fun c hcm => ?_⟩
    have lt : c < s.heap.objs.size := by
      obtain ⟨o, q, _⟩ := (turn_zip (P := X.prog) (w := X.w) (K := X.K) (elts := elts) (kk := kk) (tpos := tpos) D).obj i s.heap ⟨hz, e1, ⟨x0, y0, e2⟩, h1, h2⟩ c hcm
      exact Heap.lt_size q
    rw [upd_ne (Nat.ne_of_lt lt)]
    exact (hf c hcm).1
  done := by
    intro X hP hw hK hc i pins s σ H E I hf st hg
    subst hP hw hK
    obtain ⟨hz, e1, ⟨x0, y0, e2⟩, h1, h2⟩ := st
    obtain ⟨xs, qx, hend⟩ := hg
    obtain ⟨its, rv, p, _⟩ := I.list qx
    have ln := rv.length
    obtain ⟨pp, ⟨hh, v1, d1, c1⟩, hpn⟩ := hc
    have P1 := I.pin pp (List.mem_append_left _ hpn)
    have ne : ∀ b ∈ [z, t1, t2, i1, i2], pp.1 ≠ b := fun b hb => (hf b hb).2.2.2.2.2 pp (List.mem_append_left _ hpn)
    exact zip_end_hot (x1 := pp.1) ⟨hh, pp.2, v1, P1.1, d1, c1⟩ (ne z (by simp)) (ne i1 (by simp)) D.i1z D.l1z hz e1 e2 h1 p.isList (by simp; omega) fun g1 hk => ⟨rfl, I.turnedL (t' := s.toks) (ch := [z, t1, t2, i1, i2]) (fun c o hb q => by
      simp only [List.mem_cons, List.not_mem_nil, or_false, not_or] at hb
      exact hk c o hb.1 hb.2.2.2.1 q) hf⟩
  self := fun A i s Q E st h => wpAny_pyIter_zip st.1 h
def iZip1 (K : PySem.W.Frag) (ta : TA) : TI := fun σ H R => ta σ H fun vs H1 => ∃ a b xs ys, vs = [.ref a, .ref b] ∧ SqL K H1 a xs ∧ SqL K H1 b ys ∧ R (Itz1 K a b) H1
theorem pi_zipH {e e2 : Expr} {ta : TA} {p pos tpos : Pos} {elts : List Expr} {kk : Nat} (hg : Gl X "zip") (hm : X.mg "zip" = none) (ha : PA X [e, e2] ta) (hs : starEach [e, e2] X.env = (false, eval e X.env) :: starEach [e2] X.env) (hpl : (backTo pos (starEach [e2] X.env)).any (·.1) = false) :
    PIH X (.Tuple elts kk tpos) (.Call (.Name "zip" p) [e, e2] [] pos) (iZip1 X.K ta) := by
  refine ⟨fun pins s σ H R I h => Call_ (ld_blt I hg hm PyProof.Rows.boot_zip (PyProof.Rows.callWith_type1 (thn (ha.run pos pins s σ H _ I h) fun us s1 ⟨vs, H1, I1, r1, q1⟩ => ?_) hs hpl))⟩
  obtain ⟨a, b, xs, ys, rfl, qx, qy, q⟩ := q1
  cases r1 with
  | cons r rr =>
    cases rr with
    | cons r' rr =>
      cases rr
      cases r
      cases r'
      obtain ⟨its, rv, p1, _⟩ := I1.list qx
      obtain ⟨its2, rv2, p2, _⟩ := I1.list qy
      refine call_zip_2 p1.isList p2.isList fun g hz e1 e2 h1 h2 hsz hk => wpAny_pyIter_zip hz ?_
      have I2 : Inv X pins σ H1 { s1 with heap := g } := I1.kept (t' := s1.toks) hk
      refine ⟨s1.heap.objs.size + 4, [s1.heap.objs.size + 4, s1.heap.objs.size + 2, s1.heap.objs.size + 3, s1.heap.objs.size, s1.heap.objs.size + 1], _, _, H1, rfl, I2, turn_zipH (PySem.W.ktu_apart s1.heap.objs.size a b p1.lt p2.lt), ⟨hz, e1, ⟨_, _, e2⟩, h1, h2⟩, fun c hcm => ?_, q⟩
      have hle : s1.heap.objs.size ≤ c := by
        simp only [List.mem_cons, List.not_mem_nil, or_false] at hcm
        rcases hcm with rfl | rfl | rfl | rfl | rfl <;> omega
      exact I1.fpOk hle (I1.hok.fresh hle)
/-- (a, b, ..) = a tuple -/
theorem pg_tupH {es : List Expr} {kk : Nat} {t : TGs} {n : Nat} {pos : Pos} (hc : HotC X) (h : PGs X es t) (hn : (assignEach es X.env).length = n) (hst : (assignEach es X.env).findIdx? (·.1) = none) : PG X (.Tuple es kk pos) (gTup X.K n t) := by
  refine ⟨fun pins s σ H v u Q I r hw => ?_⟩
  obtain ⟨a, xs, rfl, hq, hl, hw⟩ := hw
  cases r
  obtain ⟨its, rv, ht, hz⟩ := I.tuple hq
  obtain ⟨x1, hot⟩ := hc.at I
  refine assign_hot hot ht (by simp [hn, ← hl, rv.length]) hst fun g hx => ?_
  have I1 : Inv X pins σ H { s with heap := g } := I.kept (t' := s.toks) fun b o e => hx b o (Nat.ne_of_lt (Heap.lt_size e)) e
  exact h.run pins _ σ H xs _ Q I1 (by simpa using rv) hw
/-- [elt for target in iter if ..], as a value -/
theorem pe_lcH {elt tg iter : Expr} {ifs : List Expr} {scope : Scope} {own : List (Str × Nat)} {pos : Pos} {wi : TI} {g : TG} {tt : TT} {te : TE} (hc : HotC X) (hN : X.N.Nodup) (hi : PIH X tg iter wi) (ok : BlkOk X.N X.env.scope scope own)
    (hg : ∀ (s : Shared) (H : Hp) (C : Addr) (cl : List (Str × Addr)) (fp : List Addr), PG (blkH X s H scope (compEnvC scope cl C X.env) fp) tg g) (ht : ∀ (s : Shared) (H : Hp) (C : Addr) (cl : List (Str × Addr)) (fp : List Addr), PTs (blkH X s H scope (compEnvC scope cl C X.env) fp) ifs tt)
    (he : ∀ (s : Shared) (H : Hp) (C : Addr) (cl : List (Str × Addr)) (fp : List Addr), PE (blkH X s H scope (compEnvC scope cl C X.env) fp) elt te) (hs : ∀ x, foldedSetIterable iter X.env x = pure x) : PE X (.ListComp elt [⟨tg, iter, ifs, 0⟩] scope pos) (tLc wi g tt te (own.map (·.2))) := by
  refine ⟨fun pins s σ H Q I h => ?_⟩
  rw [eval_ListComp]
  have hfree : ∀ y ∈ scope.names, y.2 = .free → ∃ c, X.env.cells.lookup y.1 = some c := fun y hy e => I.ok.has _ (ok.free y hy e)
  refine wpAny_comprehension_free (use := none) rfl hs (closure_ok hfree) ok.kind (fun y hy e => by rw [ok.uniq y hy, e]) (thn (hi.run pins s σ H _ I h) fun xv s1 hx => thn hx fun itv s2 ⟨it, fp, tn, J, H2, e, I2, T, st2, f2, q⟩ => ?_)
  subst e
  refine wpAny_newObj_type (newEnv_comp ?_) (by show 0 ≤ sizeLine; decide)
  generalize hD : s2.heap.objs.size = D
  have nD : H2 D = none := I2.hok.fresh (Nat.le_of_eq hD)
  obtain ⟨W, ⟨m0, w0⟩, turn⟩ := q D nD
  generalize hs3 : ({ s2 with heap := s2.heap.push { cls := .type "list", data := .seq ([] : List Value).toArray } } : Shared) = s3
  have h3 : s3.heap = s2.heap.push { cls := .type "list", data := .seq ([] : List Value).toArray } := by rw [← hs3]
  have I3 : Inv X pins σ (upd H2 D (.lst [])) s3 := by
    rw [← hs3]
    exact I2.laid (t' := s2.toks) (fun b o e => Heap.get?_push_of_some _ e) (Nat.le_of_eq hD) ⟨Nat.zero_le _, [], 0, .nil, by rw [← hD]; exact Heap.get?_push_size _ rfl⟩
  have sz : ∀ b ∈ fp, b < s2.heap.objs.size := fun b hb => (T.obj _ _ st2 b hb).elim fun o e => Heap.lt_size e.1
  have f3 : ∀ b ∈ fp, FpOk X pins (upd H2 D (.lst [])) b ∧ b < s3.heap.objs.size := fun b hb =>
    ⟨⟨by rw [upd_ne (by rw [← hD]; exact Nat.ne_of_lt (sz b hb))]; exact (f2 b hb).1, (f2 b hb).2⟩, by rw [h3, Heap.size_push]; exact Nat.lt_succ_of_lt (sz b hb)⟩
  have st3 : tn 0 s3.heap := T.keep _ _ _ st2 fun b _ o e => by rw [h3]; exact Heap.get?_push_of_some _ e
  have I4 := block_start I3 ok hN f3
  have pg := hg s3 (upd H2 D (.lst [])) s3.heap.objs.size (cellsFrom (s3.heap.objs.size + 1) scope.names (cloFrom X.env.cells scope.names [])) fp
  have pt := ht s3 (upd H2 D (.lst [])) s3.heap.objs.size (cellsFrom (s3.heap.objs.size + 1) scope.names (cloFrom X.env.cells scope.names [])) fp
  have pe := he s3 (upd H2 D (.lst [])) s3.heap.objs.size (cellsFrom (s3.heap.objs.size + 1) scope.names (cloFrom X.env.cells scope.names [])) fp
  show codeAny _ _ (.compStart (.ListComp elt [⟨tg, iter, ifs, 0⟩] scope pos) 0 (.ref it) (.ref D) (compEnvC scope (cellsFrom (s3.heap.objs.size + 1) scope.names (cloFrom X.env.cells scope.names [])) s3.heap.objs.size X.env)) _ { s3 with heap := pushCells (s3.heap.push { cls := .type "dict", data := .dict #[] }) scope.names }
  have nfp : ∀ b ∈ fp, (upd H2 D (.lst [])) b = none := fun b hb => (f3 b hb).1.1
  generalize hce : compEnvC scope (cellsFrom (s3.heap.objs.size + 1) scope.names (cloFrom X.env.cells scope.names [])) s3.heap.objs.size X.env = ce at I4 pg pt pe ⊢
  have cL : ce.locals = s3.heap.objs.size := by subst hce; rfl
  generalize hH3 : upd H2 D (.lst []) = H3 at I3 I4 pg pt pe w0 nfp f3
  generalize hs4 : ({ s3 with heap := pushCells (s3.heap.push { cls := .type "dict", data := .dict #[] }) scope.names } : Shared) = s4 at I4 ⊢
  have up4 : ∀ b o, s3.heap.get? b = some o → s4.heap.get? b = some o := fun b o e => by rw [← hs4]; exact pushCells_keeps _ _ _ _ (Heap.get?_push_of_some _ e)
  have I4 : Inv (blkH X s3 H3 scope ce fp) [] (wipe σ (own.map (·.2))) H3 s4 := toH I4 fun p hp => by
    obtain ⟨a1, a2, a3, a4, a5⟩ := I3.pin p (List.mem_append_left _ hp)
    exact ⟨up4 _ _ a1, a2, by rw [cL]; exact Nat.ne_of_lt (Heap.lt_size a1), fun hm => (List.mem_cons.mp (I3.stkSub p.1 hm)).elim a3 a4, a5⟩
  have st4 : tn 0 s4.heap := T.keep _ _ _ st3 fun b _ o e => up4 b o e
  have hcb : HotC (blkH X s3 H3 scope ce fp) := hc
  have stat : ∀ {σ' : L2.St} {H' : Hp} {s' : Shared}, Inv (blkH X s3 H3 scope ce fp) [] σ' H' s' → (∀ b ∈ fp, H' b = none) → ∀ b ∈ fp, FpOk (blkH X s3 H3 scope ce fp) [] H' b := fun {σ' H' s'} I' hn b hb =>
    ⟨hn b hb, (I'.ok.exf b hb).1, I'.ok.exfs b hb, .inl hb, fun x c e => (I'.ok.exf b hb).2 x c e, fun p hp => (f2 b hb).2.2.2.2.2 p (List.mem_append_left _ (by simpa using hp))⟩
  have loop : codeAny (model X.prog X.w) X.A (.compLoop (.ListComp elt [⟨tg, iter, ifs, 0⟩] scope pos) 0 (.ref it) (.ref D) ce) (compPost (model X.prog X.w) X.A X.xe none (EP X pins σ Q) (.ref D) s3.heap.objs.size) s4 := by
    refine compLoop_any (fun n s' => ∃ i H', Inv (blkH X s3 H3 scope ce fp) [] (wipe σ (own.map (·.2))) H' s' ∧ tn i s'.heap ∧ (∀ b ∈ fp, H' b = none) ∧ W i n H') ?_ m0 ⟨0, H3, I4, st4, nfp, w0⟩
    rintro n s5 ⟨i, H5, I5, st5, n5, w5⟩
    rcases turn i n H5 w5 with ⟨stop, qq⟩ | ⟨go, Nx, hNx, step⟩
    · refine thnF (T.done (blkH X s3 H3 scope ce fp) rfl rfl rfl hcb i [] s5 _ H5 (fun _ _ => False) I5 (stat I5 n5) st5 stop) fun r s6 ⟨hr, I6⟩ => ?_
      subst hr
      have I7 : Inv X pins σ H5 s6 := I3.call' (ch := fp) I6.os I6.base I6.hok I6.bare fun b hb => have f := (f3 b hb).1.2; ⟨f.2.2.1, f.1, f.2.2.2.1, f.2.2.2.2⟩
      have nC : H5 s3.heap.objs.size = none := cL ▸ (show H5 ce.locals = none from I6.free)
      obtain ⟨m, hn, _⟩ := I6.loc
      have hn : s6.heap.Ns s3.heap.objs.size m := cL ▸ (show s6.heap.Ns ce.locals m from hn)
      obtain ⟨f0, f1, f2, f3, f4, f5⟩ := I3.fpOk (Nat.le_refl _) nC
      exact ⟨m, hn, fun g2 sb => ⟨.ref D, H5, I7.turned (t' := s6.toks) (fun b o hb e => (sb.2 b hb).trans e) f0 f1 f3 f4 f5, rfl, qq⟩⟩
    · refine thnF (T.item (blkH X s3 H3 scope ce fp) rfl rfl rfl hcb i [] s5 _ H5 (fun _ _ => False) I5 (stat I5 n5) st5 go) fun r s6 ⟨u, hr, h6⟩ => ?_
      subst hr
      refine thnF h6 fun _ s7 ⟨x, H7, I7, r7, y7, st7, n7⟩ => ?_
      refine thnF (pg.run _ s7 _ H7 x u _ (I7.pinned (stat I7 n7) (T.obj _ _ st7)) r7 (step x H7 y7)) fun _ s8 ⟨σ8, H8, I8, hw8, q8⟩ => thnF (pt.run _ s8 σ8 H8 _ I8 q8) fun b s9 ⟨H9, I9, q9⟩ => ?_
      have fin : ∀ {s' : Shared} {H' : Hp}, Inv (blkH X s3 H3 scope ce fp) ([] ++ pinsAt fp s7.heap) σ8 H' s' → Nx H' → ∃ m, m < n ∧ ∃ i H', Inv (blkH X s3 H3 scope ce fp) [] (wipe σ (own.map (·.2))) H' s' ∧ tn i s'.heap ∧ (∀ b ∈ fp, H' b = none) ∧ W i m H' := fun {s' H'} I' nx => by
        obtain ⟨m', hm, w'⟩ := hNx H' nx
        have pin' : ∀ b ∈ fp, ∀ o, s7.heap.get? b = some o → s'.heap.get? b = some o ∧ H' b = none := fun b hb o e => have z := I'.pin (b, o) (List.mem_append_right _ (List.mem_append_right _ (mem_pinsAt hb e))); ⟨z.1, z.2.1⟩
        exact ⟨m', hm, i + 1, H', (I'.unpinned (pins := [])).weak (by rw [← hw8, wipe_length]) (fun j v e => (wipe_some (by rw [hw8]; exact e)).1), T.keep _ _ _ st7 fun b hb o e => (pin' b hb o e).1, fun b hb => (T.obj _ _ st7 b hb).elim fun o e => (pin' b hb o e.1).2, w'⟩
      cases b with
      | false => (simp only [Bool.false_eq_true, if_false] at q9 ⊢; exact fin I9 q9)
      | true =>
        (simp only [if_true] at q9 ⊢; refine thnF (pe.run _ s9 σ8 H9 _ I9 q9) fun z s10 ⟨yv, H10, I10, r10, acc, d10, z10, nx⟩ => ?_)
        exact app_ok (X := blkH X s3 H3 scope ce fp) I10 d10 z10 r10 fun s11 I11 => fin I11 nx
  exact (codeAny_compStart_list loop (T.self X.A 0 _ _ _ st4 loop))
end
end Ht
set_option Elab.async false
set_option linter.all false
set_option maxRecDepth 100000
set_option maxHeartbeats 4000000
/-! Ht3: the def that tells an error's classes by their labels, called while the error is handled. -/
namespace Ht
open PySem PySem.Spec PyProof.Rows HotX L2 L2H
section
variable {X : Cx} {pins : List (Addr × Obj)} {σ : L2.St} {H : Hp} {s : Shared}
/-- isinstance(e, c), e the handled error -/
theorem call_isH {a D : Addr} {oe : Obj} (C : ExcC X.K D) (hz : Zc (.ref D) none oe) (hf : ∃ vs, oe.data = .fields vs) (hp : (a, oe) ∈ X.pn) : CallR X (.builtin "isinstance") (rIsE X.K D a) := by
  intro pins s σ H xs us Q I r h
  obtain ⟨c, cv, b, rfl, hcv, e, q⟩ := h
  cases r with
  | cons rx rr =>
    cases rr with
    | cons rt rr =>
      cases rr
      cases rx
      obtain rfl := hcv _ rt
      have hget := (I.pin (a, oe) (List.mem_append_left _ hp)).1
      have J : PySem.W.InstAt s.heap a oe D none := by
        obtain ⟨vs, hv⟩ := hf
        obtain ⟨oc, od, oda, osl⟩ := oe
        obtain ⟨h1, h2⟩ := hz
        (dsimp only at h1 h2 hv; subst h1 h2 hv; exact ⟨hget, rfl, rfl, trivial⟩)
      exact PySem.W.kia_one (PySem.W.handS_kitx_exc C.hg C.hk C.hs C.hd C.ha C.hn C.ht C.hm) I.kIn J e (fun z => nomatch z) fun tk => ⟨.bl b, H, I.kept (t' := tk) fun _ _ z => z, rfl, q⟩
/-- a class told by its name: is it one of the error's? -/
structure ClsAt (X : Cx) (D : Addr) (c : Str) (b : Bool) : Prop where
  gl : Gl X c
  db : (c == ("__debug__" : Str)) = false
  at_ : ∃ (cv : Value) (v : V), (X.mg c = some cv ∨ (X.mg c = none ∧ bootBuiltins c = some cv ∧ c ≠ "__name__")) ∧ RelV v cv ∧ (∀ u, RelV v u → u = cv) ∧ PySem.W.kitOne X.K (.ref D) cv = some b
def isiName : Expr → Option Str
  | .Call (.Name z _) [.Name y _, .Name c _] [] _ => if z = ("isinstance" : Str) ∧ y = ("e" : Str) then some c else none
  | _ => none
def isiNames : List Expr → Option (List Str)
  | [] => some []
  | e :: es => (isiName e).bind fun c => (isiNames es).map (c :: ·)
theorem isi_star {e : Expr} {c : Str} {es : List Expr} {env : PySem.Env} (h : isiName e = some c) : starEach (e :: es) env = (false, eval e env) :: starEach es env := by
  unfold isiName at h
  split at h
  · rfl
  · cases h
theorem pe_isi {a D : Addr} {oe : Obj} {c : Str} {b : Bool} {e : Expr} (C : ExcC X.K D) (hz : Zc (.ref D) none oe) (hf : ∃ vs, oe.data = .fields vs) (hp : (a, oe) ∈ X.pn) (gi : Gl X "isinstance") (mi : X.mg "isinstance" = none) (hN : X.N[0]? = some ("e" : Str)) (hv : Vis X.env.scope "e")
    (h : isiName e = some c) (k : ClsAt X D c b) : PE X e (fun σ H Q => σ[0]? = some (some (.ref a)) ∧ Q (.bl b) H) := by
  unfold isiName at h
  split at h
  · split at h
    · rename_i hc
      cases h
      obtain ⟨rfl, rfl⟩ := hc
      obtain ⟨cv, v, hm, rv, uv, ek⟩ := k.at_
      have pc : ∀ pp : Pos, PE X (.Name c pp) (tC v) := fun pp => by
        rcases hm with hm | ⟨hm, hb, hn⟩
        · exact pe_glob k.gl hm rv k.db
        · exact pe_bltn k.gl hm hb rv hn k.db
      have q := fun (u1 u2 u3 u4 : Pos) => pe_callB (p := u1) (pos := u2) (call_isH C hz hf hp) gi mi boot_isinstance (pa_cons (pe_var (pos := u3) (i := 0) hN hv) (pa_cons (pc u4) pa_nil (by rfl)) (by rfl)) (by decide) (by decide) (by rfl) (by rfl)
      exact ⟨fun pins s σ H Q I w => (q _ _ _ _).run pins s σ H Q I ⟨_, w.1, v, cv, b, rfl, uv, ek, w.2⟩⟩
    · cases h
  · cases h
theorem pa_isis {a D : Addr} {oe : Obj} (C : ExcC X.K D) (hz : Zc (.ref D) none oe) (hf : ∃ vs, oe.data = .fields vs) (hp : (a, oe) ∈ X.pn) (gi : Gl X "isinstance") (mi : X.mg "isinstance" = none) (hN : X.N[0]? = some ("e" : Str)) (hv : Vis X.env.scope "e") :
    ∀ {es : List Expr} {cs : List Str} {bs : List Bool}, isiNames es = some cs → Paired (ClsAt X D) cs bs → PA X es (fun σ H Q => σ[0]? = some (some (.ref a)) ∧ Q (bs.map V.bl) H)
  | [], cs, bs, h, k => by
    cases h
    cases k
    exact ⟨fun pos pins s σ H Q I w => pa_nil.run pos pins s σ H Q I w.2⟩
  | e :: es, cs, bs, h, k => by
    unfold isiNames at h
    cases h1 : isiName e with
    | none => rw [h1] at h; cases h
    | some c =>
      cases h2 : isiNames es with
      | none => rw [h1, h2] at h; cases h
      | some r =>
        rw [h1, h2] at h
        obtain rfl : c :: r = cs := Option.some.inj h
        cases k with
        | cons k1 k2 =>
          have q := pa_cons (pe_isi C hz hf hp gi mi hN hv h1 k1) (pa_isis C hz hf hp gi mi hN hv h2 k2) (isi_star h1)
          exact ⟨fun pos pins s σ H Q I w => q.run pos pins s σ H Q I ⟨w.1, w.1, w.2⟩⟩
/-- the words whose flag is set -/
def pick : List Str → List Bool → List Str
  | x :: xs, b :: bs => if b then x :: pick xs bs else pick xs bs
  | _, _ => []
/-- the def's text: the classes, the labels, the comprehension's scope -/
def ckNm (body : List Stmt) : Option (List Str × Str × Str × Scope) :=
  match body with
  | [.Assign [.Name n1 _] (.List es _) _, .Assign [.Name n2 _] (.Constant (.str l1) _ _) _, .Assign [.Name n3 _] (.BinOp (.Name n4 _) .Add (.Constant (.str l2) _ _) _) _,
     .Return (some (.Call (.Attribute (.Constant (.str s1) _ _) m1 ap1) [.ListComp (.Name n5 _) [⟨.Tuple [.Name n6 _, .Name n7 _] _ _, .Call (.Name n8 _) [.Call (.Attribute (.Name n9 _) m2 ap2) [.Constant (.str s2) _ _] [] cp2, .Name n10 _] [] _, [.Name n11 _], 0⟩] scope _] [] cp1)) _] =>
    if n1 = ("some" : Str) ∧ n2 = ("labels" : Str) ∧ n3 = ("labels" : Str) ∧ n4 = ("labels" : Str) ∧ s1 = (" " : Str) ∧ m1 = ("join" : Str) ∧ n5 = ("word" : Str) ∧ n6 = ("word" : Str) ∧ n7 = ("good" : Str) ∧ n8 = ("zip" : Str) ∧ n9 = ("labels" : Str) ∧ m2 = ("split" : Str) ∧ s2 = (" " : Str) ∧ n10 = ("some" : Str) ∧ n11 = ("good" : Str) ∧
        (ap1.endLine == cp1.line) = true ∧ (ap2.endLine == cp2.line) = true then (isiNames es).map fun cs => (cs, l1, l2, scope) else none
  | _ => none
def nmN : List Str := ["e", "some", "labels", "word", "good"]
/-- the names within it -/
structure NmSc (X : Cx) (scope : Scope) : Prop where
  N : X.N = nmN
  fn : ∀ x, X.fn x = true
  sc : X.env.scope.names.lookup ("e" : Str) = some .local ∧ X.env.scope.names.lookup ("some" : Str) = some .local ∧ X.env.scope.names.lookup ("labels" : Str) = some .local
  gz : Gl X "zip" ∧ X.mg "zip" = none
  gi : Gl X "isinstance" ∧ X.mg "isinstance" = none
  bo : BlkOk X.N X.env.scope scope [(("word" : Str), 3), (("good" : Str), 4)]
  wl : scope.names.lookup ("word" : Str) = some .local ∧ scope.names.lookup ("good" : Str) = some .local
def Ext (H H' : Hp) : Prop := ∀ b o, H b = some o → H' b = some o
theorem Ext.upd {H H' : Hp} (e : Ext H H') {p : Addr} {o : HO} (n : H' p = none) : Ext H (L2.upd H' p o) := fun b u q => by
  rw [upd_ne (ne_of_none (e b u q) n)]
  exact e b u q
theorem names_body {a D : Addr} {oe : Obj} {body : List Stmt} {cs : List Str} {bs : List Bool} {l1 l2 : Str} {scope : Scope} (hc : HotC X) (nd : X.N.Nodup) (C : ExcC X.K D) (hz : Zc (.ref D) none oe) (hf : ∃ vs, oe.data = .fields vs) (hp : (a, oe) ∈ X.pn)
    (hb : ckNm body = some (cs, l1, l2, scope)) (S : NmSc X scope) (k : Paired (ClsAt X D) cs bs) (z1 : l1.length + l2.length + 2 ≤ sizeLine) (z2 : (Txt.split (l1 ++ l2) " ").length = bs.length) (z3 : bs.length ≤ 1000)
    (z4 : ((pick (Txt.split (l1 ++ l2) " ") bs).map (·.length)).sum + (pick (Txt.split (l1 ++ l2) " ") bs).length * (" " : Str).length ≤ 16777216) :
    ∃ t, PSs X body t ∧ ∀ (D : Ends) (H : Hp), (∀ H', Ext H H' → D.rt (.str (Txt.join " " (pick (Txt.split (l1 ++ l2) " ") bs))) H') → t D [some (.ref a), none, none, none, none] H := by
  unfold ckNm at hb
  split at hb
  · rename_i n1 x1 es x2 x3 n2 x4 l1' x5 x6 x7 n3 x8 n4 x9 l2' x10 x11 x12 x13 s1 x14 x15 m1 ap1 n5 x16 n6 x17 n7 x18 x19 x20 n8 x21 n9 x22 m2 ap2 s2 x23 x24 cp2 n10 x25 x26 n11 x27 scope' x28 cp1 x29
    split at hb
    · rename_i hq
      obtain ⟨rfl, rfl, rfl, rfl, rfl, rfl, rfl, rfl, rfl, rfl, rfl, rfl, rfl, rfl, rfl, la1, la2⟩ := hq
      cases hi : isiNames es with
      | none => rw [hi] at hb; cases hb
      | some cs' =>
        rw [hi] at hb
        obtain ⟨rfl, rfl, rfl, rfl⟩ : cs' = cs ∧ l1' = l1 ∧ l2' = l2 ∧ scope' = scope := by
          have := Option.some.inj hb
          cases this
          exact ⟨rfl, rfl, rfl, rfl⟩
        have hN : X.N = (["e", "some", "labels", "word", "good"] : List Str) := S.N
        have vis : ∀ {x : Str}, X.env.scope.names.lookup x = some .local → Vis X.env.scope x := fun h => .inl h
        have hcs : ∀ (s : Shared) (H : Hp) (C : Addr) (cl : List (Str × Addr)) (fp : List Addr), HotC (blkH X s H scope' (compEnvC scope' cl C X.env) fp) := fun _ _ _ _ _ => hc
        have lw : ∀ (s : Shared) (H : Hp) (C : Addr) (cl : List (Str × Addr)) (fp : List Addr) (x : Str), scope'.names.lookup x = some .local → (blkH X s H scope' (compEnvC scope' cl C X.env) fp).env.scope.names.lookup x = some .local := fun s H C cl fp x h => lookup_relS_keep (by decide) h
        have b1 := ps_set (i := 1) (pos := x3) (pos' := x1) nd (by rw [hN]; rfl) (.inl S.sc.2.1) (pe_lst (pos := x2) (pa_isis C hz hf hp S.gi.1 S.gi.2 (by rw [hN]; rfl) (vis S.sc.1) hi k)) (by rfl) (.inr S.sc.2.1)
        have b2 := ps_set (i := 2) (pos := x7) (pos' := x4) nd (by rw [hN]; rfl) (.inl S.sc.2.2) (pe_str (X := X) (x := l1') (j := x5) (pos := x6)) (by rfl) (.inr S.sc.2.2)
        have b3 := ps_set (i := 2) (pos := x13) (pos' := x8) nd (by rw [hN]; rfl) (.inl S.sc.2.2) (pe_op (pos := x12) op_add_str (pe_var (i := 2) (pos := x9) (by rw [hN]; rfl) (vis S.sc.2.2)) (pe_str (X := X) (x := l2') (j := x10) (pos := x11))) (by rfl) (.inr S.sc.2.2)
        have hz0 := pi_zipH (p := x21) (pos := x26) (tpos := x20) (elts := [.Name "word" x17, .Name "good" x18]) (kk := x19) S.gz.1 S.gz.2 (pa_cons (pe_split (apos := ap2) (pos := cp2) (pe_var (i := 2) (pos := x22) (by rw [hN]; rfl) (vis S.sc.2.2)) (pe_str (X := X) (x := " ") (j := x23) (pos := x24)) (by rfl) (by rfl) la2) (pa_cons (pe_var (i := 1) (pos := x25) (by rw [hN]; rfl) (vis S.sc.2.1)) pa_nil (by rfl)) (by rfl)) (by rfl) (by rfl)
        have lc := pe_lcH (pos := x28) (g := gTup X.K 2 (gCons (gName 3) (gCons (gName 4) gNil))) (tt := fun σ H Q => tVar 4 σ H fun x H' => ∃ k, TruV X.K x H' k ∧ Q k H') hc nd hz0 S.bo
          (fun s H C cl fp => pg_tupH (n := 2) (kk := x19) (pos := x20) (hcs s H C cl fp) (pgs_cons (pg_name (i := 3) (pos := x17) nd (by show X.N[3]? = _; rw [hN]; rfl) (.inl (lw s H C cl fp "word" S.wl.1)) (.inr (lw s H C cl fp "word" S.wl.1))) (pgs_cons (pg_name (i := 4) (pos := x18) nd (by show X.N[4]? = _; rw [hN]; rfl) (.inl (lw s H C cl fp "good" S.wl.2)) (.inr (lw s H C cl fp "good" S.wl.2))) pgs_nil (by rfl)) (by rfl)) (by rfl) (by rfl))
          (fun s H C cl fp => pts_one (pt_truth (pe_var (i := 4) (pos := x27) (by show X.N[4]? = _; rw [hN]; rfl) (.inl (lw s H C cl fp "good" S.wl.2))) (by intro _; rfl)))
          (fun s H C cl fp => pe_var (i := 3) (pos := x16) (by show X.N[3]? = _; rw [hN]; rfl) (.inl (lw s H C cl fp "word" S.wl.1))) (by intro _; rfl)
        have b4 := ps_ret (pos := x29) (pe_join (apos := ap1) (pos := cp1) (pe_str (X := X) (x := " ") (j := x14) (pos := x15)) lc (by rfl) (by rfl) la1)
        refine ⟨_, pss_cons b1 (pss_cons b2 (pss_cons b3 (pss_one b4))), fun E H hE => ?_⟩
        generalize hws : Txt.split (l1' ++ l2') " " = ws at z2 z4 hE
        refine ⟨rfl, by rw [List.length_map]; exact Nat.le_trans z3 (by rw [sizeLine_eq]; omega), fun p1 n1 => ?_⟩
        refine ⟨_, rfl, _, _, rfl, rfl, by omega, ⟨_, rfl⟩, ?_⟩
        refine ⟨_, rfl, ⟨_, rfl⟩, _, _, rfl, rfl, by decide, by rw [Str.length_append]; omega, fun p2 n2 => ⟨_, rfl, p2, p1, ws.map V.str, bs.map V.bl, rfl, ?_, ?_, fun L nL => ?_⟩⟩
        · rw [hws]
          exact .inl (.inl upd_same)
        · exact .inl (.inl (by rw [upd_ne (ne_of_none (upd_same (H := H)) n2)]; exact upd_same))
        · rw [hws] at nL ⊢
          have hL1 : L ≠ p1 := fun z => by rw [z, upd_ne (ne_of_none (upd_same (H := H)) n2), upd_same] at nL; cases nL
          have hL2 : L ≠ p2 := fun z => by rw [z, upd_same] at nL; cases nL
          have e0 : Ext H (upd (upd H p1 (.lst (bs.map V.bl))) p2 (.lst (ws.map V.str))) := Ext.upd (Ext.upd (fun _ _ z => z) n1) n2
          refine ⟨fun i m Hc => m = ws.length - i ∧ i ≤ ws.length ∧ Ext H Hc ∧ Hc p1 = some (.lst (bs.map V.bl)) ∧ Hc p2 = some (.lst (ws.map V.str)) ∧ H L = none ∧ ∃ acc, Hc L = some (.lst (acc.map V.str)) ∧ acc.length ≤ i ∧ acc ++ pick (ws.drop i) (bs.drop i) = pick ws bs, ?_, ?_⟩
          · refine ⟨_, rfl, Nat.zero_le _, Ext.upd e0 nL, ?_, ?_, ?_, [], upd_same, Nat.le_refl _, rfl⟩
            · rw [upd_ne hL1.symm, upd_ne (ne_of_none (upd_same (H := H)) n2)]
              exact upd_same
            · rw [upd_ne hL2.symm]
              exact upd_same
            · cases q : H L with
              | none => rfl
              | some o => rw [e0 _ _ q] at nL; cases nL
          · rintro i m Hc ⟨rfl, hi, ex, q1, q2, nLH, acc, qL, la, ea⟩
            by_cases hlt : i < ws.length
            · have hlb : i < bs.length := by omega
              refine .inr ⟨⟨ws.map V.str, bs.map V.bl, .str ws[i], .bl bs[i], .inl (.inl q2), .inl (.inl q1), by simp [hlt], by simp [hlb]⟩, fun H' => Ext H H' ∧ H' p1 = some (.lst (bs.map V.bl)) ∧ H' p2 = some (.lst (ws.map V.str)) ∧ ∃ acc, H' L = some (.lst (acc.map V.str)) ∧ acc.length ≤ i + 1 ∧ acc ++ pick (ws.drop (i + 1)) (bs.drop (i + 1)) = pick ws bs,
                fun H' ⟨r1, r2, r3, r4⟩ => ⟨_, by omega, rfl, hlt, r1, r2, r3, nLH, r4⟩, fun x H' ⟨P, x0, y0, eP, nP, eH, fx, fy⟩ => ?_⟩
              subst eP
              subst eH
              have ex0 : x0 = .str ws[i] := by
                have z := fx (ws.map V.str) (.inl (.inl q2))
                rw [List.getElem?_map, List.getElem?_eq_getElem hlt] at z
                exact (Option.some.inj z).symm
              have ey0 : y0 = .bl bs[i] := by
                have z := fy (bs.map V.bl) (.inl (.inl q1))
                rw [List.getElem?_map, List.getElem?_eq_getElem hlb] at z
                exact (Option.some.inj z).symm
              subst ex0
              subst ey0
              rw [List.drop_eq_getElem_cons hlt, List.drop_eq_getElem_cons hlb] at ea
              have exP : Ext H (upd Hc P (.tup [.str ws[i], .bl bs[i]])) := Ext.upd ex nP
              refine ⟨P, _, rfl, .inl (.inl upd_same), rfl, _, _, rfl, _, _, rfl, rfl, rfl, _, rfl, bs[i], rfl, ?_⟩
              cases qb : bs[i] with
              | false =>
                rw [qb] at ea
                simp only [Bool.false_eq_true, if_false]
                rw [qb] at exP
                exact ⟨exP, by rw [upd_ne (ne_of_none q1 nP)]; exact q1, by rw [upd_ne (ne_of_none q2 nP)]; exact q2, acc, by rw [upd_ne (ne_of_none qL nP)]; exact qL, Nat.le_succ_of_le la, ea⟩
              | true =>
                rw [qb] at ea
                simp only [if_true]
                rw [qb] at exP
                have up : ∀ b o, b ≠ L → Hc b = some o → upd (upd Hc P (.tup [.str ws[i], .bl true])) L (.lst (acc.map V.str ++ [.str ws[i]])) b = some o := fun b o nb e => by
                  rw [upd_ne nb, upd_ne (ne_of_none e nP)]
                  exact e
                refine ⟨_, rfl, acc.map V.str, by rw [upd_ne (ne_of_none qL nP)]; exact qL, ?_, fun b o e => up b o (ne_of_none e nLH) (ex b o e), up _ _ hL1.symm q1, up _ _ hL2.symm q2, acc ++ [ws[i]], ?_, by simpa using la, ?_⟩
                · rw [List.length_map, sizeLine_eq]
                  omega
                · rw [List.map_append]
                  exact upd_same
                · rw [← ea]
                  simp [pick]
            · have e : i = ws.length := by omega
              subst e
              rw [List.drop_length] at ea
              have ea : acc = pick ws bs := by
                rw [← ea]
                simp [pick]
              subst ea
              exact .inl ⟨⟨ws.map V.str, .inl (.inl q2), by simp⟩, _, _, _, rfl, rfl, .inl (.inl (.inl qL)), z4, hE Hc ex⟩
    · cases hb
  · cases hb
end
end Ht
set_option Elab.async false
set_option linter.all false
set_option maxRecDepth 100000
set_option maxHeartbeats 4000000
/-! Ht4: a lambda handed to the def that catches. -/
namespace Ht
open PySem PySem.Spec PyProof.Rows HotX L2 L2H LamX
/-- a lambda's making: all but the tables stays, tables stay tables -/
structure ExtT (H H1 : Hp) : Prop where
  keep : ∀ b o, H b = some o → (∀ ps, o ≠ .tbl ps) → H1 b = some o
  tab : ∀ b ps, H b = some (.tbl ps) → ∃ qs, H1 b = some (.tbl qs)
theorem ExtT.refl (H : Hp) : ExtT H H := ⟨fun _ _ e _ => e, fun _ ps e => ⟨ps, e⟩⟩
section
variable {X : Cx} {pins : List (Addr × Obj)} {σ : L2.St} {H : Hp} {s : Shared}
theorem made {T : List (Addr × Str)} {c P : Addr} {params : Arguments} {body : Expr} {scope : Scope} {pos : Pos} {E : Value → Shared → Prop} {Q : Value → Shared → Prop} (I : Inv X pins σ H s) (TB : TabB X.base X.mg c P) (hcode : X.env.code = .ref c)
    (hm : (P, X.env.qual ++ "<lambda>") ∈ T) (hu : ∀ p ∈ T, p.1 = P → p.2 = X.env.qual ++ "<lambda>") (hT : Tabs T H) (hdef : defaultsOf params X.env = ([], [])) (hfree : ∀ y ∈ scope.names, y.2 = .free → ∃ c, X.env.cells.lookup y.1 = some c)
    (h : ∀ (f c' : Addr) (pm ctv : Value) (H1 : Hp) (s' : Shared), Inv X pins σ H1 s' → ExtT H H1 → Tabs T H1 →
      s'.heap.get? f = some (PySem.W.kla_obj "<lambda>" (X.env.qual ++ "<lambda>") params body scope (cloFrom X.env.cells scope.names []) pm c' ctv) → H1 f = none → f ∉ frs X.stack → H1 c' = some (CodeO c' (X.env.qual ++ "<lambda>")) → Q (.ref f) s') : wpAny (model X.prog X.w) X.A (eval (.Lambda params body scope pos) X.env) Q E s := by
  obtain ⟨ps, hP, ht, ha⟩ := hT _ hm
  refine PySem.W.kla_eval hdef ?_
  have hP' : s.heap.get? P = some { cls := .none, data := .fields ps } := I.hok P _ hP
  have nofr : ∀ f, s.heap.objs.size ≤ f → f ∉ frs X.stack := fun f hf z => (List.mem_cons.mp (I.stkSub _ z)).elim (fun e => Nat.lt_irrefl _ (Nat.lt_of_lt_of_le (e ▸ I.lt) hf)) (I.nofs hf)
  cases hc : codeAmong pos ps.toList with
  | none =>
    refine PySem.W.kla_makeFunction (mg := X.mg) (c := c) (P := P) (ps := ps) (closure_ok hfree) I.ok.glob (I.mod.glob.keeps I.bk) hcode (TB.code.keeps I.bk) hP' ht hc TB.gP (TB.bm.keeps I.bk) fun c' ctv g tk hx hge hlt hrec htb => ?_
    obtain ⟨c2, oc, vs, t, e2, hoc, hd, hv⟩ := hrec
    cases e2
    have sz : s.heap.objs.size ≤ g.objs.size := Nat.le_trans hge (Nat.le_of_lt hlt)
    have nC : H c' = none := I.hok.fresh hge
    have I1 := inv_table (t' := tk) (more := #[rawInt pos.line, rawInt pos.col, .ref c']) (h' := g.push (PySem.W.kla_obj "<lambda>" (X.env.qual ++ "<lambda>") params body scope (cloFrom X.env.cells scope.names []) ((X.mg "__name__").getD .none) c' ctv)) I hP (fun b o hb e => Heap.get?_push_of_some _ (hx b o hb e)) (Heap.get?_push_of_some _ htb) hge ⟨oc, vs, t, Heap.get?_push_of_some _ hoc, hd, hv⟩
    have atP : upd (upd H P (.tbl (ps ++ #[rawInt pos.line, rawInt pos.col, .ref c']))) c' (CodeO c' (X.env.qual ++ "<lambda>")) P = some (.tbl (ps ++ #[rawInt pos.line, rawInt pos.col, .ref c'])) := by rw [upd_ne (ne_of_none hP nC), upd_same]
    have other : ∀ b, b ≠ P → H b ≠ none → upd (upd H P (.tbl (ps ++ #[rawInt pos.line, rawInt pos.col, .ref c']))) c' (CodeO c' (X.env.qual ++ "<lambda>")) b = H b := fun b hb nb => by rw [upd_ne (fun z => nb (by rw [z]; exact nC)), upd_ne hb]
    have hE : ExtT H (upd (upd H P (.tbl (ps ++ #[rawInt pos.line, rawInt pos.col, .ref c']))) c' (CodeO c' (X.env.qual ++ "<lambda>"))) := ⟨fun b o e n => by
      rw [other b (fun z => n ps (Option.some.inj (e.symm.trans (by rw [z]; exact hP)))) (by rw [e]; exact fun z => nomatch z)]
      exact e, fun b qs e => by
      by_cases hb : b = P
      · exact ⟨_, by rw [hb]; exact atP⟩
      · exact ⟨qs, by rw [other b hb (by rw [e]; exact fun z => nomatch z)]; exact e⟩⟩
    have eL : (ps ++ #[rawInt pos.line, rawInt pos.col, .ref c']).toList = ps.toList ++ [rawInt pos.line, rawInt pos.col, .ref c'] := by simp
    refine h g.objs.size c' ((X.mg "__name__").getD .none) ctv _ _ I1 hE (fun p hp => ?_) (Heap.get?_push_size _ rfl) (by rw [upd_ne (Nat.ne_of_gt hlt), upd_ne (Nat.ne_of_gt (Nat.lt_of_lt_of_le (Heap.lt_size hP') sz))]; exact I.hok.fresh sz) (nofr _ sz) upd_same
    by_cases hb : p.1 = P
    · rw [hu p hp hb, hb]
      refine ⟨_, atP, by rw [eL]; exact PySem.TriplesOk_snoc _ _ _ _ ht, fun p' cv hcv => ?_⟩
      rw [eL] at hcv
      rcases among_app _ ht hcv with z | z
      · obtain ⟨c0, e1, e2⟩ := ha p' cv z
        exact ⟨c0, e1, hE.keep _ _ e2 codeO_ne⟩
      · exact ⟨c', z, upd_same⟩
    · obtain ⟨qs, a1, a2, a3⟩ := hT p hp
      refine ⟨qs, (other _ hb (by rw [a1]; exact fun z => nomatch z)).trans a1, a2, fun p' cv hcv => ?_⟩
      obtain ⟨c0, e1, e2⟩ := a3 p' cv hcv
      exact ⟨c0, e1, hE.keep _ _ e2 codeO_ne⟩
  | some cv =>
    obtain ⟨c', rfl, hco⟩ := ha pos cv hc
    refine PySem.W.kla_makeFunctionHit (mg := X.mg) (c := c) (P := P) (ps := ps) (closure_ok hfree) I.ok.glob (I.mod.glob.keeps I.bk) hcode (TB.code.keeps I.bk) hP' ht hc (TB.bm.keeps I.bk) fun ctv g tk hx hsz => ?_
    have I1 : Inv X pins σ H { s with heap := g.push (PySem.W.kla_obj "<lambda>" (X.env.qual ++ "<lambda>") params body scope (cloFrom X.env.cells scope.names []) ((X.mg "__name__").getD .none) c' ctv), toks := tk } := I.kept fun b o e => Heap.get?_push_of_some _ (hx b o e)
    exact h g.objs.size c' ((X.mg "__name__").getD .none) ctv H _ I1 (ExtT.refl H) hT (Heap.get?_push_size _ rfl) (I.hok.fresh hsz) (nofr _ hsz) hco
/-- the lambda's context -/
abbrev lamN (X : Cx) (A : Around) (outer : List PySem.Env) (s : Shared) (H : Hp) (E : XK) (scope : Scope) (f c' : Addr) : Cx :=
  (lamCx X A outer s H E scope f c').wish fun e s' => wpAny (model X.prog X.w) (A.deeper (lamEnv X scope s.heap.objs.size f c')) (leaving (lamEnv X scope s.heap.objs.size f c') e) (fun _ s2 => L2N.CX X.prog X.w outer H s E e s2) (fun e' s2 => L2N.CX X.prog X.w outer H s E e' s2) s'
theorem lamN_takes {A : Around} {outer : List PySem.Env} {E : XK} {scope : Scope} {f c' : Addr} : L2N.Takes (lamN X A outer s H E scope f c') (fun cls d _ H => E cls d H) := L2N.takes_of rfl rfl rfl rfl
/-- the lambda called, in the def that got it -/
theorem pe_actN {Ng : List Str} {qg : Str} {sg : Scope} {g f c' : Addr} {cdg pm ctv : Value} {params : Arguments} {body : Expr} {scope : Scope} {k : Nat} {a : Str} {pn : List (Addr × Obj)} {xe : Value → Shared → Prop} {W : WX} {E : XK} {tb : TE} {p1 p2 : Pos}
    (I : Inv X pins σ H s) (L : LamS X.env.scope scope) (hf : s.heap.get? f = some (PySem.W.kla_obj "<lambda>" (X.env.qual ++ "<lambda>") params body scope (cloFrom X.env.cells scope.names []) pm c' ctv)) (hfn : H f = none) (hfr : f ∉ frs X.stack)
    (hbind : bindArgs (PySem.W.kla_fn "<lambda>" (X.env.qual ++ "<lambda>") params body scope (cloFrom X.env.cells scope.names []) pm (.ref c') ctv) ⟨[], []⟩ = pure [])
    (tk : L2N.Takes ((cxOf C8.CX0 X.prog X.w X.K X.mg X.base Ng qg sg g cdg X.A X.stack s H C8.E0).tr pn xe) W) (hW : ∀ cls d σ' H', E cls d H' → W cls d σ' H') (hr : Room (k + 1) (X.A.deeper (envOfC qg sg s.heap.objs.size g cdg)))
    (hbody : ∀ (A : Around) (outer : List PySem.Env) (s : Shared) (H : Hp), Room k (A.deeper (lamEnv X scope s.heap.objs.size f c')) → PE (lamN X A outer s H E scope f c') body tb)
    (hN : Ng[0]? = some a) (hv : Vis sg a) (hd : (a == ("__debug__" : Str)) = false) (hcd : (a == ("__classdict__" : Str)) = false) :
    PE ((cxOf C8.CX0 X.prog X.w X.K X.mg X.base Ng qg sg g cdg X.A X.stack s H C8.E0).tr pn xe) (.Call (.Name a p1) [] [] p2) (fun σZ HZ Q => σZ[0]? = some (some (.ref f)) ∧ HZ c' = some (CodeO c' (X.env.qual ++ "<lambda>")) ∧ tb σ HZ Q) := by
  refine ⟨fun pinsZ sZ σZ HZ Q IZ ⟨hs, hc, ht⟩ => ?_⟩
  refine wpAny_Call_Name_kw (thn ((pe_var (pos := p1) (i := 0) hN hv hd hcd).run pinsZ sZ σZ HZ (fun v H1 => v = .ref f ∧ H1 = HZ) IZ ⟨.ref f, hs, rfl, rfl⟩) fun u s1 ⟨v, H1, I1, r1, ev, eH⟩ => ?_)
  subst ev
  rw [eH] at I1
  obtain rfl : u = Value.ref f := r1
  have of1 := I1.base.keep f _ hf hfn hfr (fun z => nomatch (show f ∈ ([] : List Addr) from z))
  refine PySem.W.callWith_F0 ⟨_, _, _, _, of1⟩ ?_
  obtain ⟨⟨oc, vs, t, hoc, hdc, hvc⟩, _, _⟩ := I1.hok c' _ hc
  have rc : codeAny (model X.prog X.w) (X.A.deeper (envOfC qg sg s.heap.objs.size g cdg)) (.call (.ref f) ⟨[], []⟩) (CR (L2N.CX X.prog X.w) (envOfC qg sg s.heap.objs.size g cdg :: X.stack) X.prog X.w HZ s1 Q E) s1 := by
    refine PySem.W.kla_callFunE hr.depth of1 rfl L.co L.gen rfl ⟨c', oc, vs, t, rfl, hoc, hdc, hvc⟩ ?_
    rw [hbind]
    refine wpAny_pure (wpAny_newFunctionEnv (fun y hy => (L.own y hy).2) (fun y hy => absurd hy (by simp)) (fun g2 hns hsb => ⟨I1.nolimit.fresh _ hsb, ?_⟩) L.kind)
    show codeAny _ _ (.expr body (lamEnv X scope s1.heap.objs.size f c')) _ _
    have kp : ∀ b o, s1.heap.get? b = some o → g2.get? b = some o := fun b o e => hsb.extBut b o (Nat.ne_of_lt (Heap.lt_size e)) (Heap.get?_push_of_some _ e)
    have J : Inv (lamN X (X.A.deeper (envOfC qg sg s.heap.objs.size g cdg)) (envOfC qg sg s.heap.objs.size g cdg :: X.stack) s1 HZ E scope f c') [] σ HZ { s1 with heap := g2, toks := s1.toks + ([] : List (Str × Value)).length } := Inv.wish (lam_start2 (E := E) I L I1.env0 hr.hd I1.base hns kp) _
    exact PySem.W.kla_codeExpr (wpAny_mono ((hbody _ _ s1 HZ (hr.deeper _)).run [] _ _ HZ Q J ht) (fun v s' ⟨w', H', J', rv, q⟩ => ⟨w', H', J'.os, J'.bare, J'.base, J'.hok, rv, q⟩) fun e s' hq => hq)
  have hx : Passes (L2N.CX X.prog X.w) ((cxOf C8.CX0 X.prog X.w X.K X.mg X.base Ng qg sg g cdg X.A X.stack s H C8.E0).tr pn xe) E := L2N.passes_call tk hW
  refine wpAny_call (codeAny_mono rc fun r s' hq => ?_)
  cases r with
  | error e => exact hx pinsZ σZ HZ s1 e s' I1 hq
  | ok fl => cases fl <;> first | exact I1.after hq | exact False.elim hq
/-- a def called while an exception is handled: its body, at the very state -/
theorem hot_call {p : Addr × Obj} {k : Nat} {f : Addr} {name qual : Str} {params : Arguments} {body : List Stmt} {scope : Scope} {dV kV doc pm cdv ct oc : Value} {an od : Option Addr} {osl : Array (Option Value)} {N ps : List Str} {us : List Value} {vs : List V} {Q : VK} (hot : Hot1 X.A p) (hp : p ∈ X.pn)
    (lk : X.K.lookup f = some ⟨oc, od, .func (PySem.W.fnOf name qual params body scope dV kV doc pm an cdv ct), osl⟩) (hcd : PySem.W.codeIn X.K cdv qual = true) (S : FnScope N ps scope) (hr : RoomH (k + 1) X.A) (I : Inv X pins σ H s)
    (hb : BindsTo s (PySem.W.fnOf name qual params body scope dV kV doc pm an cdv ct) ⟨us, []⟩ (ps.zip us)) (r : Vals vs us) (hl : vs.length = ps.length)
    (hbody : ∃ t, PSs (cxH C8.CX0 X.prog X.w X.K X.mg X.base N qual scope f cdv X.A X.stack s H C8.E0 p) body t ∧ t { nx := fun _ H' => Q .non H', rt := Q } (L2.start N vs) H) : wpAny (model X.prog X.w) X.A (call (.ref f) us) (EP X pins σ Q) X.xe s := by
  have e0 := I.env0
  have P1 := I.pin p (List.mem_append_left _ hp)
  have hpin : PinOk X.stack H s p := ⟨P1.1, P1.2.1, fun hm => (List.mem_cons.mp (I.stkSub p.1 hm)).elim P1.2.2.1 P1.2.2.2.1, P1.2.2.2.2⟩
  have lim : s.heap.NoLimit := e0.mod.nolimit.keeps fun b o e => (e0.bs b o e).1
  have kinds : ∀ y ∈ ps.zip us, scope.names.lookup y.1 = some .local ∨ (scope.names.lookup y.1 = some .cell ∧ ((cellsFrom (s.heap.objs.size + 1) scope.names []).lookup y.1).isSome = true) := fun ⟨n, v⟩ hy => (S.par n (List.of_mem_zip hy).1).elim .inl fun q => .inr ⟨q, PySem.W.cellsFrom_some _ _ _ (.inl q)⟩
  have rc : codeAny (model X.prog X.w) X.A (.call (.ref f) ⟨us, []⟩) (CR C8.CX0 X.stack X.prog X.w H s Q C8.E0) s := by
    refine codeAny_call_function hr.depth (I.kIn _ _ lk) rfl S.co S.gen rfl (PySem.W.codeRec_of I.kIn hcd) (hb _ _ _ _ (wpAny_newFunctionEnv_cells S.kind kinds fun env he s1 x => ?_))
    subst he
    refine ⟨lim.keeps x.toInCall.keep, codeAny_func ?_⟩
    obtain ⟨t, ht, hq⟩ := hbody
    refine wpAny_mono (ht.run [] s1 (L2.start N vs) H _ (inv_startH S hpin e0 hl r x) hq) (fun fl s' hs => ?_) fun e s' hs => hs
    cases fl with
    | ret u => exact hs.elim fun v h => h.elim fun σ' h => h.elim fun H' h => ⟨v, H', h.1.os, h.1.bare, h.1.base, h.1.hok, h.2.1, h.2.2⟩
    | next => exact hs.elim fun σ' h => h.elim fun H' h => ⟨V.non, H', h.1.os, h.1.bare, h.1.base, h.1.hok, rfl, h.2⟩
    | brk => exact hs.elim fun _ h => h.elim fun _ h => h.2.elim
    | cont => exact hs.elim fun _ h => h.elim fun _ h => h.2.elim
  refine wpAny_call (codeAny_mono rc fun r s' hq => ?_)
  cases r with
  | error e => exact (show False from hq).elim
  | ok fl => cases fl <;> first | exact I.after hq | exact False.elim hq
end
/-! ### the def that labels -/
def lkp (sc : Scope) (x : Str) (k : NameKind) : Bool := decide (sc.names.lookup x = some k)
/-- its scope, the comprehension's -/
def nmScB (sc scope : Scope) : Bool :=
  lkp sc "e" .local && lkp sc "some" .local && lkp sc "labels" .local && lkp sc "zip" .globalImplicit && lkp sc "isinstance" .globalImplicit && blkC nmN sc scope [("word", 3), ("good", 4)] && lkp scope "word" .local && lkp scope "good" .local
/-- a class told by its name, whatever the frame -/
def ClsB (K : PySem.W.Frag) (mg : Str → Option Value) (sc : Scope) (D : Addr) (c : Str) (b : Bool) : Prop :=
  sc.names.lookup c = some .globalImplicit ∧ (c == ("__debug__" : Str)) = false ∧ ∃ (cv : Value) (v : V), (mg c = some cv ∨ (mg c = none ∧ bootBuiltins c = some cv ∧ c ≠ "__name__")) ∧ RelV v cv ∧ (∀ u, RelV v u → u = cv) ∧ PySem.W.kitOne K (.ref D) cv = some b
/-- the labelling def, as it stands -/
structure NmAt (K : PySem.W.Frag) (mg : Str → Option Value) (x : Str) where
  f : Addr
  oc : Value
  od : Option Addr
  osl : Array (Option Value)
  params : Arguments
  body : List Stmt
  sc : Scope
  dV : Value
  kV : Value
  doc : Value
  pm : Value
  an : Option Addr
  cdv : Value
  ct : Value
  gm : mg x = some (.ref f)
  kp : PySem.W.keepIn K (.ref f) = true
  lk : K.lookup f = some ⟨oc, od, .func (PySem.W.fnOf x x params body sc dV kV doc pm an cdv ct), osl⟩
  hcd : PySem.W.codeIn K cdv x = true
  bd : Binds K (PySem.W.fnOf x x params body sc dV kV doc pm an cdv ct) ["e"] []
  S : FnScope nmN ["e"] sc
  cs : List Str
  l1 : Str
  l2 : Str
  scope : Scope
  look : ckNm body = some (cs, l1, l2, scope)
  nsc : nmScB sc scope = true
  fz : mg "zip" = none
  fi : mg "isinstance" = none
  z1 : l1.length + l2.length + 2 ≤ sizeLine
/-- an error of the class at D bears the labels r -/
def Labels {K : PySem.W.Frag} {mg : Str → Option Value} {x : Str} (N : NmAt K mg x) (D : Addr) (r : Str) : Prop :=
  ExcC K D ∧ ∃ bs, Paired (ClsB K mg N.sc D) N.cs bs ∧ (Txt.split (N.l1 ++ N.l2) " ").length = bs.length ∧ bs.length ≤ 1000 ∧ ((pick (Txt.split (N.l1 ++ N.l2) " ") bs).map (·.length)).sum + (pick (Txt.split (N.l1 ++ N.l2) " ") bs).length * (" " : Str).length ≤ 16777216 ∧
    r = Txt.join " " (pick (Txt.split (N.l1 ++ N.l2) " ") bs)
section
variable {X : Cx} {pins : List (Addr × Obj)} {σ : L2.St} {H : Hp} {s : Shared}
theorem lkp_ok {sc : Scope} {x : Str} {k : NameKind} (h : lkp sc x k = true) : sc.names.lookup x = some k := of_decide_eq_true h
/-- it is called with the handled error -/
theorem pe_label {x : Str} {D a : Addr} {oe : Obj} {r : Str} {i k : Nat} {p pa pos : Pos} (N : NmAt X.K X.mg x) (L : Labels N D r) (hz : L2N.Zn (.ref D) none oe) (hf : ∃ vs, oe.data = .fields vs) (hp : (a, oe) ∈ X.pn) (hh : X.A.handled = some (.ref a)) (hr : RoomH (k + 1) X.A)
    (hg : Gl X x) (hN : X.N[i]? = some ("e" : Str)) (hv : Vis X.env.scope "e") (hdb : (x == ("__debug__" : Str)) = false) : PE X (.Call (.Name x p) [.Name "e" pa] [] pos) (fun σ H Q => σ[i]? = some (some (.ref a)) ∧ ∀ H', Ext H H' → Q (.str r) H') := by
  refine ⟨fun pins s σ H Q I ⟨h1, h2⟩ => ?_⟩
  have ha : PA X [.Name "e" pa] (tCons (tVar i) tNil) := pa_cons (pe_var hN hv) pa_nil (by rfl)
  refine wpAny_Call_Name_kw (ld_glob I hg N.gm (PySem.W.callWith_K (h₀ := X.base) I.ok.mod.kin N.kp (thn (ha.run pos pins s σ H (fun vs H1 => vs = [.ref a] ∧ H1 = H) I ⟨_, h1, rfl, rfl⟩) fun us s1 ⟨vs, H1, I1, r1, ev, eH⟩ => ⟨I1.kIn, ?_⟩) (by rfl) (by rfl)) hdb)
  subst ev
  rw [eH] at I1
  obtain ⟨C, bs, k1, z2, z3, z4, rfl⟩ := L
  obtain ⟨vs0, hd⟩ := hf
  have hot : Hot1 X.A (a, oe) := ⟨hh, vs0, hd, hz.2.2 vs0 hd⟩
  have ns := N.nsc
  unfold nmScB at ns
  simp only [Bool.and_eq_true] at ns
  obtain ⟨⟨⟨⟨⟨⟨⟨n1, n2⟩, n3⟩, n4⟩, n5⟩, n6⟩, n7⟩, n8⟩ := ns
  have hus : us.length = 1 := by rw [← r1.length]; rfl
  have bb := N.bd s1 us I1.kIn (by rw [List.append_nil]; exact hus)
  rw [List.append_nil] at bb
  refine hot_call hot hp N.lk N.hcd N.S hr I1 bb r1 rfl ?_
  have nm : NmSc (cxH C8.CX0 X.prog X.w X.K X.mg X.base nmN x N.sc N.f N.cdv X.A X.stack s1 H C8.E0 (a, oe)) N.scope := ⟨rfl, fun _ => rfl, ⟨lkp_ok n1, lkp_ok n2, lkp_ok n3⟩, ⟨lkp_ok n4, N.fz⟩, ⟨lkp_ok n5, N.fi⟩, blkOk_by n6, lkp_ok n7, lkp_ok n8⟩
  obtain ⟨t, ht, hq⟩ := names_body (X := cxH C8.CX0 X.prog X.w X.K X.mg X.base nmN x N.sc N.f N.cdv X.A X.stack s1 H C8.E0 (a, oe)) (a := a) (D := D) (oe := oe) (bs := bs) ⟨(a, oe), hot, List.mem_singleton.mpr rfl⟩ N.S.nd C hz.zc ⟨vs0, hd⟩ (List.mem_singleton.mpr rfl) N.look nm
    (L2.Paired.mapP k1 fun c b ⟨g1, g2, g3⟩ => ⟨g1, g2, g3⟩) N.z1 z2 z3 z4
  exact ⟨t, ht, hq _ H fun H' e => h2 H' e⟩
end
/-! ### the def that catches -/
/-- its text: the caught class, the labelling def -/
def ckCatch (body : List Stmt) : Option (Str × Str) :=
  match body with
  | [.Try [.Expr (.Call (.Name a _) [] [] _) _] [.ExceptHandler (some (.Name rx _)) (some n) [.Return (some (.Call (.Name nx _) [.Name n2 _] [] _)) _] _] [] [] _, .Return (some (.Constant (.str z) _ _)) _] =>
    if a = ("call" : Str) ∧ n = ("e" : Str) ∧ n2 = ("e" : Str) ∧ z = Str.empty then some (rx, nx) else none
  | _ => none
def caN : List Str := ["call", "e"]
structure CaAt (K : PySem.W.Frag) (mg : Str → Option Value) (x : Str) where
  f : Addr
  oc : Value
  od : Option Addr
  osl : Array (Option Value)
  params : Arguments
  body : List Stmt
  sc : Scope
  dV : Value
  kV : Value
  doc : Value
  pm : Value
  an : Option Addr
  cdv : Value
  ct : Value
  gm : mg x = some (.ref f)
  kp : PySem.W.keepIn K (.ref f) = true
  lk : K.lookup f = some ⟨oc, od, .func (PySem.W.fnOf x x params body sc dV kV doc pm an cdv ct), osl⟩
  hcd : PySem.W.codeIn K cdv x = true
  bd : Binds K (PySem.W.fnOf x x params body sc dV kV doc pm an cdv ct) ["call"] []
  S : FnScope caN ["call"] sc
  rx : Str
  nx : Str
  look : ckCatch body = some (rx, nx)
  sl : sc.names.lookup ("call" : Str) = some .local ∧ sc.names.lookup ("e" : Str) = some .local
  sg : sc.names.lookup rx = some .globalImplicit ∧ (rx == ("__debug__" : Str)) = false ∧ sc.names.lookup nx = some .globalImplicit ∧ (nx == ("__debug__" : Str)) = false
  R : Addr
  gR : mg rx = some (.ref R)
  N : NmAt K mg nx
section
variable {X : Cx} {pins : List (Addr × Obj)} {σ : L2.St} {H : Hp} {s : Shared}
theorem takesF {X : Cx} : L2N.Takes X (fun _ _ _ _ => False) := fun _ _ x => by
  obtain ⟨_, _, _, _, _, _, _, _, _, _, _, _, _, _, _, _, z⟩ := x
  exact z.elim
theorem takes_len {X : Cx} {W : WX} (t : L2N.Takes X W) : L2N.Takes X (fun c d σ H => σ.length = X.N.length → W c d σ H) := fun u s' ⟨a, B, sI, pins, σ, H, cls, d, e, I, nb, up, sky, na, os, ag, w⟩ => t u s' ⟨a, B, sI, pins, σ, H, cls, d, e, I, nb, up, sky, na, os, ag, w I.len⟩
/-- x(lambda: body): what is wanted of the body -/
def tCatch {K : PySem.W.Frag} {mg : Str → Option Value} {x : Str} (C : CaAt K mg x) (T : List (Addr × Str)) (t : XK → TE) : TE := fun σ H Q => Tabs T H ∧ ∀ H1, ExtT H H1 → Tabs T H1 →
  ∃ E : XK, (∀ cls d H2, E cls d H2 → ∃ D r, cls = .ref D ∧ d = none ∧ PySem.W.exmOne K (.ref D) (.ref C.R) = some true ∧ Labels C.N D r ∧ ∀ H3, Ext H2 H3 → Q (.str r) H3) ∧ t E σ H1 fun _ H2 => Q (.str Str.empty) H2
theorem pe_catch {T : List (Addr × Str)} {x : Str} {c P : Addr} {k : Nat} {params : Arguments} {body : Expr} {scope : Scope} {t : XK → TE} {p lpos pos : Pos} (C : CaAt X.K X.mg x) (hg : Gl X x) (hdb : (x == ("__debug__" : Str)) = false)
    (TB : TabB X.base X.mg c P) (hcode : X.env.code = .ref c) (hmT : (P, X.env.qual ++ "<lambda>") ∈ T) (hu : ∀ p ∈ T, p.1 = P → p.2 = X.env.qual ++ "<lambda>") (hr : Room (k + 2) X.A) (L : LamS X.env.scope scope) (hdef : defaultsOf params X.env = ([], []))
    (hbind : ∀ (q : Str) (cl : List (Str × Addr)) (pm cv ctv : Value), bindArgs (PySem.W.kla_fn "<lambda>" q params body scope cl pm cv ctv) ⟨[], []⟩ = pure [])
    (hbody : ∀ (A : Around) (outer : List PySem.Env) (s : Shared) (H : Hp) (E : XK) (f c' : Addr), Room k (A.deeper (lamEnv X scope s.heap.objs.size f c')) → PE (lamN X A outer s H E scope f c') body (t E)) :
    PE X (.Call (.Name x p) [.Lambda params body scope lpos] [] pos) (tCatch C T t) := by
  refine ⟨fun pins s σ H Q I ⟨hT, h⟩ => ?_⟩
  refine wpAny_Call_Name_kw (ld_glob I hg C.gm (PySem.W.callWith_K (h₀ := X.base) I.ok.mod.kin C.kp ?_ (by rfl) (by rfl)) hdb)
  show wpAny _ _ (spliced ((false, eval (.Lambda params body scope lpos) X.env) :: backTo pos (starEach [] X.env))) _ _ s
  refine Calls.spliced_cons (made I TB hcode hmT hu hT hdef (L.has I.ok) fun f c' pm' ctv H1 s' I1 eN T1 hf hfn hfr hco => Calls.spliced_nil ⟨I1.kIn, ?_⟩)
  obtain ⟨E, hE, ht⟩ := h H1 eN T1
  have rc : codeAny (model X.prog X.w) X.A (.call (.ref C.f) ⟨[.ref f], []⟩) (CR C8.CX0 X.stack X.prog X.w H1 s' Q C8.E0) s' := by
    refine run_ofS (N := caN) (ps := ["call"]) (us := [.ref f]) (vs := [.ref f]) C.lk C.hcd C.S hr I1.env0 (C.bd s' [.ref f] I1.kIn rfl) (.cons rfl .nil) rfl fun hr' => ?_
    have lk := C.look
    unfold ckCatch at lk
    generalize hbd : C.body = bd at lk
    split at lk
    · rename_i a y1 y2 y3 rx y4 n nx y5 n2 y6 y7 y8 y9 y10 z y11 y12 y13
      split at lk
      · rename_i hq
        obtain ⟨rfl, rfl, rfl, rfl⟩ := hq
        obtain ⟨e1, e2⟩ : rx = C.rx ∧ nx = C.nx := by
          have := Option.some.inj lk
          cases this
          exact ⟨rfl, rfl⟩
        subst e1
        subst e2
        have tr := ps_ret (X := (cxOf C8.CX0 X.prog X.w X.K X.mg X.base caN x C.sc C.f C.cdv X.A X.stack s' H1 C8.E0).nox) (pos := y13) (pe_str (x := Str.empty) (j := y11) (pos := y12))
        have nm : Names (cxOf C8.CX0 X.prog X.w X.K X.mg X.base caN x C.sc C.f C.cdv X.A X.stack s' H1 C8.E0).nox C.rx (.ref C.R) := ⟨C.sg.1, C.sg.2.1, .inl C.gR⟩
        have ty := L2N.ps_try_as (X := (cxOf C8.CX0 X.prog X.w X.K X.mg X.base caN x C.sc C.f C.cdv X.A X.stack s' H1 C8.E0).nox) (i := 1) (n := "e") (np := y4) (pos' := y9) (pos := y10) (body := [.Expr (.Call (.Name "call" y1) [] [] y2) y3]) (suite := []) (b₀ := .Return (some (.Call (.Name C.nx y5) [.Name "e" y6] [] y7)) y8)
          (tb := fun W D σ2 H2 => ∃ Ech : XK, (∀ cls d σ' H', Ech cls d H' → σ'.length = 2 → W cls d σ' H') ∧ σ2[0]? = some (some (.ref f)) ∧ H2 c' = some (CodeO c' (X.env.qual ++ "<lambda>")) ∧ t Ech σ H2 fun _ H3 => D.nx σ2 H3)
          (ts := fun a cls d D σ2 H2 => ∃ Dc r, cls = .ref Dc ∧ d = none ∧ σ2[1]? = some (some (.ref a)) ∧ Labels C.N Dc r ∧ ∀ H3, Ext H2 H3 → D.rt (.str r) H3)
          rfl rfl C.S.nd rfl C.sl.2 nm takesF
          (fun W pn xe tk _ => ⟨fun pins2 s2 σ2 H2 D2 I2 ⟨Ech, hW, h1, h2, h3⟩ => (pss_one (ps_expr (pos := y3) (pe_actN (p1 := y1) (p2 := y2) I1 L hf hfn hfr (hbind _ _ _ _ _) (takes_len tk) (fun cls d σ' H' z ln => hW cls d σ' H' z ln) hr' (fun A outer s H hr2 => hbody A outer s H Ech f c' hr2) rfl (.inl C.sl.1) (by decide) (by decide)) (by rfl))).run pins2 s2 σ2 H2 D2 I2 ⟨h1, h2, h3⟩⟩)
          (fun a oe cls d pn hz hf2 => ⟨fun pins2 s2 σ2 H2 D2 I2 ⟨Dc, r, e1, e2, h1, h2, h3⟩ => by
            subst e1
            subst e2
            exact (pss_one (ps_ret (pos := y8) (pe_label (X := Cx.suite (cxOf C8.CX0 X.prog X.w X.K X.mg X.base caN x C.sc C.f C.cdv X.A X.stack s' H1 C8.E0).nox a ((a, oe) :: pn)) (k := k) (i := 1) (p := y5) (pa := y6) (pos := y7) C.N h2 hz hf2 List.mem_cons_self rfl ⟨hr'.dp, hr'.un⟩ C.sg.2.2.1 rfl (.inl C.sl.2) C.sg.2.2.2))).run pins2 s2 σ2 H2 D2 I2 ⟨h1, h3⟩⟩)
        refine ⟨_, (pss_cons ty (pss_one tr)).nox, E, fun cls d σ' H' hEc ln => ?_, rfl, hco, ht⟩
        obtain ⟨Dc, r, e1, e2, h1, h2, h3⟩ := hE cls d H' hEc
        subst e1
        exact ⟨true, h1, fun _ a na => ⟨Dc, r, rfl, e2, List.getElem?_set_self (by rw [ln]; exact Nat.lt_succ_self 1), h2, h3⟩, fun z => by cases z⟩
      · cases lk
    · cases lk
  refine wpAny_call (codeAny_mono rc fun r s2 hq => ?_)
  cases r with
  | error e => exact (show False from hq).elim
  | ok fl => cases fl <;> first | exact I1.after hq | exact False.elim hq
end
end Ht
set_option Elab.async false
set_option linter.all false
set_option maxRecDepth 100000
/-! Ar1: a small language of our own, its meaning as plain Lean functions over data. -/
namespace Ar
open PySem

abbrev D := PyData

/-- a value: data (frozen), the script, an own object of the store -/
inductive Vl where
  | d (x : D)
  | scr (ns : List Int)
  | ref (n : Nat)

inductive Slot where
  | un
  | v (x : Vl)
  | own (xs : List D)

inductive SOb where
  | lst (xs : List D)

abbrev Sto := List SOb

inductive Res (α : Type) where
  | ok (a : α) (s : Sto)
  | ex (x : Str) (s : Sto)
  | bad

def Res.bind {α β : Type} (r : Res α) (f : α → Sto → Res β) : Res β :=
  match r with
  | .ok a s => f a s
  | .ex x s => .ex x s
  | .bad => .bad

/-- an error may not leave here -/
def Res.noex {α : Type} (r : Res α) : Res α :=
  match r with
  | .ok a s => .ok a s
  | _ => .bad

def Res.opt {α : Type} (o : Option α) (s : Sto) : Res α :=
  match o with
  | some a => .ok a s
  | none => .bad

theorem Res.bind_ok {α β : Type} (a : α) (s : Sto) (f : α → Sto → Res β) : (Res.ok a s).bind f = f a s := rfl
theorem Res.bind_bad {α β : Type} (f : α → Sto → Res β) : (Res.bad : Res α).bind f = .bad := rfl
theorem Res.opt_some {α : Type} (a : α) (s : Sto) : Res.opt (some a) s = .ok a s := rfl

inductive Bf where
  | len | tuple | list | abs | max2 | min2 | int | all | sum | str | sset | sort | bool
  deriving DecidableEq

inductive Mt where
  | index | join | split
  deriving DecidableEq

/-- expressions -/
inductive C where
  | var (i : Nat)
  | int (i : Int)
  | bl (b : Bool)
  | non
  | str (x : Str)
  | glob (x : Str) (i : Int)
  | bin (op : Operator) (a b : C)
  | neg (a : C)
  | cmp (op : CmpOp) (a b : C)
  | chain (op op' : CmpOp) (a b c : C)
  | not (a : C)
  | and (a b : C)
  | or (a b : C)
  | one (a : C)
  | ite (c a b : C)
  | tup (es : List C)
  | lst (es : List C)
  | newl (es : List C)
  | idx (a i : C)
  | slc (a : C) (lo hi : List C)
  | isi (a : C) (T : String)
  | call (f : Nat) (es : List C)
  | bf (b : Bf) (es : List C)
  | rng (tup : Bool) (es : List C)
  | comp (elt : C) (tg : List Nat) (tt : Bool) (ik : Nat) (its : List C) (ifs : List C) (own : List Nat)
  | comp2 (elt : C) (tg : List Nat) (tt : Bool) (ik : Nat) (its : List C) (tg1 : Nat) (it1 : C) (ifs1 : List C) (own : List Nat)
  | meth (m : Mt) (o : C) (es : List C)
  | oidx (k : Nat) (i : C)
  | err (body : C)

/-! ### values -/
def asD : Vl → Option D
  | .d x => some x
  | _ => none
def asInt : Vl → Option Int
  | .d (.int i) => some i
  | _ => none
def asBool : Vl → Option Bool
  | .d (.bool b) => some b
  | _ => none
def seqOf : D → Option (List D)
  | .list xs => some xs
  | .tuple xs => some xs
  | _ => none
def asSeq : Vl → Option (List D)
  | .d x => seqOf x
  | _ => none
def allD : List Vl → Option (List D)
  | [] => some []
  | .d x :: r => (allD r).map (x :: ·)
  | _ :: _ => none
def allInt : List D → Option (List Int)
  | [] => some []
  | .int i :: r => (allInt r).map (i :: ·)
  | _ :: _ => none
def allStr : List D → Option (List Str)
  | [] => some []
  | .str i :: r => (allStr r).map (i :: ·)
  | _ :: _ => none
def allBool : List D → Option (List Bool)
  | [] => some []
  | .bool i :: r => (allBool r).map (i :: ·)
  | _ :: _ => none
def flatD : D → Bool
  | .none => true
  | .bool _ => true
  | .int _ => true
  | .str _ => true
  | _ => false
def shp (d : D) : Bool := SeqAt.shaped d

/-- truth -/
def truth : Vl → Option Bool
  | .d .none => some false
  | .d (.bool b) => some b
  | .d (.int i) => some (i != 0)
  | .d (.list xs) => some (!xs.isEmpty)
  | .d (.tuple xs) => some (!xs.isEmpty)
  | _ => none

def lineB (n : Nat) : Bool := decide (n ≤ sizeLine)

def evBin (op : Operator) (a b : Vl) : Option Vl :=
  match op, a, b with
  | .Add, .d (.int i), .d (.int j) => some (.d (.int (i + j)))
  | .Sub, .d (.int i), .d (.int j) => some (.d (.int (i - j)))
  | .Mult, .d (.int i), .d (.int j) => if ((-(2 ^ 64) < i ∧ i < 2 ^ 64) ∨ (-(2 ^ 64) < j ∧ j < 2 ^ 64)) then some (.d (.int (i * j))) else none
  | .FloorDiv, .d (.int i), .d (.int j) => if 0 < j ∧ j < 1073741824 then some (.d (.int (i / j))) else none
  | .Mod, .d (.int i), .d (.int j) => if 0 < j then some (.d (.int (i % j))) else none
  | .Pow, .d (.int i), .d (.int j) => if 0 ≤ j ∧ j ≤ 1000000 ∧ i.natAbs < 2 ^ 64 then some (.d (.int (i ^ j.toNat))) else none
  | .Add, .d (.tuple xs), .d (.tuple ys) => if lineB (xs.length + ys.length) then some (.d (.tuple (xs ++ ys))) else none
  | .Add, .d (.list xs), .d (.list ys) => if lineB (xs.length + ys.length) then some (.d (.list (xs ++ ys))) else none
  | .Add, .d (.str x), .d (.str y) => if x.length + y.length ≤ sizeLine then some (.d (.str (x ++ y))) else none
  | .Mult, .d (.list xs), .d (.int k) => if -(2 ^ 63) ≤ k ∧ k < 2 ^ 63 ∧ xs.length * k.toNat ≤ sizeLine then some (.d (.list (List.replicate k.toNat xs).flatten)) else none
  | .Mult, .d (.tuple xs), .d (.int k) => if xs ≠ [] ∧ 2 ≤ k ∧ k ≤ 1000 ∧ xs.length ≤ 1000 then some (.d (.tuple (List.replicate k.toNat xs).flatten)) else none
  | _, _, _ => none

def evIn (x y : D) : Option Bool :=
  match y with
  | .list ys => if shp x && shp (.list ys) then some (ys.any fun z => PyData.eqv z x) else none
  | .tuple ys => if flatD x && ys.all flatD then some (ys.any fun z => PyData.eqv z x) else none
  | _ => none
def evIs (x y : D) : Option Bool :=
  match x, y with
  | .none, .none => some true
  | _, .none => some false
  | .bool a, .bool b => some (decide (a = b))
  | _, _ => none
def evCmp (op : CmpOp) (a b : Vl) : Option Bool :=
  match op, a, b with
  | .Lt, .d (.int i), .d (.int j) => some (decide (i < j))
  | .LtE, .d (.int i), .d (.int j) => some (decide (i ≤ j))
  | .Gt, .d (.int i), .d (.int j) => some (decide (j < i))
  | .GtE, .d (.int i), .d (.int j) => some (decide (j ≤ i))
  | .Eq, .d x, .d y => if shp x && shp y then some (PyData.eqv x y) else none
  | .NotEq, .d x, .d y => if shp x && shp y then some (!PyData.eqv x y) else none
  | .In, .d x, .d y => evIn x y
  | .NotIn, .d x, .d y => (evIn x y).map (!·)
  | .Is, .d x, .d y => evIs x y
  | .IsNot, .d x, .d y => (evIs x y).map (!·)
  | _, _, _ => none
def ofB (o : Option Bool) : Option Vl := o.map fun b => .d (.bool b)

def evIdx (a i : Vl) (st : Sto) : Option Vl :=
  match a, i with
  | .d (.list xs), .d (.int i) => (L2.atI xs i).map .d
  | .d (.tuple xs), .d (.int i) => (L2.atI xs i).map .d
  | .scr ns, .d (.int i) => (L2.atI ns i).map fun n => .d (.int n)
  | .ref n, .d (.int i) => match st[n]? with
    | some (.lst xs) => (L2.atI xs i).map .d
    | _ => none
  | _, _ => none
def cutD {α : Type} (xs : List α) (lo hi : Option Int) : List α := (xs.drop (HT.sIx xs.length 0 lo)).take (HT.sIx xs.length xs.length hi - HT.sIx xs.length 0 lo)
def bound (l : List Vl) : Option (Option Int) :=
  match l with
  | [] => some none
  | [v] => (asInt v).map some
  | _ => none
def evSlc (a : Vl) (lo hi : Option Int) : Option Vl :=
  match a with
  | .d (.list xs) => some (.d (.list (cutD xs lo hi)))
  | .d (.tuple xs) => some (.d (.tuple (cutD xs lo hi)))
  | _ => none
def evIsi (a : Vl) (T : String) : Option Bool :=
  match a with
  | .d .none => some false
  | .d (.bool _) => some (T == "bool" || T == "int")
  | .d (.int _) => some (T == "int")
  | .d (.str _) => some (T == "str")
  | .d (.list _) => some (T == "list")
  | .d (.tuple _) => some (T == "tuple")
  | _ => none

/-- ints ascending, each once -/
def insI (x : Int) : List Int → List Int
  | [] => [x]
  | y :: r => if x < y then x :: y :: r else if x = y then y :: r else y :: insI x r
def ssetI (xs : List Int) : List Int := xs.foldr insI []
/-- ints rising -/
def insS (x : Int) : List Int → List Int
  | [] => [x]
  | y :: r => if x ≤ y then x :: y :: r else y :: insS x r
def isort (xs : List Int) : List Int := xs.foldr insS []

def evBf (b : Bf) (vs : List Vl) : Option Vl :=
  match b, vs with
  | .len, [.d (.list xs)] => some (.d (.int xs.length))
  | .len, [.d (.tuple xs)] => some (.d (.int xs.length))
  | .len, [.scr ns] => some (.d (.int ns.length))
  | .tuple, [.d (.list xs)] => some (.d (.tuple xs))
  | .tuple, [.d (.tuple xs)] => some (.d (.tuple xs))
  | .list, [.d (.list xs)] => some (.d (.list xs))
  | .list, [.d (.tuple xs)] => some (.d (.list xs))
  | .abs, [.d (.int i)] => some (.d (.int (if i < 0 then -i else i)))
  | .max2, [.d (.int i), .d (.int j)] => some (.d (.int (if j > i then j else i)))
  | .min2, [.d (.int i), .d (.int j)] => some (.d (.int (if j < i then j else i)))
  | .int, [.d (.int i)] => some (.d (.int i))
  | .all, [.d (.list xs)] => (allBool xs).map fun bs => .d (.bool (bs.all id))
  | .sum, [.d (.list xs)] => (allInt xs).map fun ns => .d (.int ns.sum)
  | .sum, [.d (.tuple xs)] => (allInt xs).map fun ns => .d (.int ns.sum)
  | .sort, [.d (.list xs)] => (allInt xs).map fun ns => .d (.list ((isort ns).map .int))
  | .sset, [.d (.list xs)] => (allInt xs).bind fun ns => if ns.length < 64 then some (.d (.list ((ssetI ns).map .int))) else none
  | _, _ => none

def rngD (a b : Int) : List D := (List.range (b - a).toNat).map fun (k : Nat) => .int (a + (k : Int))
def dwnD (i j : Int) : List D := (List.range (i - j).toNat).map fun (k : Nat) => .int (i - (k : Int))
def okI (i : Int) : Bool := decide (-(2 ^ 62) ≤ i ∧ i < 2 ^ 62)
def items0 : List Vl → Option (List D)
  | [x] => asSeq x
  | _ => none
def items1 : List Vl → Option (List D)
  | [x] => (asInt x).bind fun n => if okI n && decide (n ≤ 16777216) then some (rngD 0 n) else none
  | [x, y] => (asInt x).bind fun a => (asInt y).bind fun b => if okI a && okI b && decide (b - a ≤ 16777216) then some (rngD a b) else none
  | [x, y, z] => (asInt x).bind fun a => (asInt y).bind fun b => (asInt z).bind fun c => if decide (c = -1) && okI a && okI b && decide (a - b ≤ 16777216) then some (dwnD a b) else none
  | _ => none
def numD : Nat → List D → List D
  | _, [] => []
  | k, x :: r => .tuple [.int k, x] :: numD (k + 1) r
def items2 : List Vl → Option (List D)
  | [x] => (asSeq x).map (numD 0)
  | _ => none
def items3 : List Vl → Option (List D)
  | [.d (.list xs), .d (.list ys)] => some (xs.zipWith (fun x y => .tuple [x, y]) ys)
  | [.d (.tuple xs), .d (.tuple ys)] => some (xs.zipWith (fun x y => .tuple [x, y]) ys)
  | _ => none
/-- what is walked -/
def evItems (ik : Nat) (vs : List Vl) : Option (List D) :=
  match ik with
  | 0 => items0 vs
  | 1 => items1 vs
  | 2 => items2 vs
  | 3 => items3 vs
  | _ => none
def evRng (tup : Bool) (vs : List Vl) : Option Vl :=
  let mk := fun (l : List D) => Vl.d (if tup then .tuple l else .list l)
  match vs with
  | [.d (.int n)] => if okI n && decide (n ≤ 16777216) then some (mk (rngD 0 n)) else none
  | [.d (.int a), .d (.int b)] => if okI a && okI b && decide (b - a ≤ 16777216) then some (mk (rngD a b)) else none
  | _ => none

/-- methods: of what, with what -/
def mtOk : Mt → Vl → Option Unit
  | .index, .d (.list _) => some ()
  | _, _ => none
def evMt (m : Mt) (x : Vl) (vs : List Vl) : Option Vl :=
  match m, x, vs with
  | .index, .d (.list ds), [.d d] => if shp (.list ds) && shp d then (ds.findIdx? fun z => PyData.eqv z d).map fun k => .d (.int (k : Int)) else none
  | _, _, _ => none

/-! ### slots -/
abbrev Env := List Slot
def wipeE (ρ : Env) : List Nat → Env
  | [] => ρ
  | v :: vs => (wipeE ρ vs).set v .un
def dropE (ρ : Env) : Env := ρ.map fun s => match s with
  | .own _ => .un
  | s => s
def blkE (ρ : Env) (own : List Nat) : Env := wipeE (dropE ρ) own
def setAll (ρ : Env) : List Nat → List D → Option Env
  | [], [] => some ρ
  | i :: is, x :: xs => setAll (ρ.set i (.v (.d x))) is xs
  | _, _ => none
def bindTg (tg : List Nat) (tt : Bool) (x : D) (ρ : Env) : Option Env :=
  match tt, tg, x with
  | false, [i], x => some (ρ.set i (.v (.d x)))
  | true, is, x => (seqOf x).bind fun xs => setAll ρ is xs
  | _, _, _ => none

/-- a list made item by item -/
def mapR {α : Type} (f : α → Sto → Res (List D)) : List α → Sto → Res (List D)
  | [], s => .ok [] s
  | x :: xs, s => (f x s).bind fun a s1 => (mapR f xs s1).bind fun b s2 => .ok (a ++ b) s2

/-- what stands about: how many turns a while may take, the defs, the names of an error's classes -/
structure Gd where
  fuel : Nat
  fn : Nat → List Vl → Sto → Res Vl
  nm : Str → Option Str
  fn2 : Option (Nat → List Vl → Sto → Res Vl)

mutual
def ev (G : Gd) : C → Env → Sto → Res Vl
  | .var i, ρ, s => match ρ[i]? with
    | some (.v x) => .ok x s
    | _ => .bad
  | .int i, _, s => .ok (.d (.int i)) s
  | .bl b, _, s => .ok (.d (.bool b)) s
  | .non, _, s => .ok (.d .none) s
  | .str x, _, s => .ok (.d (.str x)) s
  | .glob _ i, _, s => .ok (.d (.int i)) s
  | .bin op a b, ρ, s => (ev G a ρ s).bind fun x s1 => (ev G b ρ s1).bind fun y s2 => Res.opt (evBin op x y) s2
  | .neg a, ρ, s => (ev G a ρ s).bind fun x s1 => Res.opt ((asInt x).map fun i => .d (.int (-i))) s1
  | .cmp op a b, ρ, s => (ev G a ρ s).bind fun x s1 => (ev G b ρ s1).bind fun y s2 => Res.opt (ofB (evCmp op x y)) s2
  | .chain op op' a b c, ρ, s => (ev G a ρ s).bind fun x s1 => (ev G b ρ s1).bind fun y s2 => (Res.opt (evCmp op x y) s2).bind fun k s3 =>
      if k then (ev G c ρ s3).bind fun z s4 => Res.opt (ofB (evCmp op' y z)) s4 else .ok (.d (.bool false)) s3
  | .not a, ρ, s => (ev G a ρ s).bind fun x s1 => Res.opt ((truth x).map fun b => .d (.bool (!b))) s1
  | .and a b, ρ, s => (ev G a ρ s).bind fun x s1 => (Res.opt (asBool x) s1).bind fun k s2 => if k then ev G b ρ s2 else .ok (.d (.bool false)) s2
  | .or a b, ρ, s => (ev G a ρ s).bind fun x s1 => (Res.opt (asBool x) s1).bind fun k s2 => if k then .ok (.d (.bool true)) s2 else ev G b ρ s2
  | .one a, ρ, s => ev G a ρ s
  | .ite c a b, ρ, s => (ev G c ρ s).bind fun x s1 => (Res.opt (truth x) s1).bind fun k s2 => if k then ev G a ρ s2 else ev G b ρ s2
  | .tup es, ρ, s => (evL G es ρ s).bind fun vs s1 => Res.opt ((allD vs).map fun ds => .d (.tuple ds)) s1
  | .lst es, ρ, s => (evL G es ρ s).bind fun vs s1 => Res.opt ((allD vs).map fun ds => .d (.list ds)) s1
  | .newl es, ρ, s => (evL G es ρ s).bind fun vs s1 => match allD vs with
    | some ds => .ok (.ref s1.length) (s1 ++ [.lst ds])
    | none => .bad
  | .idx a i, ρ, s => (ev G a ρ s).bind fun x s1 => (ev G i ρ s1).bind fun y s2 => Res.opt (evIdx x y s2) s2
  | .slc a lo hi, ρ, s => (ev G a ρ s).bind fun x s1 => ((evL G lo ρ s1).bind fun l s2 => Res.opt (bound l) s2).bind fun l s2 =>
      ((evL G hi ρ s2).bind fun h s3 => Res.opt (bound h) s3).bind fun h s3 => Res.opt (evSlc x l h) s3
  | .isi a T, ρ, s => (ev G a ρ s).bind fun x s1 => Res.opt (ofB (evIsi x T)) s1
  | .call f es, ρ, s => (evL G es ρ s).bind fun vs s1 => G.fn f vs s1
  | .bf b es, ρ, s => (evL G es ρ s).bind fun vs s1 => Res.opt (evBf b vs) s1
  | .rng t es, ρ, s => (evL G es ρ s).bind fun vs s1 => Res.opt (evRng t vs) s1
  | .comp elt tg tt ik its ifs own, ρ, s => (evL G its ρ s).bind fun vs s1 => (Res.opt (evItems ik vs) s1).bind fun xs s2 =>
      (mapR (fun x s => match bindTg tg tt x (blkE ρ own) with
        | none => .bad
        | some ρ1 => (evTs G ifs ρ1 s).bind fun k s1 => if k then (ev G elt ρ1 s1).bind fun y s2 => Res.opt ((asD y).map fun y => [y]) s2 else .ok [] s1) xs s2).noex.bind fun ys s3 => .ok (.d (.list ys)) s3
  | .comp2 elt tg tt ik its tg1 it1 ifs1 own, ρ, s => (evL G its ρ s).bind fun vs s1 => (Res.opt (evItems ik vs) s1).bind fun xs s2 =>
      (mapR (fun x s => match bindTg tg tt x (blkE ρ own) with
        | none => .bad
        | some ρ1 => (ev G it1 ρ1 s).bind fun v s1 => (Res.opt (evItems 0 [v]) s1).bind fun xs1 s2 => mapR (fun x1 s =>
            let ρ2 := (ρ1.set tg1 .un).set tg1 (.v (.d x1))
            (evTs G ifs1 ρ2 s).bind fun k s1 => if k then (ev G elt ρ2 s1).bind fun y s2 => Res.opt ((asD y).map fun y => [y]) s2 else .ok [] s1) xs1 s2) xs s2).noex.bind fun ys s3 =>
          if lineB ys.length then .ok (.d (.list ys)) s3 else .bad
  | .meth m o es, ρ, s => (ev G o ρ s).bind fun x s1 => (Res.opt (mtOk m x) s1).bind fun _ s2 => (evL G es ρ s2).bind fun vs s3 => Res.opt (evMt m x vs) s3
  | .oidx k i, ρ, s => match ρ[k]? with
    | some (.own xs) => (ev G i ρ s).bind fun y s2 => Res.opt (evIdx (.d (.list xs)) y s2) s2
    | _ => .bad
  | .err body, ρ, s => match G.fn2 with
    | none => .bad
    | some f2 => (match ev ⟨G.fuel, f2, G.nm, none⟩ body (dropE ρ) s with
      | .ok _ s1 => .ok (.d (.str Str.empty)) s1
      | .ex x s1 => Res.opt ((G.nm x).map fun r => .d (.str r)) s1
      | .bad => .bad)
def evL (G : Gd) : List C → Env → Sto → Res (List Vl)
  | [], _, s => .ok [] s
  | c :: cs, ρ, s => (ev G c ρ s).bind fun x s1 => (evL G cs ρ s1).bind fun xs s2 => .ok (x :: xs) s2
def evTs (G : Gd) : List C → Env → Sto → Res Bool
  | [], _, s => .ok true s
  | c :: cs, ρ, s => (ev G c ρ s).bind fun x s1 => (Res.opt (truth x) s1).bind fun k s2 => if k then evTs G cs ρ s2 else .ok false s2
end

/-! ### statements -/
inductive S where
  | expr (c : C)
  | set (i : Nat) (c : C)
  | setOwn (i : Nat) (es : List C)
  | setTup (is : List Nat) (c : C)
  | setPar (is : List Nat) (es : List C)
  | setIdx (a i v : C)
  | append (k : Nat) (c : C)
  | frz (k : Nat)
  | ifs (c : C) (a b : List S)
  | fors (tg : List Nat) (tt : Bool) (ik : Nat) (its : List C) (body : List S)
  | whil (c : C) (body : List S)
  | ret (c : C)
  | retN
  | raise (x : Str)
  | pass

inductive Out where
  | next (ρ : Env) (s : Sto)
  | ret (v : Vl) (s : Sto)
  | ex (x : Str) (s : Sto)
  | bad
def Out.bind (o : Out) (f : Env → Sto → Out) : Out :=
  match o with
  | .next ρ s => f ρ s
  | .ret v s => .ret v s
  | .ex x s => .ex x s
  | .bad => .bad
def Res.out {α : Type} (r : Res α) (f : α → Sto → Out) : Out :=
  match r with
  | .ok a s => f a s
  | .ex x s => .ex x s
  | .bad => .bad
def oOut {α : Type} (o : Option α) (f : α → Out) : Out :=
  match o with
  | some a => f a
  | none => .bad
def setVs (ρ : Env) : List Nat → List Vl → Option Env
  | [], [] => some ρ
  | i :: is, x :: xs => setVs (ρ.set i (.v x)) is xs
  | _, _ => none
def forO (f : D → Env → Sto → Out) : List D → Env → Sto → Out
  | [], ρ, s => .next ρ s
  | x :: xs, ρ, s => (f x ρ s).bind fun ρ1 s1 => forO f xs ρ1 s1
def whileO (t : Env → Sto → Res Bool) (f : Env → Sto → Out) : Nat → Env → Sto → Out
  | 0, _, _ => .bad
  | n + 1, ρ, s => (t ρ s).out fun k s1 => if k then (f ρ s1).bind fun ρ1 s2 => whileO t f n ρ1 s2 else .next ρ s1

mutual
def ex (G : Gd) : S → Env → Sto → Out
  | .expr c, ρ, s => (ev G c ρ s).out fun _ s1 => .next ρ s1
  | .set i c, ρ, s => (ev G c ρ s).out fun x s1 => .next (ρ.set i (.v x)) s1
  | .setOwn i es, ρ, s => (evL G es ρ s).out fun vs s1 => oOut (allD vs) fun ds => .next (ρ.set i (.own ds)) s1
  | .setTup is c, ρ, s => (ev G c ρ s).out fun x s1 => oOut ((asD x).bind fun x => bindTg is true x ρ) fun ρ1 => .next ρ1 s1
  | .setPar is es, ρ, s => (evL G es ρ s).out fun vs s1 => oOut (setVs ρ is vs) fun ρ1 => .next ρ1 s1
  | .setIdx a i v, ρ, s => (ev G v ρ s).out fun x s1 => (ev G a ρ s1).out fun o s2 => (ev G i ρ s2).out fun j s3 =>
      match o, j, x with
      | .ref n, .d (.int j), .d x => (match s3[n]? with
        | some (.lst xs) => (match L2.ixN xs.length j with
          | some k => .next ρ (s3.set n (.lst (xs.set k x)))
          | none => .bad)
        | none => .bad)
      | _, _, _ => .bad
  | .append k c, ρ, s => match ρ[k]? with
    | some (.own xs) => (ev G c ρ s).out fun x s1 => oOut (asD x) fun x => if xs.length < sizeLine then .next (ρ.set k (.own (xs ++ [x]))) s1 else .bad
    | _ => .bad
  | .frz k, ρ, s => match ρ[k]? with
    | some (.own xs) => .next (ρ.set k (.v (.d (.list xs)))) s
    | _ => .bad
  | .ifs c a b, ρ, s => (ev G c ρ s).out fun x s1 => oOut (truth x) fun k => if k then exs G a ρ s1 else exs G b ρ s1
  | .fors tg tt ik its body, ρ, s => (evL G its ρ s).out fun vs s1 => oOut (evItems ik vs) fun xs =>
      forO (fun x ρ s => oOut (bindTg tg tt x ρ) fun ρ1 => exs G body ρ1 s) xs ρ s1
  | .whil c body, ρ, s => whileO (fun ρ s => (ev G c ρ s).bind fun x s1 => Res.opt (truth x) s1) (fun ρ s => exs G body ρ s) G.fuel ρ s
  | .ret c, ρ, s => (ev G c ρ s).out fun x s1 => .ret x s1
  | .retN, _, s => .ret (.d .none) s
  | .raise x, _, s => .ex x s
  | .pass, ρ, s => .next ρ s
def exs (G : Gd) : List S → Env → Sto → Out
  | [], ρ, s => .next ρ s
  | c :: cs, ρ, s => (ex G c ρ s).bind fun ρ1 s1 => exs G cs ρ1 s1
end

/-- a def: so many parameters, so many slots, its body -/
structure Df where
  ps : Nat
  ns : Nat
  body : List S
def callD (G : Gd) (d : Df) (vs : List Vl) (s : Sto) : Res Vl :=
  if vs.length = d.ps then
    match exs G d.body (vs.map Slot.v ++ List.replicate (d.ns - vs.length) .un) s with
    | .ret v s1 => .ok v s1
    | .next _ s1 => .ok (.d .none) s1
    | .ex x s1 => .ex x s1
    | .bad => .bad
  else .bad
/-- all defs, to a depth of n calls -/
def runs (P : List Df) (fuel : Nat) (nm : Str → Option Str) : Nat → Nat → List Vl → Sto → Res Vl
  | 0, _, _, _ => .bad
  | 1, f, vs, s => match P[f]? with
    | some d => callD ⟨fuel, runs P fuel nm 0, nm, none⟩ d vs s
    | none => .bad
  | 2, f, vs, s => match P[f]? with
    | some d => callD ⟨fuel, runs P fuel nm 1, nm, none⟩ d vs s
    | none => .bad
  | k + 3, f, vs, s => match P[f]? with
    | some d => callD ⟨fuel, runs P fuel nm (k + 2), nm, some (runs P fuel nm k)⟩ d vs s
    | none => .bad
/-- what stands about a def's body that may call n deep -/
def gdOf (P : List Df) (fuel : Nat) (nm : Str → Option Str) (n : Nat) : Gd := ⟨fuel, runs P fuel nm n, nm, match n with
  | k + 2 => some (runs P fuel nm k)
  | _ => none⟩
theorem runs_succ (P : List Df) (fuel : Nat) (nm : Str → Option Str) (n f : Nat) (vs : List Vl) (s : Sto) {d : Df} (e : P[f]? = some d) : runs P fuel nm (n + 1) f vs s = callD (gdOf P fuel nm n) d vs s := by
  match n with
  | 0 => unfold runs; rw [e]; rfl
  | 1 => unfold runs; rw [e]; rfl
  | k + 2 => conv => lhs; unfold runs
             rw [e]; rfl
end Ar
set_option Elab.async false
set_option linter.all false
set_option maxRecDepth 100000
set_option maxHeartbeats 2000000
/-! Ar2: how the small language's values lie in the model's memory; the operators. -/
namespace Ar
open PySem PySem.Spec PyProof.Rows L2

/-! ### data in the abstract heap -/
mutual
inductive Rp (F : Hp) : V → D → Prop
  | non : Rp F .non .none
  | bl (b : Bool) : Rp F (.bl b) (.bool b)
  | int (i : Int) : Rp F (.int i) (.int i)
  | str (x : Str) : Rp F (.str x) (.str x)
  | lst {a : Addr} {xs : List V} {ds : List D} : F a = some (.lst xs) → RpL F xs ds → Rp F (.ref a) (.list ds)
  | tup {a : Addr} {xs : List V} {ds : List D} : F a = some (.tup xs) → RpL F xs ds → Rp F (.ref a) (.tuple ds)
inductive RpL (F : Hp) : List V → List D → Prop
  | nil : RpL F [] []
  | cons {v : V} {vs : List V} {d : D} {ds : List D} : Rp F v d → RpL F vs ds → RpL F (v :: vs) (d :: ds)
end

def Sub (F H : Hp) : Prop := ∀ b o, F b = some o → H b = some o

mutual
theorem Rp.mono {F F' : Hp} (s : Sub F F') : ∀ (d : D) (v : V), Rp F v d → Rp F' v d
  | .none, _, h => by cases h; exact .non
  | .bool _, _, h => by cases h; exact .bl _
  | .int _, _, h => by cases h; exact .int _
  | .str _, _, h => by cases h; exact .str _
  | .list ds, _, h => by
    cases h with
    | lst h1 h2 => exact .lst (s _ _ h1) (RpL.mono s ds _ h2)
  | .tuple ds, _, h => by
    cases h with
    | tup h1 h2 => exact .tup (s _ _ h1) (RpL.mono s ds _ h2)
  | .dict _, _, h => by cases h
theorem RpL.mono {F F' : Hp} (s : Sub F F') : ∀ (ds : List D) (vs : List V), RpL F vs ds → RpL F' vs ds
  | [], _, h => by cases h; exact .nil
  | d :: ds, _, h => by
    cases h with
    | cons h1 h2 => exact .cons (Rp.mono s d _ h1) (RpL.mono s ds _ h2)
end
mutual
theorem Rp.dp {K : PySem.W.Frag} {F H : Hp} (s : Sub F H) : ∀ (d : D) (v : V), Rp F v d → Dp K H v d
  | .none, _, h => by cases h; exact .non
  | .bool _, _, h => by cases h; exact .bl _
  | .int _, _, h => by cases h; exact .int _
  | .str _, _, h => by cases h; exact .str _
  | .list ds, _, h => by
    cases h with
    | lst h1 h2 => exact .lst (.inl (.inl (s _ _ h1))) (RpL.dp s ds _ h2)
  | .tuple ds, _, h => by
    cases h with
    | tup h1 h2 => exact .tup (.inl (.inl (s _ _ h1))) (RpL.dp s ds _ h2)
  | .dict _, _, h => by cases h
theorem RpL.dp {K : PySem.W.Frag} {F H : Hp} (s : Sub F H) : ∀ (ds : List D) (vs : List V), RpL F vs ds → DpAll K H vs ds
  | [], _, h => by cases h; exact .nil
  | d :: ds, _, h => by
    cases h with
    | cons h1 h2 => exact .cons (Rp.dp s d _ h1) (RpL.dp s ds _ h2)
end
section
variable {F : Hp}
theorem RpL.len : ∀ {vs : List V} {ds : List D}, RpL F vs ds → vs.length = ds.length
  | _, _, .nil => rfl
  | _, _, .cons _ t => congrArg Nat.succ t.len
theorem RpL.at : ∀ {vs : List V} {ds : List D} {i : Nat} {d : D}, RpL F vs ds → ds[i]? = some d → ∃ v, vs[i]? = some v ∧ Rp F v d
  | _, _, _, _, .nil, e => by simp at e
  | _, _, 0, _, .cons r _, e => by
    simp at e
    subst e
    exact ⟨_, rfl, r⟩
  | _, _, i + 1, _, .cons _ t, e => by
    obtain ⟨v, h1, h2⟩ := t.at (i := i) (by simpa using e)
    exact ⟨v, by simpa using h1, h2⟩
theorem RpL.at' : ∀ {vs : List V} {ds : List D} {i : Nat} {v : V}, RpL F vs ds → vs[i]? = some v → ∃ d, ds[i]? = some d ∧ Rp F v d
  | _, _, _, _, .nil, e => by simp at e
  | _, _, 0, _, .cons r _, e => by
    simp at e
    subst e
    exact ⟨_, rfl, r⟩
  | _, _, i + 1, _, .cons _ t, e => by
    obtain ⟨v, h1, h2⟩ := t.at' (i := i) (by simpa using e)
    exact ⟨v, by simpa using h1, h2⟩
theorem RpL.app : ∀ {vs ws : List V} {ds es : List D}, RpL F vs ds → RpL F ws es → RpL F (vs ++ ws) (ds ++ es)
  | _, _, _, _, .nil, s => s
  | _, _, _, _, .cons r t, s => .cons r (t.app s)
theorem RpL.take : ∀ {vs : List V} {ds : List D} (n : Nat), RpL F vs ds → RpL F (vs.take n) (ds.take n)
  | _, _, 0, _ => .nil
  | _, _, _ + 1, .nil => .nil
  | _, _, n + 1, .cons r t => .cons r (t.take n)
theorem RpL.drop : ∀ {vs : List V} {ds : List D} (n : Nat), RpL F vs ds → RpL F (vs.drop n) (ds.drop n)
  | _, _, 0, r => r
  | _, _, _ + 1, .nil => .nil
  | _, _, n + 1, .cons _ t => t.drop n
theorem RpL.set {v : V} {d : D} (h : Rp F v d) : ∀ {vs : List V} {ds : List D} (i : Nat), RpL F vs ds → RpL F (vs.set i v) (ds.set i d)
  | _, _, _, .nil => .nil
  | _, _, 0, .cons _ t => .cons h t
  | _, _, i + 1, .cons q t => .cons q (t.set h i)
theorem RpL.rep {vs : List V} {ds : List D} (h : RpL F vs ds) : ∀ n : Nat, RpL F (List.replicate n vs).flatten (List.replicate n ds).flatten
  | 0 => .nil
  | n + 1 => by
    rw [List.replicate_succ, List.replicate_succ, List.flatten_cons, List.flatten_cons]
    exact h.app (h.rep n)
theorem RpL.nil_iff {vs : List V} {ds : List D} (h : RpL F vs ds) : vs = [] ↔ ds = [] := by
  cases h <;> simp
theorem RpL.empty {vs : List V} {ds : List D} (h : RpL F vs ds) : vs.isEmpty = ds.isEmpty := by
  cases h <;> rfl
theorem RpL.ints : ∀ {vs : List V} {ds : List D} {ns : List Int}, RpL F vs ds → allInt ds = some ns → vs = ns.map V.int
  | _, _, ns, .nil, e => by
    have e' : ([] : List Int) = ns := Option.some.inj e
    subst e'
    rfl
  | _, _, ns, .cons (ds := ds) r t, e => by
    cases r with
    | int i =>
      unfold allInt at e
      cases q : allInt ds with
      | none => rw [q] at e; cases e
      | some ms =>
        rw [q] at e
        have e' : i :: ms = ns := Option.some.inj e
        subst e'
        rw [t.ints q, List.map_cons]
    | _ => cases e
theorem RpL.bools : ∀ {vs : List V} {ds : List D} {ns : List Bool}, RpL F vs ds → allBool ds = some ns → vs = ns.map V.bl
  | _, _, ns, .nil, e => by
    have e' : ([] : List Bool) = ns := Option.some.inj e
    subst e'
    rfl
  | _, _, ns, .cons (ds := ds) r t, e => by
    cases r with
    | bl i =>
      unfold allBool at e
      cases q : allBool ds with
      | none => rw [q] at e; cases e
      | some ms =>
        rw [q] at e
        have e' : i :: ms = ns := Option.some.inj e
        subst e'
        rw [t.bools q, List.map_cons]
    | _ => cases e
theorem RpL.ofInts (ns : List Int) : RpL F (ns.map V.int) (ns.map PyData.int) := by
  induction ns with
  | nil => exact .nil
  | cons n r ih => exact .cons (.int n) ih
theorem cut_eq {xs : List V} {ds : List D} (h : RpL F xs ds) (lo hi : Option Int) : RpL F (cutV xs lo hi) (cutD ds lo hi) := by
  unfold cutV cutD
  rw [h.len]
  exact (h.drop _).take _
theorem flat_of {v : V} {d : D} (h : Rp F v d) (f : flatD d = true) : flatV v = true := by
  cases h <;> first | rfl | cases f
theorem flats_of : ∀ {vs : List V} {ds : List D}, RpL F vs ds → ds.all flatD = true → vs.all flatV = true
  | _, _, .nil, _ => rfl
  | _, _, .cons r t, f => by
    rw [List.all_cons, Bool.and_eq_true] at f
    rw [List.all_cons, flat_of r f.1, flats_of t f.2]
    rfl
theorem eqv_of {v u : V} {d e : D} (h : Rp F v d) (k : Rp F u e) (f : flatD d = true) (g : flatD e = true) : eqV v u = PyData.eqv d e := by
  cases h <;> first
    | (cases k <;> first
      | rfl
      | (simp only [eqV, PyData.eqv]; done)
      | cases g)
    | cases f
theorem in_of {u : V} {e : D} (k : Rp F u e) (g : flatD e = true) : ∀ {vs : List V} {ds : List D}, RpL F vs ds → ds.all flatD = true → inV u vs = ds.any fun z => PyData.eqv z e
  | _, _, .nil, _ => rfl
  | _, _, .cons r t, f => by
    rw [List.all_cons, Bool.and_eq_true] at f
    unfold inV
    rw [List.any_cons, List.any_cons, eqv_of r k f.1 g]
    exact congrArg _ (in_of k g t f.2)
end

/-! ### worlds, steps, the store -/
structure Wd where
  F : Hp
  β : Nat → Option Addr

structure Step (W : Wd) (H : Hp) (W' : Wd) (H' : Hp) : Prop where
  fx : Sub W.F W'.F
  fn : ∀ b o, W'.F b = some o → W.F b = some o ∨ H b = none
  bx : ∀ n a, W.β n = some a → W'.β n = some a
  bn : ∀ n a, W'.β n = some a → W.β n = some a ∨ H a = none
  fr : ∀ b o, H b = some o → (∀ n, W.β n ≠ some b) → (∀ ps, o ≠ .tbl ps) → H' b = some o
  lv : ∀ b o, H b = some o → ∃ o', H' b = some o'
theorem Step.refl (W : Wd) (H : Hp) : Step W H W H := ⟨fun _ _ h => h, fun _ _ h => .inl h, fun _ _ h => h, fun _ _ h => .inl h, fun _ _ h _ _ => h, fun _ o h => ⟨o, h⟩⟩
theorem Step.back {W W' : Wd} {H H' : Hp} (s : Step W H W' H') {b : Addr} (n : H' b = none) : H b = none := by
  cases q : H b with
  | none => rfl
  | some o =>
    obtain ⟨o', e⟩ := s.lv b o q
    rw [n] at e
    cases e
theorem Step.trans {W W1 W2 : Wd} {H H1 H2 : Hp} (a : Step W H W1 H1) (b : Step W1 H1 W2 H2) : Step W H W2 H2 where
  fx := fun c o h => b.fx c o (a.fx c o h)
  fn := fun c o h => by
    rcases b.fn c o h with h | h
    · exact a.fn c o h
    · exact .inr (a.back h)
  bx := fun n c h => b.bx n c (a.bx n c h)
  bn := fun n c h => by
    rcases b.bn n c h with h | h
    · exact a.bn n c h
    · exact .inr (a.back h)
  fr := fun c o h n t => b.fr c o (a.fr c o h n t) (fun m q => by
    rcases a.bn m c q with z | z
    · exact n m z
    · rw [z] at h
      cases h) t
  lv := fun c o h => by
    obtain ⟨o1, e⟩ := a.lv c o h
    exact b.lv c o1 e

/-- an object of the store -/
def ORp (W : Wd) (o : Option HO) : SOb → Prop
  | .lst xs => ∃ vs, o = some (.lst vs) ∧ RpL W.F vs xs
structure StoOk (T : List (Addr × Str)) (W : Wd) (st : Sto) (H : Hp) : Prop where
  sub : Sub W.F H
  obj : ∀ n o, st[n]? = some o → ∃ a, W.β n = some a ∧ W.F a = none ∧ ORp W (H a) o
  dom : ∀ n a, W.β n = some a → n < st.length
  inj : ∀ n m a, W.β n = some a → W.β m = some a → n = m
  tab : LamX.Tabs T H
  nt : ∀ b o, W.F b = some o → ∀ ps, o ≠ .tbl ps
theorem ORp.mono {W W' : Wd} {h : Option HO} {o : SOb} (s : Sub W.F W'.F) (x : ORp W h o) : ORp W' h o := by
  cases o with
  | lst xs =>
    obtain ⟨vs, e, r⟩ := x
    exact ⟨vs, e, RpL.mono s _ _ r⟩
theorem StoOk.live {T : List (Addr × Str)} {W : Wd} {st : Sto} {H : Hp} (s : StoOk T W st H) {n : Nat} {a : Addr} (e : W.β n = some a) : ∃ o, H a = some o := by
  have hn := s.dom n a e
  obtain ⟨b, e2, _, r⟩ := s.obj n _ (List.getElem?_eq_getElem hn)
  rw [e] at e2
  cases e2
  cases q : st[n] with
  | lst xs =>
    rw [q] at r
    obtain ⟨vs, e3, _⟩ := r
    exact ⟨_, e3⟩

/-- a value in the model -/
def RpV (K : PySem.W.Frag) (W : Wd) (v : V) : Vl → Prop
  | .d x => Rp W.F v x
  | .scr ns => ∃ a, v = .ref a ∧ SqL K W.F a (ns.map V.int)
  | .ref n => ∃ a, v = .ref a ∧ W.β n = some a
theorem SqL.sub {K : PySem.W.Frag} {F H : Hp} (s : Sub F H) {a : Addr} {xs : List V} (h : SqL K F a xs) : SqL K H a xs := by
  rcases h with (h | ⟨o, h⟩) | h
  · exact .inl (.inl (s _ _ h))
  · exact .inl (.inr ⟨o, s _ _ h⟩)
  · exact .inr h
theorem RpV.step {K : PySem.W.Frag} {W W' : Wd} {H H' : Hp} (s : Step W H W' H') {v : V} {x : Vl} (h : RpV K W v x) : RpV K W' v x := by
  cases x with
  | d x => exact Rp.mono s.fx _ _ h
  | scr ns =>
    obtain ⟨a, e, h⟩ := h
    exact ⟨a, e, SqL.sub s.fx h⟩
  | ref n =>
    obtain ⟨a, e, h⟩ := h
    exact ⟨a, e, s.bx _ _ h⟩
def RpVs (K : PySem.W.Frag) (W : Wd) : List V → List Vl → Prop := Paired (RpV K W)
theorem RpVs.step {K : PySem.W.Frag} {W W' : Wd} {H H' : Hp} (s : Step W H W' H') : ∀ {vs : List V} {xs : List Vl}, RpVs K W vs xs → RpVs K W' vs xs
  | _, _, .nil => .nil
  | _, _, .cons r t => .cons (r.step s) (RpVs.step s t)
theorem RpVs.data {K : PySem.W.Frag} {W : Wd} : ∀ {vs : List V} {xs : List Vl} {ds : List D}, RpVs K W vs xs → allD xs = some ds → RpL W.F vs ds
  | _, _, ds, .nil, e => by
    have e' : ([] : List D) = ds := Option.some.inj e
    subst e'
    exact .nil
  | _, x :: xs, ds, .cons r t, e => by
    cases x with
    | d x =>
      unfold allD at e
      cases q : allD xs with
      | none => rw [q] at e; cases e
      | some es =>
        rw [q] at e
        have e' : x :: es = ds := Option.some.inj e
        subst e'
        exact .cons r (RpVs.data t q)
    | _ => cases e

/-- a new frozen object -/
def Wd.add (W : Wd) (p : Addr) (o : HO) : Wd := ⟨upd W.F p o, W.β⟩
section
variable {T : List (Addr × Str)} {W : Wd} {st : Sto} {H : Hp} {p : Addr} {o : HO}
theorem sub_none (s : Sub W.F H) (n : H p = none) : W.F p = none := by
  cases q : W.F p with
  | none => rfl
  | some u =>
    rw [s _ _ q] at n
    cases n
theorem sub_upd (F : Hp) {p : Addr} (o : HO) (n : F p = none) : Sub F (upd F p o) := fun b u e => by
  rw [upd_ne (ne_of_none e n)]
  exact e
theorem step_add (s : StoOk T W st H) (n : H p = none) : Step W H (W.add p o) (upd H p o) where
  fx := sub_upd _ _ (sub_none s.sub n)
  fn := fun b u e => by
    by_cases hb : b = p
    · subst hb
      exact .inr n
    · left
      have e' : upd W.F p o b = some u := e
      rw [upd_ne hb] at e'
      exact e'
  bx := fun _ _ e => e
  bn := fun _ _ e => .inl e
  fr := fun b u e _ _ => by
    rw [upd_ne (ne_of_none e n)]
    exact e
  lv := fun b u e => ⟨u, by
    rw [upd_ne (ne_of_none e n)]
    exact e⟩
theorem step_new (n : H p = none) : Step W H W (upd H p o) where
  fx := fun _ _ e => e
  fn := fun _ _ e => .inl e
  bx := fun _ _ e => e
  bn := fun _ _ e => .inl e
  fr := fun b u e _ _ => by
    rw [upd_ne (ne_of_none e n)]
    exact e
  lv := fun b u e => ⟨u, by
    rw [upd_ne (ne_of_none e n)]
    exact e⟩
theorem sto_new (s : StoOk T W st H) (n : H p = none) : StoOk T W st (upd H p o) where
  sub := fun b u e => by
    rw [upd_ne (ne_of_none (s.sub _ _ e) n)]
    exact s.sub _ _ e
  obj := fun k u e => by
    obtain ⟨a, h1, h2, h3⟩ := s.obj k u e
    obtain ⟨ob, h4⟩ := s.live h1
    refine ⟨a, h1, h2, ?_⟩
    rw [upd_ne (ne_of_none h4 n)]
    exact h3
  dom := s.dom
  inj := s.inj
  tab := s.tab.ext fun b u e => by
    rw [upd_ne (ne_of_none e n)]
    exact e
  nt := s.nt
theorem sto_add (s : StoOk T W st H) (n : H p = none) (ho : ∀ ps, o ≠ .tbl ps := by intro _ z; cases z) : StoOk T (W.add p o) st (upd H p o) where
  sub := fun b u e => by
    by_cases hb : b = p
    · subst hb
      have e' : upd W.F b o b = some u := e
      rw [upd_same] at e'
      rw [upd_same]
      exact e'
    · have e' : upd W.F p o b = some u := e
      rw [upd_ne hb] at e'
      rw [upd_ne hb]
      exact s.sub _ _ e'
  obj := fun k u e => by
    obtain ⟨a, h1, h2, h3⟩ := s.obj k u e
    obtain ⟨ob, h4⟩ := s.live h1
    have ne : a ≠ p := ne_of_none h4 n
    refine ⟨a, h1, ?_, ?_⟩
    · show upd W.F p o a = none
      rw [upd_ne ne]
      exact h2
    · rw [upd_ne ne]
      exact h3.mono (W := W) (W' := W.add p o) (sub_upd _ _ (sub_none s.sub n))
  dom := s.dom
  inj := s.inj
  tab := s.tab.ext fun b u e => by
    rw [upd_ne (ne_of_none e n)]
    exact e
  nt := fun b u e => by
    have e' : upd W.F p o b = some u := e
    by_cases hb : b = p
    · rw [hb, upd_same] at e'
      rw [← Option.some.inj e']
      exact ho
    · rw [upd_ne hb] at e'
      exact s.nt b u e'
theorem add_at (W : Wd) (p : Addr) (o : HO) : (W.add p o).F p = some o := upd_same
end

/-! ### what is wanted behind an evaluation -/
section
variable (K : PySem.W.Frag) (T : List (Addr × Str)) (mg : Str → Option Value)
/-- an error's own dict: none, but of the class with an __init__ of its own -/
def XD (x : Str) (d : Option Addr) : Prop := x = ("TooMany" : Str) ∨ d = none
def Post {α β : Type} (Rl : Wd → β → α → Prop) (W : Wd) (H : Hp) (E : XK) (Q : β → Hp → Prop) : Res α → Prop
  | .ok x st' => ∀ W' v H', Step W H W' H' → StoOk T W' st' H' → Rl W' v x → Q v H'
  | .ex x st' => ∀ W' cls d H', Step W H W' H' → StoOk T W' st' H' → mg x = some cls → XD x d → E cls d H'
  | .bad => False
end
section
variable {K : PySem.W.Frag} {T : List (Addr × Str)} {mg : Str → Option Value} {α β γ δ : Type} {Rl : Wd → β → α → Prop} {Rm : Wd → δ → γ → Prop} {W W1 : Wd} {H H1 : Hp} {E : XK} {Q Q' : β → Hp → Prop}
theorem Post.step (s : Step W H W1 H1) {r : Res α} (h : Post T mg Rl W H E Q r) : Post T mg Rl W1 H1 E Q r := by
  cases r with
  | ok x st => exact fun W' v H' s' o r => h W' v H' (s.trans s') o r
  | ex x st => exact fun W' c d H' s' o r => h W' c d H' (s.trans s') o r
  | bad => exact h
theorem Post.mono (i : ∀ v H, Q v H → Q' v H) {r : Res α} (h : Post T mg Rl W H E Q r) : Post T mg Rl W H E Q' r := by
  cases r with
  | ok x st => exact fun W' v H' s' o r => i _ _ (h W' v H' s' o r)
  | ex x st => exact fun W' c d H' s' o r => h W' c d H' s' o r
  | bad => exact h
theorem Post.bind {R : δ → Hp → Prop} {r : Res γ} {f : γ → Sto → Res α} (h : Post T mg Rl W H E Q (r.bind f))
    (k : ∀ W1 s1 v x H1, Step W H W1 H1 → StoOk T W1 s1 H1 → Rm W1 v x → r = .ok x s1 → Post T mg Rl W1 H1 E Q (f x s1) → R v H1) : Post T mg Rm W H E R r := by
  cases r with
  | ok x st => exact fun W' v H' s' o r => k W' st v x H' s' o r rfl (Post.step s' h)
  | ex x st => exact fun W' c d H' s' o r => h W' c d H' s' o r
  | bad => exact h
theorem Post.opt {o : Option α} {st : Sto} (h : Post T mg Rl W H E Q (Res.opt o st)) : ∃ x, o = some x ∧ ∀ W' v H', Step W H W' H' → StoOk T W' st H' → Rl W' v x → Q v H' := by
  cases o with
  | none => exact (show False from h).elim
  | some x => exact ⟨x, rfl, h⟩
end

/-! ### the operators -/
section
variable {X : Cx} {T : List (Addr × Str)}
/-- a result that is data -/
def Gives (K : PySem.W.Frag) (T : List (Addr × Str)) (W : Wd) (H : Hp) (st : Sto) (r : Vl) (Q : VK) : Prop := ∀ W' v H', Step W H W' H' → StoOk T W' st H' → RpV K W' v r → Q v H'
theorem Gives.now {K : PySem.W.Frag} {W : Wd} {H : Hp} {st : Sto} {r : Vl} {Q : VK} (g : Gives K T W H st r Q) (s : StoOk T W st H) {v : V} (h : RpV K W v r) : Q v H := g W v H (Step.refl _ _) s h
theorem Gives.tup {K : PySem.W.Frag} {W : Wd} {H : Hp} {st : Sto} {ds : List D} {Q : VK} (g : Gives K T W H st (.d (.tuple ds)) Q) (s : StoOk T W st H) {xs : List V} (h : RpL W.F xs ds) {p : Addr} (n : H p = none) : Q (.ref p) (upd H p (.tup xs)) :=
  g (W.add p (.tup xs)) (.ref p) _ (step_add s n) (sto_add s n) (.tup (add_at _ _ _) (RpL.mono (step_add s n).fx _ _ h))
theorem Gives.lst {K : PySem.W.Frag} {W : Wd} {H : Hp} {st : Sto} {ds : List D} {Q : VK} (g : Gives K T W H st (.d (.list ds)) Q) (s : StoOk T W st H) {xs : List V} (h : RpL W.F xs ds) {p : Addr} (n : H p = none) : Q (.ref p) (upd H p (.lst xs)) :=
  g (W.add p (.lst xs)) (.ref p) _ (step_add s n) (sto_add s n) (.lst (add_at _ _ _) (RpL.mono (step_add s n).fx _ _ h))
def rBinE (K : PySem.W.Frag) (T : List (Addr × Str)) (op : Operator) : R2 := fun x y H Q => ∃ W st a b r, StoOk T W st H ∧ RpV K W x a ∧ RpV K W y b ∧ evBin op a b = some r ∧ Gives K T W H st r Q
theorem op_binE (op : Operator) : OpR X (binaryOp op) (rBinE X.K T op) := by
  intro pins s σ H x y v u Q I rx ry h
  obtain ⟨W, st, a, b, r, so, ra, rb, e, g⟩ := h
  unfold evBin at e
  split at e
  · -- Add ints
    cases ra; cases rb
    cases e
    exact op_add pins s σ H _ _ v u Q I rx ry ⟨_, _, rfl, rfl, g.now so (.int _)⟩
  · cases ra; cases rb
    cases e
    exact op_sub pins s σ H _ _ v u Q I rx ry ⟨_, _, rfl, rfl, g.now so (.int _)⟩
  · cases ra; cases rb
    split at e
    · rename_i hc
      cases e
      exact op_mul pins s σ H _ _ v u Q I rx ry ⟨_, _, rfl, rfl, hc, g.now so (.int _)⟩
    · cases e
  · cases ra; cases rb
    split at e
    · rename_i hc
      cases e
      exact op_fdiv pins s σ H _ _ v u Q I rx ry ⟨_, _, rfl, rfl, hc, g.now so (.int _)⟩
    · cases e
  · cases ra; cases rb
    split at e
    · rename_i hc
      cases e
      exact op_mod pins s σ H _ _ v u Q I rx ry ⟨_, _, rfl, rfl, hc, g.now so (.int _)⟩
    · cases e
  · cases ra; cases rb
    split at e
    · rename_i hc
      cases e
      exact op_pow pins s σ H _ _ v u Q I rx ry ⟨_, _, rfl, rfl, hc, g.now so (.int _)⟩
    · cases e
  · -- tuples
    split at e
    · rename_i hz
      cases e
      cases ra with
      | tup f1 l1 =>
        cases rb with
        | tup f2 l2 =>
          refine op_catA pins s σ H _ _ v u Q I rx ry ⟨_, _, _, _, rfl, rfl, .inl (.inl (so.sub _ _ f1)), .inl (.inl (so.sub _ _ f2)), ?_, fun z => ?_, fun z1 z2 => ?_, fun z1 z2 p n => ?_⟩
          · rw [l1.len, l2.len]
            exact of_decide_eq_true hz
          · have z' := l1.nil_iff.mp z
            subst z'
            exact g.now so (.tup f2 l2)
          · have z' := l2.nil_iff.mp z2
            subst z'
            rw [List.append_nil] at g
            exact g.now so (.tup f1 l1)
          · exact g.tup so (l1.app l2) n
    · cases e
  · split at e
    · rename_i hz
      cases e
      cases ra with
      | lst f1 l1 =>
        cases rb with
        | lst f2 l2 =>
          refine op_cat pins s σ H _ _ v u Q I rx ry ⟨_, _, _, _, rfl, rfl, so.sub _ _ f1, so.sub _ _ f2, ?_, fun p n => ?_⟩
          · rw [l1.len, l2.len]
            exact of_decide_eq_true hz
          · exact g.lst so (l1.app l2) n
    · cases e
  · cases ra; cases rb
    split at e
    · rename_i hc
      cases e
      exact op_add_str pins s σ H _ _ v u Q I rx ry ⟨_, _, rfl, rfl, hc, g.now so (.str _)⟩
    · cases e
  · split at e
    · rename_i hz
      cases e
      cases ra with
      | lst f1 l1 =>
        cases rb
        refine op_rep pins s σ H _ _ v u Q I rx ry ⟨_, _, _, rfl, rfl, so.sub _ _ f1, hz.1, hz.2.1, ?_, fun p n => ?_⟩
        · rw [l1.len]
          exact hz.2.2
        · exact g.lst so (l1.rep _) n
    · cases e
  · split at e
    · rename_i hz
      cases e
      cases ra with
      | tup f1 l1 =>
        cases rb
        refine op_repT pins s σ H _ _ v u Q I rx ry ⟨_, _, _, rfl, rfl, .inl (.inl (so.sub _ _ f1)), fun z => hz.1 (l1.nil_iff.mp z), hz.2.1, hz.2.2.1, ?_, fun p n => ?_⟩
        · rw [l1.len]
          exact hz.2.2.2
        · exact g.tup so (l1.rep _) n
    · cases e
  · cases e
def rCmpE (K : PySem.W.Frag) (T : List (Addr × Str)) (op : CmpOp) : R2 := fun x y H Q => ∃ W st a b k, StoOk T W st H ∧ RpV K W x a ∧ RpV K W y b ∧ evCmp op a b = some k ∧ Q (.bl k) H
theorem sq_of {K : PySem.W.Frag} {F H : Hp} (s : Sub F H) {a : Addr} {xs : List V} (h : F a = some (.lst xs)) : SqL K H a xs := .inl (.inl (s _ _ h))
theorem st_of {K : PySem.W.Frag} {F H : Hp} (s : Sub F H) {a : Addr} {xs : List V} (h : F a = some (.tup xs)) : SqT K H a xs := .inl (.inl (s _ _ h))
theorem op_in_T (hu : X.A.units + 65 < cLine) (neg : Bool) {pins : List (Addr × Obj)} {s : Shared} {σ : L2.St} {H : Hp} {x y : V} {v u : Value} {Q : VK} (I : Inv X pins σ H s) (rx : RelV x v) (ry : RelV y u) {F : Hp} (sb : Sub F H) {a b : D} (ra : Rp F x a) (rb : Rp F y b) {k : Bool} (e : evIn a b = some k) (q : Q (.bl (if neg then !k else k)) H) :
    wpAny (model X.prog X.w) X.A (compareOp (if neg then .NotIn else .In) v u) (EP X pins σ Q) X.xe s := by
  unfold evIn at e
  split at e
  · split at e
    · rename_i ys hs
      cases e
      rw [Bool.and_eq_true] at hs
      have d1 := Rp.dp (K := X.K) sb _ _ ra
      have d2 := Rp.dp (K := X.K) sb _ _ rb
      cases neg with
      | false => exact op_inD hu pins s σ H _ _ v u Q I rx ry ⟨_, _, d1, d2, hs.1, hs.2, q⟩
      | true => exact op_notInD hu pins s σ H _ _ v u Q I rx ry ⟨_, _, d1, d2, hs.1, hs.2, q⟩
    · cases e
  · split at e
    · rename_i ys hs
      cases e
      rw [Bool.and_eq_true] at hs
      cases rb with
      | tup f2 l2 =>
        have e2 := in_of ra hs.1 l2 hs.2
        cases neg with
        | false => exact op_in_seq pins s σ H _ _ v u Q I rx ry ⟨_, _, rfl, .inr (st_of sb f2), flat_of ra hs.1, flats_of l2 hs.2, by rw [e2]; exact q⟩
        | true => exact op_notIn_seq pins s σ H _ _ v u Q I rx ry ⟨_, _, rfl, .inr (st_of sb f2), flat_of ra hs.1, flats_of l2 hs.2, by rw [e2]; exact q⟩
    · cases e
  · cases e
theorem op_cmpE (hu : X.A.units + 65 < cLine) (op : CmpOp) : OpR X (compareOp op) (rCmpE X.K T op) := by
  intro pins s σ H x y v u Q I rx ry h
  obtain ⟨W, st, a, b, k, so, ra, rb, e, q⟩ := h
  unfold evCmp at e
  split at e
  · cases ra; cases rb; cases e
    exact op_lt pins s σ H _ _ v u Q I rx ry ⟨_, _, rfl, rfl, q⟩
  · cases ra; cases rb; cases e
    exact op_le pins s σ H _ _ v u Q I rx ry ⟨_, _, rfl, rfl, q⟩
  · cases ra; cases rb; cases e
    exact op_gt pins s σ H _ _ v u Q I rx ry ⟨_, _, rfl, rfl, q⟩
  · cases ra; cases rb; cases e
    exact op_ge pins s σ H _ _ v u Q I rx ry ⟨_, _, rfl, rfl, q⟩
  · split at e
    · rename_i hs
      cases e
      rw [Bool.and_eq_true] at hs
      exact op_eqD (Nat.lt_of_succ_lt hu) pins s σ H _ _ v u Q I rx ry ⟨_, _, Rp.dp so.sub _ _ ra, Rp.dp so.sub _ _ rb, hs.1, hs.2, q⟩
    · cases e
  · split at e
    · rename_i hs
      cases e
      rw [Bool.and_eq_true] at hs
      exact op_neD (Nat.lt_of_succ_lt hu) pins s σ H _ _ v u Q I rx ry ⟨_, _, Rp.dp so.sub _ _ ra, Rp.dp so.sub _ _ rb, hs.1, hs.2, q⟩
    · cases e
  · exact op_in_T hu false I rx ry so.sub ra rb e q
  · rename_i x1 y1
    cases e2 : evIn x1 y1 with
    | none => rw [e2] at e; cases e
    | some k1 =>
      rw [e2] at e
      have e3 : (!k1) = k := Option.some.inj e
      exact op_in_T hu true I rx ry so.sub ra rb e2 (by rw [if_pos rfl, e3]; exact q)
  · unfold evIs at e
    split at e
    · cases ra; cases rb; cases e
      exact op_isN pins s σ H _ _ v u Q I rx ry ⟨rfl, q⟩
    · rename_i hne
      cases rb; cases e
      refine op_isN pins s σ H _ _ v u Q I rx ry ⟨rfl, ?_⟩
      have z : decide (x = V.non) = false := decide_eq_false fun z => by
        subst z
        cases ra
        exact hne rfl
      rw [z]
      exact q
    · cases ra; cases rb; cases e
      exact op_isBl pins s σ H _ _ v u Q I rx ry ⟨_, _, rfl, rfl, q⟩
    · cases e
  · rename_i x1 y1
    unfold evIs at e
    split at e
    · cases ra; cases rb; cases e
      exact op_notN pins s σ H _ _ v u Q I rx ry ⟨rfl, q⟩
    · rename_i hne
      cases rb; cases e
      refine op_notN pins s σ H _ _ v u Q I rx ry ⟨rfl, ?_⟩
      have z : decide (x = V.non) = false := decide_eq_false fun z => by
        subst z
        cases ra
        exact hne rfl
      rw [z]
      exact q
    · cases ra; cases rb; cases e
      exact op_notBl pins s σ H _ _ v u Q I rx ry ⟨_, _, rfl, rfl, q⟩
    · cases e
  · cases e
end
end Ar
set_option Elab.async false
set_option linter.all false
set_option maxRecDepth 100000
set_option maxHeartbeats 4000000
/-! Ar3: set(list of ints) as the model makes it, so that it can be walked in order; sorted(set(..)). -/
namespace ArS
open PySem PySem.Spec PyProof.Rows L2
/-- a new empty set, as this world orders sets -/
abbrev bare (w : World) : Obj := { cls := .type "set", dict := none, data := .set #[] 0 (.fresh 0 0 (!w.params.followText "set-order")) }
section
variable {P : Program} {w : World} {A : Around} {E : Value → Shared → Prop} {s : Shared}
/-- what the filling of the set leaves -/
def Filled (w : World) (s : Shared) (ns : List Int) (s₂ : Shared) : Prop :=
  ∃ h' tk c, s₂ = { s with heap := h', toks := tk } ∧ SetR w h' s.heap.objs.size (fun j => decide (j ∈ ns)) c ∧ c ≤ ns.length ∧ ∀ b o, s.heap.get? b = some o → h'.get? b = some o
theorem fill_loop {l : Addr} {items : Array Value} (ns : List Int) {h1 : Heap} (hh : A.handled = none) (e1 : h1 = s.heap.push (bare w)) (hl : h1.IsList l items) (hlt : l < s.heap.objs.size) (hit : IntsAre items.toList ns) (hb : ns.length + 1 < scanBound) :
    codeAny (model P w) A (.builtin "set.update.loop" ⟨[.ref s.heap.objs.size, .ref h1.objs.size], []⟩) (wants (fun r s₂ => r = .none ∧ Filled w s ns s₂) E)
      { s with heap := h1.push { cls := .type "list_iterator", data := .fields #[.ref l, .int 0 0] } } := by
  have n1 : items.size = ns.length := by
    have q := IntsAre.length hit
    rw [Array.length_toList] at q
    exact q
  have z1 : h1.objs.size = s.heap.objs.size + 1 := by rw [e1]; exact Heap.size_push ..
  have at1 : h1.get? s.heap.objs.size = some (bare w) := by rw [e1]; exact Heap.get?_push_size _ rfl
  have ne1 : l ≠ h1.objs.size := Nat.ne_of_lt (by rw [z1]; exact Nat.lt_succ_of_lt hlt)
  have out : s.heap.objs.size ∉ [h1.objs.size, l] := by
    intro z
    rcases List.mem_cons.mp z with z | z
    · rw [z1] at z
      exact absurd z (Nat.ne_of_lt (Nat.lt_succ_self _))
    · rw [List.mem_singleton] at z
      exact absurd z.symm (Nat.ne_of_lt hlt)
  have draws : ∀ (i : Nat) (v : Value), items[i]? = some v → ∃ k t, ns[i]? = some k ∧ v = .int k t := fun i v hv => by
    have hi : i < ns.length := by rw [← n1]; exact (Array.getElem?_eq_some_iff.mp hv).1
    obtain ⟨t, e⟩ := PyProof.Rows.IntsAre.int_at hit i v (by rw [Array.getElem?_toList]; exact hv)
    exact ⟨ns[i], t, List.getElem?_eq_getElem hi, by rw [e, List.getD_eq_getElem?_getD, List.getElem?_eq_getElem hi]; rfl⟩
  have hh1 : A.in1.handled = none := by simp [hh]
  refine set_update_ints ((Walks.list hh1 _ l ne1 items).toS) s.heap.objs.size out ns n1 hb draws (items.size - 0) 0 _ (Nat.sub_zero _ ▸ rfl) (Nat.zero_le _)
    ⟨⟨_, Heap.get?_push_size _ rfl, rfl, rfl⟩, hl.push _⟩ ⟨0, Nat.le_refl 0, setR_new_at (Heap.get?_push_of_some _ at1)⟩ fun s' c' mv le R => ?_
  obtain ⟨h', g2, d', tk', os'⟩ := s'
  obtain rfl : g2 = s.gens := mv.gens
  obtain rfl : d' = s.drawn := mv.drawn
  obtain rfl : os' = s.os := mv.os
  refine ⟨rfl, h', tk', c', rfl, R, by rw [← n1]; exact le, fun b o e => ?_⟩
  have lt := Heap.lt_size e
  refine mv.heap b o (fun z => ?_) (Heap.get?_push_of_some _ (by rw [e1]; exact Heap.get?_push_of_some _ e))
  rcases List.mem_cons.mp z with z | z
  · exact absurd z (Nat.ne_of_lt lt)
  · rw [List.mem_singleton, z1] at z
    exact absurd z (Nat.ne_of_lt (Nat.lt_succ_of_lt lt))
set_option maxHeartbeats 8000000 in
theorem init_list {l : Addr} {items : Array Value} (ns : List Int) (hh : A.handled = none) (hl : s.heap.IsList l items) (hit : IntsAre items.toList ns) (hb : ns.length + 1 < scanBound) :
    codeAny (model P w) A (.call (.builtin "set.__init__") ⟨[.ref s.heap.objs.size, .ref l], []⟩) (wants (fun r s₂ => r = .none ∧ Filled w s ns s₂) E) { s with heap := s.heap.push (bare w) } := by
  have atS : (s.heap.push (bare w)).get? s.heap.objs.size = some (bare w) := Heap.get?_push_size _ rfl
  have tyS : Shared.TypeIs { s with heap := s.heap.push (bare w) } (.ref s.heap.objs.size) "set" := ⟨_, atS, rfl⟩
  refine codeAny_call_builtin F.called_set.init.plain F.entry_set_init (check_set_init_1 tyS ?_)
  obtain ⟨⟨oc, od, dt, sl⟩, hol, hcl, nl, hdl⟩ := hl
  simp only at hcl hdl
  subst hcl hdl
  have hol2 : (s.heap.push (bare w)).get? l = some { cls := .type "list", dict := od, data := .seq items nl, slots := sl } := Heap.get?_push_of_some _ hol
  have q1 := F.sub_list_set
  have q2 := F.sub_list_frozenset
  have q3 : (Value.type "list" == Value.type "dict") = false := by decide
  have isL : (s.heap.push (bare w)).IsList l items := ⟨_, hol2, rfl, nl, rfl⟩
  have hlt : l < s.heap.objs.size := Heap.lt_size hol
  unfold Builtin.«set.__init__» noKeywords Builtin.Frozenset.updateFrom
  generalize hPI : pyIter = PI
  wp_walk
  subst hPI
  refine wpAny_pyIter_list isL (wpAny_bind (wpAny_runValue ?_))
  exact codeAny_mono (fill_loop ns (s := s) (by simp [hh]) rfl isL hlt hit hb) fun r s' q => by
    cases r with
    | error e => exact q
    | ok fl =>
      cases fl with
      | ret v => exact wpAny_pure (wpAny_pure ⟨rfl, q.2⟩)
      | _ => exact q.elim
set_option maxHeartbeats 8000000 in
/-- set(l), l a list of ints -/
theorem made_list {l : Addr} {items : Array Value} (ns : List Int) {Q : Value → Shared → Prop} (hh : A.handled = none) (hl : s.heap.IsList l items) (hit : IntsAre items.toList ns) (hb : ns.length + 1 < scanBound)
    (h : ∀ s₂, Filled w s ns s₂ → Q (.ref s.heap.objs.size) s₂) : wpAny (model P w) A (call (.type "set") [.ref l]) Q E s := by
  obtain ⟨mc, mt, mro⟩ := F.called_set.mro
  have made := F.called_set.made
  have sub := F.called_set.sub
  refine wpAny_call (codeAny_of_tree ?_)
  show wpAny _ _ (callAny (.type "set") _) _ _ _
  refine wpAny_pure ⟨Code.quiet_builtin _ (by decide +kernel), codeAny_builtin F.entry_type_call ?_⟩
  rw [Around.under_plain (weight_type_call_type "set" [.ref l] []) rfl]
  have t1 := F.called_set.notType
  have t2 := F.called_set.canCreate
  have t3 := F.typeCall_set_1 (.ref l)
  repeat (any_goals (first | assumption | wp_step))
  refine codeAny_mono (code_set_led1 (.ref l) (E := E) (Q₁ := fun v s₁ => v = .ref s.heap.objs.size ∧ s₁ = { s with heap := s.heap.push (bare w) }) ⟨rfl, rfl⟩) fun r s₁ hr => ?_
  cases r with
  | error e => exact hr
  | ok fl =>
    cases fl with
    | ret v =>
      obtain ⟨rfl, rfl⟩ := hr
      have tyS : Shared.TypeIs { s with heap := s.heap.push (bare w) } (.ref s.heap.objs.size) "set" := ⟨_, Heap.get?_push_size _ rfl, rfl⟩
      have b1 := F.called_set.init.lookup
      have b2 := F.called_set.init.bind (.ref s.heap.objs.size)
      repeat (any_goals (first | assumption | wp_step))
      refine codeAny_mono (init_list (E := E) ns (by simp [hh]) hl hit hb) fun r₂ s₂ q => ?_
      cases r₂ with
      | error e => exact q
      | ok fl₂ =>
        cases fl₂ with
        | ret r =>
          obtain ⟨rfl, q⟩ := q
          repeat (any_goals (first | assumption | wp_step))
          exact h _ q
        | _ => exact q.elim
    | _ => exact hr.elim
end
end ArS
namespace Ar
open PySem PySem.Spec PyProof.Rows L2
section
variable {X : Cx}
/-- set(l) of a list of ints -/
def rSetL (K : PySem.W.Frag) (w : World) : List V → Hp → VK → Prop := fun vs H Q => ∃ (a : Addr) (ns : List Int), vs = [.ref a] ∧ SqL K H a (ns.map V.int) ∧ ns.length < 4000 ∧
  ∀ S n, H S = none → n ≤ ns.length → Q (.ref S) (upd H S (SetO w S (fun j => decide (j ∈ ns)) n))
theorem cr_setL (hc : X.calm = true) : CallR X (.type "set") (rSetL X.K X.w) := by
  intro pins s σ H vs us Q I r h
  obtain ⟨a, ns, rfl, hq, hl, q⟩ := h
  rw [Vals.ref1 r]
  obtain ⟨its, rv, pl, hz⟩ := I.list hq
  refine ArS.made_list ns (I.ok.hd hc) pl.isList (by simpa using Vals.ints rv) (by unfold scanBound; omega) fun s₂ ⟨h', tk, c, e2, R, hcn, hk⟩ => ?_
  subst e2
  exact ⟨.ref s.heap.objs.size, _, I.laid (t' := tk) hk (Nat.le_refl _) (setO_new R), rfl, q _ c (I.hok.fresh (Nat.le_refl _)) hcn⟩
end
end Ar
set_option Elab.async false
set_option linter.all false
set_option maxRecDepth 100000
set_option maxHeartbeats 4000000
/-! Ar4: further operators: items, slices, classes, truth, built-in functions. -/
namespace Ar
open PySem PySem.Spec PyProof.Rows L2
section
variable {X : Cx} {T : List (Addr × Str)}
theorem atI_map {α β : Type} (f : α → β) (xs : List α) (i : Int) : L2.atI (xs.map f) i = (L2.atI xs i).map f := by
  unfold L2.atI
  rw [List.length_map]
  cases L2.ixN xs.length i with
  | none => rfl
  | some j => simp
theorem RpL.atI {F : Hp} {vs : List V} {ds : List D} (h : RpL F vs ds) {i : Int} {d : D} (e : L2.atI ds i = some d) : ∃ v, L2.atI vs i = some v ∧ Rp F v d := by
  unfold L2.atI at e ⊢
  rw [h.len]
  cases q : L2.ixN ds.length i with
  | none => rw [q] at e; cases e
  | some j =>
    rw [q] at e
    exact h.at e
/-- a[i] -/
def rIdxE (K : PySem.W.Frag) (T : List (Addr × Str)) : R2 := fun x y H Q => ∃ W st a b r, StoOk T W st H ∧ RpV K W x a ∧ RpV K W y b ∧ evIdx a b st = some r ∧ Gives K T W H st r Q
theorem ix_idxE : IxR X (rIdxE X.K T) := by
  intro ve se pins s σ H x y v u Q I rx ry h pl
  obtain ⟨W, st, a, b, r, so, ra, rb, e, g⟩ := h
  unfold evIdx at e
  split at e
  · rename_i xs i
    cases rb
    cases q : L2.atI xs i with
    | none => rw [q] at e; cases e
    | some d =>
      rw [q] at e
      cases e
      cases ra with
      | lst f1 l1 =>
        obtain ⟨w, e1, r1⟩ := l1.atI q
        exact ix_list ve se pins s σ H _ _ v u Q I rx ry ⟨_, _, _, w, rfl, rfl, sq_of so.sub f1, e1, g.now so r1⟩ pl
  · rename_i xs i
    cases rb
    cases q : L2.atI xs i with
    | none => rw [q] at e; cases e
    | some d =>
      rw [q] at e
      cases e
      cases ra with
      | tup f1 l1 =>
        obtain ⟨w, e1, r1⟩ := l1.atI q
        exact ix_tup ve se pins s σ H _ _ v u Q I rx ry ⟨_, _, _, w, rfl, rfl, st_of so.sub f1, e1, g.now so r1⟩ pl
  · rename_i ns i
    cases rb
    cases q : L2.atI ns i with
    | none => rw [q] at e; cases e
    | some n =>
      rw [q] at e
      cases e
      obtain ⟨p, rfl, hp⟩ := ra
      exact ix_list ve se pins s σ H _ _ v u Q I rx ry ⟨_, _, _, .int n, rfl, rfl, SqL.sub so.sub hp, by rw [atI_map, q]; rfl, g.now so (.int n)⟩ pl
  · rename_i n i
    cases rb
    split at e
    · rename_i xs hn
      cases q : L2.atI xs i with
      | none => rw [q] at e; cases e
      | some d =>
        rw [q] at e
        cases e
        obtain ⟨p, rfl, hp⟩ := ra
        obtain ⟨p2, h1, h2, vs, h3, h4⟩ := so.obj _ _ hn
        rw [hp] at h1
        cases h1
        obtain ⟨w, e1, r1⟩ := h4.atI q
        exact ix_list ve se pins s σ H _ _ v u Q I rx ry ⟨_, _, _, w, rfl, rfl, .inl (.inl h3), e1, g.now so r1⟩ pl
    · cases e
  · cases e
/-- a[lo:hi] -/
def rSlcE (K : PySem.W.Frag) (T : List (Addr × Str)) : V → Option Int → Option Int → Hp → VK → Prop := fun x lo hi H Q => ∃ W st a r, StoOk T W st H ∧ RpV K W x a ∧ evSlc a lo hi = some r ∧ Gives K T W H st r Q
theorem cut_whole (xs : List V) (lo hi : Option Int) (h : HT.sIx xs.length 0 lo = 0 ∧ HT.sIx xs.length xs.length hi = xs.length) : cutV xs lo hi = xs := by
  unfold cutV
  rw [h.1, h.2]
  simp
theorem sl_slcE : SlR X (rSlcE X.K T) := by
  intro pins s σ H x v vl vu lo hi sl Q I rx hs pl pu h
  obtain ⟨W, st, a, r, so, ra, e, g⟩ := h
  unfold evSlc at e
  split at e
  · cases e
    cases ra with
    | lst f1 l1 => exact sl_list pins s σ H _ v vl vu lo hi sl Q I rx hs pl pu ⟨_, _, rfl, sq_of so.sub f1, fun p n => g.lst so (cut_eq l1 lo hi) n⟩
  · cases e
    cases ra with
    | tup f1 l1 =>
      refine sl_tupA pins s σ H _ v vl vu lo hi sl Q I rx hs pl pu ⟨_, _, rfl, st_of so.sub f1, fun z => ?_, fun _ p n => g.tup so (cut_eq l1 lo hi) n⟩
      refine g.now so (.tup f1 ?_)
      have q := cut_eq l1 lo hi
      rw [cut_whole _ lo hi z] at q
      exact q
  · cases e
/-- isinstance(a, T) -/
theorem call_isiE {Tn : String} (hT : Tn = "int" ∨ Tn = "bool" ∨ Tn = "tuple" ∨ Tn = "str" ∨ Tn = "list") : CallR X (.builtin "isinstance") (fun xs H Q => ∃ W st x a k, xs = [x, .ty Tn] ∧ StoOk T W st H ∧ RpV X.K W x a ∧ evIsi a Tn = some k ∧ Q (.bl k) H) := by
  intro pins s σ H xs us Q I r h
  obtain ⟨W, st, x, a, k, rfl, so, ra, e, q⟩ := h
  unfold evIsi at e
  split at e
  · cases ra; cases e
    refine call_isi pins s σ H _ us Q I r ⟨_, _, _, _, _, rfl, .ty _, .base (.non), ?_, q⟩
    rcases hT with rfl | rfl | rfl | rfl | rfl <;> exact kit_ty (by decide +kernel)
  · cases ra; cases e
    refine call_isi pins s σ H _ us Q I r ⟨_, _, _, _, _, rfl, .ty _, .base (.bl _), ?_, q⟩
    rcases hT with rfl | rfl | rfl | rfl | rfl <;> exact kit_ty (by decide +kernel)
  · cases ra; cases e
    refine call_isi pins s σ H _ us Q I r ⟨_, _, _, _, _, rfl, .ty _, .base (.int _), ?_, q⟩
    rcases hT with rfl | rfl | rfl | rfl | rfl <;> exact kit_ty (by decide +kernel)
  · cases ra; cases e
    refine call_isi pins s σ H _ us Q I r ⟨_, _, _, _, _, rfl, .ty _, .base (.str _), ?_, q⟩
    rcases hT with rfl | rfl | rfl | rfl | rfl <;> exact kit_ty (by decide +kernel)
  · cases e
    cases ra with
    | lst f1 l1 =>
      refine call_isi pins s σ H _ us Q I r ⟨_, _, _, _, _, rfl, .ty _, .base (.lst (so.sub _ _ f1)), ?_, q⟩
      rcases hT with rfl | rfl | rfl | rfl | rfl <;> exact kit_ty (by decide +kernel)
  · cases e
    cases ra with
    | tup f1 l1 =>
      refine call_isi pins s σ H _ us Q I r ⟨_, _, _, _, _, rfl, .ty _, .base (.tup (so.sub _ _ f1)), ?_, q⟩
      rcases hT with rfl | rfl | rfl | rfl | rfl <;> exact kit_ty (by decide +kernel)
  · cases e
/-- a value's truth -/
theorem tru_of {W : Wd} {st : Sto} {H : Hp} (so : StoOk T W st H) {v : V} {x : Vl} {k : Bool} (r : RpV X.K W v x) (e : truth x = some k) : TruV X.K v H k := by
  unfold truth at e
  split at e
  · cases r; cases e; rfl
  · cases r; cases e; rfl
  · cases r; cases e; rfl
  · cases e
    cases r with
    | lst f l => exact .inl ⟨_, sq_of so.sub f, by rw [l.empty]⟩
  · cases e
    cases r with
    | tup f l => exact .inr (.inl ⟨_, st_of so.sub f, by rw [l.empty]⟩)
  · cases e
/-- what a built-in function gives -/
def rBfE (K : PySem.W.Frag) (T : List (Addr × Str)) (b : Bf) : List V → Hp → VK → Prop := fun xs H Q => ∃ W st as r, StoOk T W st H ∧ RpVs K W xs as ∧ evBf b as = some r ∧ Gives K T W H st r Q
def bfName : Bf → Str × Value
  | .len => ("len", .builtin "len")
  | .tuple => ("tuple", .type "tuple")
  | .list => ("list", .type "list")
  | .abs => ("abs", .builtin "abs")
  | .max2 => ("max", .builtin "max")
  | .min2 => ("min", .builtin "min")
  | .int => ("int", .type "int")
  | .all => ("all", .builtin "all")
  | .sum => ("sum", .builtin "sum")
  | .str => ("str", .type "str")
  | .sset => ("", .none)
  | .sort => ("sorted", .builtin "sorted")
  | .bool => ("bool", .type "bool")
theorem paired1 {K : PySem.W.Frag} {W : Wd} {xs : List V} {a : Vl} (h : RpVs K W xs [a]) : ∃ x, xs = [x] ∧ RpV K W x a := by
  cases h with
  | cons r t => cases t; exact ⟨_, rfl, r⟩
theorem paired2 {K : PySem.W.Frag} {W : Wd} {xs : List V} {a b : Vl} (h : RpVs K W xs [a, b]) : ∃ x y, xs = [x, y] ∧ RpV K W x a ∧ RpV K W y b := by
  cases h with
  | cons r t =>
    cases t with
    | cons r2 t2 => cases t2; exact ⟨_, _, rfl, r, r2⟩
theorem insS_perm (x : Int) : ∀ l : List Int, (insS x l).Perm (x :: l)
  | [] => List.Perm.refl _
  | y :: r => by
    unfold insS
    split
    · exact List.Perm.refl _
    · exact ((insS_perm x r).cons y).trans (List.Perm.swap x y r)
theorem isort_perm : ∀ l : List Int, (isort l).Perm l
  | [] => List.Perm.refl _
  | x :: r => (insS_perm x (isort r)).trans ((isort_perm r).cons x)
theorem insS_srt {x : Int} : ∀ {l : List Int}, l.Pairwise (· ≤ ·) → (insS x l).Pairwise (· ≤ ·)
  | [], _ => by simp [insS]
  | z :: r, h => by
    unfold insS
    have h1 := List.pairwise_cons.mp h
    split
    · rename_i hx
      refine List.pairwise_cons.mpr ⟨fun y hy => ?_, h⟩
      rcases List.mem_cons.mp hy with e | e
      · rw [e]; exact hx
      · exact Int.le_trans hx (h1.1 y e)
    · rename_i hx
      refine List.pairwise_cons.mpr ⟨fun y hy => ?_, insS_srt h1.2⟩
      rcases List.mem_cons.mp ((insS_perm x r).mem_iff.mp hy) with e | e
      · rw [e]; omega
      · exact h1.1 y e
theorem isort_srt : ∀ {l : List Int}, (isort l).Pairwise (· ≤ ·)
  | [] => by simp [isort]
  | x :: r => insS_srt (x := x) (isort_srt (l := r))
theorem rise_uniq : ∀ {l m : List Int}, l.Pairwise (· ≤ ·) → m.Pairwise (· ≤ ·) → l.Perm m → l = m
  | [], m, _, _, p => (List.nil_perm.mp p).symm
  | x :: l, [], _, _, p => by cases List.perm_nil.mp p
  | x :: l, y :: m, h1, h2, p => by
    obtain ⟨a1, a2⟩ := List.pairwise_cons.mp h1
    obtain ⟨b1, b2⟩ := List.pairwise_cons.mp h2
    have e : x = y := by
      rcases List.mem_cons.mp (p.mem_iff.mp List.mem_cons_self) with e | e
      · exact e
      · rcases List.mem_cons.mp (p.mem_iff.mpr (List.mem_cons_self : y ∈ y :: m)) with e' | e'
        · exact e'.symm
        · have q1 := b1 x e
          have q2 := a1 y e'
          omega
    subst e
    rw [rise_uniq a2 b2 ((List.perm_cons x).mp p)]
/-- sum of a tuple of ints -/
theorem sum_rawT {prog : Program} {w : World} {A : Around} {E : Value → Shared → Prop} {s : Shared} {l : Addr} {its : List Value} {ns : List Int} {Q : Value → Shared → Prop} (hh : A.handled = none) (hl : IsTup s.heap l its.toArray) (hi : IntsAre its ns)
    (h : ∀ h' tk t', (∀ b o, s.heap.get? b = some o → h'.get? b = some o) → Q (.int ns.sum t') { s with heap := h', toks := tk }) : wpAny (model prog w) A (call (.builtin "sum") [.ref l]) Q E s := by
  obtain ⟨xs, e⟩ := hi.allInts.items
  have hn : numsOf (intItems xs).toList = ns := by rw [← e]; exact hi.numsOf
  rw [nums_intItems] at hn
  rw [e] at hl
  have hlt : l < s.heap.objs.size := by obtain ⟨_, e, _⟩ := hl; exact Heap.lt_size e
  refine PySem.call_sum_walkG (wpAny_pyIter_tuple hl ?_)
  refine ⟨s.heap.objs.size, _, _, _, _, _, numAt xs, rfl, Walks.tuple (A := A.in1) hh _ l (Nat.ne_of_lt hlt) (intItems xs), ⟨⟨_, Heap.get?_push_size _ rfl, rfl, rfl⟩, hl.push _⟩, fun b hb => ?_, (fun _ _ => intItems_at), fun h' tk t' hk => ?_⟩
  · show b < (s.heap.push _).objs.size
    rw [Heap.size_push]
    rcases List.mem_cons.mp hb with rfl | hb
    · exact Nat.lt_succ_self _
    · rcases List.mem_cons.mp hb with rfl | hb
      · exact Nat.lt_succ_of_lt hlt
      · cases hb
  · have := h h' tk t' fun b o eb => hk b o (fun hb => absurd (Heap.lt_size eb) ((List.mem_singleton.mp hb) ▸ Nat.lt_irrefl _)) (Heap.get?_push_of_some _ eb)
    have z : preSum (numAt xs) (intItems xs).size = ns.sum := by
      have zs : (intItems xs).size = xs.size := by simp [intItems]
      rw [zs, preSum_eq, List.take_of_length_le (by simp), hn]
    rw [z]
    exact this
def rSumT (K : PySem.W.Frag) : List V → Hp → VK → Prop := fun vs H Q => ∃ (a : Addr) (ns : List Int), vs = [V.ref a] ∧ SqT K H a (ns.map V.int) ∧ Q (.int ns.sum) H
theorem cr_sumT (hc : X.calm = true) : CallR X (.builtin "sum") (rSumT X.K) := by
  intro pins s σ H vs us Q I r h
  obtain ⟨a, ns, rfl, hs, q⟩ := h
  obtain ⟨its, rv, hl, _⟩ := I.tuple hs
  rw [Vals.ref1 r]
  exact sum_rawT (I.ok.hd hc) hl rv.ints fun h' tk t' hk => ⟨.int _, H, I.kept hk, ⟨_, rfl⟩, q⟩
theorem call_bfE (hc : X.calm = true) (b : Bf) (hb : b ≠ .sset) : CallR X (bfName b).2 (rBfE X.K T b) := by
  intro pins s σ H xs us Q I rx h
  obtain ⟨W, st, as, r, so, ra, e, g⟩ := h
  unfold evBf at e
  split at e
  · obtain ⟨x, rfl, r1⟩ := paired1 ra
    cases e
    cases r1 with
    | lst f l => exact call_len_seq pins s σ H _ us Q I rx ⟨_, _, rfl, .inl (sq_of so.sub f), by rw [l.len]; exact g.now so (.int _)⟩
  · obtain ⟨x, rfl, r1⟩ := paired1 ra
    cases e
    cases r1 with
    | tup f l => exact call_len_seq pins s σ H _ us Q I rx ⟨_, _, rfl, .inr (st_of so.sub f), by rw [l.len]; exact g.now so (.int _)⟩
  · obtain ⟨x, rfl, p, rfl, hp⟩ := paired1 ra
    cases e
    exact call_len_seq pins s σ H _ us Q I rx ⟨_, _, rfl, .inl (SqL.sub so.sub hp), by rw [List.length_map]; exact g.now so (.int _)⟩
  · obtain ⟨x, rfl, r1⟩ := paired1 ra
    cases e
    cases r1 with
    | lst f l => exact call_tuple_of pins s σ H _ us Q I rx ⟨_, _, rfl, .inl ⟨sq_of so.sub f, fun p n => g.tup so l n⟩⟩
  · obtain ⟨x, rfl, r1⟩ := paired1 ra
    cases e
    cases r1 with
    | tup f l => exact call_tuple_of pins s σ H _ us Q I rx ⟨_, _, rfl, .inr ⟨st_of so.sub f, g.now so (.tup f l)⟩⟩
  · obtain ⟨x, rfl, r1⟩ := paired1 ra
    cases e
    cases r1 with
    | lst f l => exact call_list_of pins s σ H _ us Q I rx ⟨_, _, rfl, .inl (sq_of so.sub f), fun p n => g.lst so l n⟩
  · obtain ⟨x, rfl, r1⟩ := paired1 ra
    cases e
    cases r1 with
    | tup f l => exact call_list_of pins s σ H _ us Q I rx ⟨_, _, rfl, .inr (st_of so.sub f), fun p n => g.lst so l n⟩
  · obtain ⟨x, rfl, r1⟩ := paired1 ra
    cases e
    cases r1
    exact call_abs pins s σ H _ us Q I rx ⟨_, rfl, g.now so (.int _)⟩
  · obtain ⟨x, y, rfl, r1, r2⟩ := paired2 ra
    cases e
    cases r1; cases r2
    exact call_max2 hc pins s σ H _ us Q I rx ⟨_, _, rfl, g.now so (.int _)⟩
  · obtain ⟨x, y, rfl, r1, r2⟩ := paired2 ra
    cases e
    cases r1; cases r2
    exact call_min2 hc pins s σ H _ us Q I rx ⟨_, _, rfl, g.now so (.int _)⟩
  · obtain ⟨x, rfl, r1⟩ := paired1 ra
    cases e
    cases r1
    exact call_int1 pins s σ H _ us Q I rx (.inl ⟨_, rfl, g.now so (.int _)⟩)
  · rename_i ds
    obtain ⟨x, rfl, r1⟩ := paired1 ra
    cases q : allBool ds with
    | none => rw [q] at e; cases e
    | some bs =>
      rw [q] at e
      cases e
      cases r1 with
      | lst f l =>
        rw [l.bools q] at f
        exact cr_all hc pins s σ H _ us Q I rx ⟨_, bs, rfl, sq_of so.sub f, g.now so (.bl _)⟩
  · rename_i ds
    obtain ⟨x, rfl, r1⟩ := paired1 ra
    cases q : allInt ds with
    | none => rw [q] at e; cases e
    | some ns =>
      rw [q] at e
      cases e
      cases r1 with
      | lst f l =>
        rw [l.ints q] at f
        exact cr_sum hc pins s σ H _ us Q I rx ⟨_, ns, rfl, sq_of so.sub f, g.now so (.int _)⟩
  · rename_i ds
    obtain ⟨x, rfl, r1⟩ := paired1 ra
    cases q : allInt ds with
    | none => rw [q] at e; cases e
    | some ns =>
      rw [q] at e
      cases e
      cases r1 with
      | tup f l =>
        rw [l.ints q] at f
        exact cr_sumT hc pins s σ H _ us Q I rx ⟨_, ns, rfl, st_of so.sub f, g.now so (.int _)⟩
  · rename_i ds
    obtain ⟨x, rfl, r1⟩ := paired1 ra
    cases q : allInt ds with
    | none => rw [q] at e; cases e
    | some ns =>
      rw [q] at e
      cases e
      cases r1 with
      | lst f l =>
        rw [l.ints q] at f
        refine cr_sortedI pins s σ H _ us Q I rx ⟨_, ns, rfl, sq_of so.sub f, fun ns' p a1 a2 n => ?_⟩
        rw [rise_uniq a2 isort_srt (a1.trans (isort_perm ns).symm)]
        exact g.lst so (RpL.ofInts _) n
  · exact absurd rfl hb
  · cases e

/-! ### ints ascending -/
theorem insI_mem {x y : Int} : ∀ {l : List Int}, y ∈ insI x l ↔ y = x ∨ y ∈ l
  | [] => by simp [insI]
  | z :: r => by
    unfold insI
    split
    · simp
    · split
      · rename_i h
        subst h
        simp
      · rw [List.mem_cons, insI_mem, List.mem_cons]
        constructor
        · rintro (h | h | h)
          · exact .inr (.inl h)
          · exact .inl h
          · exact .inr (.inr h)
        · rintro (h | h | h)
          · exact .inr (.inl h)
          · exact .inl h
          · exact .inr (.inr h)
theorem insI_srt {x : Int} : ∀ {l : List Int}, l.Pairwise (· < ·) → (insI x l).Pairwise (· < ·)
  | [], _ => by simp [insI]
  | z :: r, h => by
    unfold insI
    have h1 := List.pairwise_cons.mp h
    split
    · rename_i hx
      refine List.pairwise_cons.mpr ⟨fun y hy => ?_, h⟩
      rcases List.mem_cons.mp hy with e | e
      · rw [e]; exact hx
      · exact Int.lt_trans hx (h1.1 y e)
    · split
      · exact h
      · rename_i a b
        refine List.pairwise_cons.mpr ⟨fun y hy => ?_, insI_srt h1.2⟩
        rcases insI_mem.mp hy with e | e
        · rw [e]; omega
        · exact h1.1 y e
theorem ssetI_mem {y : Int} : ∀ {l : List Int}, y ∈ ssetI l ↔ y ∈ l
  | [] => by simp [ssetI]
  | x :: r => by
    show y ∈ insI x (ssetI r) ↔ _
    rw [insI_mem, ssetI_mem, List.mem_cons]
theorem ssetI_srt : ∀ {l : List Int}, (ssetI l).Pairwise (· < ·)
  | [] => by simp [ssetI]
  | x :: r => insI_srt (x := x) (ssetI_srt (l := r))
theorem srt_uniq : ∀ {l m : List Int}, l.Pairwise (· < ·) → m.Pairwise (· < ·) → (∀ x, x ∈ l ↔ x ∈ m) → l = m
  | [], [], _, _, _ => rfl
  | [], y :: m, _, _, h => absurd ((h y).mpr List.mem_cons_self) (by simp)
  | x :: l, [], _, _, h => absurd ((h x).mp List.mem_cons_self) (by simp)
  | x :: l, y :: m, h1, h2, h => by
    obtain ⟨a1, a2⟩ := List.pairwise_cons.mp h1
    obtain ⟨b1, b2⟩ := List.pairwise_cons.mp h2
    have e : x = y := by
      rcases List.mem_cons.mp ((h x).mp List.mem_cons_self) with e | e
      · exact e
      · rcases List.mem_cons.mp ((h y).mpr List.mem_cons_self) with e' | e'
        · exact e'.symm
        · have q1 := b1 x e
          have q2 := a1 y e'
          omega
    subst e
    refine congrArg _ (srt_uniq a2 b2 fun z => ?_)
    constructor
    · intro hz
      rcases List.mem_cons.mp ((h z).mp (List.mem_cons_of_mem _ hz)) with e | e
      · have := a1 z hz
        omega
      · exact e
    · intro hz
      rcases List.mem_cons.mp ((h z).mpr (List.mem_cons_of_mem _ hz)) with e | e
      · have := b1 z hz
        omega
      · exact e
end
end Ar
set_option Elab.async false
set_option linter.all false
set_option maxRecDepth 100000
set_option maxHeartbeats 4000000
/-! Ar5: what a def's slots hold; the look that compares a text of ours with the program's; iterators. -/
namespace Ar
open PySem PySem.Spec PyProof.Rows L2

/-! ### slots -/
structure SlotOk (K : PySem.W.Frag) (W : Wd) (H : Hp) (ρ : Env) (σ : L2.St) : Prop where
  len : σ.length = ρ.length
  at_ : ∀ (i : Nat) x, ρ[i]? = some (.v x) → ∃ u, σ[i]? = some (some u) ∧ RpV K W u x
  own : ∀ (i : Nat) xs, ρ[i]? = some (.own xs) → ∃ a vs, σ[i]? = some (some (.ref a)) ∧ H a = some (.lst vs) ∧ RpL W.F vs xs ∧ W.F a = none ∧ ∀ n, W.β n ≠ some a
  dis : ∀ (i j : Nat) xs ys, i ≠ j → ρ[i]? = some (.own xs) → ρ[j]? = some (.own ys) → σ[i]? ≠ σ[j]?
section
variable {K : PySem.W.Frag} {W W' : Wd} {H H' : Hp} {ρ : Env} {σ : L2.St}
theorem SlotOk.step (h : SlotOk K W H ρ σ) (s : Step W H W' H') : SlotOk K W' H' ρ σ where
  len := h.len
  at_ := fun i x e => by
    obtain ⟨u, h1, h2⟩ := h.at_ i x e
    exact ⟨u, h1, h2.step s⟩
  own := fun i xs e => by
    obtain ⟨a, vs, h1, h2, h3, h4, h5⟩ := h.own i xs e
    refine ⟨a, vs, h1, s.fr _ _ h2 h5 (fun _ z => by cases z), RpL.mono s.fx _ _ h3, ?_, fun n z => ?_⟩
    · cases q : W'.F a with
      | none => rfl
      | some o =>
        rcases s.fn a o q with z | z
        · rw [h4] at z; cases z
        · rw [h2] at z; cases z
    · rcases s.bn n a z with z | z
      · exact h5 n z
      · rw [h2] at z; cases z
  dis := h.dis
theorem wipeE_at {ρ : Env} {i : Nat} {x : Slot} : ∀ {vs : List Nat}, (wipeE ρ vs)[i]? = some x → x ≠ .un → ρ[i]? = some x ∧ i ∉ vs
  | [], h, _ => ⟨h, by simp⟩
  | v :: vs, h, n => by
    unfold wipeE at h
    by_cases e : v = i
    · subst e
      by_cases hl : v < (wipeE ρ vs).length
      · rw [List.getElem?_set_self hl] at h
        exact absurd (Option.some.inj h).symm n
      · rw [List.getElem?_eq_none (by simpa using hl)] at h
        cases h
    · rw [List.getElem?_set_ne e] at h
      obtain ⟨h1, h2⟩ := wipeE_at h n
      exact ⟨h1, by simp only [List.mem_cons, not_or]; exact ⟨fun z => e z.symm, h2⟩⟩
theorem wipeE_len (ρ : Env) : ∀ vs : List Nat, (wipeE ρ vs).length = ρ.length
  | [] => rfl
  | v :: vs => by unfold wipeE; rw [List.length_set, wipeE_len ρ vs]
theorem dropE_at {ρ : Env} {i : Nat} {x : Slot} (h : (dropE ρ)[i]? = some x) : (∃ xs, ρ[i]? = some (.own xs) ∧ x = .un) ∨ (ρ[i]? = some x ∧ ∀ xs, x ≠ .own xs) := by
  unfold dropE at h
  rw [List.getElem?_map] at h
  cases q : ρ[i]? with
  | none => rw [q] at h; cases h
  | some y =>
    rw [q] at h
    cases y with
    | own xs => exact .inl ⟨xs, rfl, (Option.some.inj h).symm⟩
    | un =>
      obtain rfl : Slot.un = x := Option.some.inj h
      exact .inr ⟨rfl, fun xs z => by cases z⟩
    | v y =>
      obtain rfl : Slot.v y = x := Option.some.inj h
      exact .inr ⟨rfl, fun xs z => by cases z⟩
theorem SlotOk.drop (h : SlotOk K W H ρ σ) : SlotOk K W H (dropE ρ) σ where
  len := by rw [h.len]; unfold dropE; rw [List.length_map]
  at_ := fun i x e => by
    rcases dropE_at e with ⟨xs, _, z⟩ | ⟨z, _⟩
    · cases z
    · exact h.at_ i x z
  own := fun i xs e => by
    rcases dropE_at e with ⟨xs, _, z⟩ | ⟨_, z⟩
    · cases z
    · exact absurd rfl (z xs)
  dis := fun i j xs ys _ e _ => by
    rcases dropE_at e with ⟨xs, _, z⟩ | ⟨_, z⟩
    · cases z
    · exact absurd rfl (z xs)
theorem SlotOk.wipe (h : SlotOk K W H ρ σ) (vs : List Nat) : SlotOk K W H (wipeE ρ vs) (L2.wipe σ vs) where
  len := by rw [L2.wipe_length, wipeE_len, h.len]
  at_ := fun i x e => by
    obtain ⟨e1, e2⟩ := wipeE_at e (by intro z; cases z)
    obtain ⟨u, h1, h2⟩ := h.at_ i x e1
    exact ⟨u, by rw [L2.wipe_out e2]; exact h1, h2⟩
  own := fun i xs e => by
    obtain ⟨e1, e2⟩ := wipeE_at e (by intro z; cases z)
    obtain ⟨a, ws, h1, h2⟩ := h.own i xs e1
    exact ⟨a, ws, by rw [L2.wipe_out e2]; exact h1, h2⟩
  dis := fun i j xs ys n e f => by
    obtain ⟨e1, e2⟩ := wipeE_at e (by intro z; cases z)
    obtain ⟨f1, f2⟩ := wipeE_at f (by intro z; cases z)
    rw [L2.wipe_out e2, L2.wipe_out f2]
    exact h.dis i j xs ys n e1 f1
theorem SlotOk.blk (h : SlotOk K W H ρ σ) (vs : List Nat) : SlotOk K W H (blkE ρ vs) (L2.wipe σ vs) := h.drop.wipe vs
theorem set_at {α : Type} {l : List α} {i j : Nat} {x y : α} (h : (l.set i x)[j]? = some y) : (i = j ∧ x = y) ∨ (i ≠ j ∧ l[j]? = some y) := by
  by_cases e : i = j
  · subst e
    by_cases hl : i < l.length
    · rw [List.getElem?_set_self hl] at h
      exact .inl ⟨rfl, Option.some.inj h⟩
    · rw [List.getElem?_eq_none (by simpa using hl)] at h
      cases h
  · rw [List.getElem?_set_ne e] at h
    exact .inr ⟨e, h⟩
theorem set_is {α β : Type} {l : List α} {m : List β} (hl : m.length = l.length) {i : Nat} {x y : α} {z : β} (h : (l.set i x)[i]? = some y) : (m.set i z)[i]? = some z := by
  by_cases hi : i < l.length
  · exact List.getElem?_set_self (by omega)
  · rw [List.getElem?_eq_none (by simpa using hi)] at h
    cases h
theorem SlotOk.set (h : SlotOk K W H ρ σ) (i : Nat) {u : V} {x : Vl} (r : RpV K W u x) : SlotOk K W H (ρ.set i (.v x)) (σ.set i (some u)) where
  len := by rw [List.length_set, List.length_set, h.len]
  at_ := fun j y e => by
    rcases set_at e with ⟨rfl, z⟩ | ⟨n, z⟩
    · cases z
      exact ⟨u, set_is h.len e, r⟩
    · obtain ⟨w, h1, h2⟩ := h.at_ j y z
      exact ⟨w, by rw [List.getElem?_set_ne n]; exact h1, h2⟩
  own := fun j xs e => by
    rcases set_at e with ⟨rfl, z⟩ | ⟨n, z⟩
    · cases z
    · obtain ⟨a, ws, h1, h2⟩ := h.own j xs z
      exact ⟨a, ws, by rw [List.getElem?_set_ne n]; exact h1, h2⟩
  dis := fun j k xs ys n e f => by
    rcases set_at e with ⟨rfl, z⟩ | ⟨n1, z1⟩
    · cases z
    · rcases set_at f with ⟨rfl, z⟩ | ⟨n2, z2⟩
      · cases z
      · rw [List.getElem?_set_ne n1, List.getElem?_set_ne n2]
        exact h.dis j k xs ys n z1 z2
/-- forgetting a slot -/
theorem SlotOk.unset (h : SlotOk K W H ρ σ) (i : Nat) (u : Option V) : SlotOk K W H (ρ.set i .un) (σ.set i u) where
  len := by rw [List.length_set, List.length_set, h.len]
  at_ := fun j y e => by
    rcases set_at e with ⟨rfl, z⟩ | ⟨n, z⟩
    · cases z
    · obtain ⟨w, h1, h2⟩ := h.at_ j y z
      exact ⟨w, by rw [List.getElem?_set_ne n]; exact h1, h2⟩
  own := fun j xs e => by
    rcases set_at e with ⟨rfl, z⟩ | ⟨n, z⟩
    · cases z
    · obtain ⟨a, ws, h1, h2⟩ := h.own j xs z
      exact ⟨a, ws, by rw [List.getElem?_set_ne n]; exact h1, h2⟩
  dis := fun j k xs ys n e f => by
    rcases set_at e with ⟨rfl, z⟩ | ⟨n1, z1⟩
    · cases z
    · rcases set_at f with ⟨rfl, z⟩ | ⟨n2, z2⟩
      · cases z
      · rw [List.getElem?_set_ne n1, List.getElem?_set_ne n2]
        exact h.dis j k xs ys n z1 z2
theorem SlotOk.setAll : ∀ {is : List Nat} {xs : List D} {ρ ρ' : Env} {σ : L2.St} {us : List V}, SlotOk K W H ρ σ → RpL W.F us xs → setAll ρ is xs = some ρ' → us.length = is.length ∧
    SlotOk K W H ρ' ((is.zip us).foldl (fun σ p => σ.set p.1 (some p.2)) σ)
  | [], [], ρ, ρ', σ, us, h, r, e => by
    cases r
    obtain rfl : ρ = ρ' := Option.some.inj e
    exact ⟨rfl, h⟩
  | i :: is, x :: xs, ρ, ρ', σ, us, h, r, e => by
    cases r with
    | cons r1 r2 =>
      obtain ⟨l, q⟩ := SlotOk.setAll (h.set i (x := .d x) r1) r2 e
      exact ⟨congrArg Nat.succ l, q⟩
  | [], _ :: _, _, _, _, _, _, _, e => by cases e
  | _ :: _, [], _, _, _, _, _, _, e => by cases e
end

/-! ### what a context must be -/
structure GI where
  defs : List Str
  nums : List (Str × Int)
  free : List Str
  excs : List Str
  cat : Option Str
/-- the promise of a def by its meaning -/
def spOf (K : PySem.W.Frag) (T : List (Addr × Str)) (mg : Str → Option Value) (fn : List Vl → Sto → Res Vl) : Sp := fun vs H Q E => ∃ W st as, StoOk T W st H ∧ RpVs K W vs as ∧ Post T mg (RpV K) W H E Q (fn as st)
def FnAt (P : Program) (w : World) (K : PySem.W.Frag) (mg : Str → Option Value) (base : Heap) (T : List (Addr × Str)) (n : Nat) (x : Str) (fn : List Vl → Sto → Res Vl) : Prop :=
  ∃ f fd ps, mg x = some (.ref f) ∧ PySem.W.keepIn K (.ref f) = true ∧ Binds K fd ps [] ∧ FnOk P w K mg base (L2N.CX P w) n f fd ps (spOf K T mg fn) ∧ (∃ oc od osl, K.lookup f = some ⟨oc, od, .func fd, osl⟩) ∧ ps = fd.params.args.map (·.arg)
/-- the def that catches, the labels of each error's class -/
def CatOk (K : PySem.W.Frag) (mg : Str → Option Value) (nm : Str → Option Str) (x : Str) : Prop := ∃ C : Ht.CaAt K mg x, ∀ y r, nm y = some r → y ≠ ("TooMany" : Str) ∧ ∃ D, mg y = some (.ref D) ∧ PySem.W.exmOne K (.ref D) (.ref C.R) = some true ∧ Ht.Labels C.N D r
structure CxOk (X : Cx) (g : GI) (T : List (Addr × Str)) (G : Gd) (n : Nat) (E : XK) : Prop where
  calm : X.calm = true
  nd : X.N.Nodup
  room : Room n X.A
  pass : Passes (L2N.CX X.prog X.w) X E
  fns : ∀ (f : Nat) x, g.defs[f]? = some x → FnAt X.prog X.w X.K X.mg X.base T n x (G.fn f)
  nums : ∀ p ∈ g.nums, ∃ t, X.mg p.1 = some (.int p.2 t)
  free : ∀ x ∈ g.free, X.mg x = none
  f2 : ∀ f2, G.fn2 = some f2 → 2 ≤ n ∧ ∀ (f : Nat) x, g.defs[f]? = some x → FnAt X.prog X.w X.K X.mg X.base T (n - 2) x (f2 f)
  cat : ∀ x, g.cat = some x → CatOk X.K X.mg G.nm x
theorem CxOk.hu {X : Cx} {g : GI} {T : List (Addr × Str)} {G : Gd} {n : Nat} {E : XK} (h : CxOk X g T G n E) : X.A.units + 65 < cLine := by
  have := h.room.un
  omega

/-! ### readings -/
section
variable (K : PySem.W.Frag) (T : List (Addr × Str)) (mg : Str → Option Value) (E : XK)
def tR {α β : Type} (Rl : Wd → β → α → Prop) (f : Env → Sto → Res α) : L2.St → Hp → (β → Hp → Prop) → Prop := fun σ H Q => ∃ W ρ st, StoOk T W st H ∧ SlotOk K W H ρ σ ∧ Post T mg Rl W H E Q (f ρ st)
abbrev tV (f : Env → Sto → Res Vl) : TE := tR K T mg E (RpV K) f
abbrev tVs (f : Env → Sto → Res (List Vl)) : TA := tR K T mg E (RpVs K) f
def EqB : Wd → Bool → Bool → Prop := fun _ a b => a = b
abbrev tBo (f : Env → Sto → Res Bool) : TT := tR K T mg E EqB f
end
theorem _root_.L2.PE.weak {X : Cx} {e : Expr} {t t' : TE} (h : PE X e t) (w : ∀ σ H Q, t' σ H Q → t σ H Q) : PE X e t' := ⟨fun pins s σ H Q I q => h.run pins s σ H Q I (w σ H Q q)⟩
theorem _root_.L2.PA.weak {X : Cx} {e : List Expr} {t t' : TA} (h : PA X e t) (w : ∀ σ H Q, t' σ H Q → t σ H Q) : PA X e t' := ⟨fun pos pins s σ H Q I q => h.run pos pins s σ H Q I (w σ H Q q)⟩
theorem _root_.L2.PT.weak {X : Cx} {e : Expr} {t t' : TT} (h : PT X e t) (w : ∀ σ H Q, t' σ H Q → t σ H Q) : PT X e t' := ⟨fun pins s σ H Q I q => h.run pins s σ H Q I (w σ H Q q)⟩
theorem _root_.L2.PW.weak {X : Cx} {e : Expr} {t t' : TT} (h : PW X e t) (w : ∀ σ H Q, t' σ H Q → t σ H Q) : PW X e t' := ⟨fun wh pins s σ H Q I q => h.run wh pins s σ H Q I (w σ H Q q)⟩
section
variable {K : PySem.W.Frag} {T : List (Addr × Str)} {mg : Str → Option Value} {E : XK} {α β γ δ : Type} {Rl : Wd → β → α → Prop} {Rm : Wd → δ → γ → Prop}
/-- the first part of two: its reading, from the whole's -/
theorem first {W : Wd} {ρ : Env} {st : Sto} {σ : L2.St} {H : Hp} {Q : β → Hp → Prop} {R : δ → Hp → Prop} {f : Env → Sto → Res γ} {k : γ → Sto → Res α} (so : StoOk T W st H) (sl : SlotOk K W H ρ σ) (h : Post T mg Rl W H E Q ((f ρ st).bind k))
    (n : ∀ W1 s1 v x H1, Step W H W1 H1 → StoOk T W1 s1 H1 → SlotOk K W1 H1 ρ σ → Rm W1 v x → Post T mg Rl W1 H1 E Q (k x s1) → R v H1) : tR K T mg E Rm f σ H R :=
  ⟨W, ρ, st, so, sl, Post.bind h fun W1 s1 v x H1 s' o r _ p => n W1 s1 v x H1 s' o (sl.step s') r p⟩
/-- .. where its value is asked for further -/
theorem Post.take {W : Wd} {H : Hp} {Q : β → Hp → Prop} {o : Option γ} {st : Sto} {k : γ → Sto → Res α} (h : Post T mg Rl W H E Q ((Res.opt o st).bind k)) : ∃ x, o = some x ∧ Post T mg Rl W H E Q (k x st) := by
  cases o with
  | none => exact (show False from h).elim
  | some x => exact ⟨x, rfl, h⟩
theorem Post.val {W : Wd} {H : Hp} {Q : β → Hp → Prop} {x : α} {st : Sto} (h : Post T mg Rl W H E Q (.ok x st)) (so : StoOk T W st H) {v : β} (r : Rl W v x) : Q v H := h W v H (Step.refl _ _) so r
end
end Ar
set_option Elab.async false
set_option linter.all false
set_option maxRecDepth 100000
set_option maxHeartbeats 4000000
/-! Ar6: each construct of an expression, by the layer's rule. -/
namespace Ar
open PySem PySem.Spec PyProof.Rows L2

/-! ### argument lists -/
def noStar : Expr → Bool
  | .Starred _ _ => false
  | _ => true
theorem star_cons {e : Expr} {es : List Expr} {env : PySem.Env} (h : noStar e = true) : starEach (e :: es) env = (false, eval e env) :: starEach es env := by
  cases e <;> first | rfl | cases h
theorem star_none : ∀ {es : List Expr} {env : PySem.Env}, es.all noStar = true → (starEach es env).any (·.1) = false
  | [], _, _ => rfl
  | e :: es, env, h => by
    rw [List.all_cons, Bool.and_eq_true] at h
    rw [star_cons h.1, List.any_cons, star_none h.2]
    rfl
theorem back_none {p : Pos} {l : List (Bool × Sem Value)} (h : l.any (·.1) = false) : (backTo p l).any (·.1) = false := by
  unfold backTo
  rw [List.any_map]
  exact h
theorem plain_args {p : Pos} {es : List Expr} {env : PySem.Env} (h : es.all noStar = true) : (backTo p (starEach es env)).any (·.1) = false := back_none (star_none h)

abbrev tv (X : Cx) (T : List (Addr × Str)) (G : Gd) (E : XK) (c : C) : TE := tV X.K T X.mg E (fun ρ st => ev G c ρ st)
abbrev tvs (X : Cx) (T : List (Addr × Str)) (G : Gd) (E : XK) (c : List C) : TA := tVs X.K T X.mg E (fun ρ st => evL G c ρ st)
def evT (G : Gd) (c : C) (ρ : Env) (st : Sto) : Res Bool := (ev G c ρ st).bind fun x s1 => Res.opt (truth x) s1
abbrev tb (X : Cx) (T : List (Addr × Str)) (G : Gd) (E : XK) (c : C) : TT := tBo X.K T X.mg E (fun ρ st => evT G c ρ st)
section
variable {X : Cx} {g : GI} {T : List (Addr × Str)} {G : Gd} {n : Nat} {E : XK} {a b c e : Expr} {es : List Expr} {ca cb cc : C} {ces : List C} {pos p p1 p2 p3 : Pos} {x : Str}
theorem s_var {i : Nat} (hN : X.N[i]? = some x) (hv : Vis X.env.scope x) (hd : (x == ("__debug__" : Str)) = false) (hcd : (x == ("__classdict__" : Str)) = false) : PE X (.Name x pos) (tv X T G E (.var i)) :=
  (pe_var hN hv hd hcd).weak fun σ H Q ⟨W, ρ, st, so, sl, h⟩ => by
    have h : Post T X.mg (RpV X.K) W H E Q (match ρ[i]? with | some (.v x) => .ok x st | _ => .bad) := h
    split at h
    · rename_i y q
      obtain ⟨u, h1, h2⟩ := sl.at_ i y q
      exact ⟨u, h1, h.val so h2⟩
    · exact (show False from h).elim
theorem s_int {i : Int} {j : Nat} : PE X (.Constant (.int i) j pos) (tv X T G E (.int i)) := pe_int.weak fun σ H Q ⟨W, ρ, st, so, sl, h⟩ => h.val so (.int i)
theorem s_bl {i : Bool} {j : Nat} : PE X (.Constant (.bool i) j pos) (tv X T G E (.bl i)) := pe_bl.weak fun σ H Q ⟨W, ρ, st, so, sl, h⟩ => h.val so (.bl i)
theorem s_non {j : Nat} : PE X (.Constant .none j pos) (tv X T G E .non) := pe_non.weak fun σ H Q ⟨W, ρ, st, so, sl, h⟩ => h.val so .non
theorem s_str {i : Str} {j : Nat} : PE X (.Constant (.str i) j pos) (tv X T G E (.str i)) := pe_str.weak fun σ H Q ⟨W, ρ, st, so, sl, h⟩ => h.val so (.str i)
theorem s_glob {i : Int} (hg : Gl X x) (hm : ∃ t, X.mg x = some (.int i t)) (hd : (x == ("__debug__" : Str)) = false) : PE X (.Name x pos) (tv X T G E (.glob x i)) := by
  obtain ⟨t, hm⟩ := hm
  exact (pe_glob hg hm (v := .int i) ⟨t, rfl⟩ hd).weak fun σ H Q ⟨W, ρ, st, so, sl, h⟩ => h.val so (.int i)
theorem s_bin {op : Operator} (ha : PE X a (tv X T G E ca)) (hb : PE X b (tv X T G E cb)) : PE X (.BinOp a op b pos) (tv X T G E (.bin op ca cb)) :=
  (pe_op (op_binE (T := T) op) ha hb).weak fun σ H Q ⟨W, ρ, st, so, sl, h⟩ =>
    first so sl h fun W1 s1 v x H1 p1 so1 sl1 r1 h1 => first so1 sl1 h1 fun W2 s2 u y H2 p2 so2 sl2 r2 h2 => by
      obtain ⟨z, e, q⟩ := Post.opt h2
      exact ⟨W2, s2, x, y, z, so2, r1.step p2, r2, e, q⟩
theorem s_neg (ha : PE X a (tv X T G E ca)) : PE X (.UnaryOp .USub a pos) (tv X T G E (.neg ca)) :=
  (pe_un un_neg ha).weak fun σ H Q ⟨W, ρ, st, so, sl, h⟩ => first so sl h fun W1 s1 v x H1 p1 so1 sl1 r1 h1 => by
    obtain ⟨z, e, q⟩ := Post.opt h1
    cases e2 : asInt x with
    | none => rw [e2] at e; cases e
    | some i =>
      rw [e2] at e
      cases e
      unfold asInt at e2
      split at e2
      · cases e2; cases r1
        exact ⟨_, rfl, q W1 _ H1 (Step.refl _ _) so1 (.int _)⟩
      · cases e2
theorem ofB_some {o : Option Bool} {z : Vl} (h : ofB o = some z) : ∃ k, o = some k ∧ z = .d (.bool k) := by
  cases o with
  | none => cases h
  | some k => exact ⟨k, rfl, (Option.some.inj h).symm⟩
theorem s_cmp {op : CmpOp} (ok : CxOk X g T G n E) (ha : PE X a (tv X T G E ca)) (hb : PE X b (tv X T G E cb)) (hm : behindInMarks op b = false) : PE X (.Compare a [op] [b] pos) (tv X T G E (.cmp op ca cb)) :=
  (pe_cmpR (op_cmpE (T := T) ok.hu op) ha hb hm).weak fun σ H Q ⟨W, ρ, st, so, sl, h⟩ =>
    first so sl h fun W1 s1 v x H1 p1 so1 sl1 r1 h1 => first so1 sl1 h1 fun W2 s2 u y H2 p2 so2 sl2 r2 h2 => by
      obtain ⟨z, e, q⟩ := Post.opt h2
      obtain ⟨k, e1, rfl⟩ := ofB_some e
      exact ⟨W2, s2, x, y, k, so2, r1.step p2, r2, e1, q W2 _ H2 (Step.refl _ _) so2 (.bl k)⟩
theorem s_chain {op op' : CmpOp} (ok : CxOk X g T G n E) (ha : PE X a (tv X T G E ca)) (hb : PE X b (tv X T G E cb)) (hc : PE X c (tv X T G E cc)) (hm : lastMarks [op, op'] [b, c] = false) : PE X (.Compare a [op, op'] [b, c] pos) (tv X T G E (.chain op op' ca cb cc)) :=
  (pe_chain (op_cmpE (T := T) ok.hu op) (op_cmpE (T := T) ok.hu op') ha hb hc hm).weak fun σ H Q ⟨W, ρ, st, so, sl, h⟩ =>
    first so sl h fun W1 s1 v x H1 p1 so1 sl1 r1 h1 => first so1 sl1 h1 fun W2 s2 u y H2 p2 so2 sl2 r2 h2 => by
      obtain ⟨k, e, h3⟩ := Post.take h2
      refine ⟨W2, s2, x, y, k, so2, r1.step p2, r2, e, k, rfl, ?_⟩
      cases k with
      | false => exact h3.val so2 (.bl false)
      | true =>
        exact first so2 sl2 h3 fun W3 s3 w z H3 p3 so3 sl3 r3 h4 => by
          obtain ⟨z', e2, q⟩ := Post.opt h4
          obtain ⟨k, e1, rfl⟩ := ofB_some e2
          exact ⟨W3, s3, y, z, k, so3, r2.step p3, r3, e1, q W3 _ H3 (Step.refl _ _) so3 (.bl k)⟩
/-! ### truth -/
theorem un_not : UnR X (unaryOp .Not) (fun x H Q => ∃ k, TruV X.K x H k ∧ Q (.bl (!k)) H) := by
  intro pins s σ H x v Q I r h
  obtain ⟨k, t, q⟩ := h
  exact not_of (thn (tru_ok pins s σ H x v (fun k' H' => k' = k ∧ H' = H) I r ⟨k, t, rfl, rfl⟩) fun k' s' ⟨H', I', e1, e2⟩ => by
    subst e1 e2
    exact ⟨.bl _, _, I', rfl, q⟩)
theorem s_not (ha : PE X a (tv X T G E ca)) : PE X (.UnaryOp .Not a pos) (tv X T G E (.not ca)) :=
  (pe_un un_not ha).weak fun σ H Q ⟨W, ρ, st, so, sl, h⟩ => first so sl h fun W1 s1 v x H1 p1 so1 sl1 r1 h1 => by
    obtain ⟨z, e, q⟩ := Post.opt h1
    cases e2 : truth x with
    | none => rw [e2] at e; cases e
    | some k =>
      rw [e2] at e
      cases e
      exact ⟨k, tru_of so1 r1 e2, q W1 _ H1 (Step.refl _ _) so1 (.bl _)⟩
theorem asBool_rp {W : Wd} {v : V} {x : Vl} {k : Bool} (e : asBool x = some k) (r : RpV X.K W v x) : v = .bl k := by
  unfold asBool at e
  split at e
  · cases e; cases r; rfl
  · cases e
theorem s_one {op : BoolOp} (ha : PE X a (tv X T G E ca)) : PE X (.BoolOp op [a] pos) (tv X T G E (.one ca)) := (pe_one ha).weak fun σ H Q h => h
theorem s_and (ha : PE X a (tv X T G E ca)) (hb : PE X (.BoolOp .And (b :: es) pos) (tv X T G E cb)) : PE X (.BoolOp .And (a :: b :: es) pos) (tv X T G E (.and ca cb)) :=
  (pe_and ha hb).weak fun σ H Q ⟨W, ρ, st, so, sl, h⟩ => first so sl h fun W1 s1 v x H1 p1 so1 sl1 r1 h1 => by
    obtain ⟨k, e, h2⟩ := Post.take h1
    refine ⟨k, asBool_rp e r1, ?_⟩
    cases k with
    | false => exact h2.val so1 (.bl false)
    | true => exact ⟨W1, ρ, s1, so1, sl1, h2⟩
theorem s_or (ha : PE X a (tv X T G E ca)) (hb : PE X (.BoolOp .Or (b :: es) pos) (tv X T G E cb)) : PE X (.BoolOp .Or (a :: b :: es) pos) (tv X T G E (.or ca cb)) :=
  (pe_or ha hb).weak fun σ H Q ⟨W, ρ, st, so, sl, h⟩ => first so sl h fun W1 s1 v x H1 p1 so1 sl1 r1 h1 => by
    obtain ⟨k, e, h2⟩ := Post.take h1
    refine ⟨k, asBool_rp e r1, ?_⟩
    cases k with
    | true => exact h2.val so1 (.bl true)
    | false => exact ⟨W1, ρ, s1, so1, sl1, h2⟩
/-! ### tests -/
theorem tb_of {W : Wd} {ρ : Env} {st : Sto} {σ : L2.St} {H : Hp} {α β : Type} {Rl : Wd → β → α → Prop} {Q : β → Hp → Prop} {R : Bool → Hp → Prop} {k : Bool → Sto → Res α} (so : StoOk T W st H) (sl : SlotOk X.K W H ρ σ)
    (h : Post T X.mg Rl W H E Q ((ev G ca ρ st).bind fun x s1 => (Res.opt (truth x) s1).bind k))
    (n : ∀ W1 s1 b H1, Step W H W1 H1 → StoOk T W1 s1 H1 → SlotOk X.K W1 H1 ρ σ → Post T X.mg Rl W1 H1 E Q (k b s1) → R b H1) : tb X T G E ca σ H R := by
  have e : (ev G ca ρ st).bind (fun x s1 => (Res.opt (truth x) s1).bind k) = (evT G ca ρ st).bind k := by
    unfold evT
    cases ev G ca ρ st <;> rfl
  rw [e] at h
  exact first so sl h fun W1 s1 v x H1 p1 so1 sl1 r1 h1 => by
    cases r1
    exact n W1 s1 _ H1 p1 so1 sl1 h1
theorem t_plain (ha : PE X a (tv X T G E ca)) (he : ∀ whole, isTrue a X.env whole = (do let v ← whole; standAt a.pos; holding [v] (truthy v))) : PT X a (tb X T G E ca) :=
  (pt_truth ha he).weak fun σ H Q ⟨W, ρ, st, so, sl, h⟩ => first so sl h fun W1 s1 v x H1 p1 so1 sl1 r1 h1 => by
    obtain ⟨k, e, q⟩ := Post.opt h1
    exact ⟨k, tru_of so1 r1 e, q W1 _ H1 (Step.refl _ _) so1 rfl⟩
theorem truth_bool {b : Bool} : truth (.d (.bool b)) = some b := rfl
theorem t_cmp {op : CmpOp} (ok : CxOk X g T G n E) (ha : PE X a (tv X T G E ca)) (hb : PE X b (tv X T G E cb)) (hm : behindInMarks op b = false) : PT X (.Compare a [op] [b] pos) (tb X T G E (.cmp op ca cb)) :=
  (pt_cmpR (op_cmpE (T := T) ok.hu op) ha hb hm).weak fun σ H Q ⟨W, ρ, st, so, sl, h⟩ => by
    have e : evT G (.cmp op ca cb) ρ st = (ev G ca ρ st).bind fun x s1 => (ev G cb ρ s1).bind fun y s2 => (Res.opt (evCmp op x y) s2) := by
      show ((ev G ca ρ st).bind fun x s1 => (ev G cb ρ s1).bind fun y s2 => Res.opt (ofB (evCmp op x y)) s2).bind _ = _
      cases ev G ca ρ st with
      | ok x s1 =>
        show ((ev G cb ρ s1).bind fun y s2 => Res.opt (ofB (evCmp op x y)) s2).bind _ = (ev G cb ρ s1).bind _
        cases ev G cb ρ s1 with
        | ok y s2 =>
          show (Res.opt (ofB (evCmp op x y)) s2).bind _ = Res.opt (evCmp op x y) s2
          cases evCmp op x y <;> rfl
        | _ => rfl
      | _ => rfl
    have h : Post T X.mg EqB W H E Q (evT G (.cmp op ca cb) ρ st) := h
    rw [e] at h
    exact first so sl h fun W1 s1 v x H1 p1 so1 sl1 r1 h1 => first so1 sl1 h1 fun W2 s2 u y H2 p2 so2 sl2 r2 h2 => by
      obtain ⟨k, e1, q⟩ := Post.opt h2
      exact ⟨W2, s2, x, y, k, so2, r1.step p2, r2, e1, k, rfl, q W2 _ H2 (Step.refl _ _) so2 rfl⟩
theorem t_chain {op op' : CmpOp} (ok : CxOk X g T G n E) (ha : PE X a (tv X T G E ca)) (hb : PE X b (tv X T G E cb)) (hc : PE X c (tv X T G E cc)) (hm : lastMarks [op, op'] [b, c] = false) : PT X (.Compare a [op, op'] [b, c] pos) (tb X T G E (.chain op op' ca cb cc)) :=
  (pt_chain (op_cmpE (T := T) ok.hu op) (op_cmpE (T := T) ok.hu op') ha hb hc hm).weak fun σ H Q ⟨W, ρ, st, so, sl, h⟩ => by
    have e : evT G (.chain op op' ca cb cc) ρ st = (ev G ca ρ st).bind fun x s1 => (ev G cb ρ s1).bind fun y s2 => (Res.opt (evCmp op x y) s2).bind fun k s3 =>
        if k then (ev G cc ρ s3).bind fun z s4 => Res.opt (evCmp op' y z) s4 else .ok false s3 := by
      show ((ev G ca ρ st).bind fun x s1 => (ev G cb ρ s1).bind fun y s2 => (Res.opt (evCmp op x y) s2).bind fun k s3 =>
        if k then (ev G cc ρ s3).bind fun z s4 => Res.opt (ofB (evCmp op' y z)) s4 else .ok (.d (.bool false)) s3).bind _ = _
      cases ev G ca ρ st with
      | ok x s1 =>
        show ((ev G cb ρ s1).bind _).bind _ = (ev G cb ρ s1).bind _
        cases ev G cb ρ s1 with
        | ok y s2 =>
          show ((Res.opt (evCmp op x y) s2).bind _).bind _ = (Res.opt (evCmp op x y) s2).bind _
          cases evCmp op x y with
          | none => rfl
          | some k =>
            cases k with
            | false => rfl
            | true =>
              show ((ev G cc ρ s2).bind _).bind _ = (ev G cc ρ s2).bind _
              cases ev G cc ρ s2 with
              | ok z s4 =>
                show (Res.opt (ofB (evCmp op' y z)) s4).bind _ = Res.opt (evCmp op' y z) s4
                cases evCmp op' y z <;> rfl
              | _ => rfl
        | _ => rfl
      | _ => rfl
    have h : Post T X.mg EqB W H E Q (evT G (.chain op op' ca cb cc) ρ st) := h
    rw [e] at h
    exact first so sl h fun W1 s1 v x H1 p1 so1 sl1 r1 h1 => first so1 sl1 h1 fun W2 s2 u y H2 p2 so2 sl2 r2 h2 => by
      obtain ⟨k, e, h3⟩ := Post.take h2
      refine ⟨W2, s2, x, y, k, so2, r1.step p2, r2, e, k, rfl, ?_⟩
      cases k with
      | false => exact ⟨false, rfl, h3.val so2 rfl⟩
      | true =>
        exact first so2 sl2 h3 fun W3 s3 w z H3 p3 so3 sl3 r3 h4 => by
          obtain ⟨k, e1, q⟩ := Post.opt h4
          exact ⟨W3, s3, y, z, k, so3, r2.step p3, r3, e1, k, rfl, q W3 _ H3 (Step.refl _ _) so3 rfl⟩
theorem bind_assoc' {α β γ : Type} (r : Res α) (f : α → Sto → Res β) (h : β → Sto → Res γ) : (r.bind f).bind h = r.bind fun a s => (f a s).bind h := by
  cases r <;> rfl
theorem t_not (ha : PT X a (tb X T G E ca)) : PT X (.UnaryOp .Not a pos) (tb X T G E (.not ca)) :=
  (pt_not ha).weak fun σ H Q ⟨W, ρ, st, so, sl, h⟩ => by
    have e : evT G (.not ca) ρ st = (ev G ca ρ st).bind fun x s1 => (Res.opt (truth x) s1).bind fun k s2 => .ok (!k) s2 := by
      show ((ev G ca ρ st).bind fun x s1 => Res.opt ((truth x).map fun b => Vl.d (.bool (!b))) s1).bind _ = _
      rw [bind_assoc']
      cases ev G ca ρ st with
      | ok x s1 =>
        show (Res.opt ((truth x).map fun b => Vl.d (.bool (!b))) s1).bind _ = (Res.opt (truth x) s1).bind _
        cases truth x <;> rfl
      | _ => rfl
    have h : Post T X.mg EqB W H E Q (evT G (.not ca) ρ st) := h
    rw [e] at h
    exact tb_of so sl h fun W1 s1 b H1 p1 so1 sl1 h1 => h1.val so1 rfl
theorem t_and1 (ha : PT X a (tb X T G E ca)) : PW X (.BoolOp .And [a] pos) (tb X T G E (.one ca)) := (pw_and1 ha).weak fun σ H Q h => h
theorem t_or1 (ha : PT X a (tb X T G E ca)) : PW X (.BoolOp .Or [a] pos) (tb X T G E (.one ca)) := (pw_or1 ha).weak fun σ H Q h => h
theorem asBool_truth {x : Vl} {k : Bool} (h : asBool x = some k) : truth x = some k := by
  unfold asBool at h
  split at h
  · cases h; rfl
  · cases h
theorem t_and (ha : PT X a (tb X T G E ca)) (hb : PW X (.BoolOp .And (b :: es) pos) (tb X T G E cb)) : PW X (.BoolOp .And (a :: b :: es) pos) (tb X T G E (.and ca cb)) :=
  (pw_and ha hb).weak fun σ H Q ⟨W, ρ, st, so, sl, h⟩ => by
    have h : Post T X.mg EqB W H E Q (((ev G ca ρ st).bind fun x s1 => (Res.opt (asBool x) s1).bind fun k s2 => if k then ev G cb ρ s2 else .ok (.d (.bool false)) s2).bind fun x s1 => Res.opt (truth x) s1) := h
    rw [bind_assoc'] at h
    refine tb_of (Rl := EqB) (Q := Q) (k := fun k s2 => if k then evT G cb ρ s2 else .ok false s2) so sl ?_ fun W1 s1 b H1 p1 so1 sl1 h1 => ?_
    · cases q : ev G ca ρ st with
      | ok x s1 =>
        rw [q] at h
        have h : Post T X.mg EqB W H E Q (((Res.opt (asBool x) s1).bind _).bind _) := h
        show Post T X.mg EqB W H E Q ((Res.opt (truth x) s1).bind _)
        cases q2 : asBool x with
        | none => rw [q2] at h; exact (show False from h).elim
        | some k =>
          rw [q2] at h
          rw [asBool_truth q2]
          cases k with
          | true => exact h
          | false => exact h
      | ex y s1 => rw [q] at h; exact h
      | bad => rw [q] at h; exact h
    · cases b with
      | true => exact ⟨W1, ρ, s1, so1, sl1, h1⟩
      | false => exact h1.val so1 rfl
theorem t_or (ha : PT X a (tb X T G E ca)) (hb : PW X (.BoolOp .Or (b :: es) pos) (tb X T G E cb)) : PW X (.BoolOp .Or (a :: b :: es) pos) (tb X T G E (.or ca cb)) :=
  (pw_or ha hb).weak fun σ H Q ⟨W, ρ, st, so, sl, h⟩ => by
    have h : Post T X.mg EqB W H E Q (((ev G ca ρ st).bind fun x s1 => (Res.opt (asBool x) s1).bind fun k s2 => if k then .ok (.d (.bool true)) s2 else ev G cb ρ s2).bind fun x s1 => Res.opt (truth x) s1) := h
    rw [bind_assoc'] at h
    refine tb_of (Rl := EqB) (Q := Q) (k := fun k s2 => if k then .ok true s2 else evT G cb ρ s2) so sl ?_ fun W1 s1 b H1 p1 so1 sl1 h1 => ?_
    · cases q : ev G ca ρ st with
      | ok x s1 =>
        rw [q] at h
        have h : Post T X.mg EqB W H E Q (((Res.opt (asBool x) s1).bind _).bind _) := h
        show Post T X.mg EqB W H E Q ((Res.opt (truth x) s1).bind _)
        cases q2 : asBool x with
        | none => rw [q2] at h; exact (show False from h).elim
        | some k =>
          rw [q2] at h
          rw [asBool_truth q2]
          cases k with
          | true => exact h
          | false => exact h
      | ex y s1 => rw [q] at h; exact h
      | bad => rw [q] at h; exact h
    · cases b with
      | true => exact h1.val so1 rfl
      | false => exact ⟨W1, ρ, s1, so1, sl1, h1⟩
theorem s_ite (hc : PT X c (tb X T G E cc)) (ha : PE X a (tv X T G E ca)) (hb : PE X b (tv X T G E cb)) : PE X (.IfExp c a b pos) (tv X T G E (.ite cc ca cb)) :=
  (pe_ifExp hc ha hb).weak fun σ H Q ⟨W, ρ, st, so, sl, h⟩ => tb_of (k := fun k s2 => if k then ev G ca ρ s2 else ev G cb ρ s2) so sl h fun W1 s1 b H1 p1 so1 sl1 h1 => by
    cases b with
    | true => exact ⟨W1, ρ, s1, so1, sl1, h1⟩
    | false => exact ⟨W1, ρ, s1, so1, sl1, h1⟩
/-! ### lists of values, displays -/
theorem l_nil : PA X [] (tvs X T G E []) := pa_nil.weak fun σ H Q ⟨W, ρ, st, so, sl, h⟩ => h.val so .nil
theorem l_cons (ha : PE X a (tv X T G E ca)) (hr : PA X es (tvs X T G E ces)) (hs : noStar a = true) : PA X (a :: es) (tvs X T G E (ca :: ces)) :=
  (pa_cons ha hr (star_cons hs)).weak fun σ H Q ⟨W, ρ, st, so, sl, h⟩ => first so sl h fun W1 s1 v x H1 p1 so1 sl1 r1 h1 => first so1 sl1 h1 fun W2 s2 u y H2 p2 so2 sl2 r2 h2 => h2.val so2 (.cons (r1.step p2) r2)
theorem allD_len : ∀ {vs : List Vl} {ds : List D}, allD vs = some ds → vs.length = ds.length
  | [], ds, h => by cases h; rfl
  | .d x :: r, ds, h => by
    unfold allD at h
    cases q : allD r with
    | none => rw [q] at h; cases h
    | some es =>
      rw [q] at h
      obtain rfl : x :: es = ds := Option.some.inj h
      exact congrArg Nat.succ (allD_len q)
  | .scr _ :: _, _, h => by cases h
  | .ref _ :: _, _, h => by cases h
theorem evL_len : ∀ {cs : List C} {ρ : Env} {st s1 : Sto} {vs : List Vl}, evL G cs ρ st = .ok vs s1 → vs.length = cs.length
  | [], ρ, st, s1, vs, h => by cases h; rfl
  | c :: cs, ρ, st, s1, vs, h => by
    have h : (ev G c ρ st).bind (fun x s1 => (evL G cs ρ s1).bind fun xs s2 => .ok (x :: xs) s2) = .ok vs s1 := h
    cases q : ev G c ρ st with
    | ok x s2 =>
      rw [q] at h
      have h : (evL G cs ρ s2).bind (fun xs s2 => Res.ok (x :: xs) s2) = .ok vs s1 := h
      cases q2 : evL G cs ρ s2 with
      | ok xs s3 =>
        rw [q2] at h
        have h : Res.ok (x :: xs) s3 = .ok vs s1 := h
        cases h
        exact congrArg Nat.succ (evL_len q2)
      | ex y s3 => rw [q2] at h; cases h
      | bad => rw [q2] at h; cases h
    | ex y s2 => rw [q] at h; cases h
    | bad => rw [q] at h; cases h
theorem rpvs_len {K : PySem.W.Frag} {W : Wd} {vs : List V} {xs : List Vl} (h : RpVs K W vs xs) : vs.length = xs.length := Paired.length h
theorem s_tup {k : Nat} (hes : PA X es (tvs X T G E ces)) (hl : ces.length ≤ sizeLine) : PE X (.Tuple es k pos) (tv X T G E (.tup ces)) :=
  (pe_tup hes).weak fun σ H Q ⟨W, ρ, st, so, sl, h⟩ => by
    refine ⟨W, ρ, st, so, sl, Post.bind (Rm := RpVs X.K) h fun W1 s1 vs xs H1 p1 so1 r1 e1 h1 => ?_⟩
    obtain ⟨z, e, q⟩ := Post.opt h1
    cases e2 : allD xs with
    | none => rw [e2] at e; cases e
    | some ds =>
      rw [e2] at e
      cases e
      refine ⟨by rw [rpvs_len r1, evL_len e1]; exact hl, fun p np => ?_⟩
      exact Gives.tup (K := X.K) q so1 (RpVs.data r1 e2) np
theorem s_lst (hes : PA X es (tvs X T G E ces)) (hl : ces.length ≤ sizeLine) : PE X (.List es pos) (tv X T G E (.lst ces)) :=
  (pe_lst hes).weak fun σ H Q ⟨W, ρ, st, so, sl, h⟩ => by
    refine ⟨W, ρ, st, so, sl, Post.bind (Rm := RpVs X.K) h fun W1 s1 vs xs H1 p1 so1 r1 e1 h1 => ?_⟩
    obtain ⟨z, e, q⟩ := Post.opt h1
    cases e2 : allD xs with
    | none => rw [e2] at e; cases e
    | some ds =>
      rw [e2] at e
      cases e
      refine ⟨by rw [rpvs_len r1, evL_len e1]; exact hl, fun p np => ?_⟩
      exact Gives.lst (K := X.K) q so1 (RpVs.data r1 e2) np
/-- a new object of the store -/
theorem sto_push {W : Wd} {st : Sto} {H : Hp} (s : StoOk T W st H) {p : Addr} (n : H p = none) {ds : List D} {vs : List V} (r : RpL W.F vs ds) :
    Step W H ⟨W.F, fun k => if k = st.length then some p else W.β k⟩ (upd H p (.lst vs)) ∧ StoOk T ⟨W.F, fun k => if k = st.length then some p else W.β k⟩ (st ++ [.lst ds]) (upd H p (.lst vs)) := by
  have old : ∀ {k a}, W.β k = some a → k < st.length ∧ a ≠ p := fun {k a} e => by
    obtain ⟨o, e2⟩ := s.live e
    exact ⟨s.dom _ _ e, ne_of_none e2 n⟩
  have b1 : ∀ k a, W.β k = some a → (if k = st.length then some p else W.β k) = some a := fun k a e => by
    rw [if_neg (Nat.ne_of_lt (old e).1)]
    exact e
  refine ⟨⟨fun _ _ e => e, fun _ _ e => .inl e, b1, fun k a e => ?_, fun b o e _ _ => ?_, fun b o e => ⟨o, ?_⟩⟩, ⟨fun b o e => ?_, fun k o e => ?_, fun k a e => ?_, fun k m a e f => ?_, s.tab.ext fun b o e => ?_, s.nt⟩⟩
  · have e : (if k = st.length then some p else W.β k) = some a := e
    split at e
    · cases e; exact .inr n
    · exact .inl e
  · rw [upd_ne (ne_of_none e n)]; exact e
  · rw [upd_ne (ne_of_none e n)]; exact e
  · rw [upd_ne (ne_of_none (s.sub _ _ e) n)]; exact s.sub _ _ e
  · by_cases hk : k < st.length
    · rw [List.getElem?_append_left hk] at e
      obtain ⟨a, h1, h2, h3⟩ := s.obj k o e
      refine ⟨a, b1 k a h1, h2, ?_⟩
      rw [upd_ne (old h1).2]
      exact h3.mono (W' := ⟨W.F, fun k => if k = st.length then some p else W.β k⟩) fun _ _ e => e
    · rw [List.getElem?_append_right (by omega)] at e
      have hk2 : k = st.length := by
        by_cases h0 : k - st.length = 0
        · omega
        · rw [List.getElem?_eq_none (by simp; omega)] at e
          cases e
      subst hk2
      rw [Nat.sub_self] at e
      cases e
      exact ⟨p, if_pos rfl, sub_none s.sub n, vs, upd_same, r⟩
  · rw [List.length_append]
    have e : (if k = st.length then some p else W.β k) = some a := e
    split at e
    · subst k; simp
    · have := (old e).1
      omega
  · have e : (if k = st.length then some p else W.β k) = some a := e
    have f : (if m = st.length then some p else W.β m) = some a := f
    split at e
    · split at f
      · omega
      · cases e
        exact absurd rfl (old f).2
    · split at f
      · cases f
        exact absurd rfl (old e).2
      · exact s.inj k m a e f
  · rw [upd_ne (ne_of_none e n)]; exact e
theorem s_newl (hes : PA X es (tvs X T G E ces)) (hl : ces.length ≤ sizeLine) : PE X (.List es pos) (tv X T G E (.newl ces)) :=
  (pe_lst hes).weak fun σ H Q ⟨W, ρ, st, so, sl, h⟩ => by
    refine ⟨W, ρ, st, so, sl, Post.bind (Rm := RpVs X.K) h fun W1 s1 vs xs H1 p1 so1 r1 e1 h1 => ?_⟩
    have h1 : Post T X.mg (RpV X.K) W1 H1 E Q (match allD xs with | some ds => .ok (.ref s1.length) (s1 ++ [.lst ds]) | none => .bad) := h1
    cases e2 : allD xs with
    | none => rw [e2] at h1; exact (show False from h1).elim
    | some ds =>
      rw [e2] at h1
      refine ⟨by rw [rpvs_len r1, evL_len e1]; exact hl, fun p np => ?_⟩
      obtain ⟨q1, q2⟩ := sto_push so1 np (RpVs.data r1 e2)
      exact h1 _ _ _ q1 q2 ⟨p, rfl, if_pos rfl⟩
/-! ### items, slices, calls -/
theorem s_idx (ha : PE X a (tv X T G E ca)) (hb : PE X b (tv X T G E cb)) (hp : PlainIx b) : PE X (.Subscript a b pos) (tv X T G E (.idx ca cb)) :=
  (pe_ix (ix_idxE (T := T)) ha hb hp).weak fun σ H Q ⟨W, ρ, st, so, sl, h⟩ =>
    first so sl h fun W1 s1 v x H1 p1 so1 sl1 r1 h1 => first so1 sl1 h1 fun W2 s2 u y H2 p2 so2 sl2 r2 h2 => by
      obtain ⟨z, e, q⟩ := Post.opt h2
      exact ⟨W2, s2, x, y, z, so2, r1.step p2, r2, e, q⟩
theorem s_isi {Tn : String} (hT : Tn = "int" ∨ Tn = "bool" ∨ Tn = "tuple" ∨ Tn = "str" ∨ Tn = "list") (hg : Gl X "isinstance") (hm : X.mg "isinstance" = none) (ht : Gl X x) (hmt : X.mg x = none) (hx : bootBuiltins x = some (.type Tn)) (hn : x ≠ "__name__") (hd : (x == ("__debug__" : Str)) = false)
    (ha : PE X a (tv X T G E ca)) (hs : noStar a = true) : PE X (.Call (.Name "isinstance" p1) [a, .Name x p2] [] pos) (tv X T G E (.isi ca Tn)) := by
  have hty : PE X (.Name x p2) (tC (.ty Tn)) := pe_bltn ht hmt hx rfl hn hd
  have hall : ([Expr.Name x p2] : List Expr).all noStar = true := rfl
  refine (pe_callB (call_isiE (T := T) hT) hg hm boot_isinstance (pa_cons ha (pa_cons hty pa_nil (star_cons rfl)) (star_cons hs)) (by decide) (by decide) (star_cons hs) (plain_args hall)).weak fun σ H Q ⟨W, ρ, st, so, sl, h⟩ => ?_
  refine first so sl h fun W1 s1 v y H1 p1 so1 sl1 r1 h1 => ?_
  obtain ⟨z, e, q⟩ := Post.opt h1
  obtain ⟨k, e1, rfl⟩ := ofB_some e
  exact ⟨W1, s1, v, y, k, rfl, so1, r1, e1, q W1 _ H1 (Step.refl _ _) so1 (.bl k)⟩
theorem s_call0 (ok : CxOk X g T G n E) {f : Nat} (hf : g.defs[f]? = some x) (hg : Gl X x) (hd : (x == ("__debug__" : Str)) = false) : PE X (.Call (.Name x p) [] [] pos) (tv X T G E (.call f [])) := by
  obtain ⟨fa, fd, ps, h1, h2, h3, h4, _⟩ := ok.fns f x hf
  exact (pe_call0 h4 ok.room hg h1 h2 h3 .nil ok.pass hd).weak fun σ H Q ⟨W, ρ, st, so, sl, h⟩ => ⟨W, st, [], so, .nil, h⟩
theorem s_call (ok : CxOk X g T G n E) {f : Nat} (hf : g.defs[f]? = some x) (hg : Gl X x) (hd : (x == ("__debug__" : Str)) = false) (hs : (e :: es).all noStar = true) (hes : PA X (e :: es) (tvs X T G E ces)) : PE X (.Call (.Name x p) (e :: es) [] pos) (tv X T G E (.call f ces)) := by
  obtain ⟨fa, fd, ps, h1, h2, h3, h4, _⟩ := ok.fns f x hf
  rw [List.all_cons, Bool.and_eq_true] at hs
  exact (pe_call h4 ok.room hg h1 h2 h3 .nil ok.pass hes hd (star_cons hs.1) (plain_args hs.2)).weak fun σ H Q ⟨W, ρ, st, so, sl, h⟩ =>
    first so sl h fun W1 s1 vs xs H1 p1 so1 sl1 r1 h1 => ⟨W1, s1, xs, so1, by rw [List.append_nil]; exact r1, h1⟩
theorem bf_boot (b : Bf) (hb : b ≠ .sset) : bootBuiltins (bfName b).1 = some (bfName b).2 ∧ (bfName b).1 ≠ "__name__" ∧ ((bfName b).1 == ("__debug__" : Str)) = false := by
  cases b <;> first
    | exact absurd rfl hb
    | exact ⟨by decide +kernel, by decide, by decide⟩
theorem s_bf (ok : CxOk X g T G n E) (b : Bf) (hb : b ≠ .sset) (hg : Gl X (bfName b).1) (hm : X.mg (bfName b).1 = none) (hs : (e :: es).all noStar = true) (hes : PA X (e :: es) (tvs X T G E ces)) : PE X (.Call (.Name (bfName b).1 p) (e :: es) [] pos) (tv X T G E (.bf b ces)) := by
  obtain ⟨q1, q2, q3⟩ := bf_boot b hb
  rw [List.all_cons, Bool.and_eq_true] at hs
  have hc := call_bfE (T := T) (X := X) ok.calm b hb
  have key : ∀ σ H Q, tv X T G E (.bf b ces) σ H Q → tCB (rBfE X.K T b) (tvs X T G E ces) σ H Q := fun σ H Q ⟨W, ρ, st, so, sl, h⟩ =>
    first so sl h fun W1 s1 vs xs H1 p1 so1 sl1 r1 h1 => by
      obtain ⟨z, e, q⟩ := Post.opt h1
      exact ⟨W1, s1, xs, z, so1, r1, e, q⟩
  cases b <;> first
    | exact absurd rfl hb
    | exact (pe_callB hc hg hm q1 hes q2 q3 (star_cons hs.1) (plain_args hs.2)).weak key
    | exact (pe_callTy hc hg hm q1 hes q2 q3 (star_cons hs.1) (plain_args hs.2)).weak key
theorem mtOk_inv {x : Vl} {u : Unit} (h : mtOk .index x = some u) : ∃ ds, x = .d (.list ds) := by
  unfold mtOk at h
  split at h
  · exact ⟨_, rfl⟩
  · cases h
/-- xs.index(y) -/
theorem s_index {p2 : Pos} (ok : CxOk X g T G n E) (ho : PE X (.Name x p) (tv X T G E ca)) (hs : noStar a = true) (ha : PE X a (tv X T G E cb)) (hl : (p2.endLine == pos.line) = true) : PE X (.Call (.Attribute (.Name x p) "index" p2) [a] [] pos) (tv X T G E (.meth .index ca [cb])) := by
  refine (pe_bm PySem.F.plainAttrs_list PySem.F.slot_list_index PySem.F.type_list_index (mt_indexD ok.hu) ho (pa_cons ha pa_nil (star_cons hs)) rfl (by rw [star_cons hs]; rfl) hl (star_cons hs) (plain_args rfl)).weak fun σ H Q ⟨W, ρ, st, so, sl, h⟩ => ?_
  have h : Post T X.mg (RpV X.K) W H E Q ((ev G ca ρ st).bind fun x s1 => (Res.opt (mtOk .index x) s1).bind fun _ s2 => ((ev G cb ρ s2).bind fun y s3 => (evL G [] ρ s3).bind fun ys s4 => .ok (y :: ys) s4).bind fun vs s5 => Res.opt (evMt .index x vs) s5) := h
  refine first so sl h fun W1 s1 v x H1 p1 so1 sl1 r1 h1 => ?_
  obtain ⟨u, e, h2⟩ := Post.take h1
  obtain ⟨ds, rfl⟩ := mtOk_inv e
  cases r1 with
  | lst f l =>
    refine ⟨.inl ⟨rfl, _, sq_of so1.sub f⟩, ?_⟩
    rw [bind_assoc'] at h2
    refine first so1 sl1 h2 fun W2 s2 w y H2 p2 so2 sl2 r2 h3 => ?_
    have h3 : Post T X.mg (RpV X.K) W2 H2 E Q (Res.opt (evMt .index (.d (.list ds)) [y]) s2) := h3
    obtain ⟨z, e1, q⟩ := Post.opt h3
    cases y with
    | d d =>
      have e1 : (if shp (.list ds) && shp d then (ds.findIdx? fun z => PyData.eqv z d).map (fun k => Vl.d (.int (k : Int))) else none) = some z := e1
      split at e1
      · rename_i hc
        rw [Bool.and_eq_true] at hc
        cases q2 : ds.findIdx? fun z => PyData.eqv z d with
        | none => rw [q2] at e1; cases e1
        | some k =>
          rw [q2] at e1
          cases e1
          obtain ⟨k1, k2, k3⟩ := List.findIdx?_eq_some_iff_getElem.mp q2
          refine ⟨_, _, d, ds, k, ds[k], rfl, rfl, Rp.dp so2.sub _ _ (.lst (p2.fx _ _ f) (RpL.mono p2.fx _ _ l)), Rp.dp so2.sub _ _ r2, hc.1, hc.2, List.getElem?_eq_getElem k1, k2, fun m z' hm hz => ?_, q W2 _ H2 (Step.refl _ _) so2 (.int _)⟩
          obtain ⟨hm', rfl⟩ := List.getElem?_eq_some_iff.mp hz
          have := k3 m hm
          cases e : PyData.eqv ds[m] d with
          | false => rfl
          | true => exact absurd e this
      · cases e1
    | _ => cases e1
theorem sset_inv {x z : Vl} (e : evBf .sset [x] = some z) : ∃ xs ns, x = .d (.list xs) ∧ allInt xs = some ns ∧ ns.length < 64 ∧ z = .d (.list ((ssetI ns).map .int)) := by
  cases x with
  | d x =>
    cases x with
    | list xs =>
      have e : (allInt xs).bind (fun ns => if ns.length < 64 then some (Vl.d (.list ((ssetI ns).map .int))) else none) = some z := e
      cases q : allInt xs with
      | none => rw [q] at e; cases e
      | some ns =>
        rw [q] at e
        have e : (if ns.length < 64 then some (Vl.d (.list ((ssetI ns).map .int))) else none) = some z := e
        split at e
        · rename_i hl
          exact ⟨xs, ns, rfl, q, hl, (Option.some.inj e).symm⟩
        · cases e
    | _ => cases e
  | _ => cases e
/-- sorted(set(l)) of ints -/
theorem s_sset (ok : CxOk X g T G n E) (g1 : Gl X "sorted") (m1 : X.mg "sorted" = none) (g2 : Gl X "set") (m2 : X.mg "set" = none) (hs : noStar a = true) (ha : PE X a (tv X T G E ca)) :
    PE X (.Call (.Name "sorted" p1) [.Call (.Name "set" p2) [a] [] p3] [] pos) (tv X T G E (.bf .sset [ca])) := by
  have hset := pe_callTy (p := p2) (pos := p3) (cr_setL (X := X) ok.calm) g2 m2 boot_set (pa_cons ha pa_nil (star_cons hs)) (by decide) (by decide) (star_cons hs) (plain_args rfl)
  refine (pe_callB (p := p1) (pos := pos) (cr_sortedSet (X := X) ok.calm) g1 m1 boot_sorted (pa_cons hset pa_nil (star_cons rfl)) (by decide) (by decide) (star_cons rfl) (plain_args rfl)).weak fun σ H Q ⟨W, ρ, st, so, sl, h⟩ => ?_
  have h : Post T X.mg (RpV X.K) W H E Q (((ev G ca ρ st).bind fun x s1 => (evL G [] ρ s1).bind fun xs s2 => .ok (x :: xs) s2).bind fun vs s1 => Res.opt (evBf .sset vs) s1) := h
  rw [bind_assoc'] at h
  refine first so sl h fun W1 s1 v x H1 p1 so1 sl1 r1 h1 => ?_
  have h1 : Post T X.mg (RpV X.K) W1 H1 E Q (Res.opt (evBf .sset [x]) s1) := h1
  obtain ⟨z, e, q⟩ := Post.opt h1
  obtain ⟨xs, ns, rfl, e1, e2, rfl⟩ := sset_inv e
  cases r1 with
  | lst f l =>
    have el := l.ints e1
    rw [el] at f
    refine ⟨_, ns, rfl, sq_of so1.sub f, by omega, fun S m hS hm => ?_⟩
    have n1 := sto_new (o := SetO X.w S (fun j => decide (j ∈ ns)) m) so1 hS
    have p1 := step_new (W := W1) (o := SetO X.w S (fun j => decide (j ∈ ns)) m) hS
    refine ⟨S, _, m, rfl, upd_same, by omega, fun ms p a1 a2 _ hp => ?_⟩
    have em : ms = ssetI ns := srt_uniq a1 ssetI_srt fun k => by rw [a2, ssetI_mem]; exact ⟨of_decide_eq_true, decide_eq_true⟩
    rw [em]
    exact q _ _ _ (p1.trans (step_add n1 hp)) (sto_add n1 hp) (.lst (add_at _ _ _) (RpL.ofInts _))
end
end Ar
set_option Elab.async false
set_option linter.all false
set_option maxRecDepth 100000
set_option maxHeartbeats 4000000
/-! Ar7: slices, ranges as lists, what is walked. -/
namespace Ar
open PySem PySem.Spec PyProof.Rows L2
theorem _root_.L2.PO.weak {X : Cx} {e : Option Expr} {t t' : TO} (h : PO X e t) (w : ∀ σ H Q, t' σ H Q → t σ H Q) : PO X e t' := ⟨fun pins s σ H Q I q => h.run pins s σ H Q I (w σ H Q q)⟩
theorem _root_.L2.PI.weak {X : Cx} {tg e : Expr} {t t' : TI} (h : PI X tg e t) (w : ∀ σ H Q, t' σ H Q → t σ H Q) : PI X tg e t' := ⟨fun pins s σ H Q I q => h.run pins s σ H Q I (w σ H Q q)⟩
/-- no sequence is longer than the line -/
def Line (K : PySem.W.Frag) (H : Hp) : Prop := ∀ a xs, SqL K H a xs ∨ SqT K H a xs → xs.length ≤ sizeLine
theorem _root_.L2.Inv.line {X : Cx} {pins : List (Addr × Obj)} {σ : L2.St} {H : Hp} {s : Shared} (I : Inv X pins σ H s) : Line X.K H := fun a xs h => by
  rcases h with h | h
  · obtain ⟨_, _, _, z⟩ := I.list h
    exact z
  · obtain ⟨_, _, _, z⟩ := I.tuple h
    exact z
theorem _root_.L2.PA.line {X : Cx} {es : List Expr} {t : TA} (h : PA X es t) : PA X es (fun σ H Q => t σ H fun vs H1 => Line X.K H1 → Q vs H1) :=
  ⟨fun pos pins s σ H Q I q => thn (h.run pos pins s σ H _ I q) fun us s1 ⟨vs, H1, I1, r, q1⟩ => ⟨vs, H1, I1, r, q1 I1.line⟩⟩
theorem _root_.L2.PE.line {X : Cx} {e : Expr} {t : TE} (h : PE X e t) : PE X e (fun σ H Q => t σ H fun vs H1 => Line X.K H1 → Q vs H1) :=
  ⟨fun pins s σ H Q I q => thn (h.run pins s σ H _ I q) fun us s1 ⟨vs, H1, I1, r, q1⟩ => ⟨vs, H1, I1, r, q1 I1.line⟩⟩
section
variable {X : Cx} {g : GI} {T : List (Addr × Str)} {G : Gd} {n : Nat} {E : XK} {a b c e : Expr} {es : List Expr} {ca cb cc : C} {ces : List C} {pos p p1 p2 p3 : Pos} {x : Str}
/-! ### slices -/
def EqO : Wd → Option Int → Option Int → Prop := fun _ a b => a = b
abbrev tO (X : Cx) (T : List (Addr × Str)) (G : Gd) (E : XK) (cs : List C) : TO := tR X.K T X.mg E EqO (fun ρ st => (evL G cs ρ st).bind fun l s2 => Res.opt (bound l) s2)
theorem o_no : PO X none (tO X T G E []) := po_none.weak fun σ H Q ⟨W, ρ, st, so, sl, h⟩ => h.val so rfl
theorem o_yes (ha : PE X a (tv X T G E ca)) : PO X (some a) (tO X T G E [ca]) := (po_some ha).weak fun σ H Q ⟨W, ρ, st, so, sl, h⟩ => by
  have h : Post T X.mg EqO W H E Q (((ev G ca ρ st).bind fun x s1 => (evL G [] ρ s1).bind fun xs s2 => .ok (x :: xs) s2).bind fun l s2 => Res.opt (bound l) s2) := h
  rw [bind_assoc'] at h
  refine first so sl h fun W1 s1 v x H1 p1 so1 sl1 r1 h1 => ?_
  have h1 : Post T X.mg EqO W1 H1 E Q (Res.opt ((asInt x).map some) s1) := h1
  obtain ⟨z, e, q⟩ := Post.opt h1
  cases e2 : asInt x with
  | none => rw [e2] at e; cases e
  | some i =>
    rw [e2] at e
    cases e
    unfold asInt at e2
    split at e2
    · cases e2; cases r1
      exact ⟨_, rfl, q W1 _ H1 (Step.refl _ _) so1 rfl⟩
    · cases e2
theorem s_slc {lo hi : Option Expr} {clo chi : List C} (ha : PE X a (tv X T G E ca)) (hl : PO X lo (tO X T G E clo)) (hh : PO X hi (tO X T G E chi)) : PE X (.Subscript a (.Slice lo hi none p2) pos) (tv X T G E (.slc ca clo chi)) :=
  (pe_slice (sl_slcE (T := T)) ha hl hh).weak fun σ H Q ⟨W, ρ, st, so, sl, h⟩ =>
    first so sl h fun W1 s1 v x H1 p1 so1 sl1 r1 h1 => first so1 sl1 h1 fun W2 s2 l l' H2 p2 so2 sl2 r2 h2 => first so2 sl2 h2 fun W3 s3 h h' H3 p3 so3 sl3 r3 h3 => by
      cases r2; cases r3
      obtain ⟨z, e, q⟩ := Post.opt h3
      exact ⟨W3, s3, x, z, so3, (r1.step p2).step p3, e, q⟩
theorem idx_inv {xs : List D} {y z : Vl} {st : Sto} (h : evIdx (.d (.list xs)) y st = some z) : ∃ i d, y = .d (.int i) ∧ L2.atI xs i = some d ∧ z = .d d := by
  cases y with
  | d y =>
    cases y with
    | int i =>
      have h : (L2.atI xs i).map Vl.d = some z := h
      cases q : L2.atI xs i with
      | none => rw [q] at h; cases h
      | some d => rw [q] at h; exact ⟨i, d, rfl, q, (Option.some.inj h).symm⟩
    | _ => cases h
  | _ => cases h
/-! ### an own list's item -/
theorem s_oidx {k : Nat} (hN : X.N[k]? = some x) (hv : Vis X.env.scope x) (hd : (x == ("__debug__" : Str)) = false) (hcd : (x == ("__classdict__" : Str)) = false) (hb : PE X b (tv X T G E cb)) (hp : PlainIx b) : PE X (.Subscript (.Name x p1) b pos) (tv X T G E (.oidx k cb)) :=
  (pe_ix ix_list (pe_var hN hv hd hcd) hb hp).weak fun σ H Q ⟨W, ρ, st, so, sl, h⟩ => by
    have h : Post T X.mg (RpV X.K) W H E Q (match ρ[k]? with
      | some (.own xs) => (ev G cb ρ st).bind fun y s2 => Res.opt (evIdx (.d (.list xs)) y s2) s2
      | _ => .bad) := h
    split at h
    · rename_i xs q
      obtain ⟨o, vs, h1, _⟩ := sl.own k xs q
      refine ⟨_, h1, first so sl h fun W2 s2 u y H2 p2 so2 sl2 r2 h2 => ?_⟩
      obtain ⟨o2, vs2, g1, g2, g3, _⟩ := sl2.own k xs q
      rw [h1] at g1
      cases g1
      obtain ⟨z, e, qq⟩ := Post.opt h2
      obtain ⟨i, d, rfl, q3, rfl⟩ := idx_inv e
      cases r2
      obtain ⟨w, f1, f2⟩ := g3.atI q3
      exact ⟨_, _, _, w, rfl, rfl, .inl (.inl g2), f1, qq W2 _ H2 (Step.refl _ _) so2 f2⟩
    · exact (show False from h).elim
/-! ### list(range(..)), tuple(range(..)) -/
theorem rgV_rp {F : Hp} (i j : Int) : RpL F (rgV i j) (rngD i j) := by
  unfold rgV rngD
  induction List.range (j - i).toNat with
  | nil => exact .nil
  | cons k r ih => exact .cons (.int _) ih
theorem rng_inv {tup : Bool} {vs : List Vl} {z : Vl} (h : evRng tup vs = some z) : (∃ n, vs = [.d (.int n)] ∧ RgOk 0 n ∧ z = .d (if tup then .tuple (rngD 0 n) else .list (rngD 0 n))) ∨
    ∃ i j, vs = [.d (.int i), .d (.int j)] ∧ RgOk i j ∧ z = .d (if tup then .tuple (rngD i j) else .list (rngD i j)) := by
  unfold evRng at h
  simp only at h
  split at h
  · split at h
    · rename_i hc
      simp only [okI, Bool.and_eq_true, decide_eq_true_eq] at hc
      exact .inl ⟨_, rfl, ⟨by omega, by omega, by omega, by omega, by omega⟩, (Option.some.inj h).symm⟩
    · cases h
  · split at h
    · rename_i hc
      simp only [okI, Bool.and_eq_true, decide_eq_true_eq] at hc
      exact .inr ⟨_, _, rfl, ⟨by omega, by omega, by omega, by omega, by omega⟩, (Option.some.inj h).symm⟩
    · cases h
  · cases h
theorem evL1 {ρ : Env} {st : Sto} {α : Type} (k : List Vl → Sto → Res α) : (evL G [ca] ρ st).bind k = (ev G ca ρ st).bind fun x s1 => k [x] s1 := by
  show ((ev G ca ρ st).bind fun x s1 => (evL G [] ρ s1).bind fun xs s2 => .ok (x :: xs) s2).bind k = _
  rw [bind_assoc']
  rfl
theorem evL2 {ρ : Env} {st : Sto} {α : Type} (k : List Vl → Sto → Res α) : (evL G [ca, cb] ρ st).bind k = (ev G ca ρ st).bind fun x s1 => (ev G cb ρ s1).bind fun y s2 => k [x, y] s2 := by
  show ((ev G ca ρ st).bind fun x s1 => (evL G [cb] ρ s1).bind fun xs s2 => .ok (x :: xs) s2).bind k = _
  rw [bind_assoc']
  refine congrArg _ (funext fun x => funext fun s1 => ?_)
  rw [bind_assoc', evL1]
  rfl
theorem rg_give {tup : Bool} {i j : Int} {W : Wd} {H : Hp} {s1 : Sto} {Q : VK} (so : StoOk T W s1 H) (gv : Gives X.K T W H s1 (.d (if tup then .tuple (rngD i j) else .list (rngD i j))) Q) :
    ∀ q, H q = none → Q (.ref q) (upd H q (if tup then .tup (rgV i j) else .lst (rgV i j))) := fun q nq => by
  cases tup with
  | true => exact gv.tup so (rgV_rp i j) nq
  | false => exact gv.lst so (rgV_rp i j) nq
theorem s_rng1 (ok : CxOk X g T G n E) {tup : Bool} (hg : Gl X (if tup then "tuple" else "list")) (hm : X.mg (if tup then "tuple" else "list") = none) (g2 : Gl X "range") (m2 : X.mg "range" = none) (ha : PE X a (tv X T G E ca)) (hs : noStar a = true) :
    PE X (.Call (.Name (if tup then "tuple" else "list") p1) [.Call (.Name "range" p2) [a] [] p3] [] pos) (tv X T G E (.rng tup [ca])) := by
  have key : ∀ σ H Q, tv X T G E (.rng tup [ca]) σ H Q → tRg1 (tv X T G E ca) σ H fun i j H1 => RgOk i j ∧ ∀ q, H1 q = none → Q (.ref q) (upd H1 q (if tup then .tup (rgV i j) else .lst (rgV i j))) := fun σ H Q ⟨W, ρ, st, so, sl, h⟩ => by
    have h : Post T X.mg (RpV X.K) W H E Q ((evL G [ca] ρ st).bind fun vs s1 => Res.opt (evRng tup vs) s1) := h
    rw [evL1] at h
    refine first so sl h fun W1 s1 v x H1 p1 so1 sl1 r1 h1 => ?_
    obtain ⟨z, e, q⟩ := Post.opt h1
    rcases rng_inv e with ⟨m, e1, e2, rfl⟩ | ⟨i, j, e1, _⟩
    · cases e1; cases r1
      exact ⟨m, rfl, e2, rg_give so1 q⟩
    · cases e1
  cases tup with
  | true => exact (pe_tupRg ok.calm hg hm (prg_1 g2 m2 ha (star_cons hs)) (star_cons rfl)).weak key
  | false => exact (pe_listRg ok.calm hg hm (prg_1 g2 m2 ha (star_cons hs)) (star_cons rfl)).weak key
theorem s_rng2 (ok : CxOk X g T G n E) {tup : Bool} (hg : Gl X (if tup then "tuple" else "list")) (hm : X.mg (if tup then "tuple" else "list") = none) (g2 : Gl X "range") (m2 : X.mg "range" = none) (ha : PE X a (tv X T G E ca)) (hb : PE X b (tv X T G E cb)) (hs : noStar a = true) (hs2 : noStar b = true) :
    PE X (.Call (.Name (if tup then "tuple" else "list") p1) [.Call (.Name "range" p2) [a, b] [] p3] [] pos) (tv X T G E (.rng tup [ca, cb])) := by
  have key : ∀ σ H Q, tv X T G E (.rng tup [ca, cb]) σ H Q → tRg2 (tv X T G E ca) (tv X T G E cb) σ H fun i j H1 => RgOk i j ∧ ∀ q, H1 q = none → Q (.ref q) (upd H1 q (if tup then .tup (rgV i j) else .lst (rgV i j))) := fun σ H Q ⟨W, ρ, st, so, sl, h⟩ => by
    have h : Post T X.mg (RpV X.K) W H E Q ((evL G [ca, cb] ρ st).bind fun vs s1 => Res.opt (evRng tup vs) s1) := h
    rw [evL2] at h
    refine first so sl h fun W1 s1 v x H1 p1 so1 sl1 r1 h1 => first so1 sl1 h1 fun W2 s2 u y H2 p2 so2 sl2 r2 h2 => ?_
    obtain ⟨z, e, q⟩ := Post.opt h2
    rcases rng_inv e with ⟨m, e1, _⟩ | ⟨i, j, e1, e2, rfl⟩
    · cases e1
    · cases e1; cases r1; cases r2
      exact ⟨i, j, rfl, rfl, e2, rg_give so2 q⟩
  have hall : ([b] : List Expr).all noStar = true := by simp [hs2]
  cases tup with
  | true => exact (pe_tupRg ok.calm hg hm (prg_2 g2 m2 ha hb (star_cons hs) (star_cons hs2) (plain_args hall)) (star_cons rfl)).weak key
  | false => exact (pe_listRg ok.calm hg hm (prg_2 g2 m2 ha hb (star_cons hs) (star_cons hs2) (plain_args hall)) (star_cons rfl)).weak key
end
end Ar
set_option Elab.async false
set_option linter.all false
set_option maxRecDepth 100000
set_option maxHeartbeats 4000000
/-! Ar8: what a loop walks; comprehensions. -/
namespace Ar
open PySem PySem.Spec PyProof.Rows L2
/-- J walks these items, whatever happens to the store meanwhile -/
structure Wk (T : List (Addr × Str)) (J : It) (W0 : Wd) (xs : List D) : Prop where
  go : ∀ W st H i, Sub W0.F W.F → StoOk T W st H → i < xs.length → J.go i H
  stop : ∀ W st H i, Sub W0.F W.F → StoOk T W st H → xs.length ≤ i → J.stop i H
  yld : ∀ W st H i x H', Sub W0.F W.F → StoOk T W st H → i < xs.length → J.yld i H x H' → ∃ W' d, Step W H W' H' ∧ StoOk T W' st H' ∧ xs[i]? = some d ∧ Rp W'.F x d
def WkR (T : List (Addr × Str)) : Wd → It → List D → Prop := fun W J xs => xs.length ≤ sizeLine ∧ Wk T J W xs
def evIt (G : Gd) (ik : Nat) (its : List C) (ρ : Env) (st : Sto) : Res (List D) := (evL G its ρ st).bind fun vs s1 => Res.opt (evItems ik vs) s1
abbrev tI (X : Cx) (T : List (Addr × Str)) (G : Gd) (E : XK) (ik : Nat) (its : List C) : TI := tR X.K T X.mg E (WkR T) (fun ρ st => evIt G ik its ρ st)

section
variable {T : List (Addr × Str)} {W0 : Wd} {K : PySem.W.Frag}
theorem frozen {H H' : Hp} {o : Option HO} {a : Addr} {F : Hp} {h : HO} (s : Sub F H) (e : F a = some h) : H a = some h := s _ _ e
theorem wk_list {a : Addr} {vs : List V} {ds : List D} (f : W0.F a = some (.lst vs)) (l : RpL W0.F vs ds) : Wk T (Itl K a) W0 ds where
  go := fun W st H i s so hi => by
    obtain ⟨v, e, _⟩ := l.at (List.getElem?_eq_getElem hi)
    exact ⟨vs, v, .inl (.inl (so.sub _ _ (s _ _ f))), e⟩
  stop := fun W st H i s so hi => ⟨vs, .inl (.inl (so.sub _ _ (s _ _ f))), by rw [l.len]; exact hi⟩
  yld := fun W st H i x H' s so hi y => by
    obtain ⟨rfl, y⟩ := y
    obtain ⟨v, e, r⟩ := l.at (List.getElem?_eq_getElem hi)
    have e2 := y vs (.inl (.inl (so.sub _ _ (s _ _ f))))
    rw [e] at e2
    cases e2
    exact ⟨W, _, Step.refl _ _, so, List.getElem?_eq_getElem hi, Rp.mono s _ _ r⟩
theorem wk_tup {a : Addr} {vs : List V} {ds : List D} (f : W0.F a = some (.tup vs)) (l : RpL W0.F vs ds) : Wk T (Itt K a) W0 ds where
  go := fun W st H i s so hi => by
    obtain ⟨v, e, _⟩ := l.at (List.getElem?_eq_getElem hi)
    exact ⟨vs, v, .inl (.inl (so.sub _ _ (s _ _ f))), e⟩
  stop := fun W st H i s so hi => ⟨vs, .inl (.inl (so.sub _ _ (s _ _ f))), by rw [l.len]; exact hi⟩
  yld := fun W st H i x H' s so hi y => by
    obtain ⟨rfl, y⟩ := y
    obtain ⟨v, e, r⟩ := l.at (List.getElem?_eq_getElem hi)
    have e2 := y vs (.inl (.inl (so.sub _ _ (s _ _ f))))
    rw [e] at e2
    cases e2
    exact ⟨W, _, Step.refl _ _, so, List.getElem?_eq_getElem hi, Rp.mono s _ _ r⟩
theorem rngD_at {i j : Int} {k : Nat} (h : k < (rngD i j).length) : (rngD i j)[k]? = some (.int (i + k)) := by
  unfold rngD at h ⊢
  rw [List.length_map, List.length_range] at h
  rw [List.getElem?_map, List.getElem?_range h]
  rfl
theorem rngD_len (i j : Int) : (rngD i j).length = (j - i).toNat := by unfold rngD; rw [List.length_map, List.length_range]
theorem wk_rng (i j : Int) : Wk T (Itr i (j - i).toNat) W0 (rngD i j) where
  go := fun W st H k s so hi => by rw [rngD_len] at hi; exact hi
  stop := fun W st H k s so hi => by rw [rngD_len] at hi; exact hi
  yld := fun W st H k x H' s so hi y => by
    obtain ⟨rfl, rfl⟩ := y
    exact ⟨W, _, Step.refl _ _, so, rngD_at hi, .int _⟩
theorem dwnD_len (i j : Int) : (dwnD i j).length = (i - j).toNat := by unfold dwnD; rw [List.length_map, List.length_range]
theorem wk_dwn (i j : Int) : Wk T (Itc i (-1) (i - j).toNat) W0 (dwnD i j) where
  go := fun W st H k s so hi => by rw [dwnD_len] at hi; exact hi
  stop := fun W st H k s so hi => by rw [dwnD_len] at hi; exact hi
  yld := fun W st H k x H' s so hi y => by
    obtain ⟨rfl, rfl⟩ := y
    refine ⟨W, .int (i - k), Step.refl _ _, so, ?_, ?_⟩
    · rw [dwnD_len] at hi
      unfold dwnD
      rw [List.getElem?_map, List.getElem?_range hi]
      rfl
    · have e : i + (k : Int) * (-1) = i - k := by omega
      rw [e]
      exact .int _
/-- a pair made anew at each turn -/
theorem pair_step {W : Wd} {st : Sto} {H : Hp} (so : StoOk T W st H) {p : Addr} (n : H p = none) {x y : V} {d e : D} (r1 : Rp W.F x d) (r2 : Rp W.F y e) :
    ∃ W' z, Step W H W' (upd H p (.tup [x, y])) ∧ StoOk T W' st (upd H p (.tup [x, y])) ∧ z = PyData.tuple [d, e] ∧ Rp W'.F (.ref p) z :=
  ⟨W.add p (.tup [x, y]), _, step_add so n, sto_add so n, rfl, .tup (add_at _ _ _) (.cons (Rp.mono (step_add so n).fx _ _ r1) (.cons (Rp.mono (step_add so n).fx _ _ r2) .nil))⟩
theorem zip_at {xs ys : List D} {i : Nat} {d e : D} (h1 : xs[i]? = some d) (h2 : ys[i]? = some e) : (xs.zipWith (fun x y => PyData.tuple [x, y]) ys)[i]? = some (.tuple [d, e]) := by
  rw [List.getElem?_zipWith, h1, h2]
theorem wk_zipL {a b : Addr} {vs ws : List V} {ds es : List D} (f : W0.F a = some (.lst vs)) (l : RpL W0.F vs ds) (f2 : W0.F b = some (.lst ws)) (l2 : RpL W0.F ws es) : Wk T (Itz K a b) W0 (ds.zipWith (fun x y => PyData.tuple [x, y]) es) where
  go := fun W st H i s so hi => by
    rw [List.length_zipWith] at hi
    obtain ⟨v, e, _⟩ := l.at (List.getElem?_eq_getElem (show i < ds.length by omega))
    obtain ⟨u, e2, _⟩ := l2.at (List.getElem?_eq_getElem (show i < es.length by omega))
    exact ⟨vs, ws, v, u, .inl (.inl (so.sub _ _ (s _ _ f))), .inl (.inl (so.sub _ _ (s _ _ f2))), e, e2⟩
  stop := fun W st H i s so hi => by
    rw [List.length_zipWith] at hi
    refine ⟨vs, ws, .inl (.inl (so.sub _ _ (s _ _ f))), .inl (.inl (so.sub _ _ (s _ _ f2))), ?_⟩
    rw [l.len, l2.len]
    omega
  yld := fun W st H i x H' s so hi y => by
    rw [List.length_zipWith] at hi
    obtain ⟨v, e, r⟩ := l.at (List.getElem?_eq_getElem (show i < ds.length by omega))
    obtain ⟨u, e2, r2⟩ := l2.at (List.getElem?_eq_getElem (show i < es.length by omega))
    obtain ⟨p, x1, y1, rfl, np, rfl, q1, q2⟩ := y
    have e3 := q1 vs (.inl (.inl (so.sub _ _ (s _ _ f))))
    have e4 := q2 ws (.inl (.inl (so.sub _ _ (s _ _ f2))))
    rw [e] at e3; cases e3
    rw [e2] at e4; cases e4
    obtain ⟨W', z, s1, s2, rfl, s4⟩ := pair_step so np (Rp.mono s _ _ r) (Rp.mono s _ _ r2)
    exact ⟨W', _, s1, s2, zip_at (List.getElem?_eq_getElem _) (List.getElem?_eq_getElem _), s4⟩
theorem wk_zipT {a b : Addr} {vs ws : List V} {ds es : List D} (f : W0.F a = some (.tup vs)) (l : RpL W0.F vs ds) (f2 : W0.F b = some (.tup ws)) (l2 : RpL W0.F ws es) : Wk T (RZ.ItzT K a b) W0 (ds.zipWith (fun x y => PyData.tuple [x, y]) es) where
  go := fun W st H i s so hi => by
    rw [List.length_zipWith] at hi
    obtain ⟨v, e, _⟩ := l.at (List.getElem?_eq_getElem (show i < ds.length by omega))
    obtain ⟨u, e2, _⟩ := l2.at (List.getElem?_eq_getElem (show i < es.length by omega))
    exact ⟨vs, ws, v, u, .inl (.inl (so.sub _ _ (s _ _ f))), .inl (.inl (so.sub _ _ (s _ _ f2))), e, e2⟩
  stop := fun W st H i s so hi => by
    rw [List.length_zipWith] at hi
    refine ⟨vs, ws, .inl (.inl (so.sub _ _ (s _ _ f))), .inl (.inl (so.sub _ _ (s _ _ f2))), ?_⟩
    rw [l.len, l2.len]
    omega
  yld := fun W st H i x H' s so hi y => by
    rw [List.length_zipWith] at hi
    obtain ⟨v, e, r⟩ := l.at (List.getElem?_eq_getElem (show i < ds.length by omega))
    obtain ⟨u, e2, r2⟩ := l2.at (List.getElem?_eq_getElem (show i < es.length by omega))
    obtain ⟨p, x1, y1, rfl, np, rfl, q1, q2⟩ := y
    have e3 := q1 vs (.inl (.inl (so.sub _ _ (s _ _ f))))
    have e4 := q2 ws (.inl (.inl (so.sub _ _ (s _ _ f2))))
    rw [e] at e3; cases e3
    rw [e2] at e4; cases e4
    obtain ⟨W', z, s1, s2, rfl, s4⟩ := pair_step so np (Rp.mono s _ _ r) (Rp.mono s _ _ r2)
    exact ⟨W', _, s1, s2, zip_at (List.getElem?_eq_getElem _) (List.getElem?_eq_getElem _), s4⟩
end

section
variable {X : Cx} {g : GI} {T : List (Addr × Str)} {G : Gd} {n : Nat} {E : XK} {a b c e tg : Expr} {es : List Expr} {ca cb cc : C} {ces : List C} {pos p p1 p2 p3 : Pos} {x : Str}
/-- what is walked is a list or a tuple -/
def iAny (K : PySem.W.Frag) (tl : TE) : TI := fun σ H R => tl σ H fun x H1 => ∃ a xs, x = .ref a ∧ ((SqL K H1 a xs ∧ (xs.length ≤ sizeLine → R (Itl K a) H1)) ∨ (SqT K H1 a xs ∧ (xs.length ≤ sizeLine → R (Itt K a) H1)))
theorem pi_any {l : Expr} {tl : TE} (hl : PE X l tl) : PI X tg l (iAny X.K tl) := by
  refine ⟨fun pins s σ H R I h => thn (hl.run pins s σ H _ I h) fun v s1 hh => ?_⟩
  obtain ⟨x, H1, I1, r1, a, xs, rfl, q⟩ := hh
  cases r1
  have own : ∀ b ∈ [s1.heap.objs.size], FpOk X pins H1 b := fun b hb => by
    rw [List.mem_singleton.mp hb]
    exact I1.fpOk (Nat.le_refl _) (I1.hok.fresh (Nat.le_refl _))
  rcases q with ⟨hq, q⟩ | ⟨hq, q⟩
  · obtain ⟨its, rv, pl, z⟩ := I1.list hq
    exact wpAny_pyIter_list pl.isList ⟨s1.heap.objs.size, [s1.heap.objs.size], _, _, H1, rfl, I1.kept (t' := s1.toks) fun b o e => Heap.get?_push_of_some _ e, turn_list a _, ⟨_, Heap.get?_push_size _ rfl, rfl, rfl⟩, own, q z⟩
  · obtain ⟨its, rv, pl, z⟩ := I1.tuple hq
    exact wpAny_pyIter_tuple (show s1.heap.IsTuple a its.toArray from pl) ⟨s1.heap.objs.size, [s1.heap.objs.size], _, _, H1, rfl, I1.kept (t' := s1.toks) fun b o e => Heap.get?_push_of_some _ e, turn_tuple a _, ⟨_, Heap.get?_push_size _ rfl, rfl, rfl⟩, own, q z⟩
theorem i_val (ha : PE X a (tv X T G E ca)) : PI X tg a (tI X T G E 0 [ca]) :=
  (pi_any ha).weak fun σ H Q ⟨W, ρ, st, so, sl, h⟩ => by
    have h : Post T X.mg (WkR T) W H E Q ((evL G [ca] ρ st).bind fun vs s1 => Res.opt (evItems 0 vs) s1) := h
    rw [evL1] at h
    refine first so sl h fun W1 s1 v x H1 p1 so1 sl1 r1 h1 => ?_
    obtain ⟨z, e, q⟩ := Post.opt h1
    cases x with
    | d x =>
      have e : seqOf x = some z := e
      cases x with
      | list xs =>
        cases e
        cases r1 with
        | lst f l => exact ⟨_, _, rfl, .inl ⟨.inl (.inl (so1.sub _ _ f)), fun le => q W1 _ H1 (Step.refl _ _) so1 ⟨by rw [← l.len]; exact le, wk_list f l⟩⟩⟩
      | tuple xs =>
        cases e
        cases r1 with
        | tup f l => exact ⟨_, _, rfl, .inr ⟨.inl (.inl (so1.sub _ _ f)), fun le => q W1 _ H1 (Step.refl _ _) so1 ⟨by rw [← l.len]; exact le, wk_tup f l⟩⟩⟩
      | _ => cases e
    | _ => cases e
theorem asInt_inv {x : Vl} {i : Int} (h : asInt x = some i) : x = .d (.int i) := by
  unfold asInt at h
  split at h
  · cases h; rfl
  · cases h
theorem bind_inv {α β : Type} {o : Option α} {f : α → Option β} {z : β} (h : o.bind f = some z) : ∃ x, o = some x ∧ f x = some z := by
  cases o with
  | none => cases h
  | some x => exact ⟨x, rfl, h⟩
theorem small_rg {i j : Int} (h : j - i ≤ 16777216) : (rngD i j).length ≤ sizeLine := by rw [rngD_len, sizeLine_eq]; omega
theorem i_rng1 (hg : Gl X "range") (hm : X.mg "range" = none) (ha : PE X a (tv X T G E ca)) (hs : noStar a = true) : PI X tg (.Call (.Name "range" p) [a] [] pos) (tI X T G E 1 [ca]) :=
  (pi_range1 hg hm (pa_cons ha pa_nil (star_cons hs)) (star_cons hs)).weak fun σ H Q ⟨W, ρ, st, so, sl, h⟩ => by
    have h : Post T X.mg (WkR T) W H E Q ((evL G [ca] ρ st).bind fun vs s1 => Res.opt (evItems 1 vs) s1) := h
    rw [evL1] at h
    refine first so sl h fun W1 s1 v x H1 p1 so1 sl1 r1 h1 => ?_
    obtain ⟨z, e, q⟩ := Post.opt h1
    obtain ⟨m, e1, e2⟩ := bind_inv (show (asInt x).bind _ = some z from e)
    obtain rfl := asInt_inv e1
    cases r1
    split at e2
    · rename_i hc
      cases e2
      simp only [okI, Bool.and_eq_true, decide_eq_true_eq] at hc
      have w := wk_rng (T := T) (W0 := W1) 0 m
      rw [Int.sub_zero] at w
      exact ⟨m, rfl, hc.1.1, hc.1.2, q W1 _ H1 (Step.refl _ _) so1 ⟨small_rg (by omega), w⟩⟩
    · cases e2
theorem i_rng2 (hg : Gl X "range") (hm : X.mg "range" = none) (ha : PE X a (tv X T G E ca)) (hb : PE X b (tv X T G E cb)) (hs : noStar a = true) (hs2 : noStar b = true) : PI X tg (.Call (.Name "range" p) [a, b] [] pos) (tI X T G E 1 [ca, cb]) :=
  (pi_range2 hg hm (pa_cons ha (pa_cons hb pa_nil (star_cons hs2)) (star_cons hs)) (by rw [star_cons hs, star_cons hs2]; rfl) (by rw [star_cons hs2]; rfl)).weak fun σ H Q ⟨W, ρ, st, so, sl, h⟩ => by
    have h : Post T X.mg (WkR T) W H E Q ((evL G [ca, cb] ρ st).bind fun vs s1 => Res.opt (evItems 1 vs) s1) := h
    rw [evL2] at h
    refine first so sl h fun W1 s1 v x H1 p1 so1 sl1 r1 h1 => first so1 sl1 h1 fun W2 s2 u y H2 p2 so2 sl2 r2 h2 => ?_
    obtain ⟨z, e, q⟩ := Post.opt h2
    obtain ⟨i, e1, e2⟩ := bind_inv (show (asInt x).bind _ = some z from e)
    obtain ⟨j, e3, e4⟩ := bind_inv e2
    obtain rfl := asInt_inv e1
    obtain rfl := asInt_inv e3
    cases r1; cases r2
    split at e4
    · rename_i hc
      cases e4
      simp only [okI, Bool.and_eq_true, decide_eq_true_eq] at hc
      exact ⟨i, j, rfl, ⟨by omega, by omega, by omega, by omega⟩, q W2 _ H2 (Step.refl _ _) so2 ⟨small_rg (by omega), wk_rng i j⟩⟩
    · cases e4
theorem evL3 {ρ : Env} {st : Sto} {α : Type} (k : List Vl → Sto → Res α) : (evL G [ca, cb, cc] ρ st).bind k = (ev G ca ρ st).bind fun x s1 => (ev G cb ρ s1).bind fun y s2 => (ev G cc ρ s2).bind fun z s3 => k [x, y, z] s3 := by
  show ((ev G ca ρ st).bind fun x s1 => (evL G [cb, cc] ρ s1).bind fun xs s2 => .ok (x :: xs) s2).bind k = _
  rw [bind_assoc']
  refine congrArg _ (funext fun x => funext fun s1 => ?_)
  rw [bind_assoc', evL2]
  rfl
theorem i_rng3 (hg : Gl X "range") (hm : X.mg "range" = none) (ha : PE X a (tv X T G E ca)) (hb : PE X b (tv X T G E cb)) (hc : PE X c (tv X T G E cc)) (hs : noStar a = true) (hs2 : noStar b = true) (hs3 : noStar c = true) : PI X tg (.Call (.Name "range" p) [a, b, c] [] pos) (tI X T G E 1 [ca, cb, cc]) :=
  (pi_range3 hg hm (pa_cons ha (pa_cons hb (pa_cons hc pa_nil (star_cons hs3)) (star_cons hs2)) (star_cons hs)) (star_cons hs) (plain_args (by simp [hs2, hs3]))).weak fun σ H Q ⟨W, ρ, st, so, sl, h⟩ => by
    have h : Post T X.mg (WkR T) W H E Q ((evL G [ca, cb, cc] ρ st).bind fun vs s1 => Res.opt (evItems 1 vs) s1) := h
    rw [evL3] at h
    refine first so sl h fun W1 s1 v x H1 p1 so1 sl1 r1 h1 => first so1 sl1 h1 fun W2 s2 u y H2 p2 so2 sl2 r2 h2 => first so2 sl2 h2 fun W3 s3 w k H3 p3 so3 sl3 r3 h3 => ?_
    obtain ⟨z, e, q⟩ := Post.opt h3
    obtain ⟨i, e1, e2⟩ := bind_inv (show (asInt x).bind _ = some z from e)
    obtain ⟨j, e3, e4⟩ := bind_inv e2
    obtain ⟨l, e5, e6⟩ := bind_inv e4
    obtain rfl := asInt_inv e1
    obtain rfl := asInt_inv e3
    obtain rfl := asInt_inv e5
    cases r1; cases r2; cases r3
    split at e6
    · rename_i hc
      cases e6
      simp only [okI, Bool.and_eq_true, decide_eq_true_eq] at hc
      obtain ⟨⟨⟨rfl, k2⟩, k3⟩, k4⟩ := hc
      exact ⟨i, j, -1, (i - j).toNat, rfl, RgC.neg k2.1 k2.2 k3.1 k3.2, q W3 _ H3 (Step.refl _ _) so3 ⟨by rw [dwnD_len, sizeLine_eq]; omega, wk_dwn i j⟩⟩
    · cases e6
/-- zip(a, b) of two lists or two tuples -/
theorem i_zip {elts : List Expr} {kk : Nat} {tpos : Pos} (hg : Gl X "zip") (hm : X.mg "zip" = none) (ha : PE X a (tv X T G E ca)) (hb : PE X b (tv X T G E cb)) (hs : noStar a = true) (hs2 : noStar b = true) :
    PI X (.Tuple elts kk tpos) (.Call (.Name "zip" p) [a, b] [] pos) (tI X T G E 3 [ca, cb]) :=
  (RZ.pi_zipA hg hm (pa_cons ha (pa_cons hb pa_nil (star_cons hs2)) (star_cons hs)).line (star_cons hs) (plain_args (by simp [hs2]))).weak fun σ H Q ⟨W, ρ, st, so, sl, h⟩ => by
    have h : Post T X.mg (WkR T) W H E Q ((evL G [ca, cb] ρ st).bind fun vs s1 => Res.opt (evItems 3 vs) s1) := h
    rw [evL2] at h
    refine first so sl h fun W1 s1 v x H1 p1 so1 sl1 r1 h1 => first so1 sl1 h1 fun W2 s2 u y H2 p2 so2 sl2 r2 h2 line => ?_
    obtain ⟨z, e, q⟩ := Post.opt h2
    have r1 := r1.step p2
    have e : items3 [x, y] = some z := e
    unfold items3 at e
    split at e
    · rename_i e1
      cases e1; cases e
      cases r1 with
      | lst f1 l1 =>
        cases r2 with
        | lst f2 l2 =>
          have z1 := line _ _ (.inl (.inl (.inl (so2.sub _ _ f1))))
          refine ⟨_, _, _, _, rfl, .inl ⟨.inl (.inl (so2.sub _ _ f1)), .inl (.inl (so2.sub _ _ f2)), q W2 _ H2 (Step.refl _ _) so2 ⟨?_, wk_zipL f1 l1 f2 l2⟩⟩⟩
          rw [List.length_zipWith, ← l1.len]
          omega
    · rename_i e1
      cases e1; cases e
      cases r1 with
      | tup f1 l1 =>
        cases r2 with
        | tup f2 l2 =>
          have z1 := line _ _ (.inr (.inl (.inl (so2.sub _ _ f1))))
          refine ⟨_, _, _, _, rfl, .inr ⟨.inl (.inl (so2.sub _ _ f1)), .inl (.inl (so2.sub _ _ f2)), q W2 _ H2 (Step.refl _ _) so2 ⟨?_, wk_zipT f1 l1 f2 l2⟩⟩⟩
          rw [List.length_zipWith, ← l1.len]
          omega
    · cases e
end
end Ar
set_option Elab.async false
set_option linter.all false
set_option maxRecDepth 100000
set_option maxHeartbeats 4000000
/-! Ar9: a list that grows; comprehensions. -/
namespace Ar
open PySem PySem.Spec PyProof.Rows L2
section
variable {T : List (Addr × Str)} {W W' W0 : Wd} {st : Sto} {H H' H0 : Hp} {D : Addr} {vs ws : List V}
/-- a list of the code's own: neither frozen nor in the store -/
structure Own (W : Wd) (H : Hp) (D : Addr) (vs : List V) : Prop where
  at_ : H D = some (.lst vs)
  nf : W.F D = none
  nb : ∀ n, W.β n ≠ some D
theorem Own.step (o : Own W H D vs) (s : Step W H W' H') : Own W' H' D vs where
  at_ := s.fr _ _ o.at_ o.nb (fun _ z => by cases z)
  nf := by
    cases q : W'.F D with
    | none => rfl
    | some u =>
      rcases s.fn D u q with z | z
      · rw [o.nf] at z; cases z
      · rw [o.at_] at z; cases z
  nb := fun n z => by
    rcases s.bn n D z with z | z
    · exact o.nb n z
    · rw [o.at_] at z; cases z
theorem Own.upd (o : Own W H D vs) (ws : List V) : Own W (L2.upd H D (.lst ws)) D ws := ⟨upd_same, o.nf, o.nb⟩
theorem Own.new (so : StoOk T W st H) (n : H D = none) (ws : List V) : Own W (L2.upd H D (.lst ws)) D ws :=
  ⟨upd_same, sub_none so.sub n, fun k z => by
    obtain ⟨o, e⟩ := so.live z
    rw [n] at e; cases e⟩
theorem step_upd (s : Step W0 H0 W H) (n : H0 D = none) (ws : List V) : Step W0 H0 W (upd H D (.lst ws)) where
  fx := s.fx
  fn := s.fn
  bx := s.bx
  bn := s.bn
  fr := fun b o e nb nt => by
    rw [upd_ne (ne_of_none e n)]
    exact s.fr b o e nb nt
  lv := fun b o e => by
    rw [upd_ne (ne_of_none e n)]
    exact s.lv b o e
theorem tabs_upd (t : LamX.Tabs T H) (e : H D = some (.lst vs)) (ws : List V) : LamX.Tabs T (upd H D (.lst ws)) := fun p hp => by
  obtain ⟨ps, h1, h2, h3⟩ := t p hp
  refine ⟨ps, by rw [upd_ne (ne_of h1 e (fun z => by cases z))]; exact h1, h2, fun pos cv hc => ?_⟩
  obtain ⟨c, e1, e2⟩ := h3 pos cv hc
  exact ⟨c, e1, by rw [upd_ne (ne_of e2 e (fun z => by unfold LamX.CodeO at z; cases z))]; exact e2⟩
theorem sto_upd (so : StoOk T W st H) (o : Own W H D vs) (ws : List V) : StoOk T W st (upd H D (.lst ws)) where
  sub := fun b u e => by
    rw [upd_ne (ne_of_none e o.nf)]
    exact so.sub b u e
  obj := fun n u e => by
    obtain ⟨a, h1, h2, h3⟩ := so.obj n u e
    refine ⟨a, h1, h2, ?_⟩
    rw [upd_ne (fun z => o.nb n (by rw [← z]; exact h1))]
    exact h3
  dom := so.dom
  inj := so.inj
  tab := tabs_upd so.tab o.at_ ws
  nt := so.nt
theorem step_frz (s : Step W0 H0 W H) (n : H0 D = none) (o : Own W H D vs) : Step W0 H0 (W.add D (.lst vs)) H where
  fx := fun b u e => by
    have e1 := s.fx b u e
    show upd W.F D (.lst vs) b = some u
    rw [upd_ne (ne_of_none e1 o.nf)]
    exact e1
  fn := fun b u e => by
    by_cases hb : b = D
    · subst hb; exact .inr n
    · have e' : upd W.F D (.lst vs) b = some u := e
      rw [upd_ne hb] at e'
      exact s.fn b u e'
  bx := s.bx
  bn := s.bn
  fr := s.fr
  lv := s.lv
theorem sto_frz (so : StoOk T W st H) (o : Own W H D vs) : StoOk T (W.add D (.lst vs)) st H where
  sub := fun b u e => by
    have e' : upd W.F D (.lst vs) b = some u := e
    by_cases hb : b = D
    · subst hb; rw [upd_same] at e'; rw [o.at_, e']
    · rw [upd_ne hb] at e'; exact so.sub b u e'
  obj := fun n u e => by
    obtain ⟨a, h1, h2, h3⟩ := so.obj n u e
    refine ⟨a, h1, ?_, h3.mono (W' := W.add D (.lst vs)) (sub_upd _ _ o.nf)⟩
    show upd W.F D (.lst vs) a = none
    rw [upd_ne (fun z => o.nb n (by rw [← z]; exact h1))]
    exact h2
  dom := so.dom
  inj := so.inj
  tab := so.tab
  nt := fun b u e => by
    have e' : upd W.F D (.lst vs) b = some u := e
    by_cases hb : b = D
    · rw [hb, upd_same] at e'
      rw [← Option.some.inj e']
      exact fun _ z => by cases z
    · rw [upd_ne hb] at e'
      exact so.nt b u e'
end
/-! ### targets -/
def gNms : List Nat → TGs
  | [] => gNil
  | i :: is => gCons (gName i) (gNms is)
def gTg (K : PySem.W.Frag) (tg : List Nat) (tt : Bool) : TG :=
  match tt, tg with
  | false, [i] => gName i
  | true, is => fun v σ H Q => gTup K is.length (gNms is) v σ H Q ∨ gUnl K is.length (gNms is) v σ H Q
  | _, _ => fun _ _ _ _ => False
theorem wipe_set {σ : L2.St} {i : Nat} {x : Option V} : ∀ {vs : List Nat}, i ∈ vs → wipe (σ.set i x) vs = wipe σ vs
  | v :: vs, h => by
    unfold wipe
    by_cases hv : i ∈ vs
    · rw [wipe_set hv]
    · have e : v = i := by
        rcases List.mem_cons.mp h with z | z
        · exact z.symm
        · exact absurd z hv
      subst e
      have q : ∀ (us : List Nat), v ∉ us → wipe (σ.set v x) us = (wipe σ us).set v x := fun us => by
        induction us with
        | nil => intro _; rfl
        | cons u us ih =>
          intro hn
          simp only [List.mem_cons, not_or] at hn
          unfold wipe
          rw [ih hn.2, List.set_comm _ _ hn.1]
      rw [q vs hv, List.set_set]
theorem wipe_wipe {σ : L2.St} (vs : List Nat) : ∀ us : List Nat, (∀ i ∈ us, i ∈ vs) → wipe (wipe σ us) vs = wipe σ vs
  | [], _ => rfl
  | u :: us, h => by
    show wipe ((wipe σ us).set u none) vs = _
    rw [wipe_set (h u List.mem_cons_self), wipe_wipe vs us fun i hi => h i (List.mem_cons_of_mem _ hi)]
section
variable {K : PySem.W.Frag} {W : Wd} {H : Hp}
theorem gNms_ok {vs : List Nat} : ∀ {is : List Nat} {xs : List D} {ρ ρ1 : Env} {σ : L2.St} {us : List V} {Q : L2.St → Hp → Prop}, SlotOk K W H ρ σ → RpL W.F us xs → setAll ρ is xs = some ρ1 →
    (∀ i ∈ is, i ∈ vs) → (∀ σ1, SlotOk K W H ρ1 σ1 → wipe σ1 vs = wipe σ vs → Q σ1 H) → gNms is us σ H Q
  | [], [], ρ, ρ1, σ, us, Q, sl, r, e, hv, k => by
    cases r
    obtain rfl : ρ = ρ1 := Option.some.inj e
    exact ⟨rfl, k σ sl rfl⟩
  | i :: is, x :: xs, ρ, ρ1, σ, us, Q, sl, r, e, hv, k => by
    cases r with
    | cons r1 r2 => exact ⟨_, _, rfl, gNms_ok (sl.set i (x := .d x) r1) r2 e (fun j hj => hv j (List.mem_cons_of_mem _ hj)) fun σ1 s1 w1 => k σ1 s1 (by rw [w1, wipe_set (hv i List.mem_cons_self)])⟩
  | [], _ :: _, _, _, _, _, _, _, _, e, _, _ => by cases e
  | _ :: _, [], _, _, _, _, _, _, _, e, _, _ => by cases e
theorem setAll_len : ∀ {is : List Nat} {xs : List D} {ρ ρ1 : Env}, setAll ρ is xs = some ρ1 → is.length = xs.length
  | [], [], _, _, _ => rfl
  | i :: is, x :: xs, ρ, ρ1, e => congrArg Nat.succ (setAll_len (show setAll (ρ.set i (.v (.d x))) is xs = some ρ1 from e))
  | [], _ :: _, _, _, e => by cases e
  | _ :: _, [], _, _, e => by cases e
theorem bindT {tg : List Nat} {x : D} {ρ : Env} : bindTg tg true x ρ = (seqOf x).bind fun xs => setAll ρ tg xs := by cases tg <;> rfl
theorem gTg_ok {vs tg : List Nat} {tt : Bool} {x : D} {u : V} {ρ ρ1 : Env} {σ : L2.St} {Q : L2.St → Hp → Prop} (sb : Sub W.F H) (sl : SlotOk K W H ρ σ) (r : Rp W.F u x) (e : bindTg tg tt x ρ = some ρ1) (hv : ∀ i ∈ tg, i ∈ vs)
    (k : ∀ σ1, SlotOk K W H ρ1 σ1 → wipe σ1 vs = wipe σ vs → Q σ1 H) : gTg K tg tt u σ H Q := by
  cases tt with
  | false =>
    match tg, e, hv with
    | [i], e, hv =>
      obtain rfl : ρ.set i (.v (.d x)) = ρ1 := Option.some.inj e
      exact k _ (sl.set i (x := .d x) r) (wipe_set (hv i List.mem_cons_self))
    | [], e, _ => cases e
    | _ :: _ :: _, e, _ => cases e
  | true =>
    rw [bindT] at e
    cases r with
    | @tup a us ds f l =>
      have e : setAll ρ tg ds = some ρ1 := e
      have q : gTup K tg.length (gNms tg) _ σ H Q := ⟨_, _, rfl, .inl (.inl (sb _ _ f)), l.len.trans (setAll_len e).symm, gNms_ok sl l e hv k⟩
      cases tg <;> exact .inl q
    | @lst a us ds f l =>
      have e : setAll ρ tg ds = some ρ1 := e
      have q : gUnl K tg.length (gNms tg) _ σ H Q := ⟨_, _, rfl, .inl (.inl (sb _ _ f)), l.len.trans (setAll_len e).symm, gNms_ok sl l e hv k⟩
      cases tg <;> exact .inr q
    | _ => cases e
end
theorem passN {X : Cx} {E : XK} (h : ∀ c d H, ¬ E c d H := by intro _ _ _ z; exact z) : Passes (L2N.CX X.prog X.w) X E := fun _ _ _ _ _ _ _ c => by
  obtain ⟨_, _, _, _, _, _, _, _, _, _, _, _, z⟩ := c
  exact (h _ _ _ z).elim
/-! ### the context within a block -/
section
variable {X : Cx} {g : GI} {T : List (Addr × Str)} {G : Gd} {n : Nat} {E : XK}
theorem CxOk.blk (ok : CxOk X g T G n E) (s : Shared) (H : Hp) (scope : Scope) (ce : PySem.Env) (fp : List Addr) : CxOk (X.blk s H scope ce fp) g T G n E0 where
  calm := ok.calm
  nd := ok.nd
  room := ok.room
  pass := passN
  fns := ok.fns
  nums := ok.nums
  free := ok.free
  f2 := ok.f2
  cat := ok.cat
abbrev tbs (X : Cx) (T : List (Addr × Str)) (G : Gd) (E : XK) (cs : List C) : TT := tBo X.K T X.mg E (fun ρ st => evTs G cs ρ st)
theorem ts_nil : PTs X [] (tbs X T G E []) := ⟨fun pins s σ H Q I ⟨W, ρ, st, so, sl, h⟩ => pts_nil.run pins s σ H Q I (h.val so rfl)⟩
theorem evTs1 {c : C} {ρ : Env} {st : Sto} : evTs G [c] ρ st = evT G c ρ st := by
  show (ev G c ρ st).bind (fun x s1 => (Res.opt (truth x) s1).bind fun k s2 => if k then .ok true s2 else .ok false s2) = _
  unfold evT
  refine congrArg _ (funext fun x => funext fun s1 => ?_)
  cases truth x with
  | none => rfl
  | some k => cases k <;> rfl
theorem ts_one {e : Expr} {c : C} (h : PT X e (tb X T G E c)) : PTs X [e] (tbs X T G E [c]) := ⟨fun pins s σ H Q I ⟨W, ρ, st, so, sl, h1⟩ => (pts_one h).run pins s σ H Q I ⟨W, ρ, st, so, sl, by
    have h1 : Post T X.mg EqB W H E Q (evTs G [c] ρ st) := h1
    rw [evTs1] at h1
    exact h1⟩⟩
end
/-! ### the loop -/
theorem mapR_bind {α : Type} {f : α → Sto → Res (List D)} {x : α} {xs : List α} {s : Sto} : mapR f (x :: xs) s = (f x s).bind fun a s1 => (mapR f xs s1).bind fun b s2 => .ok (a ++ b) s2 := rfl
theorem noex_bind {α β : Type} (r : Res α) (f : α → Sto → Res β) : (r.bind f).noex = r.noex.bind fun a s => (f a s).noex := by
  cases r <;> rfl
theorem noex_post {T : List (Addr × Str)} {mg : Str → Option Value} {α β γ δ : Type} {Rl : Wd → β → α → Prop} {Rm : Wd → δ → γ → Prop} {W : Wd} {H : Hp} {E E' : XK} {Q : β → Hp → Prop} {R : δ → Hp → Prop} {r : Res γ} {f : γ → Sto → Res α} (h : Post T mg Rl W H E Q (r.noex.bind f))
    (k : ∀ W1 s1 v x H1, Step W H W1 H1 → StoOk T W1 s1 H1 → Rm W1 v x → r = .ok x s1 → Post T mg Rl W1 H1 E Q (f x s1) → R v H1) : Post T mg Rm W H E' R r := by
  cases r with
  | ok x st => exact fun W' v H' s' o r => k W' st v x H' s' o r rfl (Post.step s' h)
  | ex x st => exact (show False from h).elim
  | bad => exact (show False from h).elim
/-- .. from where the reading stands -/
theorem firstN {K : PySem.W.Frag} {T : List (Addr × Str)} {mg : Str → Option Value} {α β γ δ : Type} {Rl : Wd → β → α → Prop} {Rm : Wd → δ → γ → Prop} {W : Wd} {ρ : Env} {st : Sto} {σ : L2.St} {H : Hp} {E E' : XK} {Q : β → Hp → Prop} {R : δ → Hp → Prop} {f : Env → Sto → Res γ} {k : γ → Sto → Res α} (so : StoOk T W st H) (sl : SlotOk K W H ρ σ) (h : Post T mg Rl W H E Q ((f ρ st).noex.bind k))
    (n : ∀ W1 s1 v x H1, Step W H W1 H1 → StoOk T W1 s1 H1 → SlotOk K W1 H1 ρ σ → Rm W1 v x → Post T mg Rl W1 H1 E Q (k x s1) → R v H1) : tR K T mg E' Rm f σ H R :=
  ⟨W, ρ, st, so, sl, noex_post h fun W1 s1 v x H1 s' o r _ p => n W1 s1 v x H1 s' o (sl.step s') r p⟩
theorem noex_post2 {T : List (Addr × Str)} {mg : Str → Option Value} {α β γ δ : Type} {Rl : Wd → β → α → Prop} {Rm : Wd → δ → γ → Prop} {W W0 : Wd} {H H0 : Hp} {E E' : XK} {Q : β → Hp → Prop} {R : δ → Hp → Prop} {r : Res γ} {f : γ → Sto → Res α} (h : Post T mg Rl W0 H0 E Q (r.noex.bind f))
    (k : ∀ W1 s1 v x H1, Step W H W1 H1 → StoOk T W1 s1 H1 → Rm W1 v x → Post T mg Rl W0 H0 E Q (f x s1) → R v H1) : Post T mg Rm W H E' R r := by
  cases r with
  | ok x st => exact fun W' v H' s' o r => k W' st v x H' s' o r h
  | ex x st => exact (show False from h).elim
  | bad => exact (show False from h).elim
theorem bind_noex {α β γ : Type} (r : Res α) (f : α → Sto → Res β) (k : β → Sto → Res γ) : (r.bind f).noex.bind k = r.noex.bind fun a s => (f a s).noex.bind k := by
  cases r <;> rfl
theorem mapR_step {α γ : Type} {f : α → Sto → Res (List D)} {x : α} {xs : List α} {s : Sto} (k : List D → Sto → Res γ) :
    (mapR f (x :: xs) s).noex.bind k = (f x s).noex.bind fun a s1 => (mapR f xs s1).noex.bind fun b s2 => k (a ++ b) s2 := by
  rw [mapR_bind, bind_noex]
  refine congrArg _ (funext fun a => funext fun s1 => ?_)
  rw [bind_noex]
  rfl
section
variable {X : Cx} {g : GI} {T : List (Addr × Str)} {G : Gd} {n : Nat} {E : XK} {iter elt tge : Expr} {ifs : List Expr} {scope : Scope} {pos : Pos} {celt : C} {tg own : List Nat} {tt : Bool} {ik : Nat} {its cifs : List C}
def compF (G : Gd) (elt : C) (tg : List Nat) (tt : Bool) (ifs : List C) (ρb : Env) (x : D) (s : Sto) : Res (List D) :=
  match bindTg tg tt x ρb with
  | none => .bad
  | some ρ1 => (evTs G ifs ρ1 s).bind fun k s1 => if k then (ev G elt ρ1 s1).bind fun y s2 => Res.opt ((asD y).map fun y => [y]) s2 else .ok [] s1
theorem ev_comp {ρ : Env} {st : Sto} : ev G (.comp celt tg tt ik its cifs own) ρ st = (evIt G ik its ρ st).bind fun xs s2 => (mapR (compF G celt tg tt cifs (blkE ρ own)) xs s2).noex.bind fun ys s3 => .ok (.d (.list ys)) s3 := by
  show (evL G its ρ st).bind _ = ((evL G its ρ st).bind _).bind _
  rw [bind_assoc']
  rfl
def ownN (N : List Str) (own : List Nat) : List (Str × Nat) := own.map fun i => (N.getD i "", i)
theorem ownN_snd (N : List Str) (own : List Nat) : (ownN N own).map (·.2) = own := by
  unfold ownN
  rw [List.map_map]
  exact List.map_id' _
theorem comp_rd {te : TE} {tts : TT} (hv : ∀ i ∈ tg, i ∈ own) : ∀ σ H Q, tv X T G E (.comp celt tg tt ik its cifs own) σ H Q →
    tLc (tI X T G E ik its) (gTg X.K tg tt) (tbs X T G E0 cifs) (tv X T G E0 celt) own σ H Q := fun σ H Q ⟨W, ρ, st, so, sl, h⟩ => by
  have h : Post T X.mg (RpV X.K) W H E Q (ev G (.comp celt tg tt ik its cifs own) ρ st) := h
  rw [ev_comp] at h
  refine first so sl h fun W1 s1 J xs H1 p1 so1 sl1 r1 h1 => ?_
  obtain ⟨hl, wk⟩ := r1
  intro L hL
  refine ⟨fun i m Hc => m = xs.length - i ∧ i ≤ xs.length ∧ ∃ W st acc vs, Step W1 H1 W Hc ∧ StoOk T W st Hc ∧ Own W Hc L vs ∧ RpL W.F vs acc ∧ vs.length ≤ i ∧
      Post T X.mg (RpV X.K) W1 H1 E Q ((mapR (compF G celt tg tt cifs (blkE ρ own)) (xs.drop i) st).noex.bind fun ys s3 => .ok (.d (.list (acc ++ ys))) s3), ?_, ?_⟩
  · exact ⟨_, rfl, Nat.zero_le _, W1, s1, [], [], step_upd (Step.refl _ _) hL _, sto_new so1 hL, Own.new so1 hL _, .nil, Nat.le_refl _, h1⟩
  · rintro i m Hc ⟨rfl, hi, Wc, stc, acc, vs, stp, so2, ow, rl, vl, hp⟩
    by_cases hlt : i < xs.length
    · refine .inr ⟨wk.go Wc stc Hc i stp.fx so2 hlt, fun H' => ∃ W st acc vs, Step W1 H1 W H' ∧ StoOk T W st H' ∧ Own W H' L vs ∧ RpL W.F vs acc ∧ vs.length ≤ i + 1 ∧
          Post T X.mg (RpV X.K) W1 H1 E Q ((mapR (compF G celt tg tt cifs (blkE ρ own)) (xs.drop (i + 1)) st).noex.bind fun ys s3 => .ok (.d (.list (acc ++ ys))) s3), fun H' q => ⟨_, by omega, rfl, hlt, q⟩, fun x H' y => ?_⟩
      obtain ⟨W3, d, p3, so3, ed, rd⟩ := wk.yld Wc stc Hc i x H' stp.fx so2 hlt y
      have stp3 := stp.trans p3
      have ow3 := ow.step p3
      rw [List.drop_eq_getElem_cons hlt, mapR_step] at hp
      rw [List.getElem?_eq_getElem hlt] at ed
      cases ed
      unfold compF at hp
      split at hp
      · exact (show False from hp).elim
      · rename_i ρ1 eb
        refine gTg_ok so3.sub ((sl1.blk own).step stp3) rd eb hv fun σ2 sl2 w2 => ⟨w2.trans (wipe_wipe own own fun _ z => z), ?_⟩
        rw [bind_noex] at hp
        refine ⟨W3, ρ1, stc, so3, sl2, noex_post2 hp fun W4 s4 b b' H4 p4 so4 r4 h4 => ?_⟩
        cases r4
        cases b with
        | false =>
          simp only [Bool.false_eq_true, if_false] at h4 ⊢
          exact ⟨W4, s4, acc, vs, stp3.trans p4, so4, ow3.step p4, RpL.mono (p3.trans p4).fx _ _ rl, Nat.le_succ_of_le vl, h4⟩
        | true =>
          simp only [if_true] at h4 ⊢
          rw [bind_noex] at h4
          refine ⟨W4, ρ1, s4, so4, sl2.step p4, noex_post2 h4 fun W5 s5 u y' H5 p5 so5 r5 h5 => ?_⟩
          have ow5 := (ow3.step p4).step p5
          refine ⟨vs, ow5.at_, Nat.lt_of_le_of_lt vl (Nat.lt_of_lt_of_le hlt hl), ?_⟩
          cases y' with
          | d y' =>
            refine ⟨W5, s5, acc ++ [y'], vs ++ [u], step_upd ((stp3.trans p4).trans p5) hL _, sto_upd so5 ow5 _, ow5.upd _, (RpL.mono ((p3.trans p4).trans p5).fx _ _ rl).app (.cons r5 .nil), by simpa using vl, ?_⟩
            have h5 : Post T X.mg (RpV X.K) W1 H1 E Q ((mapR (compF G celt tg tt cifs (blkE ρ own)) (xs.drop (i + 1)) s5).noex.bind fun ys s3 => .ok (.d (.list (acc ++ ([y'] ++ ys)))) s3) := h5
            simp only [List.append_assoc]
            exact h5
          | scr _ => exact (show False from h5).elim
          | ref _ => exact (show False from h5).elim
    · have e : i = xs.length := by omega
      subst e
      rw [List.drop_length] at hp
      refine .inl ⟨wk.stop Wc stc Hc _ stp.fx so2 (Nat.le_refl _), ?_⟩
      exact hp (Wc.add L (.lst vs)) (.ref L) Hc (step_frz stp hL ow) (sto_frz so2 ow) (.lst (add_at _ _ _) (RpL.mono (sub_upd _ _ ow.nf) _ _ (by rw [List.append_nil]; exact rl)))
theorem s_comp (ok : CxOk X g T G n E) (hi : PI X tge iter (tI X T G E ik its)) (bo : BlkOk X.N X.env.scope scope (ownN X.N own)) (hv : ∀ i ∈ tg, i ∈ own)
    (hg : ∀ (s : Shared) (H : Hp) (C : Addr) (cl : List (Str × Addr)) (fp : List Addr), PG (X.blk s H scope (compEnvC scope cl C X.env) fp) tge (gTg X.K tg tt))
    (ht : ∀ (s : Shared) (H : Hp) (C : Addr) (cl : List (Str × Addr)) (fp : List Addr), PTs (X.blk s H scope (compEnvC scope cl C X.env) fp) ifs (tbs X T G E0 cifs))
    (he : ∀ (s : Shared) (H : Hp) (C : Addr) (cl : List (Str × Addr)) (fp : List Addr), PE (X.blk s H scope (compEnvC scope cl C X.env) fp) elt (tv X T G E0 celt))
    (hs : ∀ x, foldedSetIterable iter X.env x = pure x) : PE X (.ListComp elt [⟨tge, iter, ifs, 0⟩] scope pos) (tv X T G E (.comp celt tg tt ik its cifs own)) := by
  have h := pe_lc (pos := pos) ok.calm ok.nd hi bo hg ht he hs
  rw [ownN_snd] at h
  exact h.weak (comp_rd (te := tv X T G E0 celt) (tts := tbs X T G E0 cifs) hv)
theorem s_setComp {i : Nat} {y : Str} {py spos : Pos} (ok : CxOk X g T G n E) (hy : X.N[i]? = some y) (hyl : X.env.scope.names.lookup y = some .local)
    (hsw : swapsWith (.ListComp elt [⟨tge, iter, ifs, 0⟩] scope pos) (some (.Name y py)) spos.line X.env = pure true)
    (hi : PI X tge iter (tI X T G E ik its)) (bo : BlkOk X.N X.env.scope scope (ownN X.N own)) (hv : ∀ i ∈ tg, i ∈ own)
    (hg : ∀ (s : Shared) (H : Hp) (C : Addr) (cl : List (Str × Addr)) (fp : List Addr), PG (X.blk s H scope (compEnvC scope cl C X.env) fp) tge (gTg X.K tg tt))
    (ht : ∀ (s : Shared) (H : Hp) (C : Addr) (cl : List (Str × Addr)) (fp : List Addr), PTs (X.blk s H scope (compEnvC scope cl C X.env) fp) ifs (tbs X T G E0 cifs))
    (he : ∀ (s : Shared) (H : Hp) (C : Addr) (cl : List (Str × Addr)) (fp : List Addr), PE (X.blk s H scope (compEnvC scope cl C X.env) fp) elt (tv X T G E0 celt))
    (hs : ∀ x, foldedSetIterable iter X.env x = pure x) : PS X (.Assign [.Name y py] (.ListComp elt [⟨tge, iter, ifs, 0⟩] scope pos) spos) (tAsg (tv X T G E (.comp celt tg tt ik its cifs own)) (gName i)) := by
  have h := ps_setLc (pos := pos) (py := py) ok.calm ok.nd hy hyl hsw hi bo hg ht he hs
  rw [ownN_snd] at h
  exact ⟨fun pins s σ H D I q => h.run pins s σ H D I (comp_rd (te := tv X T G E0 celt) (tts := tbs X T G E0 cifs) hv _ _ _ q)⟩
end
end Ar
set_option Elab.async false
set_option linter.all false
set_option maxRecDepth 100000
set_option maxHeartbeats 4000000
/-! Ar10: comprehensions of two clauses. -/
namespace Ar
open PySem PySem.Spec PyProof.Rows L2
def NoOwn (ρ : Env) : Prop := ∀ (i : Nat) xs, ρ[i]? ≠ some (.own xs)
theorem noOwn_drop (ρ : Env) : NoOwn (dropE ρ) := fun i xs e => by
  rcases dropE_at e with ⟨_, _, z⟩ | ⟨_, z⟩
  · cases z
  · exact z xs rfl
theorem NoOwn.wipe {ρ : Env} (h : NoOwn ρ) (vs : List Nat) : NoOwn (wipeE ρ vs) := fun i xs e => h i xs (wipeE_at e (by intro z; cases z)).1
theorem NoOwn.set {ρ : Env} (h : NoOwn ρ) (i : Nat) (x : Vl) : NoOwn (ρ.set i (.v x)) := fun j xs e => by
  rcases set_at e with ⟨_, z⟩ | ⟨_, z⟩
  · cases z
  · exact h j xs z
theorem NoOwn.un {ρ : Env} (h : NoOwn ρ) (i : Nat) : NoOwn (ρ.set i .un) := fun j xs e => by
  rcases set_at e with ⟨_, z⟩ | ⟨_, z⟩
  · cases z
  · exact h j xs z
theorem NoOwn.all : ∀ {is : List Nat} {xs : List D} {ρ ρ1 : Env}, NoOwn ρ → setAll ρ is xs = some ρ1 → NoOwn ρ1
  | [], [], _, _, h, e => by cases e; exact h
  | i :: is, x :: xs, ρ, ρ1, h, e => NoOwn.all (h.set i (.d x)) (show setAll (ρ.set i (.v (.d x))) is xs = some ρ1 from e)
  | [], _ :: _, _, _, _, e => by cases e
  | _ :: _, [], _, _, _, e => by cases e
theorem NoOwn.bind {ρ ρ1 : Env} {tg : List Nat} {tt : Bool} {x : D} (h : NoOwn ρ) (e : bindTg tg tt x ρ = some ρ1) : NoOwn ρ1 := by
  cases tt with
  | false =>
    match tg, e with
    | [i], e =>
      obtain rfl : ρ.set i (.v (.d x)) = ρ1 := Option.some.inj e
      exact h.set i _
    | [], e => cases e
    | _ :: _ :: _, e => cases e
  | true =>
    rw [bindT] at e
    cases x with
    | tuple ds => exact h.all (show setAll ρ tg ds = some ρ1 from e)
    | list ds => exact h.all (show setAll ρ tg ds = some ρ1 from e)
    | _ => cases e
theorem SlotOk.light {K : PySem.W.Frag} {W W' : Wd} {H H' : Hp} {ρ : Env} {σ : L2.St} (h : SlotOk K W H ρ σ) (no : NoOwn ρ) (fx : Sub W.F W'.F) (bx : ∀ n a, W.β n = some a → W'.β n = some a) : SlotOk K W' H' ρ σ where
  len := h.len
  at_ := fun i x e => by
    obtain ⟨u, h1, h2⟩ := h.at_ i x e
    refine ⟨u, h1, ?_⟩
    cases x with
    | d x => exact Rp.mono fx _ _ h2
    | scr ns =>
      obtain ⟨a, e, h⟩ := h2
      exact ⟨a, e, SqL.sub fx h⟩
    | ref n =>
      obtain ⟨a, e, h⟩ := h2
      exact ⟨a, e, bx _ _ h⟩
  own := fun i xs e => absurd e (no i xs)
  dis := fun i j xs ys _ e _ => absurd e (no i xs)
section
variable {X : Cx} {g : GI} {T : List (Addr × Str)} {G : Gd} {n : Nat} {E : XK} {iter elt tge iter1 tge1 : Expr} {ifs1 : List Expr} {scope : Scope} {pos : Pos} {celt cit1 : C} {tg own : List Nat} {tg1 : Nat} {tt : Bool} {ik : Nat} {its cifs1 : List C}
def compF1 (G : Gd) (elt : C) (tg1 : Nat) (ifs1 : List C) (ρ1 : Env) (x1 : D) (s : Sto) : Res (List D) :=
  (evTs G ifs1 ((ρ1.set tg1 .un).set tg1 (.v (.d x1))) s).bind fun k s1 => if k then (ev G elt ((ρ1.set tg1 .un).set tg1 (.v (.d x1))) s1).bind fun y s2 => Res.opt ((asD y).map fun y => [y]) s2 else .ok [] s1
def compF2 (G : Gd) (elt : C) (tg : List Nat) (tt : Bool) (tg1 : Nat) (it1 : C) (ifs1 : List C) (ρb : Env) (x : D) (s : Sto) : Res (List D) :=
  match bindTg tg tt x ρb with
  | none => .bad
  | some ρ1 => (evIt G 0 [it1] ρ1 s).bind fun xs1 s2 => mapR (compF1 G elt tg1 ifs1 ρ1) xs1 s2
def endK (acc : List D) : List D → Sto → Res Vl := fun ys s3 => if lineB (acc ++ ys).length then .ok (.d (.list (acc ++ ys))) s3 else .bad
theorem ev_comp2 {ρ : Env} {st : Sto} : ev G (.comp2 celt tg tt ik its tg1 cit1 cifs1 own) ρ st = (evIt G ik its ρ st).bind fun xs s2 => (mapR (compF2 G celt tg tt tg1 cit1 cifs1 (blkE ρ own)) xs s2).noex.bind (endK []) := by
  have e : ∀ xs s2, (mapR (compF2 G celt tg tt tg1 cit1 cifs1 (blkE ρ own)) xs s2) = mapR (fun x s => match bindTg tg tt x (blkE ρ own) with
        | none => .bad
        | some ρ1 => (ev G cit1 ρ1 s).bind fun v s1 => (Res.opt (evItems 0 [v]) s1).bind fun xs1 s2 => mapR (compF1 G celt tg1 cifs1 ρ1) xs1 s2) xs s2 := fun xs s2 => by
    refine congrArg (fun f => mapR f xs s2) (funext fun x => funext fun s => ?_)
    unfold compF2
    split
    · rfl
    · unfold evIt
      rw [bind_assoc', evL1]
  show (evL G its ρ st).bind _ = ((evL G its ρ st).bind _).bind _
  rw [bind_assoc']
  refine congrArg _ (funext fun vs => funext fun s1 => congrArg _ (funext fun xs => funext fun s2 => ?_))
  rw [e]
  rfl
theorem endK_app (acc b : List D) (c : List D) (s : Sto) : endK acc (b ++ c) s = endK (acc ++ b) c s := by
  unfold endK
  rw [List.append_assoc]
theorem endK_le {α : Type} {T : List (Addr × Str)} {mg : Str → Option Value} {β : Type} {Rl : Wd → β → Vl → Prop} {W : Wd} {H : Hp} {E : XK} {Q : β → Hp → Prop} {acc : List D} {ys : List D} {s : Sto} (h : Post T mg Rl W H E Q (endK acc ys s)) : acc.length ≤ sizeLine := by
  unfold endK at h
  split at h
  · rename_i z
    have z := of_decide_eq_true z
    rw [List.length_append] at z
    omega
  · exact (show False from h).elim
theorem noex_get {T : List (Addr × Str)} {mg : Str → Option Value} {α β γ : Type} {Rl : Wd → β → α → Prop} {W : Wd} {H : Hp} {E : XK} {Q : β → Hp → Prop} {r : Res γ} {k : γ → Sto → Res α} (h : Post T mg Rl W H E Q (r.noex.bind k)) : ∃ a s, Post T mg Rl W H E Q (k a s) := by
  cases r with
  | ok a s => exact ⟨a, s, h⟩
  | ex x s => exact (show False from h).elim
  | bad => exact (show False from h).elim
theorem comp_rd2 (hv : ∀ i ∈ tg, i ∈ own) (hv1 : tg1 ∈ own) : ∀ σ H Q, tv X T G E (.comp2 celt tg tt ik its tg1 cit1 cifs1 own) σ H Q →
    tLc2 (tI X T G E ik its) (gTg X.K tg tt) tYes (tI X T G E0 0 [cit1]) (gName tg1) (tbs X T G E0 cifs1) (tv X T G E0 celt) own [tg1] σ H Q := fun σ H Q ⟨W, ρ, st, so, sl, h⟩ => by
  have h : Post T X.mg (RpV X.K) W H E Q (ev G (.comp2 celt tg tt ik its tg1 cit1 cifs1 own) ρ st) := h
  rw [ev_comp2] at h
  refine first so sl h fun W1 s1 J xs H1 p1 so1 sl1 r1 h1 => ?_
  obtain ⟨hl, wk⟩ := r1
  intro L hL
  generalize hF : compF2 G celt tg tt tg1 cit1 cifs1 (blkE ρ own) = F at h1
  refine ⟨fun i m Hc => m = xs.length - i ∧ i ≤ xs.length ∧ ∃ W st acc vs, Step W1 H1 W Hc ∧ StoOk T W st Hc ∧ Own W Hc L vs ∧ RpL W.F vs acc ∧
      Post T X.mg (RpV X.K) W1 H1 E Q ((mapR F (xs.drop i) st).noex.bind (endK acc)), ?_, ?_⟩
  · exact ⟨_, rfl, Nat.zero_le _, W1, s1, [], [], step_upd (Step.refl _ _) hL _, sto_new so1 hL, Own.new so1 hL _, .nil, h1⟩
  · rintro i m Hc ⟨rfl, hi, Wc, stc, acc, vs, stp, so2, ow, rl, hp⟩
    by_cases hlt : i < xs.length
    · refine .inr ⟨wk.go Wc stc Hc i stp.fx so2 hlt, fun H' => ∃ W st acc vs, Step W1 H1 W H' ∧ StoOk T W st H' ∧ Own W H' L vs ∧ RpL W.F vs acc ∧
          Post T X.mg (RpV X.K) W1 H1 E Q ((mapR F (xs.drop (i + 1)) st).noex.bind (endK acc)), fun H' q => ⟨_, by omega, rfl, hlt, q⟩, fun x H' y => ?_⟩
      obtain ⟨W3, d, p3, so3, ed, rd⟩ := wk.yld Wc stc Hc i x H' stp.fx so2 hlt y
      have stp3 := stp.trans p3
      have ow3 := ow.step p3
      rw [List.drop_eq_getElem_cons hlt, mapR_step] at hp
      rw [List.getElem?_eq_getElem hlt] at ed
      cases ed
      have hp : Post T X.mg (RpV X.K) W1 H1 E Q ((F xs[i] stc).noex.bind fun a s1 => (mapR F (xs.drop (i + 1)) s1).noex.bind fun b s2 => endK acc (a ++ b) s2) := hp
      have eF : F xs[i] stc = compF2 G celt tg tt tg1 cit1 cifs1 (blkE ρ own) xs[i] stc := by rw [hF]
      rw [eF] at hp
      unfold compF2 at hp
      split at hp
      · exact (show False from hp).elim
      · rename_i ρ1 eb
        have no1 : NoOwn ρ1 := ((noOwn_drop ρ).wipe own).bind eb
        refine gTg_ok so3.sub ((sl1.blk own).step stp3) rd eb hv fun σ2 sl2 w2 => ⟨w2.trans (wipe_wipe own own fun _ z => z), ?_⟩
        simp only [tYes, if_true]
        rw [bind_noex] at hp
        refine ⟨W3, ρ1, stc, so3, sl2, noex_post2 hp fun W4 s4 J1 xs1 H4 p4 so4 r4 h4 => ?_⟩
        obtain ⟨hl1, wk1⟩ := r4
        have stp4 := stp3.trans p4
        have ow4 := ow3.step p4
        refine ⟨fun j k H' => k = xs1.length - j ∧ j ≤ xs1.length ∧ ∃ W st acc vs, Step W1 H1 W H' ∧ Sub W4.F W.F ∧ (∀ n a, W4.β n = some a → W.β n = some a) ∧ StoOk T W st H' ∧ Own W H' L vs ∧ RpL W.F vs acc ∧
          Post T X.mg (RpV X.K) W1 H1 E Q ((mapR (compF1 G celt tg1 cifs1 ρ1) (xs1.drop j) st).noex.bind fun a s1 => (mapR F (xs.drop (i + 1)) s1).noex.bind fun b s2 => endK acc (a ++ b) s2), ?_, ?_⟩
        · exact ⟨_, rfl, Nat.zero_le _, W4, s4, acc, vs, stp4, fun _ _ e => e, fun _ _ e => e, so4, ow4, RpL.mono (p3.trans p4).fx _ _ rl, h4⟩
        · rintro j k Hd ⟨rfl, hj, Wd', std, acc, vs, stp5, fx5, bx5, so5, ow5, rl5, hp5⟩
          by_cases hlt1 : j < xs1.length
          · refine .inr ⟨wk1.go Wd' std Hd j fx5 so5 hlt1, fun H' => ∃ W st acc vs, Step W1 H1 W H' ∧ Sub W4.F W.F ∧ (∀ n a, W4.β n = some a → W.β n = some a) ∧ StoOk T W st H' ∧ Own W H' L vs ∧ RpL W.F vs acc ∧
              Post T X.mg (RpV X.K) W1 H1 E Q ((mapR (compF1 G celt tg1 cifs1 ρ1) (xs1.drop (j + 1)) st).noex.bind fun a s1 => (mapR F (xs.drop (i + 1)) s1).noex.bind fun b s2 => endK acc (a ++ b) s2),
              fun H' q => ⟨_, by omega, rfl, hlt1, q⟩, fun x1 H6 y1 => ?_⟩
            obtain ⟨W6, d1, p6, so6, ed1, rd1⟩ := wk1.yld Wd' std Hd j x1 H6 fx5 so5 hlt1 y1
            have stp6 := stp5.trans p6
            have ow6 := ow5.step p6
            rw [List.drop_eq_getElem_cons hlt1, mapR_step] at hp5
            rw [List.getElem?_eq_getElem hlt1] at ed1
            cases ed1
            have sl6 : SlotOk X.K W6 H6 (ρ1.set tg1 .un) (wipe σ2 [tg1]) := (sl2.wipe [tg1]).light (no1.un tg1) (fun b o e => p6.fx _ _ (fx5 _ _ (p4.fx _ _ e))) fun n a e => p6.bx _ _ (bx5 _ _ (p4.bx _ _ e))
            refine ⟨(wipe_set (by simp)).trans (wipe_wipe _ _ fun _ z => z), ?_⟩
            unfold compF1 at hp5
            rw [bind_noex] at hp5
            refine ⟨W6, _, std, so6, sl6.set tg1 (x := .d xs1[j]) rd1, noex_post2 hp5 fun W7 s7 b b' H7 p7 so7 r7 h7 => ?_⟩
            cases r7
            cases b with
            | false =>
              simp only [Bool.false_eq_true, if_false] at h7 ⊢
              exact ⟨W7, s7, acc, vs, stp6.trans p7, fun b o e => p7.fx _ _ (p6.fx _ _ (fx5 _ _ e)), fun n a e => p7.bx _ _ (p6.bx _ _ (bx5 _ _ e)), so7, ow6.step p7, RpL.mono (p6.trans p7).fx _ _ rl5, h7⟩
            | true =>
              simp only [if_true] at h7 ⊢
              rw [bind_noex] at h7
              refine ⟨W7, _, s7, so7, (sl6.set tg1 (x := .d xs1[j]) rd1).step p7, noex_post2 h7 fun W8 s8 u y' H8 p8 so8 r8 h8 => ?_⟩
              have ow8 := (ow6.step p7).step p8
              cases y' with
              | d y' =>
                have h8 : Post T X.mg (RpV X.K) W1 H1 E Q ((mapR (compF1 G celt tg1 cifs1 ρ1) (xs1.drop (j + 1)) s8).noex.bind fun b s2 => (mapR F (xs.drop (i + 1)) s2).noex.bind fun c s3 => endK acc (([y'] ++ b) ++ c) s3) := h8
                have ek : ∀ b : List D, (fun (c : List D) s3 => endK acc (([y'] ++ b) ++ c) s3) = fun c s3 => endK (acc ++ [y']) (b ++ c) s3 := fun b => by
                  funext c s3
                  rw [List.append_assoc, endK_app]
                simp only [ek] at h8
                refine ⟨vs, ow8.at_, ?_, ?_⟩
                · obtain ⟨b, s9, h9⟩ := noex_get h8
                  obtain ⟨c, s10, h10⟩ := noex_get h9
                  have z := endK_le (α := Nat) h10
                  rw [List.length_append] at z
                  rw [rl5.len]
                  exact z
                · exact ⟨W8, s8, acc ++ [y'], vs ++ [u], step_upd ((stp6.trans p7).trans p8) hL _, fun b o e => p8.fx _ _ (p7.fx _ _ (p6.fx _ _ (fx5 _ _ e))), fun n a e => p8.bx _ _ (p7.bx _ _ (p6.bx _ _ (bx5 _ _ e))), sto_upd so8 ow8 _, ow8.upd _,
                    (RpL.mono ((p6.trans p7).trans p8).fx _ _ rl5).app (.cons r8 .nil), h8⟩
              | scr _ => exact (show False from h8).elim
              | ref _ => exact (show False from h8).elim
          · have e : j = xs1.length := by omega
            subst e
            rw [List.drop_length] at hp5
            exact .inl ⟨wk1.stop Wd' std Hd _ fx5 so5 (Nat.le_refl _), Wd', std, acc, vs, stp5, so5, ow5, rl5, hp5⟩
    · have e : i = xs.length := by omega
      subst e
      rw [List.drop_length] at hp
      refine .inl ⟨wk.stop Wc stc Hc _ stp.fx so2 (Nat.le_refl _), ?_⟩
      have hp : Post T X.mg (RpV X.K) W1 H1 E Q (endK acc [] stc) := hp
      unfold endK at hp
      rw [List.append_nil] at hp
      split at hp
      · exact hp (Wc.add L (.lst vs)) (.ref L) Hc (step_frz stp hL ow) (sto_frz so2 ow) (.lst (add_at _ _ _) (RpL.mono (sub_upd _ _ ow.nf) _ _ rl))
      · exact (show False from hp).elim
theorem s_comp2 (ok : CxOk X g T G n E) (hi : PI X tge iter (tI X T G E ik its)) (bo : BlkOk X.N X.env.scope scope (ownN X.N own)) (hv : ∀ i ∈ tg, i ∈ own) (hv1 : tg1 ∈ own)
    (hg : ∀ (s : Shared) (H : Hp) (C : Addr) (cl : List (Str × Addr)) (fp : List Addr), PG (X.blk s H scope (compEnvC scope cl C X.env) fp) tge (gTg X.K tg tt))
    (hi1 : ∀ (s : Shared) (H : Hp) (C : Addr) (cl : List (Str × Addr)) (fp : List Addr), PI (X.blk s H scope (compEnvC scope cl C X.env) fp) tge1 iter1 (tI X T G E0 0 [cit1]))
    (hg1 : ∀ (s : Shared) (H : Hp) (C : Addr) (cl : List (Str × Addr)) (fp : List Addr), PG (X.blk s H scope (compEnvC scope cl C X.env) fp) tge1 (gName tg1))
    (ht1 : ∀ (s : Shared) (H : Hp) (C : Addr) (cl : List (Str × Addr)) (fp : List Addr), PTs (X.blk s H scope (compEnvC scope cl C X.env) fp) ifs1 (tbs X T G E0 cifs1))
    (he : ∀ (s : Shared) (H : Hp) (C : Addr) (cl : List (Str × Addr)) (fp : List Addr), PE (X.blk s H scope (compEnvC scope cl C X.env) fp) elt (tv X T G E0 celt))
    (hs : ∀ x, foldedSetIterable iter X.env x = pure x) (hs1 : ∀ env x, foldedSetIterable iter1 env x = pure x) :
    PE X (.ListComp elt [⟨tge, iter, [], 0⟩, ⟨tge1, iter1, ifs1, 0⟩] scope pos) (tv X T G E (.comp2 celt tg tt ik its tg1 cit1 cifs1 own)) := by
  have h := pe_lc2 (pos := pos) (vs1 := [tg1]) ok.calm ok.nd hi bo (by rw [ownN_snd]; simpa using hv1) hg (fun _ _ _ _ _ => pts_nil) hi1 hg1 ht1 he hs hs1
  rw [ownN_snd] at h
  exact h.weak (comp_rd2 hv hv1)
theorem s_setComp2 {i : Nat} {y : Str} {py spos : Pos} (ok : CxOk X g T G n E) (hy : X.N[i]? = some y) (hyl : X.env.scope.names.lookup y = some .local)
    (hsw : swapsWith (.ListComp elt [⟨tge, iter, [], 0⟩, ⟨tge1, iter1, ifs1, 0⟩] scope pos) (some (.Name y py)) spos.line X.env = pure true)
    (hi : PI X tge iter (tI X T G E ik its)) (bo : BlkOk X.N X.env.scope scope (ownN X.N own)) (hv : ∀ i ∈ tg, i ∈ own) (hv1 : tg1 ∈ own)
    (hg : ∀ (s : Shared) (H : Hp) (C : Addr) (cl : List (Str × Addr)) (fp : List Addr), PG (X.blk s H scope (compEnvC scope cl C X.env) fp) tge (gTg X.K tg tt))
    (hi1 : ∀ (s : Shared) (H : Hp) (C : Addr) (cl : List (Str × Addr)) (fp : List Addr), PI (X.blk s H scope (compEnvC scope cl C X.env) fp) tge1 iter1 (tI X T G E0 0 [cit1]))
    (hg1 : ∀ (s : Shared) (H : Hp) (C : Addr) (cl : List (Str × Addr)) (fp : List Addr), PG (X.blk s H scope (compEnvC scope cl C X.env) fp) tge1 (gName tg1))
    (ht1 : ∀ (s : Shared) (H : Hp) (C : Addr) (cl : List (Str × Addr)) (fp : List Addr), PTs (X.blk s H scope (compEnvC scope cl C X.env) fp) ifs1 (tbs X T G E0 cifs1))
    (he : ∀ (s : Shared) (H : Hp) (C : Addr) (cl : List (Str × Addr)) (fp : List Addr), PE (X.blk s H scope (compEnvC scope cl C X.env) fp) elt (tv X T G E0 celt))
    (hs : ∀ x, foldedSetIterable iter X.env x = pure x) (hs1 : ∀ env x, foldedSetIterable iter1 env x = pure x) :
    PS X (.Assign [.Name y py] (.ListComp elt [⟨tge, iter, [], 0⟩, ⟨tge1, iter1, ifs1, 0⟩] scope pos) spos) (tAsg (tv X T G E (.comp2 celt tg tt ik its tg1 cit1 cifs1 own)) (gName i)) := by
  have h := ps_setLc2 (pos := pos) (py := py) (vs1 := [tg1]) ok.calm ok.nd hy hyl hsw hi bo (by rw [ownN_snd]; simpa using hv1) hg (fun _ _ _ _ _ => pts_nil) hi1 hg1 ht1 he hs hs1
  rw [ownN_snd] at h
  exact ⟨fun pins s σ H D I q => h.run pins s σ H D I (comp_rd2 hv hv1 _ _ _ q)⟩
end
end Ar
set_option Elab.async false
set_option linter.all false
set_option maxRecDepth 100000
set_option maxHeartbeats 4000000
/-! ArE: what a lambda's call lets out, told by its labels. -/
namespace Ar
open PySem PySem.Spec PyProof.Rows L2 LamX Ht
section
variable {T : List (Addr × Str)} {W : Wd} {st : Sto} {H H1 : Hp} {K : PySem.W.Frag} {ρ : Env} {σ : L2.St}
theorem step_ext (e : ExtT H H1) : Step W H W H1 where
  fx := fun _ _ z => z
  fn := fun _ _ z => .inl z
  bx := fun _ _ z => z
  bn := fun _ _ z => .inl z
  fr := fun b o z _ nt => e.keep b o z nt
  lv := fun b o z => by
    by_cases h : ∃ ps, o = .tbl ps
    · obtain ⟨ps, rfl⟩ := h
      obtain ⟨qs, q⟩ := e.tab b ps z
      exact ⟨_, q⟩
    · exact ⟨o, e.keep b o z fun ps q => h ⟨ps, q⟩⟩
theorem sto_ext (so : StoOk T W st H) (e : ExtT H H1) (t : Tabs T H1) : StoOk T W st H1 where
  sub := fun b o z => e.keep b o (so.sub b o z) (so.nt b o z)
  obj := fun n o z => by
    obtain ⟨a, h1, h2, h3⟩ := so.obj n o z
    refine ⟨a, h1, h2, ?_⟩
    cases o with
    | lst xs =>
      obtain ⟨vs, e1, r⟩ := h3
      exact ⟨vs, e.keep _ _ e1 (fun ps z => by cases z), r⟩
  dom := so.dom
  inj := so.inj
  tab := t
  nt := so.nt
theorem ext_t (e : Ext H H1) : ExtT H H1 := ⟨fun b o z _ => e b o z, fun b ps z => ⟨ps, e b _ z⟩⟩
end
section
variable {X : Cx} {g : GI} {T : List (Addr × Str)} {G : Gd} {n : Nat} {E : XK}
/-- a def's own code object and its table -/
def LamOk (X : Cx) (T : List (Addr × Str)) : Prop := ∃ c P, X.env.code = .ref c ∧ TabB X.base X.mg c P ∧ (P, X.env.qual ++ "<lambda>") ∈ T ∧ ∀ p ∈ T, p.1 = P → p.2 = X.env.qual ++ "<lambda>"
/-- the context of the lambda's body -/
theorem CxOk.lam (ok : CxOk X g T G n E) {f2 : Nat → List Vl → Sto → Res Vl} (e : G.fn2 = some f2) {A : Around} {outer : List PySem.Env} {s : Shared} {H : Hp} {E' : XK} {scope : Scope} {f c' : Addr} (hr : Room (n - 2) (A.deeper (lamEnv X scope s.heap.objs.size f c'))) :
    CxOk (lamN X A outer s H E' scope f c') g T ⟨G.fuel, f2, G.nm, none⟩ (n - 2) E' where
  calm := rfl
  nd := ok.nd
  room := hr
  pass := L2N.passes_call lamN_takes fun _ _ _ _ h => h
  fns := (ok.f2 f2 e).2
  nums := ok.nums
  free := ok.free
  f2 := fun _ z => by cases z
  cat := ok.cat
theorem s_err {x : Str} {cb : C} {params : Arguments} {body : Expr} {scope : Scope} {p lpos pos : Pos} (ok : CxOk X g T G n E) (lam : LamOk X T) (hx : g.cat = some x) (hg : Gl X x) (hdb : (x == ("__debug__" : Str)) = false) (L : LamS X.env.scope scope) (hdef : defaultsOf params X.env = ([], []))
    (hbind : ∀ (q : Str) (cl : List (Str × Addr)) (pm cv ctv : Value), bindArgs (PySem.W.kla_fn "<lambda>" q params body scope cl pm cv ctv) ⟨[], []⟩ = pure [])
    (hbody : ∀ (A : Around) (outer : List PySem.Env) (s : Shared) (H : Hp) (E' : XK) (f c' : Addr) (f2 : Nat → List Vl → Sto → Res Vl), G.fn2 = some f2 → Room (n - 2) (A.deeper (lamEnv X scope s.heap.objs.size f c')) → PE (lamN X A outer s H E' scope f c') body (tv X T ⟨G.fuel, f2, G.nm, none⟩ E' cb)) :
    PE X (.Call (.Name x p) [.Lambda params body scope lpos] [] pos) (tv X T G E (.err cb)) := by
  cases e2 : G.fn2 with
  | none =>
    refine ⟨fun pins s σ H Q I ⟨W, ρ, st, so, sl, h⟩ => ?_⟩
    have h : Post T X.mg (RpV X.K) W H E Q (match G.fn2 with
      | none => .bad
      | some f2 => (match ev ⟨G.fuel, f2, G.nm, none⟩ cb (dropE ρ) st with
        | .ok _ s1 => .ok (.d (.str Str.empty)) s1
        | .ex x s1 => Res.opt ((G.nm x).map fun r => .d (.str r)) s1
        | .bad => .bad)) := h
    rw [e2] at h
    exact (show False from h).elim
  | some f2 =>
    obtain ⟨c, P, l1, l2, l3, l4⟩ := lam
    obtain ⟨h2, _⟩ := ok.f2 f2 e2
    obtain ⟨C, hC⟩ := ok.cat x hx
    have hr : Room (n - 2 + 2) X.A := by
      have z : n - 2 + 2 = n := by omega
      rw [z]
      exact ok.room
    refine (pe_catch (T := T) (k := n - 2) (t := fun E' => tv X T ⟨G.fuel, f2, G.nm, none⟩ E' cb) C hg hdb l2 l1 l3 l4 hr L hdef hbind fun A outer s H E' f c' hr2 => hbody A outer s H E' f c' f2 e2 hr2).weak fun σ H Q ⟨W, ρ, st, so, sl, h⟩ => ⟨so.tab, fun H1 eN T1 => ?_⟩
    have h : Post T X.mg (RpV X.K) W H E Q (match G.fn2 with
      | none => .bad
      | some f2 => (match ev ⟨G.fuel, f2, G.nm, none⟩ cb (dropE ρ) st with
        | .ok _ s1 => .ok (.d (.str Str.empty)) s1
        | .ex x s1 => Res.opt ((G.nm x).map fun r => .d (.str r)) s1
        | .bad => .bad)) := h
    rw [e2] at h
    dsimp only at h
    have stp : Step W H W H1 := step_ext eN
    have so1 := sto_ext so eN T1
    refine ⟨fun cls d H2 => ∃ W2 st2 y, Step W H W2 H2 ∧ StoOk T W2 st2 H2 ∧ X.mg y = some cls ∧ XD y d ∧ ev ⟨G.fuel, f2, G.nm, none⟩ cb (dropE ρ) st = .ex y st2, fun cls d H2 ⟨W2, st2, y, s2, o2, m2, x2, ee⟩ => ?_, W, dropE ρ, st, so1, (sl.step stp).drop, ?_⟩
    · rw [ee] at h
      obtain ⟨v, ev1, hq⟩ := Post.opt h
      cases er : G.nm y with
      | none => rw [er] at ev1; cases ev1
      | some r =>
        rw [er] at ev1
        cases ev1
        obtain ⟨c1, D, c2, c3, c4⟩ := hC y r er
        rw [c2] at m2
        refine ⟨D, r, (Option.some.inj m2).symm, x2.elim (fun z => absurd z c1) (fun z => z), c3, c4, fun H3 e3 => ?_⟩
        exact hq W2 (.str r) H3 (s2.trans (step_ext (ext_t e3))) (sto_ext o2 (ext_t e3) (o2.tab.ext e3)) (.str r)
    · show Post T X.mg (RpV X.K) W H1 _ _ (ev ⟨G.fuel, f2, G.nm, none⟩ cb (dropE ρ) st)
      cases q : ev ⟨G.fuel, f2, G.nm, none⟩ cb (dropE ρ) st with
      | ok v s1 =>
        rw [q] at h
        exact fun W' v' H' s' o' _ => h W' (.str Str.empty) H' (stp.trans s') o' (.str _)
      | ex y s1 => exact fun W' cls d H' s' o' m' x' => ⟨W', s1, y, stp.trans s', o', m', x', rfl⟩
      | bad => rw [q] at h; exact h
end
end Ar
set_option Elab.async false
set_option linter.all false
set_option maxRecDepth 100000
set_option maxHeartbeats 4000000
/-! Ar11: the look: a text of the small language against an expression of the program; what it looks at is so. -/
namespace Ar
open PySem PySem.Spec PyProof.Rows L2 LamX
/-- where a text stands: the slots' names, the scope, within a block its written scope -/
structure Ck where
  N : List Str
  sc : Scope
  bs : Option Scope
  lam : Bool
def Ck.vis (k : Ck) (x : Str) : Bool :=
  match k.sc.names.lookup x with
  | some .local => true
  | some .cell => true
  | some .free => true
  | _ => false
def Ck.gl (k : Ck) (x : Str) : Bool :=
  match k.sc.names.lookup x with
  | some .globalImplicit => true
  | _ => false
def Ck.sto (k : Ck) (x : Str) : Bool :=
  match k.sc.names.lookup x with
  | some .local => true
  | some .cell => (match k.bs with
    | none => true
    | some s => s.names.lookup x == some .cell)
  | _ => false
def Ck.loc (k : Ck) (x : Str) : Bool :=
  match k.sc.names.lookup x with
  | some .local => true
  | _ => false
def ndb (x : Str) : Bool := !(x == ("__debug__" : Str)) && !(x == ("__classdict__" : Str))
structure CkOk (X : Cx) (T : List (Addr × Str)) (k : Ck) : Prop where
  N : X.N = k.N
  sc : X.env.scope = k.sc
  bs : match k.bs with
    | none => ∀ x, X.fn x = true
    | some s => ∀ x, X.fn x = (s.names.lookup x == some .cell)
  lam : k.lam = true → LamOk X T
section
variable {X : Cx} {T : List (Addr × Str)} {k : Ck} {x : Str}
theorem CkOk.vis (h : CkOk X T k) (e : k.vis x = true) : Vis X.env.scope x := by
  unfold Ck.vis at e
  rw [← h.sc] at e
  split at e
  · exact .inl (by assumption)
  · exact .inr (.inl (by assumption))
  · exact .inr (.inr (by assumption))
  · cases e
theorem CkOk.gl (h : CkOk X T k) (e : k.gl x = true) : Gl X x := by
  unfold Ck.gl at e
  rw [← h.sc] at e
  split at e
  · assumption
  · cases e
theorem CkOk.loc (h : CkOk X T k) (e : k.loc x = true) : X.env.scope.names.lookup x = some .local := by
  unfold Ck.loc at e
  rw [← h.sc] at e
  split at e
  · assumption
  · cases e
theorem CkOk.sto (h : CkOk X T k) (e : k.sto x = true) : Loc X.env.scope x ∧ (X.fn x = true ∨ X.env.scope.names.lookup x = some .local) := by
  unfold Ck.sto at e
  rw [← h.sc] at e
  have hb := h.bs
  split at e
  · exact ⟨.inl (by assumption), .inr (by assumption)⟩
  · refine ⟨.inr (by assumption), .inl ?_⟩
    split at e
    · rename_i q
      rw [q] at hb
      exact hb x
    · rename_i s q
      rw [q] at hb
      rw [hb x]
      exact e
  · cases e
end
theorem ndb_ok {x : Str} (h : ndb x = true) : (x == ("__debug__" : Str)) = false ∧ (x == ("__classdict__" : Str)) = false := by
  unfold ndb at h
  simp only [Bool.and_eq_true, Bool.not_eq_true'] at h
  exact h
def plainIx : Expr → Bool
  | .Slice .. => false
  | _ => true
theorem plainIx_ok {b : Expr} (h : plainIx b = true) : PlainIx b := by
  intro o i
  cases b <;> first
    | rfl
    | cases h
def isPl : Expr → Bool
  | .UnaryOp .Not _ _ => false
  | .BoolOp .. => false
  | .IfExp .. => false
  | .Compare .. => false
  | _ => true
theorem isPl_ok {a : Expr} {env : PySem.Env} (h : isPl a = true) : ∀ whole, isTrue a env whole = (do let v ← whole; standAt a.pos; holding [v] (truthy v)) := by
  intro whole
  cases a with
  | UnaryOp op _ _ => cases op <;> first | rfl | cases h
  | _ => first | rfl | cases h
def notSet : Expr → Bool
  | .Set .. => false
  | _ => true
theorem notSet_fold {e : Expr} {env : PySem.Env} (h : notSet e = true) (x : Value) : foldedSetIterable e env x = pure x := by
  cases e <;> first | rfl | cases h
theorem notSet_marks {op : CmpOp} {e : Expr} (h : notSet e = true) : behindInMarks op e = false := by
  cases e <;> first | rfl | cases h
def tyOf (T : String) : Bool := T == "int" || T == "bool" || T == "tuple" || T == "str" || T == "list"
/-- a test's form -/
def ckt : C → Expr → Bool
  | .not a, .UnaryOp .Not x _ => ckt a x
  | .and a b, .BoolOp .And (x :: y :: r) p => ckt a x && ckt b (.BoolOp .And (y :: r) p)
  | .or a b, .BoolOp .Or (x :: y :: r) p => ckt a x && ckt b (.BoolOp .Or (y :: r) p)
  | .one a, .BoolOp _ [x] _ => ckt a x
  | .cmp .., .Compare .. => true
  | .chain .., .Compare .. => true
  | _, e => isPl e
def ckTg (k : Ck) (tg : List Nat) (tt : Bool) (e : Expr) : Bool :=
  match tt, tg, e with
  | false, [i], .Name x _ => decide (k.N[i]? = some x) && k.sto x
  | true, is, .Tuple es _ _ => decide (is.length = es.length) && (is.zip es).all fun p => match p.2 with
    | .Name x _ => decide (k.N[p.1]? = some x) && k.sto x
    | _ => false
  | _, _, _ => false
def Ck.blk (k : Ck) (s : Scope) : Ck := ⟨k.N, relS s k.sc, some s, false⟩
/-- no parameters -/
def noArgs : Arguments → Bool
  | ⟨[], [], none, [], [], none, []⟩ => true
  | _ => false
theorem noArgs_eq {a : Arguments} (h : noArgs a = true) : a = ⟨[], [], none, [], [], none, []⟩ := by
  unfold noArgs at h
  split at h
  · rfl
  · cases h
/-- the expressions within what is walked -/
def iterE (g : GI) (k : Ck) (ik : Nat) (t e : Expr) : Option (List Expr) :=
  match ik with
  | 0 => some [e]
  | 1 => (match e with
    | .Call (.Name z _) xs [] _ => if decide (z = ("range" : Str)) && k.gl z && decide (z ∈ g.free) && decide (xs.length = 1 ∨ xs.length = 2 ∨ xs.length = 3) then some xs else none
    | _ => none)
  | 3 => (match e, t with
    | .Call (.Name z _) xs [] _, .Tuple _ _ _ => if decide (z = ("zip" : Str)) && k.gl z && decide (z ∈ g.free) && decide (xs.length = 2) then some xs else none
    | _, _ => none)
  | _ => none
mutual
def ck (g : GI) (k : Ck) : C → Expr → Bool
  | .var i, e => (match e with
    | .Name x _ => decide (k.N[i]? = some x) && k.vis x && ndb x
    | _ => false)
  | .int i, e => (match e with
    | .Constant (.int j) _ _ => decide (i = j)
    | _ => false)
  | .bl i, e => (match e with
    | .Constant (.bool j) _ _ => decide (i = j)
    | _ => false)
  | .non, e => (match e with
    | .Constant .none _ _ => true
    | _ => false)
  | .str i, e => (match e with
    | .Constant (.str j) _ _ => decide (i = j)
    | _ => false)
  | .glob x i, e => (match e with
    | .Name y _ => decide (x = y) && k.gl x && ndb x && decide ((x, i) ∈ g.nums)
    | _ => false)
  | .bin op a b, e => (match e with
    | .BinOp x o y _ => decide (op = o) && ck g k a x && ck g k b y
    | _ => false)
  | .neg a, e => (match e with
    | .UnaryOp .USub x _ => ck g k a x
    | _ => false)
  | .cmp op a b, e => (match e with
    | .Compare x [o] [y] _ => decide (op = o) && ck g k a x && ck g k b y && notSet y
    | _ => false)
  | .chain op op' a b c, e => (match e with
    | .Compare x [o, o'] [y, z] _ => decide (op = o) && decide (op' = o') && ck g k a x && ck g k b y && ck g k c z && notSet z
    | _ => false)
  | .not a, e => (match e with
    | .UnaryOp .Not x _ => ck g k a x
    | _ => false)
  | .and a b, e => (match e with
    | .BoolOp .And (x :: y :: r) p => ck g k a x && ck g k b (.BoolOp .And (y :: r) p)
    | _ => false)
  | .or a b, e => (match e with
    | .BoolOp .Or (x :: y :: r) p => ck g k a x && ck g k b (.BoolOp .Or (y :: r) p)
    | _ => false)
  | .one a, e => (match e with
    | .BoolOp _ [x] _ => ck g k a x
    | _ => false)
  | .ite c a b, e => (match e with
    | .IfExp z x y _ => ck g k c z && ckt c z && ck g k a x && ck g k b y
    | _ => false)
  | .tup es, e => (match e with
    | .Tuple xs _ _ => ckL g k es xs && decide (es.length ≤ 1000)
    | _ => false)
  | .lst es, e => (match e with
    | .List xs _ => ckL g k es xs && decide (es.length ≤ 1000)
    | _ => false)
  | .newl es, e => (match e with
    | .List xs _ => ckL g k es xs && decide (es.length ≤ 1000)
    | _ => false)
  | .idx a i, e => (match e with
    | .Subscript x y _ => ck g k a x && ck g k i y && plainIx y
    | _ => false)
  | .slc a lo hi, e => (match e with
    | .Subscript x (.Slice l h none _) _ => ck g k a x && ckO g k lo l && ckO g k hi h
    | _ => false)
  | .isi a T, e => (match e with
    | .Call (.Name z _) [x, .Name y _] [] _ => decide (z = ("isinstance" : Str)) && k.gl z && decide (z ∈ g.free) && k.gl y && decide (y ∈ g.free) && tyOf T && decide (y = Str.ofString T) && ck g k a x && noStar x
    | _ => false)
  | .call f es, e => (match e with
    | .Call (.Name x _) xs [] _ => decide (g.defs[f]? = some x) && k.gl x && ndb x && ckL g k es xs && xs.all noStar
    | _ => false)
  | .bf .sset es, e => (match e with
    | .Call (.Name y _) [.Call (.Name z _) [x] [] _] [] _ => decide (y = ("sorted" : Str)) && k.gl y && decide (y ∈ g.free) && decide (z = ("set" : Str)) && k.gl z && decide (z ∈ g.free) && noStar x && ckL g k es [x]
    | _ => false)
  | .bf b es, e => (match e with
    | .Call (.Name x _) (y :: ys) [] _ => decide (x = (bfName b).1) && k.gl x && decide (x ∈ g.free) && (y :: ys).all noStar && ckL g k es (y :: ys)
    | _ => false)
  | .rng t es, e => (match e with
    | .Call (.Name x _) [.Call (.Name z _) ys [] _] [] _ => decide (x = if t then ("tuple" : Str) else "list") && k.gl x && decide (x ∈ g.free) && decide (z = ("range" : Str)) && k.gl z && decide (z ∈ g.free) && ys.all noStar && decide (ys.length = 1 ∨ ys.length = 2) && ckL g k es ys
    | _ => false)
  | .comp elt tg tt ik its ifs own, e => (match e with
    | .ListComp x [⟨t, it, fs, 0⟩] s _ => blkC k.N k.sc s (ownN k.N own) && tg.all (fun i => decide (i ∈ own)) && ckTg (k.blk s) tg tt t && (match iterE g k ik t it with | some xs => ckL g k its xs | none => false) && notSet it && ckTs g (k.blk s) ifs fs && ck g (k.blk s) elt x
    | _ => false)
  | .comp2 elt tg tt ik its tg1 it1 ifs1 own, e => (match e with
    | .ListComp x [⟨t, it, [], 0⟩, ⟨t1, i1, fs, 0⟩] s _ => blkC k.N k.sc s (ownN k.N own) && tg.all (fun i => decide (i ∈ own)) && decide (tg1 ∈ own) && ckTg (k.blk s) tg tt t && (match iterE g k ik t it with | some xs => ckL g k its xs | none => false) && notSet it &&
        ckTg (k.blk s) [tg1] false t1 && ck g (k.blk s) it1 i1 && notSet i1 && ckTs g (k.blk s) ifs1 fs && ck g (k.blk s) elt x
    | _ => false)
  | .meth m o es, e => (match m, es, e with
    | .index, [c], .Call (.Attribute (.Name x p) nm p2) [y] [] pos => decide (nm = ("index" : Str)) && ck g k o (.Name x p) && noStar y && ck g k c y && (p2.endLine == pos.line)
    | _, _, _ => false)
  | .oidx i c, e => (match e with
    | .Subscript (.Name x _) y _ => decide (k.N[i]? = some x) && k.vis x && ndb x && ck g k c y && plainIx y
    | _ => false)
  | .err c, e => (match e with
    | .Call (.Name x _) [.Lambda params body s _] [] _ => k.lam && decide (g.cat = some x) && k.gl x && ndb x && lamSB k.sc s && noArgs params && ck g ⟨k.N, s, some s, false⟩ c body
    | _ => false)
def ckL (g : GI) (k : Ck) : List C → List Expr → Bool
  | [], [] => true
  | c :: cs, e :: es => ck g k c e && noStar e && ckL g k cs es
  | _, _ => false
def ckTs (g : GI) (k : Ck) : List C → List Expr → Bool
  | [], [] => true
  | [c], [e] => ck g k c e && ckt c e
  | _, _ => false
def ckO (g : GI) (k : Ck) : List C → Option Expr → Bool
  | [], none => true
  | [c], some e => ck g k c e
  | _, _ => false
end
end Ar
set_option Elab.async false
set_option linter.all false
set_option maxRecDepth 100000
set_option maxHeartbeats 4000000
/-! Ar12: an expression that was looked at means what our text says. -/
namespace Ar
open PySem PySem.Spec PyProof.Rows L2 LamX Ht
section
variable {X : Cx} {g : GI} {T : List (Addr × Str)} {G : Gd} {n : Nat} {E : XK} {k : Ck}
theorem CkOk.blk (h : CkOk X T k) (s : Shared) (H : Hp) (scope : Scope) (C : Addr) (cl : List (Str × Addr)) (fp : List Addr) : CkOk (X.blk s H scope (compEnvC scope cl C X.env) fp) T (k.blk scope) where
  N := h.N
  sc := by
    show relS scope X.env.scope = relS scope k.sc
    rw [h.sc]
  bs := fun x => rfl
  lam := fun z => by cases z
theorem pgs_nms (hk : CkOk X T k) (nd : X.N.Nodup) : ∀ {is : List Nat} {es : List Expr}, is.length = es.length → ((is.zip es).all fun p => match p.2 with
    | .Name x _ => decide (k.N[p.1]? = some x) && k.sto x
    | _ => false) = true → PGs X es (gNms is) ∧ (assignEach es X.env).length = is.length ∧ (assignEach es X.env).findIdx? (·.1) = none
  | [], [], _, _ => ⟨pgs_nil, rfl, rfl⟩
  | i :: is, e :: es, hl, h => by
    rw [List.zip_cons_cons, List.all_cons, Bool.and_eq_true] at h
    obtain ⟨h1, h2⟩ := h
    obtain ⟨q1, q2, q3⟩ := pgs_nms hk nd (Nat.succ.inj hl) h2
    cases e with
    | Name x p =>
      simp only [Bool.and_eq_true, decide_eq_true_eq] at h1
      obtain ⟨l1, l2⟩ := hk.sto h1.2
      have e0 : assignEach (Expr.Name x p :: es) X.env = (false, assign (.Name x p) X.env) :: assignEach es X.env := rfl
      refine ⟨pgs_cons (pg_name nd (by rw [hk.N]; exact h1.1) l1 l2) q1, by rw [e0, List.length_cons, q2]; rfl, ?_⟩
      rw [e0, List.findIdx?_cons, q3]
      rfl
    | _ => cases h1
  | [], _ :: _, hl, _ => by cases hl
  | _ :: _, [], hl, _ => by cases hl
theorem snd_tg (hk : CkOk X T k) (nd : X.N.Nodup) (hc : X.calm = true) {tg : List Nat} {tt : Bool} {e : Expr} (h : ckTg k tg tt e = true) : PG X e (gTg X.K tg tt) := by
  cases tt with
  | false =>
    match tg, e, h with
    | [i], .Name x p, h =>
      have h : (decide (k.N[i]? = some x) && k.sto x) = true := h
      simp only [Bool.and_eq_true, decide_eq_true_eq] at h
      obtain ⟨l1, l2⟩ := hk.sto h.2
      exact pg_name nd (by rw [hk.N]; exact h.1) l1 l2
    | [], _, h => unfold ckTg at h; cases h
    | _ :: _ :: _, _, h => unfold ckTg at h; cases h
    | [i], .BoolOp .., h | [i], .NamedExpr .., h | [i], .BinOp .., h | [i], .UnaryOp .., h | [i], .Lambda .., h | [i], .IfExp .., h | [i], .Dict .., h | [i], .Set .., h | [i], .ListComp .., h | [i], .SetComp .., h | [i], .DictComp .., h | [i], .GeneratorExp .., h | [i], .Await .., h | [i], .Yield .., h | [i], .YieldFrom .., h | [i], .Compare .., h | [i], .Call .., h | [i], .FormattedValue .., h | [i], .JoinedStr .., h | [i], .Constant .., h | [i], .Attribute .., h | [i], .Subscript .., h | [i], .Starred .., h | [i], .List .., h | [i], .Tuple .., h | [i], .Slice .., h => unfold ckTg at h; cases h
  | true =>
    cases e with
    | Tuple es kk pp =>
      have h : (decide (tg.length = es.length) && (tg.zip es).all fun p => match p.2 with
        | .Name x _ => decide (k.N[p.1]? = some x) && k.sto x
        | _ => false) = true := by cases tg <;> exact h
      rw [Bool.and_eq_true, decide_eq_true_eq] at h
      obtain ⟨q1, q2, q3⟩ := pgs_nms hk nd h.1 h.2
      have q := pg_tup (k := kk) (pos := pp) hc q1 q2 q3
      have q' := pg_unl (k := kk) (pos := pp) hc q1 q2 q3
      have o : PG X (.Tuple es kk pp) (fun v σ H Q => gTup X.K tg.length (gNms tg) v σ H Q ∨ gUnl X.K tg.length (gNms tg) v σ H Q) := ⟨fun pins s σ H v u Q I r h => h.elim (q.run pins s σ H v u Q I r) (q'.run pins s σ H v u Q I r)⟩
      cases tg <;> exact o
    | _ => cases tg <;> cases h
theorem gTg_name (K : PySem.W.Frag) (i : Nat) : gTg K [i] false = gName i := rfl
end
section
variable {g : GI} {T : List (Addr × Str)} {G : Gd} {n : Nat}
theorem len1 {α : Type} {l : List α} (h : l.length = 1) : ∃ a, l = [a] := by
  match l, h with
  | [a], _ => exact ⟨a, rfl⟩
theorem len2 {α : Type} {l : List α} (h : l.length = 2) : ∃ a b, l = [a, b] := by
  match l, h with
  | [a, b], _ => exact ⟨a, b, rfl⟩
theorem len3 {α : Type} {l : List α} (h : l.length = 3) : ∃ a b c, l = [a, b, c] := by
  match l, h with
  | [a, b, c], _ => exact ⟨a, b, c, rfl⟩
theorem tyOf_ok {Tn : String} (h : tyOf Tn = true) : (Tn = "int" ∨ Tn = "bool" ∨ Tn = "tuple" ∨ Tn = "str" ∨ Tn = "list") ∧ bootBuiltins (Str.ofString Tn) = some (.type Tn) ∧ Str.ofString Tn ≠ "__name__" ∧ (Str.ofString Tn == ("__debug__" : Str)) = false := by
  unfold tyOf at h
  simp only [Bool.or_eq_true, beq_iff_eq] at h
  rcases h with (((rfl | rfl) | rfl) | rfl) | rfl <;> exact ⟨by simp, by decide +kernel, by decide, by decide⟩
theorem thousand : 1000 ≤ sizeLine := by rw [sizeLine_eq]; omega
theorem ckL_len : ∀ {cs : List C} {es : List Expr} {k : Ck}, ckL g k cs es = true → cs.length = es.length
  | [], [], _, _ => rfl
  | c :: cs, e :: es, k, h => by
    unfold ckL at h
    rw [Bool.and_eq_true] at h
    exact congrArg Nat.succ (ckL_len h.2)
  | [], _ :: _, _, h => by unfold ckL at h; cases h
  | _ :: _, [], _, h => by unfold ckL at h; cases h
/-- from the looks at the items: what is walked -/
theorem snd_i {X : Cx} {E : XK} {k : Ck} (hk : CkOk X T k) (ok : CxOk X g T G n E) {ik : Nat} {its : List C} {t e : Expr} {xs : List Expr} (h : iterE g k ik t e = some xs) (hl : ckL g k its xs = true)
    (each : ∀ c ∈ its, ∀ x, ck g k c x = true → PE X x (tv X T G E c)) : PI X t e (tI X T G E ik its) := by
  have l0 := ckL_len hl
  unfold iterE at h
  split at h
  · cases h
    obtain ⟨c, rfl⟩ := len1 (l := its) (by simpa using l0)
    simp only [ckL, Bool.and_eq_true] at hl
    exact i_val (each c (by simp) _ hl.1.1)
  · split at h
    · rename_i z p ys q
      split at h
      · rename_i hc
        cases h
        simp only [Bool.and_eq_true, decide_eq_true_eq] at hc
        obtain ⟨⟨⟨rfl, h1⟩, h2⟩, h3⟩ := hc
        have hm := ok.free _ h2
        rcases h3 with h3 | h3 | h3
        · obtain ⟨a, rfl⟩ := len1 h3
          obtain ⟨c, rfl⟩ := len1 (l := its) l0
          simp only [ckL, Bool.and_eq_true] at hl
          exact i_rng1 (hk.gl h1) hm (each c (by simp) _ hl.1.1) hl.1.2
        · obtain ⟨a, b, rfl⟩ := len2 h3
          obtain ⟨c, d, rfl⟩ := len2 (l := its) l0
          simp only [ckL, Bool.and_eq_true] at hl
          exact i_rng2 (hk.gl h1) hm (each c (by simp) _ hl.1.1) (each d (by simp) _ hl.2.1.1) hl.1.2 hl.2.1.2
        · obtain ⟨a, b, b3, rfl⟩ := len3 h3
          obtain ⟨c, d, d3, rfl⟩ := len3 (l := its) l0
          simp only [ckL, Bool.and_eq_true] at hl
          exact i_rng3 (hk.gl h1) hm (each c (by simp) _ hl.1.1) (each d (by simp) _ hl.2.1.1) (each d3 (by simp) _ hl.2.2.1.1) hl.1.2 hl.2.1.2 hl.2.2.1.2
      · cases h
    · cases h
  · split at h
    · rename_i z p ys q t1 t2 t3
      split at h
      · rename_i hc
        cases h
        simp only [Bool.and_eq_true, decide_eq_true_eq] at hc
        obtain ⟨⟨⟨rfl, h1⟩, h2⟩, h3⟩ := hc
        have hm := ok.free _ h2
        obtain ⟨a, b, rfl⟩ := len2 h3
        obtain ⟨c, d, rfl⟩ := len2 (l := its) l0
        simp only [ckL, Bool.and_eq_true] at hl
        exact i_zip (hk.gl h1) hm (each c (by simp) _ hl.1.1) (each d (by simp) _ hl.2.1.1) hl.1.2 hl.2.1.2
      · cases h
    · cases h
  · cases h
def isB : Expr → Bool
  | .BoolOp .. => true
  | _ => false
/-- all that is wanted of an expression: as a value, as a test, as a test of and, or -/
def SA (X : Cx) (T : List (Addr × Str)) (G : Gd) (E : XK) (c : C) (e : Expr) : Prop := PE X e (tv X T G E c) ∧ (ckt c e = true → PT X e (tb X T G E c)) ∧ (ckt c e = true → isB e = true → PW X e (tb X T G E c))
theorem all_pl {X : Cx} {E : XK} {c : C} {e : Expr} (h : PE X e (tv X T G E c)) (he : ckt c e = isPl e) : SA X T G E c e :=
  ⟨h, fun z => t_plain h (isPl_ok (he ▸ z)), fun z b => by
    rw [he] at z
    cases e <;> first | (cases b; done) | (cases z; done)⟩
theorem bool_pl {X : Cx} {E : XK} {c : C} {e : Expr} (h : PE X e (tv X T G E c)) (w : ckt c e = true → PW X e (tb X T G E c)) : SA X T G E c e := ⟨h, fun z => (w z).pt, fun z _ => w z⟩
theorem lam_fn {sc scope : Scope} (L : LamS sc scope) (x : Str) : false = (scope.names.lookup x == some .cell) := by
  cases q : scope.names.lookup x with
  | none => rfl
  | some k =>
    cases k with
    | cell => exact absurd rfl (L.own _ (PySem.mem_of_lookup q)).2
    | _ => rfl
mutual
theorem snd : ∀ (c : C) (e : Expr) (k : Ck) (X : Cx) (E : XK) (G : Gd) (n : Nat), ck g k c e = true → CkOk X T k → CxOk X g T G n E → SA X T G E c e
  | .var i, e, k, X, E, G, n, h, hk, ok => by
    unfold ck at h
    split at h
    · simp only [Bool.and_eq_true, decide_eq_true_eq] at h
      obtain ⟨d1, d2⟩ := ndb_ok h.2
      exact all_pl (s_var (by rw [hk.N]; exact h.1.1) (hk.vis h.1.2) d1 d2) rfl
    · cases h
  | .int i, e, k, X, E, G, n, h, hk, ok => by
    unfold ck at h
    split at h
    · cases of_decide_eq_true h
      exact all_pl (s_int) rfl
    · cases h
  | .bl i, e, k, X, E, G, n, h, hk, ok => by
    unfold ck at h
    split at h
    · cases of_decide_eq_true h
      exact all_pl (s_bl) rfl
    · cases h
  | .non, e, k, X, E, G, n, h, hk, ok => by
    unfold ck at h
    split at h
    · exact all_pl (s_non) rfl
    · cases h
  | .str i, e, k, X, E, G, n, h, hk, ok => by
    unfold ck at h
    split at h
    · cases of_decide_eq_true h
      exact all_pl (s_str) rfl
    · cases h
  | .glob x i, e, k, X, E, G, n, h, hk, ok => by
    unfold ck at h
    split at h
    · simp only [Bool.and_eq_true, decide_eq_true_eq] at h
      obtain ⟨⟨⟨rfl, h1⟩, h2⟩, h3⟩ := h
      exact all_pl (s_glob (hk.gl h1) (ok.nums _ h3) (ndb_ok h2).1) rfl
    · cases h
  | .bin op a b, e, k, X, E, G, n, h, hk, ok => by
    unfold ck at h
    split at h
    · simp only [Bool.and_eq_true, decide_eq_true_eq] at h
      obtain ⟨⟨rfl, h1⟩, h2⟩ := h
      exact all_pl (s_bin (snd a _ k X E _ _ h1 hk ok).1 (snd b _ k X E _ _ h2 hk ok).1) rfl
    · cases h
  | .neg a, e, k, X, E, G, n, h, hk, ok => by
    unfold ck at h
    split at h
    · exact all_pl (s_neg (snd a _ k X E _ _ h hk ok).1) rfl
    · cases h
  | .cmp op a b, e, k, X, E, G, n, h, hk, ok => by
    unfold ck at h
    split at h
    · simp only [Bool.and_eq_true, decide_eq_true_eq] at h
      obtain ⟨⟨⟨rfl, h1⟩, h2⟩, h3⟩ := h
      exact ⟨s_cmp ok (snd a _ k X E _ _ h1 hk ok).1 (snd b _ k X E _ _ h2 hk ok).1 (notSet_marks h3), fun _ => t_cmp ok (snd a _ k X E _ _ h1 hk ok).1 (snd b _ k X E _ _ h2 hk ok).1 (notSet_marks h3), fun _ z => by cases z⟩
    · cases h
  | .chain op op' a b c, e, k, X, E, G, n, h, hk, ok => by
    unfold ck at h
    split at h
    · simp only [Bool.and_eq_true, decide_eq_true_eq] at h
      obtain ⟨⟨⟨⟨⟨rfl, rfl⟩, h1⟩, h2⟩, h3⟩, h4⟩ := h
      exact ⟨s_chain ok (snd a _ k X E _ _ h1 hk ok).1 (snd b _ k X E _ _ h2 hk ok).1 (snd c _ k X E _ _ h3 hk ok).1 (notSet_marks h4), fun _ => t_chain ok (snd a _ k X E _ _ h1 hk ok).1 (snd b _ k X E _ _ h2 hk ok).1 (snd c _ k X E _ _ h3 hk ok).1 (notSet_marks h4), fun _ z => by cases z⟩
    · cases h
  | .not a, e, k, X, E, G, n, h, hk, ok => by
    unfold ck at h
    split at h
    · have q := snd a _ k X E _ _ h hk ok
      exact ⟨s_not q.1, fun z => t_not (q.2.1 z), fun _ z => by cases z⟩
    · cases h
  | .and a b, e, k, X, E, G, n, h, hk, ok => by
    unfold ck at h
    split at h
    · rw [Bool.and_eq_true] at h
      have q := snd a _ k X E _ _ h.1 hk ok
      have q2 := snd b _ k X E _ _ h.2 hk ok
      exact bool_pl (s_and q.1 q2.1) fun z => by
        unfold ckt at z
        rw [Bool.and_eq_true] at z
        exact t_and (q.2.1 z.1) (q2.2.2 z.2 rfl)
    · cases h
  | .or a b, e, k, X, E, G, n, h, hk, ok => by
    unfold ck at h
    split at h
    · rw [Bool.and_eq_true] at h
      have q := snd a _ k X E _ _ h.1 hk ok
      have q2 := snd b _ k X E _ _ h.2 hk ok
      exact bool_pl (s_or q.1 q2.1) fun z => by
        unfold ckt at z
        rw [Bool.and_eq_true] at z
        exact t_or (q.2.1 z.1) (q2.2.2 z.2 rfl)
    · cases h
  | .one a, e, k, X, E, G, n, h, hk, ok => by
    unfold ck at h
    split at h
    · rename_i op x _
      have q := snd a _ k X E _ _ h hk ok
      refine bool_pl (s_one q.1) fun z => ?_
      unfold ckt at z
      cases op with
      | And => exact t_and1 (q.2.1 z)
      | Or => exact t_or1 (q.2.1 z)
    · cases h
  | .ite c a b, e, k, X, E, G, n, h, hk, ok => by
    unfold ck at h
    split at h
    · simp only [Bool.and_eq_true] at h
      obtain ⟨⟨⟨h1, h2⟩, h3⟩, h4⟩ := h
      exact all_pl (s_ite ((snd c _ k X E _ _ h1 hk ok).2.1 h2) (snd a _ k X E _ _ h3 hk ok).1 (snd b _ k X E _ _ h4 hk ok).1) rfl
    · cases h
  | .tup es, e, k, X, E, G, n, h, hk, ok => by
    unfold ck at h
    split at h
    · rw [Bool.and_eq_true, decide_eq_true_eq] at h
      exact all_pl (s_tup (sndL es _ k X E _ _ h.1 hk ok) (Nat.le_trans h.2 thousand)) rfl
    · cases h
  | .lst es, e, k, X, E, G, n, h, hk, ok => by
    unfold ck at h
    split at h
    · rw [Bool.and_eq_true, decide_eq_true_eq] at h
      exact all_pl (s_lst (sndL es _ k X E _ _ h.1 hk ok) (Nat.le_trans h.2 thousand)) rfl
    · cases h
  | .newl es, e, k, X, E, G, n, h, hk, ok => by
    unfold ck at h
    split at h
    · rw [Bool.and_eq_true, decide_eq_true_eq] at h
      exact all_pl (s_newl (sndL es _ k X E _ _ h.1 hk ok) (Nat.le_trans h.2 thousand)) rfl
    · cases h
  | .idx a i, e, k, X, E, G, n, h, hk, ok => by
    unfold ck at h
    split at h
    · simp only [Bool.and_eq_true] at h
      exact all_pl (s_idx (snd a _ k X E _ _ h.1.1 hk ok).1 (snd i _ k X E _ _ h.1.2 hk ok).1 (plainIx_ok h.2)) rfl
    · cases h
  | .slc a lo hi, e, k, X, E, G, n, h, hk, ok => by
    unfold ck at h
    split at h
    · simp only [Bool.and_eq_true] at h
      exact all_pl (s_slc (snd a _ k X E _ _ h.1.1 hk ok).1 (sndO lo _ k X E _ _ h.1.2 hk ok) (sndO hi _ k X E _ _ h.2 hk ok)) rfl
    · cases h
  | .isi a Tn, e, k, X, E, G, n, h, hk, ok => by
    unfold ck at h
    split at h
    · simp only [Bool.and_eq_true, decide_eq_true_eq] at h
      obtain ⟨⟨⟨⟨⟨⟨⟨⟨rfl, h1⟩, h2⟩, h3⟩, h4⟩, h5⟩, rfl⟩, h6⟩, h7⟩ := h
      obtain ⟨t1, t2, t3, t4⟩ := tyOf_ok h5
      exact all_pl (s_isi t1 (hk.gl h1) (ok.free _ h2) (hk.gl h3) (ok.free _ h4) t2 t3 t4 (snd a _ k X E _ _ h6 hk ok).1 h7) rfl
    · cases h
  | .call f es, e, k, X, E, G, n, h, hk, ok => by
    have eachL : ∀ xs, ckL g k es xs = true → PA X xs (tvs X T G E es) := fun xs hx => sndL es xs k X E _ _ hx hk ok
    unfold ck at h
    split at h
    · rename_i xs _
      simp only [Bool.and_eq_true, decide_eq_true_eq] at h
      obtain ⟨⟨⟨⟨h1, h2⟩, h3⟩, h4⟩, h5⟩ := h
      cases xs with
      | nil =>
        cases es with
        | nil => exact all_pl (s_call0 ok h1 (hk.gl h2) (ndb_ok h3).1) rfl
        | cons _ _ => unfold ckL at h4; cases h4
      | cons y ys => exact all_pl (s_call ok h1 (hk.gl h2) (ndb_ok h3).1 h5 (eachL _ h4)) rfl
    · cases h
  | .bf b es, e, k, X, E, G, n, h, hk, ok => by
    have each : ∀ c ∈ es, ∀ x, ck g k c x = true → PE X x (tv X T G E c) := fun c hc x hx => sndM es c hc x k X E _ _ hx hk ok
    have eachL : ∀ xs, ckL g k es xs = true → PA X xs (tvs X T G E es) := fun xs hx => sndL es xs k X E _ _ hx hk ok
    by_cases hb : b = .sset
    · subst hb
      unfold ck at h
      split at h
      · simp only [Bool.and_eq_true, decide_eq_true_eq] at h
        obtain ⟨⟨⟨⟨⟨⟨⟨rfl, h1⟩, h2⟩, rfl⟩, h3⟩, h4⟩, h5⟩, h6⟩ := h
        obtain ⟨c, rfl⟩ := len1 (l := es) (by simpa using ckL_len h6)
        simp only [ckL, Bool.and_eq_true] at h6
        exact all_pl (s_sset ok (hk.gl h1) (ok.free _ h2) (hk.gl h3) (ok.free _ h4) h5 (each c (by simp) _ h6.1.1)) rfl
      · cases h
    · have h : (match (generalizing := false) e with
        | .Call (.Name x _) (y :: ys) [] _ => decide (x = (bfName b).1) && k.gl x && decide (x ∈ g.free) && (y :: ys).all noStar && ckL g k es (y :: ys)
        | _ => false) = true := by
        cases b <;> first | exact absurd rfl hb | (unfold ck at h; exact h)
      split at h
      · simp only [Bool.and_eq_true, decide_eq_true_eq] at h
        obtain ⟨⟨⟨⟨rfl, h1⟩, h2⟩, h3⟩, h4⟩ := h
        exact all_pl (s_bf ok b hb (hk.gl h1) (ok.free _ h2) h3 (eachL _ h4)) rfl
      · cases h
  | .rng t es, e, k, X, E, G, n, h, hk, ok => by
    have each : ∀ c ∈ es, ∀ x, ck g k c x = true → PE X x (tv X T G E c) := fun c hc x hx => sndM es c hc x k X E _ _ hx hk ok
    unfold ck at h
    split at h
    · simp only [Bool.and_eq_true, decide_eq_true_eq] at h
      obtain ⟨⟨⟨⟨⟨⟨⟨⟨rfl, h1⟩, h2⟩, rfl⟩, h3⟩, h4⟩, h5⟩, h6⟩, h7⟩ := h
      have l0 := ckL_len h7
      rcases h6 with h6 | h6
      · obtain ⟨y, rfl⟩ := len1 h6
        obtain ⟨c, rfl⟩ := len1 (l := es) l0
        simp only [ckL, Bool.and_eq_true] at h7
        exact all_pl (s_rng1 ok (hk.gl h1) (ok.free _ h2) (hk.gl h3) (ok.free _ h4) (each c (by simp) _ h7.1.1) h7.1.2) rfl
      · obtain ⟨y, z, rfl⟩ := len2 h6
        obtain ⟨c, d, rfl⟩ := len2 (l := es) l0
        simp only [ckL, Bool.and_eq_true] at h7
        exact all_pl (s_rng2 ok (hk.gl h1) (ok.free _ h2) (hk.gl h3) (ok.free _ h4) (each c (by simp) _ h7.1.1) (each d (by simp) _ h7.2.1.1) h7.1.2 h7.2.1.2) rfl
    · cases h
  | .comp elt tg tt ik its ifs own, e, k, X, E, G, n, h, hk, ok => by
    unfold ck at h
    split at h
    · simp only [Bool.and_eq_true] at h
      obtain ⟨⟨⟨⟨⟨⟨h1, h2⟩, h3⟩, h4⟩, h5⟩, h6⟩, h7⟩ := h
      rw [← hk.N, ← hk.sc] at h1
      split at h4
      · rename_i xs q
        exact all_pl (s_comp ok (snd_i hk ok q h4 fun c hc x hx => sndM its c hc x k X E _ _ hx hk ok) (blkOk_by h1) (fun i hi => of_decide_eq_true (List.all_eq_true.mp h2 i hi))
          (fun s H C cl fp => snd_tg (hk.blk s H _ C cl fp) ok.nd ok.calm h3)
          (fun s H C cl fp => sndTs ifs _ _ _ E0 _ _ h6 (hk.blk s H _ C cl fp) (ok.blk s H _ _ fp))
          (fun s H C cl fp => (snd elt _ _ _ E0 _ _ h7 (hk.blk s H _ C cl fp) (ok.blk s H _ _ fp)).1)
          (notSet_fold h5)) rfl
      · cases h4
    · cases h
  | .comp2 elt tg tt ik its tg1 it1 ifs1 own, e, k, X, E, G, n, h, hk, ok => by
    unfold ck at h
    split at h
    · simp only [Bool.and_eq_true] at h
      obtain ⟨⟨⟨⟨⟨⟨⟨⟨⟨⟨h1, h2⟩, h3⟩, h4⟩, h5⟩, h6⟩, h7⟩, h8⟩, h9⟩, h10⟩, h11⟩ := h
      rw [← hk.N, ← hk.sc] at h1
      split at h5
      · rename_i xs q
        exact all_pl (s_comp2 ok (snd_i hk ok q h5 fun c hc x hx => sndM its c hc x k X E _ _ hx hk ok) (blkOk_by h1) (fun i hi => of_decide_eq_true (List.all_eq_true.mp h2 i hi)) (of_decide_eq_true h3)
          (fun s H C cl fp => snd_tg (hk.blk s H _ C cl fp) ok.nd ok.calm h4)
          (fun s H C cl fp => i_val (snd it1 _ _ _ E0 _ _ h8 (hk.blk s H _ C cl fp) (ok.blk s H _ _ fp)).1)
          (fun s H C cl fp => snd_tg (hk.blk s H _ C cl fp) ok.nd ok.calm h7)
          (fun s H C cl fp => sndTs ifs1 _ _ _ E0 _ _ h10 (hk.blk s H _ C cl fp) (ok.blk s H _ _ fp))
          (fun s H C cl fp => (snd elt _ _ _ E0 _ _ h11 (hk.blk s H _ C cl fp) (ok.blk s H _ _ fp)).1)
          (notSet_fold h6) (fun env => notSet_fold h9)) rfl
      · cases h5
    · cases h
  | .meth m o es, e, k, X, E, G, n, h, hk, ok => by
    have each : ∀ c ∈ es, ∀ x, ck g k c x = true → PE X x (tv X T G E c) := fun c hc x hx => sndM es c hc x k X E _ _ hx hk ok
    unfold ck at h
    split at h
    · simp only [Bool.and_eq_true, decide_eq_true_eq] at h
      obtain ⟨⟨⟨⟨rfl, h1⟩, h2⟩, h3⟩, h4⟩ := h
      exact all_pl (s_index ok (snd o _ k X E _ _ h1 hk ok).1 h2 (each _ (by simp) _ h3) h4) rfl
    · cases h
  | .oidx i c, e, k, X, E, G, n, h, hk, ok => by
    unfold ck at h
    split at h
    · simp only [Bool.and_eq_true, decide_eq_true_eq] at h
      obtain ⟨⟨⟨⟨h1, h2⟩, h3⟩, h4⟩, h5⟩ := h
      obtain ⟨d1, d2⟩ := ndb_ok h3
      exact all_pl (s_oidx (by rw [hk.N]; exact h1) (hk.vis h2) d1 d2 (snd c _ k X E _ _ h4 hk ok).1 (plainIx_ok h5)) rfl
    · cases h
  | .err c, e, k, X, E, G, n, h, hk, ok => by
    unfold ck at h
    split at h
    · simp only [Bool.and_eq_true, decide_eq_true_eq] at h
      obtain ⟨⟨⟨⟨⟨⟨h1, h2⟩, h3⟩, h4⟩, h5⟩, h6⟩, h7⟩ := h
      obtain rfl := noArgs_eq h6
      rw [← hk.sc] at h5
      have L := lamS_by h5
      exact all_pl (s_err ok (hk.lam h1) h2 (hk.gl h3) (ndb_ok h4).1 L rfl (by intro q cl pm cv ctv; rfl) fun A outer s H E' f c' f2 e2 hr => (snd c _ _ (lamN X A outer s H E' _ f c') E' ⟨G.fuel, f2, G.nm, none⟩ (n - 2) h7 ⟨hk.N, rfl, fun x => lam_fn L x, fun z => by cases z⟩ (ok.lam e2 hr)).1) rfl
    · cases h
theorem sndM : ∀ (cs : List C) (c : C), c ∈ cs → ∀ (e : Expr) (k : Ck) (X : Cx) (E : XK) (G : Gd) (n : Nat), ck g k c e = true → CkOk X T k → CxOk X g T G n E → PE X e (tv X T G E c)
  | [], c, hc, _, _, _, _, _, _, _, _, _ => by cases hc
  | d :: ds, c, hc, e, k, X, E, G, n, h, hk, ok => by
    rcases List.mem_cons.mp hc with z | z
    · rw [z] at h ⊢
      exact (snd d e k X E _ _ h hk ok).1
    · exact sndM ds c z e k X E _ _ h hk ok
theorem sndL : ∀ (cs : List C) (es : List Expr) (k : Ck) (X : Cx) (E : XK) (G : Gd) (n : Nat), ckL g k cs es = true → CkOk X T k → CxOk X g T G n E → PA X es (tvs X T G E cs)
  | [], [], k, X, E, G, n, h, hk, ok => l_nil
  | c :: cs, e :: es, k, X, E, G, n, h, hk, ok => by
    unfold ckL at h
    simp only [Bool.and_eq_true] at h
    exact l_cons (snd c e k X E _ _ h.1.1 hk ok).1 (sndL cs es k X E _ _ h.2 hk ok) h.1.2
  | [], _ :: _, k, X, E, G, n, h, hk, ok => by unfold ckL at h; cases h
  | _ :: _, [], k, X, E, G, n, h, hk, ok => by unfold ckL at h; cases h
theorem sndTs : ∀ (cs : List C) (es : List Expr) (k : Ck) (X : Cx) (E : XK) (G : Gd) (n : Nat), ckTs g k cs es = true → CkOk X T k → CxOk X g T G n E → PTs X es (tbs X T G E cs)
  | [], [], k, X, E, G, n, h, hk, ok => ts_nil
  | [c], [e], k, X, E, G, n, h, hk, ok => by
    unfold ckTs at h
    rw [Bool.and_eq_true] at h
    exact ts_one ((snd c e k X E _ _ h.1 hk ok).2.1 h.2)
  | [], _ :: _, k, X, E, G, n, h, hk, ok => by unfold ckTs at h; cases h
  | [_], [], k, X, E, G, n, h, hk, ok => by unfold ckTs at h; cases h
  | _ :: _ :: _, [], k, X, E, G, n, h, hk, ok => by unfold ckTs at h; cases h
  | _ :: _ :: _, _ :: _, k, X, E, G, n, h, hk, ok => by unfold ckTs at h; cases h
  | [_], _ :: _ :: _, k, X, E, G, n, h, hk, ok => by unfold ckTs at h; cases h
theorem sndO : ∀ (cs : List C) (es : Option Expr) (k : Ck) (X : Cx) (E : XK) (G : Gd) (n : Nat), ckO g k cs es = true → CkOk X T k → CxOk X g T G n E → PO X es (tO X T G E cs)
  | [], none, k, X, E, G, n, h, hk, ok => o_no
  | [c], some e, k, X, E, G, n, h, hk, ok => o_yes (snd c e k X E _ _ (by unfold ckO at h; exact h) hk ok).1
  | [], some _, k, X, E, G, n, h, hk, ok => by unfold ckO at h; cases h
  | [_], none, k, X, E, G, n, h, hk, ok => by unfold ckO at h; cases h
  | _ :: _ :: _, none, k, X, E, G, n, h, hk, ok => by unfold ckO at h; cases h
  | _ :: _ :: _, some _, k, X, E, G, n, h, hk, ok => by unfold ckO at h; cases h
end
end
end Ar
set_option Elab.async false
set_option linter.all false
set_option maxRecDepth 100000
set_option maxHeartbeats 4000000
/-! Ar13: statements, by the layer's rules. -/
namespace Ar
open PySem PySem.Spec PyProof.Rows L2 LamX Ht
theorem _root_.L2.PS.weak {X : Cx} {e : Stmt} {t t' : TS} (h : PS X e t) (w : ∀ D σ H, t' D σ H → t D σ H) : PS X e t' := ⟨fun pins s σ H D I q => h.run pins s σ H D I (w D σ H q)⟩
theorem _root_.L2.PSs.weak {X : Cx} {e : List Stmt} {t t' : TS} (h : PSs X e t) (w : ∀ D σ H, t' D σ H → t D σ H) : PSs X e t' := ⟨fun pins s σ H D I q => h.run pins s σ H D I (w D σ H q)⟩
/-- since the entry: W0, H0 -/
structure BaseOk (W0 : Wd) (H0 : Hp) (F1 : Hp) (W : Wd) (H : Hp) (ρ : Env) (σ : L2.St) : Prop where
  st : Step W0 H0 W H
  fresh : ∀ (i : Nat) xs a, ρ[i]? = some (.own xs) → σ[i]? = some (some (.ref a)) → H0 a = none
  lo : Sub F1 W.F
section
variable {W0 W W' : Wd} {H0 F1 H H' : Hp} {ρ : Env} {σ : L2.St} {K : PySem.W.Frag} {T : List (Addr × Str)} {st : Sto}
theorem BaseOk.step (b : BaseOk W0 H0 F1 W H ρ σ) (s : Step W H W' H') : BaseOk W0 H0 F1 W' H' ρ σ := ⟨b.st.trans s, b.fresh, fun _ _ e => s.fx _ _ (b.lo _ _ e)⟩
theorem BaseOk.set (b : BaseOk W0 H0 F1 W H ρ σ) (i : Nat) (x : Vl) (u : V) : BaseOk W0 H0 F1 W H (ρ.set i (.v x)) (σ.set i (some u)) := ⟨b.st, fun j xs a e f => by
  rcases set_at e with ⟨_, z⟩ | ⟨n, z⟩
  · cases z
  · rw [List.getElem?_set_ne n] at f
    exact b.fresh j xs a z f, b.lo⟩
theorem bind_own {tg : List Nat} {tt : Bool} {x : D} {ρ ρ1 : Env} (e : bindTg tg tt x ρ = some ρ1) {i : Nat} {xs : List D} (h : ρ1[i]? = some (.own xs)) : i ∉ tg ∧ ρ[i]? = some (.own xs) := by
  have all : ∀ {is : List Nat} {ds : List D} {ρ ρ1 : Env}, setAll ρ is ds = some ρ1 → ρ1[i]? = some (.own xs) → i ∉ is ∧ ρ[i]? = some (.own xs) := by
    intro is
    induction is with
    | nil =>
      intro ds ρ ρ1 e h
      cases ds with
      | nil => cases e; exact ⟨by simp, h⟩
      | cons _ _ => cases e
    | cons j js ih =>
      intro ds ρ ρ1 e h
      cases ds with
      | nil => cases e
      | cons d ds =>
        obtain ⟨h1, h2⟩ := ih (show setAll (ρ.set j (.v (.d d))) js ds = some ρ1 from e) h
        rcases set_at h2 with ⟨_, z⟩ | ⟨n, z⟩
        · cases z
        · exact ⟨by simp only [List.mem_cons, not_or]; exact ⟨fun q => n q.symm, h1⟩, z⟩
  cases tt with
  | false =>
    match tg, e with
    | [j], e =>
      obtain rfl : ρ.set j (.v (.d x)) = ρ1 := Option.some.inj e
      rcases set_at h with ⟨_, z⟩ | ⟨n, z⟩
      · cases z
      · exact ⟨by simpa using fun q => n q.symm, z⟩
    | [], e => cases e
    | _ :: _ :: _, e => cases e
  | true =>
    rw [bindT] at e
    cases x with
    | tuple ds => exact all (show setAll ρ tg ds = some ρ1 from e) h
    | list ds => exact all (show setAll ρ tg ds = some ρ1 from e) h
    | _ => cases e
theorem BaseOk.bind {tg : List Nat} {tt : Bool} {x : D} {ρ1 : Env} {σ1 : L2.St} (b : BaseOk W0 H0 F1 W H ρ σ) (e : bindTg tg tt x ρ = some ρ1) (w : wipe σ1 tg = wipe σ tg) : BaseOk W0 H0 F1 W H ρ1 σ1 := ⟨b.st, fun i xs a h f => by
  obtain ⟨n, h⟩ := bind_own e h
  refine b.fresh i xs a h ?_
  have q : (wipe σ1 tg)[i]? = (wipe σ tg)[i]? := by rw [w]
  rw [wipe_out n, wipe_out n] at q
  rw [← q]
  exact f, b.lo⟩
theorem SlotOk.newOwn (h : SlotOk K W H ρ σ) (i : Nat) {p : Addr} {vs : List V} {ds : List D} (n : H p = none) (o : Own W (upd H p (.lst vs)) p vs) (r : RpL W.F vs ds) : SlotOk K W (upd H p (.lst vs)) (ρ.set i (.own ds)) (σ.set i (some (.ref p))) where
  len := by rw [List.length_set, List.length_set, h.len]
  at_ := fun j x e => by
    rcases set_at e with ⟨_, z⟩ | ⟨n, z⟩
    · cases z
    · obtain ⟨u, h1, h2⟩ := h.at_ j x z
      exact ⟨u, by rw [List.getElem?_set_ne n]; exact h1, h2⟩
  own := fun j xs e => by
    rcases set_at e with ⟨rfl, z⟩ | ⟨ne, z⟩
    · cases z
      exact ⟨p, vs, set_is h.len e, o.at_, r, o.nf, o.nb⟩
    · obtain ⟨a, ws, h1, h2, h3, h4, h5⟩ := h.own j xs z
      exact ⟨a, ws, by rw [List.getElem?_set_ne ne]; exact h1, by rw [upd_ne (ne_of_none h2 n)]; exact h2, h3, h4, h5⟩
  dis := fun j k xs ys ne e f => by
    have old : ∀ (m : Nat) zs, ρ[m]? = some (.own zs) → σ[m]? ≠ some (some (.ref p)) := fun m zs z q => by
      obtain ⟨a, ws, h1, h2, _⟩ := h.own m zs z
      rw [h1] at q
      cases q
      rw [n] at h2
      cases h2
    rcases set_at e with ⟨rfl, z⟩ | ⟨n1, z1⟩
    · rcases set_at f with ⟨rfl, _⟩ | ⟨n2, z2⟩
      · exact absurd rfl ne
      · rw [List.getElem?_set_ne n2, set_is h.len e]
        exact fun q => old k ys z2 q.symm
    · rcases set_at f with ⟨rfl, _⟩ | ⟨n2, z2⟩
      · rw [List.getElem?_set_ne n1, set_is h.len f]
        exact old j xs z1
      · rw [List.getElem?_set_ne n1, List.getElem?_set_ne n2]
        exact h.dis j k xs ys ne z1 z2
theorem set_self {α : Type} {l : List α} {i : Nat} {x y : α} (h : (l.set i x)[i]? = some y) : y = x := by
  rcases set_at h with ⟨_, z⟩ | ⟨n, _⟩
  · exact z.symm
  · exact absurd rfl n
/-- a list grows -/
theorem SlotOk.grow (h : SlotOk K W H ρ σ) {i : Nat} {xs : List D} (e : ρ[i]? = some (.own xs)) : ∃ a vs, σ[i]? = some (some (.ref a)) ∧ Own W H a vs ∧ RpL W.F vs xs ∧ (∀ u d, Rp W.F u d → SlotOk K W (upd H a (.lst (vs ++ [u]))) (ρ.set i (.own (xs ++ [d]))) σ) ∧
    SlotOk K (W.add a (.lst vs)) H (ρ.set i (.v (.d (.list xs)))) σ := by
  obtain ⟨a, vs, h1, h2, h3, h4, h5⟩ := h.own i xs e
  have far : ∀ (j : Nat) ys b, i ≠ j → ρ[j]? = some (.own ys) → σ[j]? = some (some (.ref b)) → b ≠ a := fun j ys b n f q z => by
    subst z
    exact h.dis i j xs ys n e f (by rw [h1, q])
  refine ⟨a, vs, h1, ⟨h2, h4, h5⟩, h3, fun u d r => ⟨by rw [List.length_set]; exact h.len, fun j x f => ?_, fun j ys f => ?_, fun j k ys zs n f g => ?_⟩, ⟨by rw [List.length_set]; exact h.len, fun j x f => ?_, fun j ys f => ?_, fun j k ys zs n f g => ?_⟩⟩
  · rcases set_at f with ⟨_, z⟩ | ⟨n, z⟩
    · cases z
    · exact h.at_ j x z
  · rcases set_at f with ⟨rfl, z⟩ | ⟨n, z⟩
    · cases z
      exact ⟨a, vs ++ [u], h1, upd_same, h3.app (.cons r .nil), h4, h5⟩
    · obtain ⟨b, ws, q1, q2, q3⟩ := h.own j ys z
      exact ⟨b, ws, q1, by rw [upd_ne (far j ys b n z q1)]; exact q2, q3⟩
  · have old : ∀ (m : Nat) us, (ρ.set i (.own (xs ++ [d])))[m]? = some (.own us) → ∃ us, ρ[m]? = some (.own us) := fun m us q => by
      rcases set_at q with ⟨rfl, _⟩ | ⟨_, z⟩
      · exact ⟨xs, e⟩
      · exact ⟨us, z⟩
    obtain ⟨us, z1⟩ := old j ys f
    obtain ⟨us', z2⟩ := old k zs g
    exact h.dis j k us us' n z1 z2
  · rcases set_at f with ⟨rfl, z⟩ | ⟨n, z⟩
    · cases z
      exact ⟨.ref a, h1, .lst (add_at _ _ _) (RpL.mono (sub_upd _ _ h4) _ _ h3)⟩
    · obtain ⟨w, q1, q2⟩ := h.at_ j x z
      refine ⟨w, q1, ?_⟩
      cases x with
      | d x => exact Rp.mono (sub_upd _ _ h4) _ _ q2
      | scr ns =>
        obtain ⟨b, e1, e2⟩ := q2
        exact ⟨b, e1, SqL.sub (sub_upd _ _ h4) e2⟩
      | ref n => exact q2
  · rcases set_at f with ⟨_, z⟩ | ⟨n, z⟩
    · cases z
    · obtain ⟨b, ws, q1, q2, q3, q4, q5⟩ := h.own j ys z
      refine ⟨b, ws, q1, q2, RpL.mono (sub_upd _ _ h4) _ _ q3, ?_, q5⟩
      show upd W.F a (.lst vs) b = none
      rw [upd_ne (far j ys b n z q1)]
      exact q4
  · rcases set_at f with ⟨_, z⟩ | ⟨n1, z1⟩
    · cases z
    · rcases set_at g with ⟨_, z⟩ | ⟨n2, z2⟩
      · cases z
      · exact h.dis j k ys zs n z1 z2
/-- an item of a list of the store is set -/
theorem sto_set (so : StoOk T W st H) {n : Nat} {a : Addr} {xs : List D} {vs : List V} (b : W.β n = some a) (e : st[n]? = some (.lst xs)) (hH : H a = some (.lst vs)) (r : RpL W.F vs xs) {j : Nat} {u : V} {d : D} (ru : Rp W.F u d) :
    StoOk T W (st.set n (.lst (xs.set j d))) (upd H a (.lst (vs.set j u))) := by
  have nf : W.F a = none := by
    obtain ⟨a', h1, h2, _⟩ := so.obj n _ e
    rw [b] at h1
    cases h1
    exact h2
  refine ⟨fun c o q => ?_, fun m o q => ?_, fun m c q => ?_, so.inj, tabs_upd so.tab hH _, so.nt⟩
  · rw [upd_ne (ne_of_none q nf)]
    exact so.sub c o q
  · rcases set_at q with ⟨rfl, z⟩ | ⟨ne, z⟩
    · cases z
      exact ⟨a, b, nf, vs.set j u, upd_same, r.set ru j⟩
    · obtain ⟨c, h1, h2, h3⟩ := so.obj m o z
      refine ⟨c, h1, h2, ?_⟩
      rw [upd_ne (fun z => ne (so.inj n m a b (by rw [← z]; exact h1)))]
      exact h3
  · rw [List.length_set]
    exact so.dom m c q
theorem step_set (s : Step W0 H0 W H) {n : Nat} {a : Addr} (b : W.β n = some a) (o : HO) : Step W0 H0 W (upd H a o) where
  fx := s.fx
  fn := s.fn
  bx := s.bx
  bn := s.bn
  fr := fun c u e nb nt => by
    have ne : c ≠ a := fun z => by
      subst z
      rcases s.bn n c b with q | q
      · exact nb n q
      · rw [q] at e; cases e
    rw [upd_ne ne]
    exact s.fr c u e nb nt
  lv := fun c u e => by
    by_cases hc : c = a
    · subst hc
      exact ⟨o, upd_same⟩
    · rw [upd_ne hc]
      exact s.lv c u e
theorem SlotOk.other (h : SlotOk K W H ρ σ) {n : Nat} {a : Addr} (b : W.β n = some a) (o : HO) : SlotOk K W (upd H a o) ρ σ where
  len := h.len
  at_ := h.at_
  own := fun i xs e => by
    obtain ⟨c, vs, h1, h2, h3, h4, h5⟩ := h.own i xs e
    exact ⟨c, vs, h1, by rw [upd_ne (fun z => h5 n (by rw [z]; exact b))]; exact h2, h3, h4, h5⟩
  dis := h.dis
end
/-! ### what is wanted behind a statement -/
section
variable (K : PySem.W.Frag) (T : List (Addr × Str)) (mg : Str → Option Value)
def PostS (W0 : Wd) (H0 : Hp) (F1 : Hp) (E : XK) (D : Ends) : Out → Prop
  | .next ρ st => ∀ W σ H, BaseOk W0 H0 F1 W H ρ σ → StoOk T W st H → SlotOk K W H ρ σ → D.nx σ H
  | .ret v st => ∀ W u H, Step W0 H0 W H → StoOk T W st H → RpV K W u v → D.rt u H
  | .ex x st => ∀ W cls d H, Step W0 H0 W H → StoOk T W st H → mg x = some cls → XD x d → E cls d H
  | .bad => False
def tX (E : XK) (f : Env → Sto → Out) : TS := fun D σ H => ∃ W0 H0 F1 W ρ st, BaseOk W0 H0 F1 W H ρ σ ∧ StoOk T W st H ∧ SlotOk K W H ρ σ ∧ PostS K T mg W0 H0 F1 E D (f ρ st)
end
section
variable {K : PySem.W.Frag} {T : List (Addr × Str)} {mg : Str → Option Value} {W0 W : Wd} {H0 F1 H : Hp} {E : XK} {D : Ends} {ρ : Env} {σ : L2.St} {st : Sto}
theorem PostS.bind {o : Out} {f : Env → Sto → Out} {D' : Ends} (h : PostS K T mg W0 H0 F1 E D (o.bind f)) (hr : D'.rt = D.rt)
    (hn : ∀ W σ H ρ st, BaseOk W0 H0 F1 W H ρ σ → StoOk T W st H → SlotOk K W H ρ σ → PostS K T mg W0 H0 F1 E D (f ρ st) → D'.nx σ H) : PostS K T mg W0 H0 F1 E D' o := by
  cases o with
  | next ρ st => exact fun W σ H b so sl => hn W σ H ρ st b so sl h
  | ret v st => exact fun W u H s so r => by rw [hr]; exact h W u H s so r
  | ex x st => exact h
  | bad => exact h
/-- an expression first -/
theorem PostS.first {β α : Type} {Rm : Wd → β → α → Prop} {R : β → Hp → Prop} {f : Env → Sto → Res α} {k : α → Sto → Out} (b : BaseOk W0 H0 F1 W H ρ σ) (so : StoOk T W st H) (sl : SlotOk K W H ρ σ) (h : PostS K T mg W0 H0 F1 E D ((f ρ st).out k))
    (n : ∀ W1 s1 v x H1, BaseOk W0 H0 F1 W1 H1 ρ σ → StoOk T W1 s1 H1 → SlotOk K W1 H1 ρ σ → Rm W1 v x → PostS K T mg W0 H0 F1 E D (k x s1) → Step W H W1 H1 → f ρ st = .ok x s1 → R v H1) : tR K T mg E Rm f σ H R := by
  refine ⟨W, ρ, st, so, sl, ?_⟩
  cases q : f ρ st with
  | ok x s1 =>
    rw [q] at h
    exact fun W1 v H1 s o r => n W1 s1 v x H1 (b.step s) o (sl.step s) r h s q
  | ex x s1 =>
    rw [q] at h
    exact fun W1 cls d H1 s o e => h W1 cls d H1 (b.st.trans s) o e
  | bad => rw [q] at h; exact h
theorem PostS.lower {F2 : Hp} {o : Out} (h : PostS K T mg W0 H0 F1 E D o) (s : Sub F1 F2) : PostS K T mg W0 H0 F2 E D o := by
  cases o with
  | next ρ st => exact fun W σ H b so sl => h W σ H ⟨b.st, b.fresh, fun _ _ e => b.lo _ _ (s _ _ e)⟩ so sl
  | ret v st => exact h
  | ex x st => exact h
  | bad => exact h
theorem PostS.bind2 {F2 : Hp} {o : Out} {f : Env → Sto → Out} {D' : Ends} (h : PostS K T mg W0 H0 F1 E D (o.bind f)) (s : Sub F1 F2) (hr : D'.rt = D.rt)
    (hn : ∀ W σ H ρ st, BaseOk W0 H0 F2 W H ρ σ → StoOk T W st H → SlotOk K W H ρ σ → PostS K T mg W0 H0 F1 E D (f ρ st) → D'.nx σ H) : PostS K T mg W0 H0 F2 E D' o := by
  cases o with
  | next ρ st => exact fun W σ H b so sl => hn W σ H ρ st b so sl h
  | ret v st => exact fun W u H s so r => by rw [hr]; exact h W u H s so r
  | ex x st => exact h
  | bad => exact h
theorem PostS.oTake {α : Type} {o : Option α} {k : α → Out} (h : PostS K T mg W0 H0 F1 E D (oOut o k)) : ∃ x, o = some x ∧ PostS K T mg W0 H0 F1 E D (k x) := by
  cases o with
  | none => exact (show False from h).elim
  | some x => exact ⟨x, rfl, h⟩
end
structure SxOk (X : Cx) (g : GI) (T : List (Addr × Str)) (G : Gd) (n : Nat) (E : XK) : Prop extends CxOk X g T G n E where
  own : PassesOwn (model X.prog X.w) X.A X.env X.xe
  tk : L2N.Takes X (fun cls d _ H => E cls d H)
  exc : ∀ x ∈ g.excs, ∃ C bmB B newId initId, ExcBaseFacts B newId initId bmB ∧ PySem.W.excIn X.K C bmB newId = true ∧ X.mg x = some (.ref C) ∧ PySem.W.keepIn X.K (.ref C) = true ∧ Raises X (.ref C)
section
variable {X : Cx} {g : GI} {T : List (Addr × Str)} {G : Gd} {n : Nat} {E : XK} {a b c e : Expr} {pos p p1 p2 p3 : Pos} {x : Str} {ca cb cc : C} {ces : List C}
abbrev tS (X : Cx) (T : List (Addr × Str)) (G : Gd) (E : XK) (c : S) : TS := tX X.K T X.mg E (fun ρ st => ex G c ρ st)
abbrev tSs (X : Cx) (T : List (Addr × Str)) (G : Gd) (E : XK) (c : List S) : TS := tX X.K T X.mg E (fun ρ st => exs G c ρ st)
theorem x_nil : PSs X [] (tSs X T G E []) := pss_nil.weak fun D σ H ⟨W0, H0, F1, W, ρ, st, bo, so, sl, h⟩ => h W σ H bo so sl
theorem x_cons {s : Stmt} {ss : List Stmt} {cs : S} {css : List S} (h1 : PS X s (tS X T G E cs)) (h2 : PSs X ss (tSs X T G E css)) : PSs X (s :: ss) (tSs X T G E (cs :: css)) :=
  (pss_cons h1 h2).weak fun D σ H ⟨W0, H0, F1, W, ρ, st, bo, so, sl, h⟩ => ⟨W0, H0, F1, W, ρ, st, bo, so, sl, PostS.bind (D' := { D with nx := _ }) h rfl fun W σ H ρ st b1 so1 sl1 h1 => ⟨W0, H0, F1, W, ρ, st, b1, so1, sl1, h1⟩⟩
theorem x_frz {ss : List Stmt} {i : Nat} {css : List S} (h2 : PSs X ss (tSs X T G E css)) : PSs X ss (tSs X T G E (.frz i :: css)) :=
  h2.weak fun D σ H ⟨W0, H0, F1, W, ρ, st, bo, so, sl, h⟩ => by
    have h : PostS X.K T X.mg W0 H0 F1 E D ((match ρ[i]? with
      | some (.own xs) => Out.next (ρ.set i (.v (.d (.list xs)))) st
      | _ => .bad).bind fun ρ1 s1 => exs G css ρ1 s1) := h
    split at h
    · rename_i xs q
      obtain ⟨a, vs, h1, ow, rl, _, sl2⟩ := sl.grow q
      refine ⟨W0, H0, F1, W.add a (.lst vs), _, st, ⟨step_frz bo.st (bo.fresh i xs a q h1) ow, fun j ys c e f => ?_, fun _ _ e => sub_upd _ _ ow.nf _ _ (bo.lo _ _ e)⟩, sto_frz so ow, sl2, h⟩
      rcases set_at e with ⟨_, z⟩ | ⟨_, z⟩
      · cases z
      · exact bo.fresh j ys c z f
    · exact (show False from h).elim
theorem x_expr (he : PE X e (tv X T G E ca)) (hs : swapsWith e none pos.line X.env = pure false) : PS X (.Expr e pos) (tS X T G E (.expr ca)) :=
  (ps_expr he hs).weak fun D σ H ⟨W0, H0, F1, W, ρ, st, bo, so, sl, h⟩ => PostS.first bo so sl h fun W1 s1 v x H1 b1 so1 sl1 r1 h1 _ _ => h1 W1 σ H1 b1 so1 sl1
theorem set_rd {i : Nat} : ∀ D σ H, tS X T G E (.set i ca) D σ H → tAsg (tv X T G E ca) (gName i) D σ H := fun D σ H ⟨W0, H0, F1, W, ρ, st, bo, so, sl, h⟩ =>
  PostS.first bo so sl h fun W1 s1 v x H1 b1 so1 sl1 r1 h1 _ _ => h1 W1 _ H1 (b1.set i x v) so1 (sl1.set i r1)
theorem x_set {i : Nat} {p : Pos} (nd : X.N.Nodup) (hi : X.N[i]? = some x) (hx : Loc X.env.scope x) (he : PE X e (tv X T G E ca)) (hs : swapsWith e (some (.Name x p)) pos.line X.env = pure false) (hf : X.fn x = true ∨ X.env.scope.names.lookup x = some .local) :
    PS X (.Assign [.Name x p] e pos) (tS X T G E (.set i ca)) := (ps_set nd hi hx he hs hf).weak set_rd
theorem x_setOwn {i : Nat} {p : Pos} {es : List Expr} (nd : X.N.Nodup) (hi : X.N[i]? = some x) (hx : Loc X.env.scope x) (hf : X.fn x = true ∨ X.env.scope.names.lookup x = some .local) (hes : PA X es (tvs X T G E ces)) (hl : ces.length ≤ sizeLine) :
    PS X (.Assign [.Name x p] (.List es p1) pos) (tS X T G E (.setOwn i ces)) :=
  (ps_set nd hi hx (pe_lst (pos := p1) hes) rfl hf).weak fun D σ H ⟨W0, H0, F1, W, ρ, st, bo, so, sl, h⟩ => by
    have h : PostS X.K T X.mg W0 H0 F1 E D ((evL G ces ρ st).out fun vs s1 => oOut (allD vs) fun ds => .next (ρ.set i (.own ds)) s1) := h
    refine PostS.first (Rm := fun W vs xs => RpVs X.K W vs xs) bo so sl (f := fun ρ st => evL G ces ρ st) h fun W1 s1 vs xs H1 b1 so1 sl1 r1 h1 _ eq => ?_
    obtain ⟨ds, e2, h2⟩ := h1.oTake
    have r2 := RpVs.data r1 e2
    refine ⟨?_, fun p np => ?_⟩
    · rw [rpvs_len r1, evL_len eq]
      exact hl
    · have ow := Own.new so1 np vs
      refine h2 W1 _ _ ⟨b1.st.trans (step_new np), fun j ys a e f => ?_, b1.lo⟩ (sto_new so1 np) (sl1.newOwn i np ow r2)
      rcases set_at e with ⟨rfl, z⟩ | ⟨ne, z⟩
      · have q : (σ.set i (some (V.ref p)))[i]? = some (some (V.ref p)) := set_is sl1.len e
        rw [q] at f
        cases f
        exact b1.st.back np
      · rw [List.getElem?_set_ne ne] at f
        exact b1.fresh j ys a z f
theorem x_append {i : Nat} {ap cp : Pos} (hN : X.N[i]? = some x) (hv : Vis X.env.scope x) (hd : (x == ("__debug__" : Str)) = false) (hcd : (x == ("__classdict__" : Str)) = false) (ha : PE X a (tv X T G E ca)) (hs : noStar a = true) (hl : (ap.endLine == cp.line) = true) :
    PS X (.Expr (.Call (.Attribute (.Name x p) "append" ap) [a] [] cp) pos) (tS X T G E (.append i ca)) :=
  (ps_expr (pe_bm PySem.F.plainAttrs_list PySem.F.slot_list_append PySem.F.type_list_append mt_append (pe_var hN hv hd hcd) (pa_cons ha pa_nil (star_cons hs)) rfl
      (by rw [star_cons hs]; rfl) hl (star_cons hs) (by rfl)) rfl).weak fun D σ H ⟨W0, H0, F1, W, ρ, st, bo, so, sl, h⟩ => by
    have h : PostS X.K T X.mg W0 H0 F1 E D (match ρ[i]? with
      | some (.own xs) => (ev G ca ρ st).out fun x s1 => oOut (asD x) fun x => if xs.length < sizeLine then .next (ρ.set i (.own (xs ++ [x]))) s1 else .bad
      | _ => .bad) := h
    split at h
    · rename_i xs q
      obtain ⟨a0, vs0, h1, ow, rl, _⟩ := sl.grow q
      refine ⟨_, h1, .inl ⟨rfl, vs0, SqL.of ow.at_⟩, PostS.first bo so sl h fun W1 s1 v y H1 b1 so1 sl1 r1 h2 _ _ => ?_⟩
      obtain ⟨d, e2, h3⟩ := h2.oTake
      obtain ⟨a, vs, h4, ow1, rl1, gr, _⟩ := sl1.grow q
      rw [h1] at h4
      cases h4
      cases y with
      | d y =>
        cases e2
        split at h3
        · rename_i hz
          refine ⟨a0, vs, v, rfl, rfl, ow1.at_, by rw [rl1.len]; exact hz, ?_⟩
          refine h3 W1 σ _ ⟨step_upd b1.st (bo.fresh i xs a0 q h1) _, fun j ys c e f => ?_, b1.lo⟩ (sto_upd so1 ow1 _) (gr v _ r1)
          rcases set_at e with ⟨rfl, _⟩ | ⟨_, z⟩
          · exact bo.fresh _ xs c q f
          · exact bo.fresh j ys c z f
        · exact (show False from h3).elim
      | scr _ => cases e2
      | ref _ => cases e2
    · exact (show False from h).elim
theorem x_if {as bs : List Stmt} {cas cbs : List S} (hc : PT X c (tb X T G E cc)) (ha : PSs X as (tSs X T G E cas)) (hb : PSs X bs (tSs X T G E cbs)) : PS X (.If c as bs pos) (tS X T G E (.ifs cc cas cbs)) :=
  (ps_if hc ha hb).weak fun D σ H ⟨W0, H0, F1, W, ρ, st, bo, so, sl, h⟩ => by
    have h : PostS X.K T X.mg W0 H0 F1 E D ((ev G cc ρ st).out fun x s1 => oOut (truth x) fun k => if k then exs G cas ρ s1 else exs G cbs ρ s1) := h
    have e : ((ev G cc ρ st).out fun x s1 => oOut (truth x) fun k => if k then exs G cas ρ s1 else exs G cbs ρ s1) = (evT G cc ρ st).out fun k s1 => if k then exs G cas ρ s1 else exs G cbs ρ s1 := by
      unfold evT
      cases ev G cc ρ st with
      | ok x s1 =>
        show oOut (truth x) _ = ((Res.opt (truth x) s1).out _)
        cases truth x <;> rfl
      | ex _ _ => rfl
      | bad => rfl
    rw [e] at h
    refine PostS.first (Rm := EqB) (f := fun ρ st => evT G cc ρ st) bo so sl h fun W1 s1 v x H1 b1 so1 sl1 r1 h1 _ _ => ?_
    cases r1
    cases v with
    | true => exact ⟨W0, H0, F1, W1, ρ, s1, b1, so1, sl1, h1⟩
    | false => exact ⟨W0, H0, F1, W1, ρ, s1, b1, so1, sl1, h1⟩
theorem x_ret (he : PE X e (tv X T G E ca)) : PS X (.Return (some e) pos) (tS X T G E (.ret ca)) :=
  (ps_ret he).weak fun D σ H ⟨W0, H0, F1, W, ρ, st, bo, so, sl, h⟩ => PostS.first bo so sl h fun W1 s1 v x H1 b1 so1 sl1 r1 h1 _ _ => h1 W1 v H1 b1.st so1 r1
theorem x_retN : PS X (.Return none pos) (tS X T G E .retN) :=
  ps_retN.weak fun D σ H ⟨W0, H0, F1, W, ρ, st, bo, so, sl, h⟩ => h W .non H bo.st so .non
theorem x_pass : PS X (.Pass pos) (tS X T G E .pass) := ps_pass.weak fun D σ H ⟨W0, H0, F1, W, ρ, st, bo, so, sl, h⟩ => h W σ H bo so sl
theorem x_raise {m : Str} {j : Nat} (ok : SxOk X g T G n E) (hx : x ∈ g.excs) (hg : Gl X x) (hd : (x == ("__debug__" : Str)) = false) : PS X (.Raise (some (.Call (.Name x p) [.Constant (.str m) j p2] [] p3)) none pos) (tS X T G E (.raise x)) := by
  obtain ⟨C, bmB, B, newId, initId, f1, f2, f3, f4, f5⟩ := ok.exc x hx
  exact (L2N.ps_raise ok.calm ok.tk (L2N.pmk_own f1 f2 f3 f4 f5 hg hd)).weak fun D σ H ⟨W0, H0, F1, W, ρ, st, bo, so, sl, h⟩ => h W _ none H bo.st so f3 (.inr rfl)
theorem x_setIdx (ha : PE X a (tv X T G E ca)) (hb : PE X b (tv X T G E cb)) (hc : PE X c (tv X T G E cc)) (hp : plainIx b = true) (hs : swapsWithSole [.Subscript a b p] c pos.line X.env = pure false) : PS X (.Assign [.Subscript a b p] c pos) (tS X T G E (.setIdx ca cb cc)) :=
  (ps_asg hc (pg_sub ha hb set_list (by intro v; cases b <;> first | rfl | cases hp)) hs rfl rfl).weak fun D σ H ⟨W0, H0, F1, W, ρ, st, bo, so, sl, h⟩ =>
    PostS.first bo so sl h fun W1 s1 v x H1 b1 so1 sl1 r1 h1 _ _ => PostS.first b1 so1 sl1 h1 fun W2 s2 u y H2 b2 so2 sl2 r2 h2 p2 _ => PostS.first b2 so2 sl2 h2 fun W3 s3 w z H3 b3 so3 sl3 r3 h3 p3 _ => by
      have r1 := (r1.step p2).step p3
      have r2 := r2.step p3
      cases y with
      | ref m =>
        cases z with
        | d z =>
          cases z with
          | int j =>
            cases x with
            | d x =>
              have h3 : PostS X.K T X.mg W0 H0 F1 E D (match s3[m]? with
                | some (.lst xs) => (match L2.ixN xs.length j with
                  | some k => Out.next ρ (s3.set m (.lst (xs.set k x)))
                  | none => .bad)
                | none => .bad) := h3
              cases q : s3[m]? with
              | none => rw [q] at h3; exact (show False from h3).elim
              | some o =>
                cases o with
                | lst xs =>
                  rw [q] at h3
                  obtain ⟨pa, rfl, bm⟩ := r2
                  obtain ⟨pa', e1, e2, vs, e3, e4⟩ := so3.obj m _ q
                  rw [bm] at e1
                  cases e1
                  have h3 : PostS X.K T X.mg W0 H0 F1 E D (match L2.ixN xs.length j with
                    | some k => Out.next ρ (s3.set m (.lst (xs.set k x)))
                    | none => .bad) := h3
                  cases q2 : L2.ixN xs.length j with
                  | none => rw [q2] at h3; exact (show False from h3).elim
                  | some k =>
                    rw [q2] at h3
                    cases r3
                    refine ⟨pa, vs, j, k, rfl, rfl, e3, by rw [e4.len]; exact q2, ?_⟩
                    exact h3 W3 σ _ ⟨step_set b3.st bm _, b3.fresh, b3.lo⟩ (sto_set so3 bm q e3 e4 r1) (sl3.other bm _)
            | scr _ => exact (show False from h3).elim
            | ref _ => exact (show False from h3).elim
          | _ => exact (show False from h3).elim
        | scr _ => exact (show False from h3).elim
        | ref _ => exact (show False from h3).elim
      | scr _ => exact (show False from h3).elim
      | d _ => exact (show False from h3).elim
theorem x_setTup {is : List Nat} {tg : Expr} (he : PE X e (tv X T G E ca)) (hg : PG X tg (gTg X.K is true)) (hs : swapsWithSole [tg] e pos.line X.env = pure false) (hw : swappedStores [tg] e X.env = pure none) (h1 : (assignEach [tg] X.env).map (·.2) = [assign tg X.env]) :
    PS X (.Assign [tg] e pos) (tS X T G E (.setTup is ca)) :=
  (ps_asg he hg hs hw h1).weak fun D σ H ⟨W0, H0, F1, W, ρ, st, bo, so, sl, h⟩ => PostS.first bo so sl h fun W1 s1 v x H1 b1 so1 sl1 r1 h1 _ _ => by
    obtain ⟨ρ1, e1, h2⟩ := h1.oTake
    cases x with
    | d x =>
      have e1 : bindTg is true x ρ = some ρ1 := e1
      exact gTg_ok (vs := is) so1.sub sl1 r1 e1 (fun i hi => hi) fun σ1 sl2 w => h2 W1 σ1 H1 (b1.bind e1 w) so1 sl2
    | scr _ => cases e1
    | ref _ => cases e1
theorem x_for {tg : List Nat} {tt : Bool} {ik : Nat} {its : List C} {te it : Expr} {bs : List Stmt} {cbs : List S} (ok : SxOk X g T G n E) (hi : PI X te it (tI X T G E ik its)) (hg : PG X te (gTg X.K tg tt)) (hb : PSs X bs (tSs X T G E cbs)) (hs : ∀ x, foldedSetIterable it X.env x = pure x) :
    PS X (.For te it bs [] pos) (tS X T G E (.fors tg tt ik its cbs)) :=
  (ps_for ok.own ok.calm hi hg hb hs).weak fun D σ H ⟨W0, H0, F1, W, ρ, st, bo, so, sl, h⟩ => by
    have h : PostS X.K T X.mg W0 H0 F1 E D ((evL G its ρ st).out fun vs s1 => oOut (evItems ik vs) fun xs => forO (fun x ρ s => oOut (bindTg tg tt x ρ) fun ρ1 => exs G cbs ρ1 s) xs ρ s1) := h
    have e : ((evL G its ρ st).out fun vs s1 => oOut (evItems ik vs) fun xs => forO (fun x ρ s => oOut (bindTg tg tt x ρ) fun ρ1 => exs G cbs ρ1 s) xs ρ s1) = (evIt G ik its ρ st).out fun xs s1 => forO (fun x ρ s => oOut (bindTg tg tt x ρ) fun ρ1 => exs G cbs ρ1 s) xs ρ s1 := by
      unfold evIt
      cases evL G its ρ st with
      | ok x s1 =>
        show oOut (evItems ik x) _ = ((Res.opt (evItems ik x) s1).out _)
        cases evItems ik x <;> rfl
      | ex _ _ => rfl
      | bad => rfl
    rw [e] at h
    refine PostS.first (Rm := WkR T) (f := fun ρ st => evIt G ik its ρ st) bo so sl h fun W1 s1 J xs H1 b1 so1 sl1 r1 h1 _ _ => ?_
    obtain ⟨_, wk⟩ := r1
    generalize hF : (fun (x : PyData) (ρ : Env) (s : Sto) => oOut (bindTg tg tt x ρ) fun ρ1 => exs G cbs ρ1 s) = F at h1
    refine ⟨fun i m σ H => m = xs.length - i ∧ i ≤ xs.length ∧ ∃ W ρ st, BaseOk W0 H0 F1 W H ρ σ ∧ Sub W1.F W.F ∧ StoOk T W st H ∧ SlotOk X.K W H ρ σ ∧ PostS X.K T X.mg W0 H0 F1 E D (forO F (xs.drop i) ρ st), ⟨_, rfl, Nat.zero_le _, W1, ρ, s1, b1, fun _ _ e => e, so1, sl1, h1⟩, ?_⟩
    rintro i m σ2 H2 ⟨rfl, hi, W2, ρ2, st2, b2, fx2, so2, sl2, h2⟩
    by_cases hlt : i < xs.length
    · refine .inr ⟨wk.go W2 st2 H2 i fx2 so2 hlt, fun σ H => ∃ W ρ st, BaseOk W0 H0 F1 W H ρ σ ∧ Sub W1.F W.F ∧ StoOk T W st H ∧ SlotOk X.K W H ρ σ ∧ PostS X.K T X.mg W0 H0 F1 E D (forO F (xs.drop (i + 1)) ρ st), fun σ' H' q => ⟨_, by omega, rfl, hlt, q⟩, fun x H' y => ?_⟩
      obtain ⟨W3, d, p3, so3, ed, rd⟩ := wk.yld W2 st2 H2 i x H' fx2 so2 hlt y
      rw [List.drop_eq_getElem_cons hlt] at h2
      rw [List.getElem?_eq_getElem hlt] at ed
      cases ed
      have h2 : PostS X.K T X.mg W0 H0 F1 E D ((F xs[i] ρ2 st2).bind fun ρ1 s1 => forO F (xs.drop (i + 1)) ρ1 s1) := h2
      have eF : F xs[i] ρ2 st2 = oOut (bindTg tg tt xs[i] ρ2) fun ρ1 => exs G cbs ρ1 st2 := by rw [hF.symm]
      rw [eF] at h2
      cases eb : bindTg tg tt xs[i] ρ2 with
      | none => rw [eb] at h2; exact (show False from h2).elim
      | some ρ3 =>
        rw [eb] at h2
        have h2 : PostS X.K T X.mg W0 H0 F1 E D ((exs G cbs ρ3 st2).bind fun ρ1 s1 => forO F (xs.drop (i + 1)) ρ1 s1) := h2
        have b3 := b2.step p3
        refine gTg_ok (vs := tg) so3.sub (sl2.step p3) rd eb (fun i hi => hi) fun σ3 sl3 w => ?_
        have fx3 : Sub W1.F W3.F := fun _ _ e => p3.fx _ _ (fx2 _ _ e)
        have b4 := b3.bind eb w
        refine ⟨W0, H0, W3.F, W3, ρ3, st2, ⟨b4.st, b4.fresh, fun _ _ e => e⟩, so3, sl3, PostS.bind2 (D' := { D with nx := _, bk := _, ct := _ }) h2 b4.lo rfl fun W σ H ρ st b5 so5 sl5 h5 => ?_⟩
        exact ⟨W, ρ, st, ⟨b5.st, b5.fresh, fun _ _ e => b5.lo _ _ (b4.lo _ _ e)⟩, fun _ _ e => b5.lo _ _ (fx3 _ _ e), so5, sl5, h5⟩
    · have e : i = xs.length := by omega
      subst e
      rw [List.drop_length] at h2
      exact .inl ⟨wk.stop W2 st2 H2 _ fx2 so2 (Nat.le_refl _), h2 W2 σ2 H2 b2 so2 sl2⟩
theorem x_while {bs : List Stmt} {cbs : List S} (ok : SxOk X g T G n E) (hc : PT X c (tb X T G E cc)) (hb : PSs X bs (tSs X T G E cbs)) : PS X (.While c bs [] pos) (tS X T G E (.whil cc cbs)) :=
  (ps_while ok.own hc hb).weak fun D σ H ⟨W0, H0, F1, W, ρ, st, bo, so, sl, h⟩ => by
    have h : PostS X.K T X.mg W0 H0 F1 E D (whileO (fun ρ st => evT G cc ρ st) (fun ρ s => exs G cbs ρ s) G.fuel ρ st) := h
    refine ⟨fun m σ H => ∃ W ρ st, BaseOk W0 H0 F1 W H ρ σ ∧ StoOk T W st H ∧ SlotOk X.K W H ρ σ ∧ PostS X.K T X.mg W0 H0 F1 E D (whileO (fun ρ st => evT G cc ρ st) (fun ρ s => exs G cbs ρ s) m ρ st), ⟨_, W, ρ, st, bo, so, sl, h⟩, ?_⟩
    rintro m σ2 H2 ⟨W2, ρ2, st2, b2, so2, sl2, h2⟩
    cases m with
    | zero => exact (show False from h2).elim
    | succ m =>
      have h2 : PostS X.K T X.mg W0 H0 F1 E D ((evT G cc ρ2 st2).out fun k s1 => if k then (exs G cbs ρ2 s1).bind fun ρ1 s2 => whileO (fun ρ st => evT G cc ρ st) (fun ρ s => exs G cbs ρ s) m ρ1 s2 else .next ρ2 s1) := h2
      refine PostS.first (Rm := EqB) (f := fun ρ st => evT G cc ρ st) b2 so2 sl2 h2 fun W3 s3 v x H3 b3 so3 sl3 r3 h3 _ _ => ?_
      cases r3
      cases v with
      | true =>
        simp only [if_true] at h3 ⊢
        refine ⟨fun σ H => ∃ W ρ st, BaseOk W0 H0 F1 W H ρ σ ∧ StoOk T W st H ∧ SlotOk X.K W H ρ σ ∧ PostS X.K T X.mg W0 H0 F1 E D (whileO (fun ρ st => evT G cc ρ st) (fun ρ s => exs G cbs ρ s) m ρ st), fun σ' H' q => ⟨m, Nat.lt_succ_self m, q⟩, ?_⟩
        exact ⟨W0, H0, F1, W3, ρ2, s3, b3, so3, sl3, PostS.bind (D' := { D with nx := _, bk := _, ct := _ }) h3 rfl fun W σ H ρ st b5 so5 sl5 h5 => ⟨W, ρ, st, b5, so5, sl5, h5⟩⟩
      | false => exact h3 W3 σ2 H3 b3 so3 sl3
theorem setVs_len : ∀ {is : List Nat} {xs : List Vl} {ρ ρ1 : Env}, setVs ρ is xs = some ρ1 → is.length = xs.length
  | [], [], _, _, _ => rfl
  | i :: is, x :: xs, ρ, ρ1, e => congrArg Nat.succ (setVs_len (show setVs (ρ.set i (.v x)) is xs = some ρ1 from e))
  | [], _ :: _, _, _, e => by cases e
  | _ :: _, [], _, _, e => by cases e
theorem x_par {i j : Nat} {y : Str} {a b : Expr} {px py pt : Pos} {kt k2 pt2} {x : Str} (ok : SxOk X g T G n E) (hi : X.N[i]? = some x) (hj : X.N[j]? = some y) (hij : i ≠ j)
    (hx : X.env.scope.names.lookup x = some .local) (hy : X.env.scope.names.lookup y = some .local) (ha : PA X [a, b] (tvs X T G E ces))
    (hw : swappedStores [.Tuple [.Name x px, .Name y py] kt pt] (.Tuple [a, b] k2 pt2) X.env = pure (some [x, y])) :
    PS X (.Assign [.Tuple [.Name x px, .Name y py] kt pt] (.Tuple [a, b] k2 pt2) pos) (tS X T G E (.setPar [i, j] ces)) :=
  (ps_par ok.calm ok.nd hi hj hij hx hy ha hw).weak fun D σ H ⟨W0, H0, F1, W, ρ, st, bo, so, sl, h⟩ => by
    have h : PostS X.K T X.mg W0 H0 F1 E D ((evL G ces ρ st).out fun vs s1 => oOut (setVs ρ [i, j] vs) fun ρ1 => .next ρ1 s1) := h
    refine PostS.first (Rm := RpVs X.K) (f := fun ρ st => evL G ces ρ st) bo so sl h fun W1 s1 vs xs H1 b1 so1 sl1 r1 h1 _ _ => ?_
    obtain ⟨ρ1, e, h2⟩ := h1.oTake
    have l := setVs_len e
    match xs, l, r1, e with
    | [u, v], _, .cons (r1) (.cons r2 .nil), e =>
      cases e
      exact ⟨_, _, rfl, h2 W1 _ H1 ((b1.set i u _).set j v _) so1 ((sl1.set i r1).set j r2)⟩
theorem x_par3 {i j l : Nat} {y z : Str} {a b c : Expr} {px py pz pt : Pos} {kt k2 pt2} {x : Str} (ok : SxOk X g T G n E) (hi : X.N[i]? = some x) (hj : X.N[j]? = some y) (hl : X.N[l]? = some z) (hij : i ≠ j) (hil : i ≠ l) (hjl : j ≠ l)
    (hx : X.env.scope.names.lookup x = some .local) (hy : X.env.scope.names.lookup y = some .local) (hz : X.env.scope.names.lookup z = some .local) (ha : PA X [a, b, c] (tvs X T G E ces))
    (hw : swappedStores [.Tuple [.Name x px, .Name y py, .Name z pz] kt pt] (.Tuple [a, b, c] k2 pt2) X.env = pure (some [x, y, z])) :
    PS X (.Assign [.Tuple [.Name x px, .Name y py, .Name z pz] kt pt] (.Tuple [a, b, c] k2 pt2) pos) (tS X T G E (.setPar [i, j, l] ces)) :=
  (ps_par3 ok.calm ok.nd hi hj hl hij hil hjl hx hy hz ha hw).weak fun D σ H ⟨W0, H0, F1, W, ρ, st, bo, so, sl, h⟩ => by
    have h : PostS X.K T X.mg W0 H0 F1 E D ((evL G ces ρ st).out fun vs s1 => oOut (setVs ρ [i, j, l] vs) fun ρ1 => .next ρ1 s1) := h
    refine PostS.first (Rm := RpVs X.K) (f := fun ρ st => evL G ces ρ st) bo so sl h fun W1 s1 vs xs H1 b1 so1 sl1 r1 h1 _ _ => ?_
    obtain ⟨ρ1, e, h2⟩ := h1.oTake
    have ln := setVs_len e
    match xs, ln, r1, e with
    | [u, v, w], _, .cons (r1) (.cons r2 (.cons r3 .nil)), e =>
      cases e
      exact ⟨_, _, _, rfl, h2 W1 _ H1 (((b1.set i u _).set j v _).set l w _) so1 (((sl1.set i r1).set j r2).set l r3)⟩
end
end Ar
set_option Elab.async false
set_option linter.all false
set_option maxRecDepth 100000
set_option maxHeartbeats 4000000
/-! Ar14: the look at statements. -/
namespace Ar
open PySem PySem.Spec PyProof.Rows L2 LamX Ht
def notComp : Expr → Bool
  | .ListComp .. => false
  | .SetComp .. => false
  | .DictComp .. => false
  | _ => true
theorem notComp_sw {e : Expr} {t : Option Expr} {l : Nat} {env : PySem.Env} (h : notComp e = true) : swapsWith e t l env = pure false := by
  cases e <;> first | rfl | cases h
theorem notComp_sole {e t : Expr} {l : Nat} {env : PySem.Env} (h : notComp e = true) : swapsWithSole [t] e l env = pure false := notComp_sw h
theorem sole_tup {e : Expr} {es : List Expr} {kk : Nat} {p : Pos} {l : Nat} {env : PySem.Env} : swapsWithSole [.Tuple es kk p] e l env = pure false := by
  cases e <;> rfl
def notTup : Expr → Bool
  | .Tuple .. => false
  | _ => true
theorem notTup_sw {e : Expr} {es : List Expr} {kk : Nat} {p : Pos} {env : PySem.Env} (h : notTup e = true) : swappedStores [.Tuple es kk p] e env = pure none := by
  cases e <;> first | rfl | cases h
theorem fold_sw {vs es : List Expr} {kk k2 : Nat} {p p2 : Pos} {env : PySem.Env} (h : vs.all (foldedForSure 8) = true) : swappedStores [.Tuple es kk p] (.Tuple vs k2 p2) env = pure none := by
  unfold swappedStores
  simp only [pure_bind, h, if_true]
  split
  · rfl
  · split
    · rfl
    · split <;> rfl
theorem long_sw {vs es : List Expr} {kk k2 : Nat} {p p2 : Pos} {env : PySem.Env} (h : (!(es.length == 2 || es.length == 3)) = true) : swappedStores [.Tuple es kk p] (.Tuple vs k2 p2) env = pure none := by
  unfold swappedStores
  simp only [h, Bool.true_or, if_true]
def fnK (k : Ck) : Bool := decide (k.sc.kind = .function)
section
variable {X : Cx} {T : List (Addr × Str)} {k : Ck}
theorem fnK_bk (hk : CkOk X T k) (h : fnK k = true) : X.env.blockKind = .function := by
  unfold PySem.Env.blockKind
  rw [hk.sc, of_decide_eq_true h]
  rfl
theorem loc_is (hk : CkOk X T k) (x : Str) : (X.env.kindOf x == some NameKind.local) = k.loc x := by
  show (X.env.scope.names.lookup x == some NameKind.local) = k.loc x
  rw [hk.sc]
  unfold Ck.loc
  split
  · rename_i q
    rw [q]
    rfl
  · rename_i q
    cases e : k.sc.names.lookup x with
    | none => rfl
    | some y =>
      cases y <;> first | rfl | exact absurd e q
theorem beq_sym {u v : Str} (ne : (u == v) = false) : (v == u) = false := by
  cases q : v == u with
  | false => rfl
  | true => rw [eq_of_beq q, beq_self_eq_true] at ne; cases ne
theorem noStar_any {vs : List Expr} (hs : vs.all noStar = true) {f : Expr → Bool} (hf : ∀ e, noStar e = true → f e = false := by intro e h; cases e <;> first | rfl | cases h) : ¬ vs.any f = true := fun h => by
  obtain ⟨e, he, hm⟩ := List.any_eq_true.mp h
  rw [hf e (List.all_eq_true.mp hs e he)] at hm
  cases hm
/-- two or three plain names, from a display: stored from the right -/
theorem par_sw {x y : Str} {a b : Expr} {px py pt pt2 : Pos} {kt k2 : Nat} (hk : CkOk X T k) (hf : fnK k = true) (hx : k.loc x = true) (hy : k.loc y = true) (hl : (py.line == px.line) = true) (ne : (x == y) = false)
    (hs : [a, b].all noStar = true) (h1 : [a, b].all (foldedForSure 8) = false) (h2 : [a, b].all (constantsAlone 8) = false) : swappedStores [.Tuple [.Name x px, .Name y py] kt pt] (.Tuple [a, b] k2 pt2) X.env = pure (some [x, y]) := by
  have ne' : (y == x) = false := beq_sym ne
  unfold swappedStores
  dsimp only
  rw [if_neg (by rw [fnK_bk hk hf]; exact Bool.false_ne_true), if_neg (noStar_any hs)]
  simp only [List.head?_cons, Option.map_some, Option.getD_some, Expr.pos, List.filterMap_cons, List.filterMap_nil, loc_is hk, hx, hy, hl, beq_self_eq_true, Bool.and_self, if_true, h1, h2, List.eraseDups_cons, List.filter_cons, ne, ne', List.filter_nil, List.eraseDups_nil, Bool.not_false, List.length_cons, List.length_nil, bne_self_eq_false, Bool.or_self, Bool.false_eq_true, if_false]
theorem par3_sw {x y z : Str} {a b c : Expr} {px py pz pt pt2 : Pos} {kt k2 : Nat} (hk : CkOk X T k) (hf : fnK k = true) (hx : k.loc x = true) (hy : k.loc y = true) (hz : k.loc z = true) (hl : (py.line == px.line) = true) (hl3 : (pz.line == px.line) = true) (ne : (x == y) = false) (ne2 : (x == z) = false) (ne3 : (y == z) = false)
    (hs : [a, b, c].all noStar = true) (h1 : [a, b, c].all (foldedForSure 8) = false) (h2 : [a, b, c].all (constantsAlone 8) = false) : swappedStores [.Tuple [.Name x px, .Name y py, .Name z pz] kt pt] (.Tuple [a, b, c] k2 pt2) X.env = pure (some [x, y, z]) := by
  have q1 : (y == x) = false := beq_sym ne
  have q2 : (z == x) = false := beq_sym ne2
  have q3 : (z == y) = false := beq_sym ne3
  unfold swappedStores
  dsimp only
  rw [if_neg (by rw [fnK_bk hk hf]; exact Bool.false_ne_true), if_neg (noStar_any hs)]
  simp only [List.head?_cons, Option.map_some, Option.getD_some, Expr.pos, List.filterMap_cons, List.filterMap_nil, loc_is hk, hx, hy, hz, hl, hl3, beq_self_eq_true, Bool.and_self, if_true, h1, h2, List.eraseDups_cons, List.filter_cons, ne, ne2, ne3, q1, q2, q3, List.filter_nil, List.eraseDups_nil, Bool.not_false, List.length_cons, List.length_nil, bne_self_eq_false, Bool.or_self, Bool.false_eq_true, if_false]
/-- a comprehension stored under a name on its own line -/
def swC (k : Ck) (x : Str) (px pe : Pos) (s : Scope) : Bool := k.loc x && (px.line == pe.line) && !(s.names.any fun (n, k) => n == x && (k == .local || k == .cell))
theorem swC_is {elt : Expr} {gens : List Comprehension} {s : Scope} {pe px : Pos} {x : Str} {l : Nat} (hk : CkOk X T k) (hf : fnK k = true) : swapsWith (.ListComp elt gens s pe) (some (.Name x px)) l X.env = pure (swC k x px pe s) := by
  show (pure (X.env.blockKind == .function && X.env.kindOf x == some .local && px.line == pe.line && !(s.names.any fun (n, k) => n == x && (k == .local || k == .cell))) : Sem Bool) = _
  rw [fnK_bk hk hf, loc_is hk]
  unfold swC
  rfl
end
end Ar
set_option Elab.async false
set_option linter.all false
set_option maxRecDepth 100000
set_option maxHeartbeats 4000000
/-! Ar15: the look at statements, and that it is right. -/
namespace Ar
open PySem PySem.Spec PyProof.Rows L2 LamX Ht
/-- a name stored to, by its slot -/
def ckV (k : Ck) (i : Nat) (x : Str) : Bool := decide (k.N[i]? = some x) && k.sto x
def nmOf : Expr → Option (Str × Pos)
  | .Name x p => some (x, p)
  | _ => none
def ckPar (k : Ck) (is : List Nat) (ts vs : List Expr) : Bool :=
  match is, ts, vs with
  | [i, j], [.Name x px, .Name y py], [a, b] => decide (k.N[i]? = some x) && decide (k.N[j]? = some y) && decide (i ≠ j) && k.loc x && k.loc y && (py.line == px.line) && !(x == y) && [a, b].all noStar && !([a, b].all (foldedForSure 8)) && !([a, b].all (constantsAlone 8))
  | [i, j, l], [.Name x px, .Name y py, .Name z pz], [a, b, c] => decide (k.N[i]? = some x) && decide (k.N[j]? = some y) && decide (k.N[l]? = some z) && decide (i ≠ j) && decide (i ≠ l) && decide (j ≠ l) && k.loc x && k.loc y && k.loc z && (py.line == px.line) && (pz.line == px.line) &&
      !(x == y) && !(x == z) && !(y == z) && [a, b, c].all noStar && !([a, b, c].all (foldedForSure 8)) && !([a, b, c].all (constantsAlone 8))
  | _, _, _ => false
def ckOne (e : Expr) (es : List Expr) : Bool :=
  notTup e || (match e with
  | .Tuple vs _ _ => vs.all (foldedForSure 8) || !(es.length == 2 || es.length == 3)
  | _ => false)
/-- what a name gets, if it is a comprehension on the name's line -/
def ckSet (g : GI) (k : Ck) (i : Nat) (c : C) (x : Str) (px : Pos) (e : Expr) : Bool :=
  ckV k i x && (match e with
  | .ListComp _ _ s pe => fnK k && (!swC k x px pe s || (match c with
    | .comp .. => true
    | .comp2 .. => true
    | _ => false))
  | e => notComp e) && ck g k c e
mutual
def cks (g : GI) (k : Ck) : S → Stmt → Bool
  | .expr c, st => (match st with
    | .Expr e _ => ck g k c e && notComp e
    | _ => false)
  | .set i c, st => (match st with
    | .Assign [.Name x px] e _ => ckSet g k i c x px e
    | _ => false)
  | .setOwn i cs, st => (match st with
    | .Assign [.Name x _] (.List es _) _ => ckV k i x && ckL g k cs es && decide (cs.length ≤ 1000)
    | _ => false)
  | .setTup is c, st => (match st with
    | .Assign [.Tuple es kk p] e _ => ckTg k is true (.Tuple es kk p) && ckOne e es && ck g k c e
    | _ => false)
  | .setPar is cs, st => (match st with
    | .Assign [.Tuple ts _ _] (.Tuple vs _ _) _ => fnK k && ckPar k is ts vs && ckL g k cs vs
    | _ => false)
  | .setIdx a i v, st => (match st with
    | .Assign [.Subscript x y _] z _ => ck g k a x && ck g k i y && ck g k v z && plainIx y && notComp z
    | _ => false)
  | .append i c, st => (match st with
    | .Expr (.Call (.Attribute (.Name x _) m ap) [e] [] cp) _ => decide (m = ("append" : Str)) && decide (k.N[i]? = some x) && k.vis x && ndb x && ck g k c e && noStar e && (ap.endLine == cp.line)
    | _ => false)
  | .frz _, _ => false
  | .ifs c a b, st => (match st with
    | .If e x y _ => ck g k c e && ckt c e && ckSs g k a x && ckSs g k b y
    | _ => false)
  | .fors tg tt ik its body, st => (match st with
    | .For t it b [] _ => ckTg k tg tt t && (match iterE g k ik t it with | some xs => ckL g k its xs | none => false) && notSet it && ckSs g k body b
    | _ => false)
  | .whil c body, st => (match st with
    | .While e b [] _ => ck g k c e && ckt c e && ckSs g k body b
    | _ => false)
  | .ret c, st => (match st with
    | .Return (some e) _ => ck g k c e
    | _ => false)
  | .retN, st => (match st with
    | .Return none _ => true
    | _ => false)
  | .raise x, st => (match st with
    | .Raise (some (.Call (.Name y _) [.Constant (.str _) _ _] [] _)) none _ => decide (y = x) && decide (x ∈ g.excs) && k.gl x && ndb x
    | _ => false)
  | .pass, st => (match st with
    | .Pass _ => true
    | _ => false)
def ckSs (g : GI) (k : Ck) : List S → List Stmt → Bool
  | [], sts => (match sts with
    | [] => true
    | _ => false)
  | .frz _ :: cs, sts => ckSs g k cs sts
  | c :: cs, sts => (match sts with
    | st :: sts => cks g k c st && ckSs g k cs sts
    | [] => false)
end
section
variable {g : GI} {T : List (Addr × Str)} {G : Gd} {n : Nat}
theorem snd_set {X : Cx} {E : XK} {k : Ck} {i : Nat} {c : C} {x : Str} {px pos : Pos} {e : Expr} (h : ckSet g k i c x px e = true) (hk : CkOk X T k) (ok : SxOk X g T G n E) : PS X (.Assign [.Name x px] e pos) (tS X T G E (.set i c)) := by
  unfold ckSet ckV at h
  simp only [Bool.and_eq_true, decide_eq_true_eq] at h
  obtain ⟨⟨⟨h1, h2⟩, h3⟩, h4⟩ := h
  obtain ⟨l1, l2⟩ := hk.sto h2
  have hN : X.N[i]? = some x := by rw [hk.N]; exact h1
  have pe := (snd c e k X E _ _ h4 hk ok.toCxOk).1
  split at h3
  · rename_i elt gens s pe'
    rw [Bool.and_eq_true] at h3
    obtain ⟨h3, h5⟩ := h3
    cases q : swC k x px pe' s with
    | false => exact x_set ok.nd hN l1 pe (by rw [swC_is hk h3, q]) l2
    | true =>
      have hw := swC_is (elt := elt) (gens := gens) (pe := pe') (px := px) (l := pos.line) (x := x) (s := s) hk h3
      rw [q] at hw
      have hl : X.env.scope.names.lookup x = some .local := by
        unfold swC at q
        simp only [Bool.and_eq_true] at q
        exact hk.loc q.1.1
      rw [q] at h5
      cases c with
      | comp celt tg tt ik its cifs own =>
        unfold ck at h4
        split at h4
        · rename_i elt' t it fs s' pp heq
          cases heq
          simp only [Bool.and_eq_true] at h4
          obtain ⟨⟨⟨⟨⟨⟨h1, h2⟩, h3⟩, h4⟩, h5⟩, h6⟩, h7⟩ := h4
          rw [← hk.N, ← hk.sc] at h1
          split at h4
          · rename_i xs q
            exact (s_setComp ok.toCxOk hN hl hw (snd_i hk ok.toCxOk q h4 fun c hc x hx => (snd c x k X E _ _ hx hk ok.toCxOk).1) (blkOk_by h1) (fun i hi => of_decide_eq_true (List.all_eq_true.mp h2 i hi))
              (fun s H C cl fp => snd_tg (hk.blk s H _ C cl fp) ok.nd ok.calm h3)
              (fun s H C cl fp => sndTs cifs _ _ _ E0 _ _ h6 (hk.blk s H _ C cl fp) (ok.toCxOk.blk s H _ _ fp))
              (fun s H C cl fp => (snd celt _ _ _ E0 _ _ h7 (hk.blk s H _ C cl fp) (ok.toCxOk.blk s H _ _ fp)).1)
              (notSet_fold h5)).weak set_rd
          · cases h4
        · cases h4
      | comp2 celt tg tt ik its tg1 it1 ifs1 own =>
        unfold ck at h4
        split at h4
        · rename_i elt' t it t1 i1 fs s' pp heq
          cases heq
          simp only [Bool.and_eq_true] at h4
          obtain ⟨⟨⟨⟨⟨⟨⟨⟨⟨⟨h1, h2⟩, h3⟩, h4⟩, h5⟩, h6⟩, h7⟩, h8⟩, h9⟩, h10⟩, h11⟩ := h4
          rw [← hk.N, ← hk.sc] at h1
          split at h5
          · rename_i xs q
            exact (s_setComp2 ok.toCxOk hN hl hw (snd_i hk ok.toCxOk q h5 fun c hc x hx => (snd c x k X E _ _ hx hk ok.toCxOk).1) (blkOk_by h1) (fun i hi => of_decide_eq_true (List.all_eq_true.mp h2 i hi)) (of_decide_eq_true h3)
              (fun s H C cl fp => snd_tg (hk.blk s H _ C cl fp) ok.nd ok.calm h4)
              (fun s H C cl fp => i_val (snd it1 _ _ _ E0 _ _ h8 (hk.blk s H _ C cl fp) (ok.toCxOk.blk s H _ _ fp)).1)
              (fun s H C cl fp => snd_tg (hk.blk s H _ C cl fp) ok.nd ok.calm h7)
              (fun s H C cl fp => sndTs ifs1 _ _ _ E0 _ _ h10 (hk.blk s H _ C cl fp) (ok.toCxOk.blk s H _ _ fp))
              (fun s H C cl fp => (snd celt _ _ _ E0 _ _ h11 (hk.blk s H _ C cl fp) (ok.toCxOk.blk s H _ _ fp)).1)
              (notSet_fold h6) (fun env => notSet_fold h9)).weak set_rd
          · cases h5
        · cases h4
      | _ => cases h5
  · exact x_set ok.nd hN l1 pe (notComp_sw h3) l2
mutual
theorem snds : ∀ (c : S) (st : Stmt) (k : Ck) (X : Cx) (E : XK), cks g k c st = true → CkOk X T k → SxOk X g T G n E → PS X st (tS X T G E c)
  | .expr c, st, k, X, E, h, hk, ok => by
    unfold cks at h
    split at h
    · rw [Bool.and_eq_true] at h
      exact x_expr (snd c _ k X E _ _ h.1 hk ok.toCxOk).1 (notComp_sw h.2)
    · cases h
  | .set i c, st, k, X, E, h, hk, ok => by
    unfold cks at h
    split at h
    · exact snd_set h hk ok
    · cases h
  | .setOwn i cs, st, k, X, E, h, hk, ok => by
    unfold cks at h
    split at h
    · unfold ckV at h
      simp only [Bool.and_eq_true, decide_eq_true_eq] at h
      obtain ⟨⟨⟨h1, h2⟩, h3⟩, h4⟩ := h
      obtain ⟨l1, l2⟩ := hk.sto h2
      exact x_setOwn ok.nd (by rw [hk.N]; exact h1) l1 l2 (sndL cs _ k X E _ _ h3 hk ok.toCxOk) (Nat.le_trans h4 thousand)
    · cases h
  | .setTup is c, st, k, X, E, h, hk, ok => by
    unfold cks at h
    split at h
    · rename_i es kk p e _
      simp only [Bool.and_eq_true] at h
      obtain ⟨⟨h1, h2⟩, h3⟩ := h
      refine x_setTup (snd c _ k X E _ _ h3 hk ok.toCxOk).1 (snd_tg hk ok.nd ok.calm h1) sole_tup ?_ rfl
      unfold ckOne at h2
      rw [Bool.or_eq_true] at h2
      rcases h2 with h2 | h2
      · exact notTup_sw h2
      · split at h2
        · rw [Bool.or_eq_true] at h2
          rcases h2 with h2 | h2
          · exact fold_sw h2
          · exact long_sw h2
        · cases h2
    · cases h
  | .setPar is cs, st, k, X, E, h, hk, ok => by
    unfold cks at h
    split at h
    · simp only [Bool.and_eq_true] at h
      obtain ⟨⟨hf, h1⟩, h2⟩ := h
      have pa := sndL cs _ k X E _ _ h2 hk ok.toCxOk
      unfold ckPar at h1
      split at h1
      · simp only [Bool.and_eq_true, decide_eq_true_eq, Bool.not_eq_true'] at h1
        obtain ⟨⟨⟨⟨⟨⟨⟨⟨⟨a1, a2⟩, a3⟩, a4⟩, a5⟩, a6⟩, a7⟩, a8⟩, a9⟩, a10⟩ := h1
        exact x_par ok (by rw [hk.N]; exact a1) (by rw [hk.N]; exact a2) a3 (hk.loc a4) (hk.loc a5) pa (par_sw hk hf a4 a5 a6 a7 a8 a9 a10)
      · simp only [Bool.and_eq_true, decide_eq_true_eq, Bool.not_eq_true'] at h1
        obtain ⟨⟨⟨⟨⟨⟨⟨⟨⟨⟨⟨⟨⟨⟨⟨⟨a1, a2⟩, a3⟩, a4⟩, a5⟩, a6⟩, a7⟩, a8⟩, a9⟩, a10⟩, a11⟩, a12⟩, a13⟩, a14⟩, a15⟩, a16⟩, a17⟩ := h1
        exact x_par3 ok (by rw [hk.N]; exact a1) (by rw [hk.N]; exact a2) (by rw [hk.N]; exact a3) a4 a5 a6 (hk.loc a7) (hk.loc a8) (hk.loc a9) pa (par3_sw hk hf a7 a8 a9 a10 a11 a12 a13 a14 a15 a16 a17)
      · cases h1
    · cases h
  | .setIdx a i v, st, k, X, E, h, hk, ok => by
    unfold cks at h
    split at h
    · simp only [Bool.and_eq_true] at h
      obtain ⟨⟨⟨⟨h1, h2⟩, h3⟩, h4⟩, h5⟩ := h
      exact x_setIdx (snd a _ k X E _ _ h1 hk ok.toCxOk).1 (snd i _ k X E _ _ h2 hk ok.toCxOk).1 (snd v _ k X E _ _ h3 hk ok.toCxOk).1 h4 (notComp_sole h5)
    · cases h
  | .append i c, st, k, X, E, h, hk, ok => by
    unfold cks at h
    split at h
    · simp only [Bool.and_eq_true, decide_eq_true_eq] at h
      obtain ⟨⟨⟨⟨⟨⟨rfl, h1⟩, h2⟩, h3⟩, h4⟩, h5⟩, h6⟩ := h
      obtain ⟨d1, d2⟩ := ndb_ok h3
      exact x_append (by rw [hk.N]; exact h1) (hk.vis h2) d1 d2 (snd c _ k X E _ _ h4 hk ok.toCxOk).1 h5 h6
    · cases h
  | .frz _, st, k, X, E, h, hk, ok => by unfold cks at h; cases h
  | .ifs c a b, st, k, X, E, h, hk, ok => by
    unfold cks at h
    split at h
    · simp only [Bool.and_eq_true] at h
      obtain ⟨⟨⟨h1, h2⟩, h3⟩, h4⟩ := h
      exact x_if ((snd c _ k X E _ _ h1 hk ok.toCxOk).2.1 h2) (sndSs a _ k X E h3 hk ok) (sndSs b _ k X E h4 hk ok)
    · cases h
  | .fors tg tt ik its body, st, k, X, E, h, hk, ok => by
    unfold cks at h
    split at h
    · simp only [Bool.and_eq_true] at h
      obtain ⟨⟨⟨h1, h2⟩, h3⟩, h4⟩ := h
      split at h2
      · rename_i xs q
        exact x_for ok (snd_i hk ok.toCxOk q h2 fun c hc x hx => (snd c x k X E _ _ hx hk ok.toCxOk).1) (snd_tg hk ok.nd ok.calm h1) (sndSs body _ k X E h4 hk ok) (notSet_fold h3)
      · cases h2
    · cases h
  | .whil c body, st, k, X, E, h, hk, ok => by
    unfold cks at h
    split at h
    · simp only [Bool.and_eq_true] at h
      obtain ⟨⟨h1, h2⟩, h3⟩ := h
      exact x_while ok ((snd c _ k X E _ _ h1 hk ok.toCxOk).2.1 h2) (sndSs body _ k X E h3 hk ok)
    · cases h
  | .ret c, st, k, X, E, h, hk, ok => by
    unfold cks at h
    split at h
    · exact x_ret (snd c _ k X E _ _ h hk ok.toCxOk).1
    · cases h
  | .retN, st, k, X, E, h, hk, ok => by
    unfold cks at h
    split at h
    · exact x_retN
    · cases h
  | .raise x, st, k, X, E, h, hk, ok => by
    unfold cks at h
    split at h
    · simp only [Bool.and_eq_true, decide_eq_true_eq] at h
      obtain ⟨⟨⟨rfl, h1⟩, h2⟩, h3⟩ := h
      exact x_raise ok h1 (hk.gl h2) (ndb_ok h3).1
    · cases h
  | .pass, st, k, X, E, h, hk, ok => by
    unfold cks at h
    split at h
    · exact x_pass
    · cases h
theorem sndSs : ∀ (cs : List S) (sts : List Stmt) (k : Ck) (X : Cx) (E : XK), ckSs g k cs sts = true → CkOk X T k → SxOk X g T G n E → PSs X sts (tSs X T G E cs)
  | [], sts, k, X, E, h, hk, ok => by
    unfold ckSs at h
    split at h
    · exact x_nil
    · cases h
  | c :: cs, sts, k, X, E, h, hk, ok => by
    have ih := fun sts (h : ckSs g k cs sts = true) => sndSs cs sts k X E h hk ok
    have ihc := fun st (h : cks g k c st = true) => snds c st k X E h hk ok
    cases c with
    | frz i =>
      unfold ckSs at h
      exact x_frz (ih _ h)
    | _ =>
      unfold ckSs at h
      split at h
      · rw [Bool.and_eq_true] at h
        exact x_cons (ihc _ h.1) (ih _ h.2)
      · cases h
end
end
end Ar
set_option Elab.async false
set_option linter.all false
set_option maxRecDepth 100000
set_option maxHeartbeats 4000000
/-! Ar16: defs, to a depth of calls. -/
namespace Ar
open PySem PySem.Spec PyProof.Rows L2 LamX Ht
/-- a def of the text, and ours for it -/
structure De where
  nm : Str
  st : Stmt
  d : Df
  N : List Str
  lam : Bool
def psOf (st : Stmt) : List Str := (defArgs st).args.map (·.arg)
def scOk (N ps : List Str) (sc : Scope) : Bool :=
  decide (sc.kind = .function) && !sc.isCoroutine && !sc.isGenerator && decide N.Nodup && decide (N.take ps.length = ps) &&
    (ps.all fun x => match sc.names.lookup x with | some .local => true | some .cell => true | _ => false) && (sc.names.all fun y => match y.2 with | .free => false | _ => true)
def ckDe (g : GI) (e : De) : Bool :=
  scOk e.N (psOf e.st) (defScope e.st) && decide (e.d.ps = (psOf e.st).length) && decide (e.d.ns = e.N.length) && ckSs g ⟨e.N, defScope e.st, none, e.lam⟩ e.d.body (defBody e.st)
theorem scOk_ok {N ps : List Str} {sc : Scope} (h : scOk N ps sc = true) : FnScope N ps sc := by
  unfold scOk at h
  simp only [Bool.and_eq_true, decide_eq_true_eq, Bool.not_eq_true', List.all_eq_true] at h
  obtain ⟨⟨⟨⟨⟨⟨h1, h2⟩, h3⟩, h4⟩, h5⟩, h6⟩, h7⟩ := h
  refine ⟨h1, h2, h3, h4, h5, fun x hx => ?_, fun y hy e => ?_⟩
  · have q := h6 x hx
    split at q
    · exact .inl (by assumption)
    · exact .inr (by assumption)
    · cases q
  · have q := h7 y hy
    rw [e] at q
    cases q
/-- an own error's class -/
def ExcAt (K : PySem.W.Frag) (mg : Str → Option Value) (x : Str) : Prop := ∃ C bmB B newId initId, ExcBaseFacts B newId initId bmB ∧ PySem.W.excIn K C bmB newId = true ∧ mg x = some (.ref C) ∧ PySem.W.keepIn K (.ref C) = true ∧
  PySem.W.subIn K (.ref C) (.type "BaseException") = some true ∧ PySem.W.typeIn K (.ref C) = some (.type "type")
/-- the name of its lambdas -/
def lamQ (x : Str) (sc : Scope) : Str := (envOfC x sc 0 0 .none).qual ++ "<lambda>"
/-- the def's function object; its code object's table, where it makes lambdas -/
def DeAt (K : PySem.W.Frag) (mg : Str → Option Value) (base : Heap) (T : List (Addr × Str)) (e : De) : Prop := ∃ (f : Addr) (oc : Value) (od : Option Addr) (dV kV doc pm : Value) (an : Option Addr) (cdv ct : Value) (osl : Array (Option Value)),
  mg e.nm = some (.ref f) ∧ PySem.W.keepIn K (.ref f) = true ∧ K.lookup f = some ⟨oc, od, .func (PySem.W.fnOf e.nm e.nm (defArgs e.st) (defBody e.st) (defScope e.st) dV kV doc pm an cdv ct), osl⟩ ∧ PySem.W.codeIn K cdv e.nm = true ∧
    Binds K (PySem.W.fnOf e.nm e.nm (defArgs e.st) (defBody e.st) (defScope e.st) dV kV doc pm an cdv ct) (psOf e.st) [] ∧
    (e.lam = true → ∃ c P, cdv = .ref c ∧ TabB base mg c P ∧ (P, lamQ e.nm (defScope e.st)) ∈ T ∧ ∀ p ∈ T, p.1 = P → p.2 = lamQ e.nm (defScope e.st))
section
variable {P : Program} {w : World} {K : PySem.W.Frag} {mg : Str → Option Value} {base : Heap} {T : List (Addr × Str)} {g : GI}
theorem start_slots {W : Wd} {H : Hp} {N : List Str} {vs : List V} {as : List Vl} (r : RpVs K W vs as) (hl : as.length ≤ N.length) : SlotOk K W H (as.map Slot.v ++ List.replicate (N.length - as.length) .un) (start N vs) := by
  have ln := rpvs_len r
  have at1 : ∀ (i : Nat) x, (as.map Slot.v ++ List.replicate (N.length - as.length) Slot.un)[i]? = some x → x ≠ .un → ∃ a, as[i]? = some a ∧ x = .v a := fun i x e ne => by
    by_cases hi : i < as.length
    · rw [List.getElem?_append_left (by simpa using hi), List.getElem?_map] at e
      cases q : as[i]? with
      | none => rw [q] at e; cases e
      | some a => rw [q] at e; exact ⟨a, rfl, (Option.some.inj e).symm⟩
    · rw [List.getElem?_append_right (by simpa using hi), List.getElem?_replicate] at e
      split at e
      · exact absurd (Option.some.inj e).symm ne
      · cases e
  refine ⟨?_, fun i x e => ?_, fun i xs e => ?_, fun i j xs ys n e f => ?_⟩
  · unfold L2.start
    rw [List.length_append, List.length_map, List.length_replicate, List.length_append, List.length_map, List.length_replicate]
    omega
  · obtain ⟨a, e1, e2⟩ := at1 i _ e (by intro z; cases z)
    cases e2
    have q : ∀ {vs : List V} {as : List Vl} {i : Nat}, RpVs K W vs as → as[i]? = some x → ∃ v, vs[i]? = some v ∧ RpV K W v x := by
      intro vs as i r
      induction r generalizing i with
      | nil => intro e; simp at e
      | cons r t ih =>
        intro e
        cases i with
        | zero => simp at e; subst e; exact ⟨_, rfl, r⟩
        | succ i =>
          obtain ⟨v, h1, h2⟩ := ih (i := i) (by simpa using e)
          exact ⟨v, by simpa using h1, h2⟩
    obtain ⟨v, e3, e4⟩ := q r e1
    refine ⟨v, ?_, e4⟩
    unfold L2.start
    have hv : i < vs.length := by
      by_cases hv : i < vs.length
      · exact hv
      · rw [List.getElem?_eq_none (by omega)] at e3; cases e3
    rw [List.getElem?_append_left (by simpa using hv), List.getElem?_map, e3]
    rfl
  · obtain ⟨a, _, e2⟩ := at1 i _ e (by intro z; cases z)
    cases e2
  · obtain ⟨a, _, e2⟩ := at1 i _ e (by intro z; cases z)
    cases e2
theorem run_fn0 {fd : FuncData} {ps : List Str} {f : Addr} {P : Program} {w : World} : FnOk P w K mg base (L2N.CX P w) 0 f fd ps (spOf K T mg fun _ _ => .bad) :=
  ⟨fun vs H Q E ⟨W, st, as, _, _, h⟩ => (show False from h).elim, fun A outer s H args us vs Q E _ _ _ _ ⟨W, st, as, _, _, h⟩ => (show False from h).elim⟩
theorem gd_f2 {P : List Df} {fuel : Nat} {nm : Str → Option Str} {n : Nat} {f2 : Nat → List Vl → Sto → Res Vl} (z : (gdOf P fuel nm n).fn2 = some f2) : ∃ k, n = k + 2 ∧ f2 = runs P fuel nm k := by
  match n, z with
  | k + 2, z => cases z; exact ⟨k, rfl, rfl⟩
  | 0, z => cases z
  | 1, z => cases z
/-- THE DEFS: each keeps, to each depth, what our text for it says -/
theorem defs_ok (Ds : List De) (fuel : Nat) (nm : Str → Option Str) (hg : g.defs = Ds.map (·.nm)) (hc : ∀ e ∈ Ds, ckDe g e = true) (hd : ∀ e ∈ Ds, DeAt K mg base T e) (hi : ∀ p ∈ g.nums, ∃ t, mg p.1 = some (.int p.2 t)) (hf : ∀ x ∈ g.free, mg x = none) (he : ∀ x ∈ g.excs, ExcAt K mg x)
    (hcat : ∀ x, g.cat = some x → CatOk K mg nm x) : ∀ (n f : Nat) (x : Str), g.defs[f]? = some x → FnAt P w K mg base T n x (runs (Ds.map (·.d)) fuel nm n f) := by
  intro n
  induction n using Nat.strongRecOn with
  | _ n ih =>
  intro f x hx
  rw [hg, List.getElem?_map] at hx
  cases q : Ds[f]? with
  | none => rw [q] at hx; cases hx
  | some e =>
    rw [q] at hx
    cases hx
    have hm := List.mem_of_getElem? q
    obtain ⟨fa, oc, od, dV, kV, doc, pm, an, cdv, ct, osl, h1, h2, h3, h4, h5, h6⟩ := hd e hm
    refine ⟨fa, _, psOf e.st, h1, h2, h5, ?_, ⟨oc, od, osl, h3⟩, rfl⟩
    cases n with
    | zero =>
      have z : runs (Ds.map (·.d)) fuel nm 0 f = fun _ _ => .bad := by funext a b; unfold runs; rfl
      rw [z]
      exact run_fn0
    | succ n =>
      have c := hc e hm
      unfold ckDe at c
      simp only [Bool.and_eq_true, decide_eq_true_eq] at c
      obtain ⟨⟨⟨c1, c2⟩, c3⟩, c4⟩ := c
      have S := scOk_ok c1
      have hr : ∀ as st, runs (Ds.map (·.d)) fuel nm (n + 1) f as st = callD (gdOf (Ds.map (·.d)) fuel nm n) e.d as st := fun as st => runs_succ _ _ _ _ _ _ _ (by rw [List.getElem?_map, q]; rfl)
      have hps : (psOf e.st).length ≤ e.N.length := by
        have z := congrArg List.length S.pre
        rw [List.length_take] at z
        omega
      refine fn_of h3 h4 S (fun vs H Q E ⟨W, st, as, so, r, h⟩ => ?_) (fun A outer s H vs Q E room ⟨W, st, as, so, r, h⟩ => ?_)
      · rw [hr] at h
        unfold callD at h
        split at h
        · rename_i z
          rw [rpvs_len r, z, c2]
        · exact (show False from h).elim
      · rw [hr] at h
        unfold callD at h
        split at h
        · rename_i z
          have tk : L2N.Takes (cxOf (L2N.CX P w) P w K mg base e.N e.nm (defScope e.st) fa cdv A outer s H E) (fun cls d _ H => E cls d H) := L2N.takes_of rfl rfl rfl rfl
          have f2 : ∀ f2, (gdOf (Ds.map (·.d)) fuel nm n).fn2 = some f2 → 2 ≤ n ∧ ∀ (f : Nat) x, g.defs[f]? = some x → FnAt P w K mg base T (n - 2) x (f2 f) := fun f2 z => by
            obtain ⟨k, e1, e2⟩ := gd_f2 z
            rw [e2]
            exact ⟨by omega, fun f x hx => by
              have q2 := ih k (by omega) f x hx
              have e3 : n - 2 = k := by omega
              rw [e3]
              exact q2⟩
          have sx : SxOk (cxOf (L2N.CX P w) P w K mg base e.N e.nm (defScope e.st) fa cdv A outer s H E) g T (gdOf (Ds.map (·.d)) fuel nm n) n E :=
            { calm := rfl, nd := S.nd, room := room, pass := L2N.passes_call tk (fun _ _ _ _ h => h), fns := fun f x hx => ih n (Nat.lt_succ_self n) f x hx, nums := hi, free := hf, own := passes_of rfl, tk := tk, f2 := f2, cat := hcat,
              exc := fun x hx => by
                obtain ⟨C, bmB, B, newId, initId, f1, f2, f3, f4, f5, f6⟩ := he x hx
                exact ⟨C, bmB, B, newId, initId, f1, f2, f3, f4, raises_own f5 f6⟩ }
          refine ⟨_, sndSs e.d.body _ ⟨e.N, defScope e.st, none, e.lam⟩ _ E c4 ⟨rfl, rfl, fun _ => rfl, fun z => ?_⟩ sx, ?_⟩
          · obtain ⟨c, P, k1, k2, k3, k4⟩ := h6 z
            exact ⟨c, P, k1, k2, k3, k4⟩
          refine ⟨W, H, fun _ => none, W, as.map Slot.v ++ List.replicate (e.d.ns - as.length) .un, st, ⟨Step.refl _ _, fun i xs a e1 e2 => ?_, fun _ _ z => by cases z⟩, so, ?_, ?_⟩
          · exfalso
            rw [List.getElem?_append] at e1
            split at e1
            · rw [List.getElem?_map] at e1
              cases q2 : as[i]? with
              | none => rw [q2] at e1; cases e1
              | some a => rw [q2] at e1; cases e1
            · rw [List.getElem?_replicate] at e1
              split at e1 <;> cases e1
          · rw [c3]
            exact start_slots r (by omega)
          · show PostS K T mg W H _ E _ (exs _ e.d.body _ st)
            split at h
            · rename_i v s1 q2
              rw [q2]
              exact h
            · rename_i ρ s1 q2
              rw [q2]
              exact fun W1 σ H1 b so1 sl1 => h W1 .non H1 b.st so1 .non
            · rename_i x s1 q2
              rw [q2]
              exact h
            · exact (show False from h).elim
        · exact (show False from h).elim
end
end Ar
set_option Elab.async false
set_option linter.all false
set_option maxRecDepth 100000
set_option maxHeartbeats 4000000
/-! Ar17: from the head's facts to the law. -/
namespace Ar
open PySem PySem.Spec PyProof.Rows L2 LamX Ht
def plainP : Arguments → Bool
  | ⟨[], _, none, [], [], none, []⟩ => true
  | _ => false
theorem zip_has : ∀ {ps : List Str} {us : List Value} {x : Str}, us.length = ps.length → x ∈ ps → ((ps.zip us).lookup x).isNone = false
  | p :: ps, u :: us, x, hl, hx => by
    rw [List.zip_cons_cons, List.lookup_cons]
    cases q : x == p with
    | true => rfl
    | false =>
      rcases List.mem_cons.mp hx with z | z
      · rw [z, beq_self_eq_true] at q; cases q
      · exact zip_has (Nat.succ.inj hl) z
  | [], _, _, _, hx => by cases hx
  | _ :: _, [], _, hl, _ => by cases hl
theorem zip_self {α : Type} : ∀ {ps : List Str} {us : List α} (all : List (Str × α)), us.length = ps.length → ps.Nodup → (∀ p ∈ ps.zip us, all.lookup p.1 = some p.2) → (ps.filterMap fun n => (all.lookup n).map (n, ·)) = ps.zip us
  | [], [], _, _, _, _ => rfl
  | p :: ps, u :: us, all, hl, nd, h => by
    rw [List.filterMap_cons, h (p, u) (by simp), List.zip_cons_cons]
    exact congrArg _ (zip_self all (Nat.succ.inj hl) (List.nodup_cons.mp nd).2 fun q hq => h q (by rw [List.zip_cons_cons]; exact List.mem_cons_of_mem _ hq))
  | [], _ :: _, _, hl, _, _ => by cases hl
  | _ :: _, [], _, hl, _, _ => by cases hl
theorem zip_look {α : Type} : ∀ {ps : List Str} {us : List α}, ps.Nodup → ∀ p ∈ ps.zip us, (ps.zip us).lookup p.1 = some p.2
  | [], _, _, p, hp => by cases hp
  | _ :: _, [], _, p, hp => by cases hp
  | q :: ps, u :: us, nd, p, hp => by
    rw [List.zip_cons_cons] at hp ⊢
    obtain ⟨n1, n2⟩ := List.nodup_cons.mp nd
    rw [List.lookup_cons]
    rcases List.mem_cons.mp hp with z | z
    · rw [z, beq_self_eq_true]
    · have ne : (p.1 == q) = false := by
        cases e : p.1 == q with
        | false => rfl
        | true =>
          rw [← eq_of_beq e] at n1
          exact absurd (List.of_mem_zip z).1 n1
      rw [ne]
      exact zip_look n2 p z
theorem seq_none : seqItems? Value.none = pure none := rfl
theorem bind_plain {x q : Str} {params : Arguments} {body : List Stmt} {sc : Scope} {kV doc pm cdv ct : Value} {an : Option Addr} (h : plainP params = true) (nd : (params.args.map (·.arg)).Nodup) {us : List Value} (hl : us.length = (params.args.map (·.arg)).length) :
    bindArgs (PySem.W.fnOf x q params body sc .none kV doc pm an cdv ct) ⟨us, []⟩ = pure ((params.args.map (·.arg)).zip us) := by
  unfold plainP at h
  split at h
  · rename_i as
    have hl : us.length = (as.map (·.arg)).length := hl
    have nd : (as.map (·.arg)).Nodup := nd
    generalize hps : as.map (·.arg) = ps at hl nd
    have hm : (ps.filter fun n => ((ps.zip us).lookup n).isNone) = [] := List.filter_eq_nil_iff.mpr fun n hn => by
      rw [zip_has hl hn]
      exact Bool.false_ne_true
    have hl2 : decide (us.length > ps.length) = false := decide_eq_false (by omega)
    unfold bindArgs
    simp only [PySem.W.fnOf, seq_none, hps, List.map_nil, List.nil_append, List.append_nil, List.forIn_nil, pure_bind, Option.getD_none, List.length_nil, Nat.zero_sub, Nat.sub_zero, List.drop_nil, List.take_length, hm, List.isEmpty_nil, Bool.not_true, Bool.false_eq_true, if_false, List.zip_nil_right, hl2, Bool.false_and, zip_self _ hl nd (zip_look nd)]
  · cases h
/-! ### a law's texts, all that is looked at -/
structure Lw where
  Ds : List De
  g : GI
  cx : Str
  cst : Stmt
  nx : Str
  nst : Stmt
  rx : Str
  cs : List Str
  l1 : Str
  l2 : Str
  scope : Scope
  labs : List (Str × List Bool)
def Lw.words (l : Lw) : List Str := Txt.split (l.l1 ++ l.l2) " "
def Lw.nm (l : Lw) (y : Str) : Option Str := (l.labs.lookup y).map fun bs => Txt.join " " (pick l.words bs)
def bI : Str := "ValueError"
def clsV (K : PySem.W.Frag) (c : Str) : Value := if c = bI then .type "ValueError" else .ref (He.ga K c)
def excB (K : PySem.W.Frag) (D : Addr) : Bool :=
  decide (PySem.W.findIn K (.ref D) "__getattribute__" = some (some (.builtin "BaseException.__getattribute__"))) && decide (PySem.W.findIn K (.ref D) "__getattr__" = some none) && decide (PySem.W.subIn K (.ref D) (.type "BaseException") = some true) && PySem.W.hasDictIn K D &&
    decide (PySem.W.findIn K (.ref D) "__class__" = some (some (.builtin "object.__class__"))) && decide (PySem.W.specialIn K (.builtin "object.__class__") "__get__" = some (some (.builtin "getset_descriptor.__get__"))) && decide (PySem.W.takesIn K (.builtin "object.__class__") = some true) && decide (PySem.W.mroIn K D (.type "object") = some true)
theorem excB_ok {K : PySem.W.Frag} {D : Addr} (h : excB K D = true) : ExcC K D := by
  unfold excB at h
  simp only [Bool.and_eq_true, decide_eq_true_eq] at h
  obtain ⟨⟨⟨⟨⟨⟨⟨h1, h2⟩, h3⟩, h4⟩, h5⟩, h6⟩, h7⟩, h8⟩ := h
  exact ⟨h1, h2, h3, h4, h5, h6, h7, h8⟩
def Lw.lams (l : Lw) : List De := l.Ds.filter (·.lam)
def Lw.tf (l : Lw) : List He.Defn := l.lams.map fun e => (e.nm, none)
/-- what is looked at in the heap beyond the facts -/
def Lw.ex (l : Lw) (K : PySem.W.Frag) : Bool :=
  decide ((l.tf.map fun p => (He.cT K p).2).Nodup) && l.labs.all fun y => excB K (He.ga K y.1) && (l.cs.zip y.2).all fun c => decide (PySem.W.kitOne K (.ref (He.ga K y.1)) (clsV K c.1) = some c.2)
def dOf (x : Str) (st : Stmt) : He.DefD := ⟨(x, none), x, x, defArgs st, defBody st, defScope st, [], []⟩
def Lw.fn (l : Lw) : List He.DefD := dOf l.cx l.cst :: dOf l.nx l.nst :: l.Ds.map fun e => dOf e.nm e.st
def Lw.clss (l : Lw) : List Str := l.cs.filter fun c => !(c == bI)
def Lw.fa (l : Lw) : List He.Fa :=
  [.glo l.cx, .glo l.nx, .glo l.rx, .free bI, .free "zip", .free "isinstance"] ++ (l.Ds.map fun e => .glo e.nm) ++ (l.clss.map fun c => .glo c) ++ (l.g.excs.map fun x => .glo x) ++ (l.g.excs.map fun x => .exc x) ++ (l.g.free.map fun x => .free x) ++ (l.g.nums.map fun p => .int p.1 p.2) ++
    (l.labs.map fun y => .glo y.1) ++ (l.labs.map fun y => .exm y.1 l.rx true)
def gloB (sc : Scope) (x : Str) : Bool := decide (sc.names.lookup x = some .globalImplicit) && !(x == ("__debug__" : Str))
/-- the static look -/
def Lw.ok (l : Lw) : Bool :=
  (l.Ds.all fun e => ckDe l.g e && plainP (defArgs e.st)) && decide (l.g.defs = l.Ds.map (·.nm)) && decide (l.g.cat = some l.cx) && decide (ckCatch (defBody l.cst) = some (l.rx, l.nx)) && plainP (defArgs l.cst) && decide (psOf l.cst = [("call" : Str)]) && scOk caN ["call"] (defScope l.cst) &&
    lkp (defScope l.cst) "call" .local && lkp (defScope l.cst) "e" .local && gloB (defScope l.cst) l.rx && gloB (defScope l.cst) l.nx && plainP (defArgs l.nst) && decide (psOf l.nst = [("e" : Str)]) && scOk nmN ["e"] (defScope l.nst) && decide (ckNm (defBody l.nst) = some (l.cs, l.l1, l.l2, l.scope)) && nmScB (defScope l.nst) l.scope &&
    (l.cs.all fun c => gloB (defScope l.nst) c) && decide (l.l1.length + l.l2.length ≤ 900) && (l.labs.all fun y => decide (y.2.length = l.cs.length) && !(y.1 == ("TooMany" : Str)) && decide (l.words.length = y.2.length) && decide (y.2.length ≤ 1000) && decide (((pick l.words y.2).map (·.length)).sum + (pick l.words y.2).length * (" " : Str).length ≤ 16777216))
theorem paired_zip {α β : Type} {F : α → β → Prop} : ∀ {xs : List α} {ys : List β}, xs.length = ys.length → (∀ p ∈ xs.zip ys, F p.1 p.2) → Paired F xs ys
  | [], [], _, _ => .nil
  | x :: xs, y :: ys, hl, h => .cons (h (x, y) (by simp)) (paired_zip (Nat.succ.inj hl) fun p hp => h p (by rw [List.zip_cons_cons]; exact List.mem_cons_of_mem _ hp))
  | [], _ :: _, hl, _ => by cases hl
  | _ :: _, [], hl, _ => by cases hl
theorem gloB_ok {sc : Scope} {x : Str} (h : gloB sc x = true) : sc.names.lookup x = some .globalImplicit ∧ (x == ("__debug__" : Str)) = false := by
  unfold gloB at h
  simp only [Bool.and_eq_true, decide_eq_true_eq, Bool.not_eq_true'] at h
  exact h
theorem lookup_mem {α : Type} : ∀ {l : List (Str × α)} {y : Str} {b : α}, l.lookup y = some b → (y, b) ∈ l := fun h => PySem.mem_of_lookup h
/-- a plain def, as it stands -/
theorem fun_at {K : PySem.W.Frag} {h : Heap} {mg : Str → Option Value} {x : Str} {st : Stmt} (X : K.In h) (G : h.Ns mainGlobals mg) (gl : (He.Fa.glo x).ok K = true) (F : ∃ fd, FunD K x x (defArgs st) (defBody st) (defScope st) [] [] (He.fAd K (x, none)) fd) (pl : plainP (defArgs st) = true) (nd : (psOf st).Nodup) :
    ∃ (oc : Value) (od : Option Addr) (dV kV doc pm : Value) (an : Option Addr) (cdv ct : Value) (osl : Array (Option Value)), mg x = some (.ref (He.fAd K (x, none))) ∧ PySem.W.keepIn K (.ref (He.fAd K (x, none))) = true ∧
      K.lookup (He.fAd K (x, none)) = some ⟨oc, od, .func (PySem.W.fnOf x x (defArgs st) (defBody st) (defScope st) dV kV doc pm an cdv ct), osl⟩ ∧ PySem.W.codeIn K cdv x = true ∧ Binds K (PySem.W.fnOf x x (defArgs st) (defBody st) (defScope st) dV kV doc pm an cdv ct) (psOf st) [] := by
  obtain ⟨fd, F⟩ := F
  obtain ⟨oc, od, dV, kV, doc, pm, an, cdv, ct, osl, rfl, lk, hcd, hD, hK⟩ := F.ex
  have b := FunD.bindsN (ps := psOf st) F fun kV doc pm an cdv ct us hl => bind_plain pl nd hl
  exact ⟨oc, od, dV, kV, doc, pm, an, cdv, ct, osl, He.glo_ok X G gl, F.kp, lk, hcd, b⟩
theorem nodup_inj {α β : Type} {f : α → β} : ∀ {l : List α} {a b : α}, (l.map f).Nodup → a ∈ l → b ∈ l → f a = f b → a = b
  | x :: l, a, b, nd, ha, hb, e => by
    rw [List.map_cons, List.nodup_cons] at nd
    rcases List.mem_cons.mp ha with p | p
    · rcases List.mem_cons.mp hb with q | q
      · rw [p, q]
      · exact absurd (List.mem_map.mpr ⟨b, q, by rw [← e, p]⟩) nd.1
    · rcases List.mem_cons.mp hb with q | q
      · exact absurd (List.mem_map.mpr ⟨a, p, by rw [e, q]⟩) nd.1
      · exact nodup_inj nd.2 p q e
  | [], _, _, _, ha, _, _ => by cases ha
def Lw.T (l : Lw) (K : PySem.W.Frag) : List (Addr × Str) := l.lams.map fun e => ((He.cT K (e.nm, none)).2, lamQ e.nm (defScope e.st))
section
variable {l : Lw} {P : Program} {w : World} {K : PySem.W.Frag} {h base : Heap} {mg : Str → Option Value}
theorem Lw.labels (X : K.In h) (G : h.Ns mainGlobals mg) (N : NmAt K mg l.nx) (e1 : N.cs = l.cs) (e2 : N.l1 = l.l1) (e3 : N.l2 = l.l2) (e4 : N.sc = defScope l.nst) (facts : ∀ f ∈ l.fa, f.ok K = true) (ex : l.ex K = true)
    (hcs : (l.cs.all fun c => gloB (defScope l.nst) c) = true) (hl : (l.labs.all fun y => decide (y.2.length = l.cs.length) && !(y.1 == ("TooMany" : Str)) && decide (l.words.length = y.2.length) && decide (y.2.length ≤ 1000) && decide (((pick l.words y.2).map (·.length)).sum + (pick l.words y.2).length * (" " : Str).length ≤ 16777216)) = true)
    {y r : Str} (hy : l.nm y = some r) : y ≠ ("TooMany" : Str) ∧ mg y = some (.ref (He.ga K y)) ∧ PySem.W.exmOne K (.ref (He.ga K y)) (.ref (He.ga K l.rx)) = some true ∧ Labels N (He.ga K y) r := by
  unfold Lw.nm at hy
  cases q : l.labs.lookup y with
  | none => rw [q] at hy; cases hy
  | some bs =>
    rw [q] at hy
    obtain rfl : Txt.join " " (pick l.words bs) = r := Option.some.inj hy
    have hm := lookup_mem q
    have h1 := List.all_eq_true.mp hl _ hm
    simp only [Bool.and_eq_true, decide_eq_true_eq, Bool.not_eq_true'] at h1
    obtain ⟨⟨⟨⟨a1, a2⟩, a3⟩, a4⟩, a5⟩ := h1
    unfold Lw.ex at ex
    rw [Bool.and_eq_true] at ex
    have h2 := List.all_eq_true.mp ex.2 _ hm
    rw [Bool.and_eq_true] at h2
    have gy : (He.Fa.glo y).ok K = true := facts _ (by unfold Lw.fa; simp only [List.mem_append, List.mem_map]; exact .inl (.inr ⟨(y, bs), hm, rfl⟩))
    have xy : (He.Fa.exm y l.rx true).ok K = true := facts _ (by unfold Lw.fa; simp only [List.mem_append, List.mem_map]; exact .inr ⟨(y, bs), hm, rfl⟩)
    refine ⟨fun z => (by rw [z, beq_self_eq_true] at a2; cases a2), He.glo_ok X G gy, He.exm_ok xy, excB_ok h2.1, bs, ?_, ?_, a4, ?_, ?_⟩
    · rw [e1, e4]
      refine paired_zip a1.symm fun p hp => ?_
      have k := of_decide_eq_true (List.all_eq_true.mp h2.2 p hp)
      have mc := (List.of_mem_zip hp).1
      obtain ⟨g1, g2⟩ := gloB_ok (List.all_eq_true.mp hcs _ mc)
      refine ⟨g1, g2, clsV K p.1, if p.1 = bI then .ty "ValueError" else .ref (He.ga K p.1), ?_, ?_, ?_, k⟩
      · by_cases hb : p.1 = bI
        · refine .inr ⟨?_, ?_, ?_⟩
          · rw [hb]
            exact He.free_ok X G (facts _ (by unfold Lw.fa; simp))
          · unfold clsV
            rw [if_pos hb, hb]
            decide +kernel
          · rw [hb]
            decide
        · refine .inl ?_
          unfold clsV
          rw [if_neg hb]
          refine He.glo_ok X G (facts _ ?_)
          unfold Lw.fa
          simp only [List.mem_append, List.mem_map]
          refine .inl (.inl (.inl (.inl (.inl (.inl (.inr ⟨p.1, ?_, rfl⟩))))))
          unfold Lw.clss
          rw [List.mem_filter]
          refine ⟨mc, ?_⟩
          cases z : p.1 == bI with
          | false => rfl
          | true => exact absurd (eq_of_beq z) hb
      · unfold clsV
        split <;> rfl
      · intro u hu
        unfold clsV
        split at hu
        · rename_i hb
          rw [if_pos hb]
          exact hu
        · rename_i hb
          rw [if_neg hb]
          exact hu
    · rw [e2, e3]
      exact a3
    · rw [e2, e3]
      exact a5
    · rw [e2, e3]
      rfl
theorem Lw.fnAt (ok : l.ok = true) (X : K.In h) (G : h.Ns mainGlobals mg) (facts : ∀ f ∈ l.fa, f.ok K = true) (fns : ∀ d ∈ l.fn, ∃ fd, FunD K d.name d.qual d.params d.body d.scope (d.dvs K) (d.kws K) (He.fAd K d.at_) fd) (ex : l.ex K = true)
    (TB : ∀ p ∈ l.tf, TabB base mg (He.cT K p).1 (He.cT K p).2) (fuel n f : Nat) (x : Str) (hx : l.g.defs[f]? = some x) : FnAt P w K mg base (l.T K) n x (runs (l.Ds.map (·.d)) fuel l.nm n f) := by
  have ok' := ok
  unfold Lw.ok at ok'
  simp only [Bool.and_eq_true] at ok'
  obtain ⟨⟨⟨⟨⟨⟨⟨⟨⟨⟨⟨⟨⟨⟨⟨⟨⟨⟨o1, o2⟩, o3⟩, o4⟩, o5⟩, o6⟩, o7⟩, o8⟩, o9⟩, o10⟩, o11⟩, o12⟩, o13⟩, o14⟩, o15⟩, o16⟩, o17⟩, o18⟩, o19⟩ := ok'
  have hDs : ∀ e ∈ l.Ds, ckDe l.g e = true ∧ plainP (defArgs e.st) = true := fun e he => by
    have q := List.all_eq_true.mp o1 e he
    rw [Bool.and_eq_true] at q
    exact q
  have fam : ∀ {f : He.Fa}, f ∈ l.fa → f.ok K = true := fun hf => facts _ hf
  refine defs_ok l.Ds fuel l.nm (of_decide_eq_true o2) (fun e he => (hDs e he).1) (fun e he => ?_) (fun p hp => ?_) (fun x hx => ?_) (fun x hx => ?_) (fun x hx => ?_) n f x hx
  · have gl : (He.Fa.glo e.nm).ok K = true := fam (by unfold Lw.fa; simp only [List.mem_append, List.mem_map]; exact .inl (.inl (.inl (.inl (.inl (.inl (.inl (.inr ⟨e, he, rfl⟩))))))))
    have F := fns (dOf e.nm e.st) (by unfold Lw.fn; simp only [List.mem_cons, List.mem_map]; exact .inr (.inr ⟨e, he, rfl⟩))
    have nd : (psOf e.st).Nodup := by
      have c := (hDs e he).1
      unfold ckDe at c
      simp only [Bool.and_eq_true] at c
      have S := scOk_ok c.1.1.1
      rw [← S.pre]
      exact S.nd.sublist (List.take_sublist _ _)
    obtain ⟨oc, od, dV, kV, doc, pm, an, cdv, ct, osl, h1, h2, h3, h4, h5⟩ := fun_at X G gl F (hDs e he).2 nd
    refine ⟨He.fAd K (e.nm, none), oc, od, dV, kV, doc, pm, an, cdv, ct, osl, h1, h2, h3, h4, h5, fun hl => ?_⟩
    have hel : e ∈ l.lams := List.mem_filter.mpr ⟨he, hl⟩
    obtain ⟨c, rfl⟩ := He.codeIn_ref h4
    have ec : He.codeOf K (e.nm, none) = c := He.codeOf_eq h3 rfl
    have tb := TB (e.nm, none) (List.mem_map.mpr ⟨e, hel, rfl⟩)
    refine ⟨c, (He.cT K (e.nm, none)).2, rfl, ?_, List.mem_map.mpr ⟨e, hel, rfl⟩, fun p hp e2 => ?_⟩
    · rw [← ec]
      exact tb
    · obtain ⟨e', he', rfl⟩ := List.mem_map.mp hp
      unfold Lw.ex at ex
      rw [Bool.and_eq_true, decide_eq_true_eq] at ex
      have nd2 := ex.1
      unfold Lw.tf at nd2
      rw [List.map_map] at nd2
      have inj : e' = e := by
        have e2 : (He.cT K (e'.nm, none)).2 = (He.cT K (e.nm, none)).2 := e2
        exact nodup_inj nd2 he' hel e2
      rw [inj]
  · exact He.int_ok X G (fam (by unfold Lw.fa; simp only [List.mem_append, List.mem_map]; exact .inl (.inl (.inr ⟨p, hp, rfl⟩))))
  · exact He.free_ok X G (fam (by unfold Lw.fa; simp only [List.mem_append, List.mem_map]; exact .inl (.inl (.inl (.inr ⟨x, hx, rfl⟩)))))
  · have g1 := He.glo_ok X G (fam (f := .glo x) (by unfold Lw.fa; simp only [List.mem_append, List.mem_map]; exact .inl (.inl (.inl (.inl (.inl (.inr ⟨x, hx, rfl⟩)))))))
    obtain ⟨k1, k2, k3, k4⟩ := He.exc_ok (fam (f := .exc x) (by unfold Lw.fa; simp only [List.mem_append, List.mem_map]; exact .inl (.inl (.inl (.inl (.inr ⟨x, hx, rfl⟩))))))
    exact ⟨He.ga K x, He.veBase, "ValueError", "ValueError.__new__", _, PySem.F.excBase_ValueError, k1, g1, k2, k3, k4⟩
  · have o3 := of_decide_eq_true o3
    rw [o3] at hx
    cases hx
    have nd1 : (psOf l.nst).Nodup := by
      rw [of_decide_eq_true o13]
      decide
    have nd2 : (psOf l.cst).Nodup := by
      rw [of_decide_eq_true o6]
      decide
    obtain ⟨oc, od, dV, kV, doc, pm, an, cdv, ct, osl, h1, h2, h3, h4, h5⟩ := fun_at X G (fam (f := .glo l.nx) (by unfold Lw.fa; simp)) (fns (dOf l.nx l.nst) (by unfold Lw.fn; simp)) o12 nd1
    obtain ⟨oc', od', dV', kV', doc', pm', an', cdv', ct', osl', k1, k2, k3, k4, k5⟩ := fun_at X G (fam (f := .glo l.cx) (by unfold Lw.fa; simp)) (fns (dOf l.cx l.cst) (by unfold Lw.fn; simp)) o5 nd2
    rw [of_decide_eq_true o13] at h5
    rw [of_decide_eq_true o6] at k5
    obtain ⟨r1, r2⟩ := gloB_ok o10
    obtain ⟨r3, r4⟩ := gloB_ok o11
    have N : { N : NmAt K mg l.nx // N.cs = l.cs ∧ N.l1 = l.l1 ∧ N.l2 = l.l2 ∧ N.sc = defScope l.nst } := ⟨{ f := He.fAd K (l.nx, none), oc := oc, od := od, osl := osl, params := defArgs l.nst, body := defBody l.nst, sc := defScope l.nst, dV := dV, kV := kV, doc := doc, pm := pm, an := an, cdv := cdv, ct := ct, gm := h1, kp := h2, lk := h3, hcd := h4, bd := h5, S := scOk_ok o14, cs := l.cs, l1 := l.l1, l2 := l.l2, scope := l.scope, look := of_decide_eq_true o15, nsc := o16, fz := He.free_ok X G (fam (by unfold Lw.fa; simp)), fi := He.free_ok X G (fam (by unfold Lw.fa; simp)), z1 := by have := of_decide_eq_true o18; rw [sizeLine_eq]; omega }, rfl, rfl, rfl, rfl⟩
    refine ⟨{ f := He.fAd K (l.cx, none), oc := oc', od := od', osl := osl', params := defArgs l.cst, body := defBody l.cst, sc := defScope l.cst, dV := dV', kV := kV', doc := doc', pm := pm', an := an', cdv := cdv', ct := ct', gm := k1, kp := k2, lk := k3, hcd := k4, bd := k5, S := scOk_ok o7, rx := l.rx, nx := l.nx, look := of_decide_eq_true o4, sl := ⟨lkp_ok o8, lkp_ok o9⟩, sg := ⟨r1, r2, r3, r4⟩, R := He.ga K l.rx, gR := He.glo_ok X G (fam (by unfold Lw.fa; simp)), N := N.1 }, fun y r hy => ?_⟩
    obtain ⟨b1, b2, b3, b4⟩ := Lw.labels X G N.1 N.2.1 N.2.2.1 N.2.2.2.1 N.2.2.2.2 facts ex o17 o19 hy
    exact ⟨b1, _, b2, b3, b4⟩
end
end Ar
set_option Elab.async false
set_option linter.all false
set_option maxRecDepth 100000
set_option maxHeartbeats 4000000
/-! Ar18: the law, from what our texts say. -/
namespace Ar
open PySem PySem.Spec PyProof.Rows L2 LamX Ht
/-- all but the tables is frozen at the start -/
def w0 (H : Hp) : Wd := ⟨fun b => match H b with
  | some (.tbl _) => none
  | o => o, fun _ => none⟩
theorem w0_at {H : Hp} {b : Addr} {o : HO} (h : (w0 H).F b = some o) : H b = some o ∧ ∀ ps, o ≠ .tbl ps := by
  have h : (match H b with
    | some (.tbl _) => none
    | o => o) = some o := h
  split at h
  · cases h
  · rename_i x nx
    exact ⟨h, fun ps z => nx ps (by rw [h, z])⟩
theorem w0_of {H : Hp} {b : Addr} {o : HO} (h : H b = some o) (n : ∀ ps, o ≠ .tbl ps) : (w0 H).F b = some o := by
  show (match H b with
    | some (.tbl _) => none
    | o => o) = some o
  rw [h]
  cases o <;> first | rfl | exact absurd rfl (n _)
theorem sto0 {T : List (Addr × Str)} {H : Hp} (t : Tabs T H) : StoOk T (w0 H) [] H where
  sub := fun b o e => (w0_at e).1
  obj := fun n o e => by simp at e
  dom := fun n a e => by cases e
  inj := fun n m a e _ => by cases e
  tab := t
  nt := fun b o e => (w0_at e).2
theorem Lw.lawAt {l : Lw} (ok : l.ok = true) {L : PySem.W.OpenLaw} {st : Stmt} {ix k n fuel : Nat} (hix : l.g.defs[ix]? = some ("law" : Str)) (hst : ∃ e ∈ l.Ds, e.nm = ("law" : Str) ∧ e.st = st) (hps : psOf st = [("script" : Str)])
    (pure : ∀ ns : List Int, ns.length ≤ 63 → ∃ s, runs (l.Ds.map (·.d)) fuel l.nm n ix [.scr ns] [] = .ok (.d (.bool true)) s) (w : World) (mg : Str → Option Value) (fa : Addr) (h : Heap) (Y : (He.hookX k l.fa l.fn [] l.tf l.ex).says w h) (G : h.Ns mainGlobals mg) (hmg : mg ("law" : Str) = some (.ref fa)) :
    ∃ K : PySem.W.Frag, K.In h ∧ LawAtS L w K (L2N.CX L.prog w) n 63 "script" mg fa h := by
  obtain ⟨K, KX, c⟩ := Y
  have cd : He.SaysD l.fa l.fn K := congrArg (fun z : He.AlT => z.1) c.t
  have facts : ∀ f ∈ l.fa, f.ok K = true := fun f hf => cd.facts hf
  obtain ⟨e, he, e1, rfl⟩ := hst
  have ok' := ok
  unfold Lw.ok at ok'
  simp only [Bool.and_eq_true] at ok'
  obtain ⟨⟨⟨⟨⟨⟨⟨⟨⟨⟨⟨⟨⟨⟨⟨⟨⟨⟨o1, _⟩, _⟩, _⟩, _⟩, _⟩, _⟩, _⟩, _⟩, _⟩, _⟩, _⟩, _⟩, _⟩, _⟩, _⟩, _⟩, _⟩, _⟩ := ok'
  have hpl : plainP (defArgs e.st) = true := by
    have q := List.all_eq_true.mp o1 e he
    rw [Bool.and_eq_true] at q
    exact q.2
  have gl : (He.Fa.glo "law").ok K = true := facts _ (by rw [← e1]; unfold Lw.fa; simp only [List.mem_append, List.mem_map]; exact .inl (.inl (.inl (.inl (.inl (.inl (.inl (.inr ⟨e, he, rfl⟩))))))))
  obtain ⟨fd, F⟩ := cd.defs (d := dOf e.nm e.st) (by unfold Lw.fn; simp only [List.mem_cons, List.mem_map]; exact .inr (.inr ⟨e, he, rfl⟩))
  rw [e1] at F
  obtain ⟨oc, od, dV, kV, doc, pm, an, cdv, ct, osl, efd, lk, hcd, hD, hK⟩ := F.ex
  have efa : fa = He.fAd K ("law", none) := by
    have z := He.glo_ok KX G gl
    rw [hmg] at z
    cases z
    rfl
  have b := FunD.bindsA (ps := psOf e.st) F fun kV doc pm an cdv ct us hl => bind_plain hpl (by show (psOf e.st).Nodup; rw [hps]; decide) hl
  refine ⟨K, KX, fd, l.tf.map (He.cT K), spOf K (l.T K) mg (runs (l.Ds.map (·.d)) fuel l.nm n ix), fun p hp => ?_, fun p hp => ?_, fun p hp => ?_, fun s u => ?_, fun H a ns hl _ hT hS => ?_, fun base KB GB TB => ?_⟩
  · obtain ⟨q, hq, rfl⟩ := List.mem_map.mp hp
    exact c.empty q hq
  · obtain ⟨q, hq, rfl⟩ := List.mem_map.mp hp
    exact c.out q hq
  · obtain ⟨q, hq, rfl⟩ := List.mem_map.mp hp
    exact PySem.W.codeHd_of_K KX (c.hd q hq)
  · have z := b s [u] (by rw [hps]; rfl)
    rw [hps] at z
    exact z
  · obtain ⟨s, es⟩ := pure ns hl
    have tabs : Tabs (l.T K) H := fun p hp => by
      obtain ⟨e', he', rfl⟩ := List.mem_map.mp hp
      exact TabS.nil (hT _ (List.mem_map.mpr ⟨(e'.nm, none), List.mem_map.mpr ⟨e', he', rfl⟩, rfl⟩))
    refine ⟨w0 H, [], [.scr ns], sto0 tabs, .cons ⟨a, rfl, ?_⟩ .nil, ?_⟩
    · rcases hS with (z | ⟨o, z⟩) | z
      · exact .inl (.inl (w0_of z fun _ q => by cases q))
      · exact .inl (.inr ⟨o, w0_of z fun _ q => by cases q⟩)
      · exact .inr z
    · rw [es]
      intro W' v H' _ _ r
      cases r
      rfl
  · obtain ⟨f', fd', ps', m1, _, _, m2, ⟨oc', od', osl', m3⟩, m4⟩ := Lw.fnAt (P := L.prog) (w := w) (base := base) ok KX G facts (fun d hd => cd.defs hd) c.more (fun p hp => TB _ (List.mem_map.mpr ⟨p, hp, rfl⟩)) fuel n ix "law" hix
    rw [hmg] at m1
    cases m1
    rw [efa] at m3
    have m5 := lk.symm.trans m3
    obtain rfl : fd = fd' := by
      cases m5
      rfl
    rw [efd] at m4
    have m4 : ps' = psOf e.st := m4
    rw [hps] at m4
    rw [m4] at m2
    exact m2
end Ar
set_option Elab.async false
set_option linter.all false
set_option maxRecDepth 100000
/-! The texts of all defs, by named indices. -/
namespace X
open PySem Ar
structure Ix where
  is_whole : Nat := 0
  is_lot : Nat := 0
  is_table : Nat := 0
  is_book : Nat := 0
  need_table : Nat := 0
  arrows_of : Nat := 0
  is_closed : Nat := 0
  are_turns : Nat := 0
  is_bar_of : Nat := 0
  arrows : Nat := 0
  is_bar : Nat := 0
  law_vat : Nat := 0
  law_under : Nat := 0
  law_some : Nat := 0
  law_is_whole : Nat := 0
  law_truly : Nat := 0
  law_drawn_rows : Nat := 0
  law_table : Nat := 0
  law_arrows : Nat := 0
  law_lots : Nat := 0
  law_is_lot : Nat := 0
  law_is_table : Nat := 0
  law_is_book : Nat := 0
  law_is_bar : Nat := 0
  law_spoilt : Nat := 0
  law_known : Nat := 0
  law_book : Nat := 0
  law_a_bar : Nat := 0
  law_right : Nat := 0
  law_written : Nat := 0
  law : Nat := 0
  need_person : Nat := 0
  need_rounds : Nat := 0
  times : Nat := 0
  nothing_done : Nat := 0
  raised : Nat := 0
  after : Nat := 0
  need_two : Nat := 0
  can : Nat := 0
  course : Nat := 0
  law_onto : Nat := 0
  law_step : Nat := 0
  law_still : Nat := 0
  law_walked : Nat := 0
  law_far : Nat := 0
  law_rounds : Nat := 0
  law_course_right : Nat := 0
  law_refused : Nat := 0
  need_number : Nat := 0
  powers : Nat := 0
  index_of : Nat := 0
  shortened : Nat := 0
  calendar_of : Nat := 0
  calendar : Nat := 0
  next_of : Nat := 0
  next_rounds : Nat := 0
  numbered : Nat := 0
  law_goes : Nat := 0
  law_calendar : Nat := 0
  law_has : Nat := 0
  law_far_right : Nat := 0
  law_numbered_right : Nat := 0
  coming_round : Nat := 0
  shared : Nat := 0
  levels_of : Nat := 0
  closure_of : Nat := 0
  lump_of : Nat := 0
  period_of : Nat := 0
  turns_of : Nat := 0
  lumps : Nat := 0
  turns : Nat := 0
  law_lump : Nat := 0
  law_within : Nat := 0
  law_period : Nat := 0
  is_filling : Nat := 0
  full_from : Nat := 0
  bar : Nat := 0
  law_full : Nat := 0
  law_turning : Nat := 0
  with_arrow : Nat := 0
  without_arrow : Nat := 0
  filling_arrows : Nat := 0
  spare_arrows : Nat := 0
  law_every : Nat := 0
  law_fills : Nat := 0
  law_flipped : Nat := 0
  reached_of : Nat := 0
  reached : Nat := 0
  mean_share : Nat := 0
  law_lowest : Nat := 0
  need_like : Nat := 0
  pairs_of : Nat := 0
  same_from : Nat := 0
  first_apart : Nat := 0
  law_near : Nat := 0
  all_lots : Nat := 0
  all_tables : Nat := 0
  roots : Nat := 0
  law_tables : Nat := 0
  law_few : Nat := 0
  is_fact : Nat := 0
  need_facts : Nat := 0
  is_so : Nat := 0
  fitting : Nat := 0
  need_fitting : Nat := 0
  how_many : Nat := 0
  sure_arrows : Nat := 0
  surely : Nat := 0
  law_fact : Nat := 0
  law_keeps : Nat := 0
  need_book : Nat := 0
  is_word : Nat := 0
  product : Nat := 0
  all_products : Nat := 0
  products : Nat := 0
  filling_word : Nat := 0
  ending_word : Nat := 0
  law_words : Nat := 0
  text_of : Nat := 0
  table_text : Nat := 0
  person_of : Nat := 0
  read_table : Nat := 0
  law_told : Nat := 0
  law_text : Nat := 0
  law_reading : Nat := 0
  law_bent : Nat := 0
  is_arrow : Nat := 0
  law_rows : Nat := 0
  law_both_right : Nat := 0
  law_arrows_right : Nat := 0
  wall : Nat := 0
  handed_on : Nat := 0
  word_to : Nat := 0
  law_word_to : Nat := 0
  law_shows : Nat := 0
  law_more : Nat := 0
  law_bad : Nat := 0
  law_call : Nat := 0
  law_led : Nat := 0
  law_later : Nat := 0
  law_back : Nat := 0
  law_renamed : Nat := 0
  law_order : Nat := 0
  law_moved : Nat := 0
  law_renamed_right : Nat := 0
  law_turned_right : Nat := 0
  law_great : Nat := 0
def x_is_whole (f : Ix) : Df := ⟨3, 3, [.ret (.and (.isi (.var 0) "int") (.and (.not (.isi (.var 0) "bool")) (.one (.chain .LtE .LtE (.var 1) (.var 0) (.var 2)))))]⟩
def x_is_lot (f : Ix) : Df := ⟨2, 5, [.ifs (.or (.not (.isi (.var 0) "tuple")) (.one (.not (.bf .all [.comp (.call f.is_whole [.var 4, .int 0, .bin .Sub (.var 1) (.int 1)]) [4] false 0 [.var 0] [] [4]])))) [.ret (.bl false)] [], .ret (.bf .all [.comp (.cmp .Lt (.var 2) (.var 3)) [2, 3] true 3 [.var 0, .slc (.var 0) [.int 1] []] [] [2, 3]])]⟩
def x_is_table (f : Ix) : Df := ⟨1, 2, [.ifs (.or (.not (.isi (.var 0) "tuple")) (.one (.not (.chain .LtE .LtE (.int 1) (.bf .len [.var 0]) (.glob "MOST_PEOPLE" 6))))) [.ret (.bl false)] [], .ret (.bf .all [.comp (.call f.is_lot [.var 1, .bf .len [.var 0]]) [1] false 0 [.var 0] [] [1]])]⟩
def x_is_book (f : Ix) : Df := ⟨1, 2, [.ifs (.or (.not (.isi (.var 0) "tuple")) (.one (.not (.chain .LtE .LtE (.int 1) (.bf .len [.var 0]) (.glob "MOST_TABLES" 3))))) [.ret (.bl false)] [], .ifs (.not (.bf .all [.comp (.call f.is_table [.var 1]) [1] false 0 [.var 0] [] [1]])) [.ret (.bl false)] [], .ret (.and (.cmp .LtE (.bf .len [.idx (.var 0) (.int 0)]) (.glob "MOST_IN_BOOKS" 3)) (.one (.bf .all [.comp (.cmp .Eq (.bf .len [.var 1]) (.bf .len [.idx (.var 0) (.int 0)])) [1] false 0 [.var 0] [] [1]])))]⟩
def x_need_table (f : Ix) : Df := ⟨1, 1, [.ifs (.not (.call f.is_table [.var 0])) [.raise "InvalidTable"] []]⟩
def x_arrows_of (f : Ix) : Df := ⟨1, 4, [.ret (.comp2 (.tup [.var 1, .var 3]) [1, 2] true 2 [.var 0] 3 (.var 2) [] [1, 2, 3])]⟩
def x_is_closed (f : Ix) : Df := ⟨2, 4, [.ifs (.or (.not (.call f.is_lot [.var 1, .bf .len [.var 0]])) (.or (.cmp .Eq (.var 1) (.tup [])) (.one (.cmp .Eq (.bf .len [.var 1]) (.bf .len [.var 0]))))) [.ret (.bl false)] [], .ret (.bf .all [.comp2 (.cmp .In (.var 3) (.var 1)) [2] false 0 [.var 1] 3 (.idx (.var 0) (.var 2)) [] [2, 3]])]⟩
def x_are_turns (f : Ix) : Df := ⟨2, 8, [.ifs (.or (.not (.isi (.var 1) "tuple")) (.one (.not (.chain .LtE .LtE (.int 2) (.bf .len [.var 1]) (.glob "MOST_PEOPLE" 6))))) [.ret (.bl false)] [], .ifs (.not (.bf .all [.comp (.and (.call f.is_lot [.var 3, .bf .len [.var 0]]) (.one (.cmp .NotEq (.var 3) (.tup [])))) [3] false 0 [.var 1] [] [3]])) [.ret (.bl false)] [], .ifs (.cmp .NotEq (.bf .sort [.comp2 (.var 5) [3] false 0 [.var 1] 5 (.var 3) [] [3, 5]]) (.rng false [.bf .len [.var 0]])) [.ret (.bl false)] [], .fors [2, 3] true 2 [.var 1] [.set 4 (.idx (.var 1) (.bin .Mod (.bin .Add (.var 2) (.int 1)) (.bf .len [.var 1]))), .ifs (.not (.bf .all [.comp2 (.cmp .In (.var 7) (.var 4)) [6] false 0 [.var 3] 7 (.idx (.var 0) (.var 6)) [] [6, 7]])) [.ret (.bl false)] []], .ret (.bl true)]⟩
def x_is_bar_of (f : Ix) : Df := ⟨2, 2, [.ifs (.or (.not (.isi (.var 1) "tuple")) (.or (.cmp .NotEq (.bf .len [.var 1]) (.int 2)) (.one (.not (.isi (.idx (.var 1) (.int 0)) "str"))))) [.ret (.bl false)] [], .ifs (.cmp .Eq (.idx (.var 1) (.int 0)) (.str "stuck")) [.ret (.and (.call f.is_whole [.idx (.var 1) (.int 1), .int 0, .bin .Sub (.bf .len [.var 0]) (.int 1)]) (.one (.cmp .Eq (.idx (.var 0) (.idx (.var 1) (.int 1))) (.tup []))))] [], .ifs (.cmp .Eq (.idx (.var 1) (.int 0)) (.str "closed")) [.ret (.call f.is_closed [.var 0, .idx (.var 1) (.int 1)])] [], .ret (.and (.cmp .Eq (.idx (.var 1) (.int 0)) (.str "turns")) (.one (.call f.are_turns [.var 0, .idx (.var 1) (.int 1)])))]⟩
def x_arrows (f : Ix) : Df := ⟨1, 1, [.expr (.call f.need_table [.var 0]), .ret (.call f.arrows_of [.var 0])]⟩
def x_is_bar (f : Ix) : Df := ⟨2, 2, [.expr (.call f.need_table [.var 0]), .ret (.call f.is_bar_of [.var 0, .var 1])]⟩
def x_law_vat (f : Ix) : Df := ⟨2, 3, [.set 2 (.bin .Add (.bin .Mult (.int 7919) (.var 1)) (.int 43)), .ifs (.cmp .Lt (.var 1) (.bf .len [.var 0])) [.set 2 (.bf .abs [.bf .int [.idx (.var 0) (.var 1)]])] [], .ret (.newl [.ite (.cmp .GtE (.var 2) (.bin .Pow (.int 10) (.int 18))) (.var 2) (.int 0), .bin .Add (.bin .Mod (.bf .int [.bin .Add (.bin .Add (.bin .Mult (.var 2) (.int 131071)) (.bin .Mult (.int 8191) (.var 1))) (.int 5)]) (.int 2147483629)) (.int 1)])]⟩
def x_law_under (f : Ix) : Df := ⟨2, 4, [.ifs (.cmp .Gt (.idx (.var 0) (.int 0)) (.int 0)) [.set 2 (.bin .Mod (.bf .int [.idx (.var 0) (.int 0)]) (.var 1)), .setIdx (.var 0) (.int 0) (.bin .FloorDiv (.idx (.var 0) (.int 0)) (.var 1)), .ret (.var 2)] [], .setIdx (.var 0) (.int 1) (.bin .Mod (.bf .int [.bin .Add (.bin .Mult (.idx (.var 0) (.int 1)) (.int 39373)) (.int 101)]) (.int 2147483629)), .set 3 (.bin .Mod (.bf .int [.bin .Mult (.idx (.var 0) (.int 1)) (.bin .Add (.bin .FloorDiv (.idx (.var 0) (.int 1)) (.int 5)) (.int 9))]) (.int 2147483587)), .ret (.bin .Mod (.bf .int [.bin .FloorDiv (.var 3) (.int 32)]) (.var 1))]⟩
def x_law_some (f : Ix) : Df := ⟨2, 2, [.ret (.idx (.var 1) (.call f.law_under [.var 0, .bf .len [.var 1]]))]⟩
def x_law_is_whole (f : Ix) : Df := ⟨3, 3, [.ret (.and (.isi (.var 0) "int") (.and (.not (.isi (.var 0) "bool")) (.one (.chain .LtE .LtE (.var 1) (.var 0) (.var 2)))))]⟩
def x_law_truly (f : Ix) : Df := ⟨2, 2, [.ret (.and (.isi (.var 0) "bool") (.one (.cmp .Eq (.var 0) (.var 1))))]⟩
def x_law_drawn_rows (f : Ix) : Df := ⟨3, 6, [.setOwn 3 [], .fors [4] false 1 [.var 1] [.append 3 (.comp (.var 5) [5] false 1 [.var 1] [.cmp .Eq (.call f.law_under [.var 0, .var 2]) (.int 0)] [5])], .frz 3, .ret (.var 3)]⟩
def x_law_table (f : Ix) : Df := ⟨2, 7, [.set 2 (.call f.law_under [.var 0, .int 4]), .set 3 (.call f.law_some [.var 0, .ite (.cmp .Eq (.var 2) (.int 0)) (.lst [.int 5, .int 9]) (.lst [.int 2, .int 3, .int 3, .int 4])]), .set 4 (.call f.law_drawn_rows [.var 0, .var 1, .var 3]), .ifs (.cmp .Lt (.var 2) (.int 2)) [.set 4 (.comp (.bin .Add (.idx (.var 4) (.var 5)) (.lst [.bin .Mod (.bin .Add (.var 5) (.int 1)) (.var 1)])) [5] false 1 [.var 1] [] [5])] [], .ret (.bf .tuple [.comp (.bf .tuple [.bf .sset [.var 6]]) [6] false 0 [.var 4] [] [6]])]⟩
def x_law_arrows (f : Ix) : Df := ⟨1, 4, [.set 1 (.lst []), .fors [2] false 1 [.bf .len [.var 0]] [.set 1 (.bin .Add (.var 1) (.comp (.tup [.var 2, .var 3]) [3] false 0 [.idx (.var 0) (.var 2)] [] [3]))], .ret (.var 1)]⟩
def x_law_lots (f : Ix) : Df := ⟨1, 4, [.set 1 (.lst [.tup []]), .fors [2] false 1 [.var 0] [.set 1 (.bin .Add (.var 1) (.comp (.bin .Add (.var 3) (.tup [.var 2])) [3] false 0 [.var 1] [] [3]))], .ret (.bf .sort [.var 1])]⟩
def x_law_is_lot (f : Ix) : Df := ⟨2, 3, [.ifs (.or (.not (.isi (.var 0) "tuple")) (.one (.cmp .NotEq (.comp (.var 2) [2] false 0 [.var 0] [.not (.call f.law_is_whole [.var 2, .int 0, .bin .Sub (.var 1) (.int 1)])] [2]) (.lst [])))) [.ret (.bl false)] [], .ret (.cmp .Eq (.bf .list [.var 0]) (.bf .sset [.var 0]))]⟩
def x_law_is_book (f : Ix) : Df := ⟨1, 2, [.ifs (.or (.not (.isi (.var 0) "tuple")) (.one (.cmp .NotIn (.bf .len [.var 0]) (.lst [.int 1, .int 2, .int 3])))) [.ret (.bl false)] [], .ifs (.cmp .NotEq (.comp (.var 1) [1] false 0 [.var 0] [.not (.call f.law_is_table [.var 1])] [1]) (.lst [])) [.ret (.bl false)] [], .ret (.cmp .In (.bf .sset [.comp (.bf .len [.var 1]) [1] false 0 [.var 0] [] [1]]) (.lst [.lst [.int 1], .lst [.int 2], .lst [.int 3]]))]⟩
def x_law_known (f : Ix) : Df := ⟨0, 3, [.setTup [0, 1, 2] (.tup [.tup [.tup [.int 1], .tup [.int 2], .tup [.int 0, .int 1]], .tup [.tup [.int 1], .tup [.int 2], .tup [.int 0]], .tup [.tup [.int 1], .tup [.int 0], .tup [.int 2]]]), .ret (.lst [.var 0, .var 1, .var 2, .tup [.tup [.int 1, .int 2], .tup [.int 3], .tup [.int 3], .tup [.int 0]], .bin .Mult (.tup [.tup [.int 0, .int 1, .int 2]]) (.int 3)])]⟩
def x_law_book (f : Ix) : Df := ⟨2, 3, [.ret (.bf .tuple [.comp (.call f.law_table [.var 0, .var 1]) [2] false 1 [.bin .Add (.int 1) (.call f.law_under [.var 0, .int 3])] [] [2]])]⟩
def x_law_a_bar (f : Ix) : Df := ⟨2, 8, [.set 2 (.call f.law_lots [.bf .len [.var 1]]), .set 3 (.call f.law_under [.var 0, .int 4]), .ifs (.cmp .Eq (.var 3) (.int 0)) [.ret (.tup [.str "stuck", .call f.law_under [.var 0, .bf .len [.var 1]]])] [], .ifs (.cmp .Eq (.var 3) (.int 1)) [.ret (.tup [.str "closed", .call f.law_some [.var 0, .var 2]])] [], .setTup [4, 5] (.tup [.rng false [.bf .len [.var 1]], .bin .Add (.int 2) (.call f.law_under [.var 0, .int 2])]), .ifs (.cmp .Eq (.var 3) (.int 2)) [.ret (.tup [.str "turns", .bf .tuple [.comp (.bf .tuple [.comp (.var 7) [7] false 0 [.var 4] [.cmp .Eq (.bin .Mod (.var 7) (.var 5)) (.var 6)] [7]]) [6] false 1 [.var 5] [] [6]]])] [], .ret (.tup [.str "turns", .tup [.call f.law_some [.var 0, .var 2], .call f.law_some [.var 0, .var 2]]])]⟩
def x_law_right (f : Ix) : Df := ⟨3, 6, [.set 3 (.call f.law_is_table [.var 2]), .ifs (.or (.not (.call f.law_truly [.call f.is_table [.var 2], .var 3])) (.one (.cmp .NotEq (.err (.call f.arrows [.var 2])) (.ite (.var 3) (.str "") (.str "table value"))))) [.ret (.bl false)] [], .ifs (.and (.var 3) (.one (.cmp .NotEq (.call f.arrows [.var 2]) (.call f.law_arrows [.var 2])))) [.ret (.bl false)] [], .set 4 (.call f.law_a_bar [.var 0, .var 1]), .fors [5] false 0 [.lst [.var 4, .call f.law_spoilt [.var 0, .var 4]]] [.ifs (.not (.call f.law_truly [.call f.is_bar [.var 1, .var 5], .call f.law_is_bar [.var 1, .var 5]])) [.ret (.bl false)] []], .ret (.bl true)]⟩
def x_law_written (f : Ix) : Df := ⟨0, 10, [.setTup [0, 1, 2, 3, 4] (.call f.law_known []), .set 5 (.bin .Mult (.tup [.rng true [.int 6]]) (.int 6)), .set 6 (.lst [.non, .tup [], .tup [.tup [.int 1]], .tup [.tup [.int 0, .int 0]], .lst [.tup []], .tup [.tup [.int 1, .int 0], .tup []], .bin .Add (.var 5) (.tup [.tup []]), .tup [.tup [], .tup [.bl true]], .tup [.int 0], .tup [.tup [.neg (.int 1)]]]), .ifs (.or (.cmp .NotEq (.comp (.var 9) [9] false 0 [.var 6] [.cmp .IsNot (.call f.is_table [.var 9]) (.bl false)] [9]) (.lst [])) (.or (.not (.call f.is_table [.var 5])) (.one (.not (.call f.is_table [.tup [.tup []]]))))) [.ret (.bl false)] [], .set 7 (.lst [.non, .tup [], .var 0, .tup [.var 3], .tup [.var 0, .tup [.tup []]], .bin .Mult (.tup [.var 0]) (.int 4), .lst [.var 0]]), .ifs (.or (.cmp .NotEq (.comp (.var 9) [9] false 0 [.var 7] [.cmp .IsNot (.call f.is_book [.var 9]) (.bl false)] [9]) (.lst [])) (.one (.cmp .IsNot (.call f.is_book [.tup [.var 0, .var 1, .var 4]]) (.bl true)))) [.ret (.bl false)] [], .set 8 (.lst [.call f.is_bar [.var 2, .tup [.str "closed", .tup [.int 2]]], .call f.is_bar [.var 1, .tup [.str "turns", .tup [.tup [.int 0], .tup [.int 1], .tup [.int 2]]]], .call f.is_bar [.var 3, .tup [.str "turns", .tup [.tup [.int 0], .tup [.int 1, .int 2], .tup [.int 3]]]]]), .ifs (.or (.cmp .NotEq (.var 8) (.bin .Mult (.lst [.bl true]) (.int 3))) (.or (.not (.call f.is_bar [.tup [.tup [], .tup [.int 0]], .tup [.str "stuck", .int 0]])) (.one (.call f.is_bar [.tup [.tup [], .tup [.int 0]], .tup [.str "stuck", .int 1]])))) [.ret (.bl false)] [], .set 6 (.lst [.tup [.str "closed", .tup [.int 0, .int 1, .int 2]], .tup [.str "closed", .tup []], .tup [.str "turns", .tup [.tup [.int 0, .int 1], .tup [.int 2]]], .tup [.str "stuck", .int 0], .non, .tup [.str "closed"], .tup [.str "turns", .tup []]]), .set 6 (.bin .Add (.var 6) (.lst [.tup [.str "turns", .tup [.tup [.int 0, .int 1, .int 2]]], .tup [.str "turns", .tup [.tup [.int 0], .tup [.int 1]]], .tup [.str "turns", .tup [.tup [.int 0, .int 1], .tup [.int 1, .int 2]]], .tup [.str "stuck", .bl true], .tup [.str "still", .int 0]])), .ret (.cmp .Eq (.comp (.var 9) [9] false 0 [.var 6] [.cmp .IsNot (.call f.is_bar [.var 0, .var 9]) (.bl false)] [9]) (.lst []))]⟩
def x_law1 (f : Ix) : Df := ⟨1, 8, [.fors [1] false 1 [.bf .max2 [.int 4, .bf .min2 [.int 9, .bf .len [.var 0]]]] [.set 2 (.call f.law_vat [.var 0, .var 1]), .set 3 (.bin .Add (.int 1) (.call f.law_under [.var 2, .int 5])), .setPar [4, 5] [.call f.law_table [.var 2, .var 3], .call f.law_book [.var 2, .bin .Add (.int 1) (.call f.law_under [.var 2, .int 4])]], .set 6 (.var 4), .fors [7] false 1 [.int 12] [.ifs (.not (.call f.law_right [.var 2, .var 4, .var 6])) [.ret (.bl false)] [], .ifs (.not (.call f.law_truly [.call f.is_book [.var 5], .call f.law_is_book [.var 5]])) [.ret (.bl false)] [], .setPar [6, 5] [.call f.law_spoilt [.var 2, .ite (.cmp .Eq (.bin .Mod (.var 7) (.int 3)) (.int 0)) (.var 4) (.var 6)], .call f.law_spoilt [.var 2, .var 5]]], .ifs (.cmp .NotEq (.err (.call f.is_bar [.non, .non])) (.str "table value")) [.ret (.bl false)] []], .ret (.call f.law_written [])]⟩
def x_need_person (f : Ix) : Df := ⟨2, 2, [.ifs (.not (.call f.is_whole [.var 0, .int 0, .bin .Sub (.var 1) (.int 1)])) [.raise "InvalidPerson"] []]⟩
def x_need_rounds (f : Ix) : Df := ⟨2, 2, [.ifs (.not (.call f.is_whole [.var 0, .int 0, .var 1])) [.raise "InvalidRounds"] []]⟩
def x_times (f : Ix) : Df := ⟨2, 5, [.ret (.bf .tuple [.comp (.bf .tuple [.bf .sset [.comp2 (.var 4) [3] false 0 [.var 2] 4 (.idx (.var 1) (.var 3)) [] [3, 4]]]) [2] false 0 [.var 0] [] [2]])]⟩
def x_nothing_done (f : Ix) : Df := ⟨1, 2, [.ret (.bf .tuple [.comp (.tup [.var 1]) [1] false 1 [.var 0] [] [1]])]⟩
def x_raised (f : Ix) : Df := ⟨2, 3, [.set 2 (.call f.nothing_done [.bf .len [.var 0]]), .whil (.cmp .Gt (.var 1) (.int 0)) [.ifs (.cmp .Eq (.bin .Mod (.var 1) (.int 2)) (.int 1)) [.set 2 (.call f.times [.var 2, .var 0])] [], .setPar [0, 1] [.call f.times [.var 0, .var 0], .bin .FloorDiv (.var 1) (.int 2)]], .ret (.var 2)]⟩
def x_after (f : Ix) : Df := ⟨2, 2, [.expr (.call f.need_table [.var 0]), .expr (.call f.need_rounds [.var 1, .glob "FAR" 1000000000000000000000000000000]), .ret (.call f.raised [.var 0, .var 1])]⟩
def x_need_two (f : Ix) : Df := ⟨3, 3, [.expr (.call f.need_table [.var 0]), .expr (.call f.need_person [.var 1, .bf .len [.var 0]]), .expr (.call f.need_person [.var 2, .bf .len [.var 0]])]⟩
def x_can (f : Ix) : Df := ⟨4, 4, [.expr (.call f.need_two [.var 0, .var 1, .var 2]), .expr (.call f.need_rounds [.var 3, .glob "FAR" 1000000000000000000000000000000]), .ret (.cmp .In (.var 2) (.idx (.call f.raised [.var 0, .var 3]) (.var 1)))]⟩
def x_course (f : Ix) : Df := ⟨4, 9, [.expr (.call f.need_two [.var 0, .var 1, .var 2]), .expr (.call f.need_rounds [.var 3, .glob "LONGEST" 90]), .setOwn 4 [.call f.nothing_done [.bf .len [.var 0]]], .fors [5] false 1 [.var 3] [.append 4 (.call f.times [.var 0, .oidx 4 (.neg (.int 1))])], .frz 4, .ifs (.cmp .NotIn (.var 2) (.idx (.idx (.var 4) (.neg (.int 1))) (.var 1))) [.ret (.non)] [], .set 6 (.tup [.var 1]), .fors [7] false 1 [.bin .Sub (.var 3) (.int 1), .neg (.int 1), .neg (.int 1)] [.set 6 (.bin .Add (.var 6) (.tup [.idx (.comp (.var 8) [8] false 0 [.idx (.var 0) (.idx (.var 6) (.neg (.int 1)))] [.cmp .In (.var 2) (.idx (.idx (.var 4) (.var 7)) (.var 8))] [8]) (.int 0)]))], .ret (.var 6)]⟩
def x_law_onto (f : Ix) : Df := ⟨2, 5, [.setOwn 2 [], .fors [3] false 1 [.bf .len [.var 0]] [.ifs (.cmp .NotEq (.comp (.int 1) [4] false 0 [.var 1] [.cmp .In (.var 3) (.idx (.var 0) (.var 4))] [4]) (.lst [])) [.append 2 (.var 3)] []], .frz 2, .ret (.bf .tuple [.var 2])]⟩
def x_law_step (f : Ix) : Df := ⟨2, 4, [.set 2 (.tup []), .fors [3] false 0 [.var 0] [.set 2 (.bin .Add (.var 2) (.tup [.call f.law_onto [.var 1, .var 3]]))], .ret (.var 2)]⟩
def x_law_still (f : Ix) : Df := ⟨1, 2, [.ret (.bf .tuple [.comp (.tup [.var 1]) [1] false 1 [.var 0] [] [1]])]⟩
def x_law_walked (f : Ix) : Df := ⟨2, 4, [.setOwn 2 [.call f.law_still [.bf .len [.var 0]]], .fors [3] false 1 [.var 1] [.append 2 (.call f.law_step [.var 0, .oidx 2 (.neg (.int 1))])], .frz 2, .ret (.var 2)]⟩
def x_law_far (f : Ix) : Df := ⟨2, 4, [.ifs (.cmp .Eq (.var 1) (.int 0)) [.ret (.call f.law_still [.bf .len [.var 0]])] [], .set 2 (.call f.law_far [.var 0, .bin .FloorDiv (.var 1) (.int 2)]), .set 3 (.call f.law_step [.var 2, .var 2]), .ret (.ite (.cmp .Eq (.bin .Mod (.var 1) (.int 2)) (.int 1)) (.call f.law_step [.var 3, .var 0]) (.var 3))]⟩
def x_law_rounds (f : Ix) : Df := ⟨1, 2, [.set 1 (.lst [.call f.law_under [.var 0, .int 12], .call f.law_under [.var 0, .int 50]]), .set 1 (.bin .Add (.var 1) (.lst [.bin .Sub (.bin .Pow (.int 10) (.int 30)) (.call f.law_under [.var 0, .int 1000]), .bin .Add (.bin .Pow (.int 10) (.int 15)) (.call f.law_under [.var 0, .int 99])])), .ret (.call f.law_some [.var 0, .var 1])]⟩
def x_law_course_right (f : Ix) : Df := ⟨5, 7, [.ifs (.cmp .Is (.var 4) (.non)) [.ret (.cmp .NotIn (.var 2) (.idx (.idx (.call f.law_walked [.var 0, .var 3]) (.neg (.int 1))) (.var 1)))] [], .ifs (.or (.not (.isi (.var 4) "tuple")) (.or (.cmp .NotEq (.bf .len [.var 4]) (.bin .Add (.var 3) (.int 1))) (.one (.cmp .NotEq (.tup [.idx (.var 4) (.int 0), .idx (.var 4) (.neg (.int 1))]) (.tup [.var 1, .var 2]))))) [.ret (.bl false)] [], .ret (.cmp .Eq (.comp (.int 1) [5, 6] true 3 [.var 4, .slc (.var 4) [.int 1] []] [.or (.cmp .NotIn (.var 6) (.idx (.var 0) (.var 5))) (.one (.isi (.var 6) "bool"))] [5, 6]) (.lst []))]⟩
def x_law_refused (f : Ix) : Df := ⟨1, 4, [.set 1 (.bf .len [.var 0]), .fors [2] false 0 [.lst [.neg (.int 1), .bl true, .non, .bin .Add (.bin .Pow (.int 10) (.int 30)) (.int 1), .str "1"]] [.setOwn 3 [.err (.call f.after [.var 0, .var 2])], .append 3 (.err (.call f.can [.var 0, .int 0, .int 0, .var 2])), .frz 3, .ifs (.cmp .NotEq (.var 3) (.bin .Mult (.lst [.str "rounds value"]) (.int 2))) [.ret (.bl false)] []], .fors [2] false 0 [.lst [.neg (.int 1), .var 1, .bl true, .non]] [.setOwn 3 [.err (.call f.can [.var 0, .var 2, .non, .non])], .append 3 (.err (.call f.course [.var 0, .int 0, .var 2, .non])), .frz 3, .ifs (.cmp .NotEq (.var 3) (.bin .Mult (.lst [.str "person value"]) (.int 2))) [.ret (.bl false)] []], .ifs (.cmp .NotEq (.err (.call f.course [.var 0, .int 0, .int 0, .int 91])) (.str "rounds value")) [.ret (.bl false)] [], .ret (.cmp .Eq (.err (.call f.after [.bin .Add (.var 0) (.tup [.int 5]), .non])) (.str "table value"))]⟩
def x_law2 (f : Ix) : Df := ⟨1, 16, [.fors [1] false 1 [.bf .max2 [.int 5, .bf .min2 [.int 11, .bf .len [.var 0]]]] [.set 2 (.call f.law_vat [.var 0, .var 1]), .set 3 (.call f.law_table [.var 2, .bin .Add (.int 1) (.call f.law_under [.var 2, .int 6])]), .set 4 (.call f.law_walked [.var 3, .int 30]), .ifs (.cmp .NotEq (.comp (.call f.after [.var 3, .var 6]) [6] false 1 [.int 31] [] [6]) (.var 4)) [.ret (.bl false)] [], .fors [5] false 1 [.int 6] [.setPar [6, 7, 8] [.call f.law_rounds [.var 2], .call f.law_under [.var 2, .bf .len [.var 3]], .call f.law_under [.var 2, .bf .len [.var 3]]], .set 9 (.call f.law_far [.var 3, .var 6]), .ifs (.or (.cmp .NotEq (.call f.after [.var 3, .var 6]) (.var 9)) (.one (.not (.call f.law_truly [.call f.can [.var 3, .var 7, .var 8, .var 6], .cmp .In (.var 8) (.idx (.var 9) (.var 7))])))) [.ret (.bl false)] [], .set 10 (.call f.law_some [.var 2, .lst [.call f.law_under [.var 2, .int 9], .call f.law_under [.var 2, .int 91]]]), .ifs (.not (.call f.law_course_right [.var 3, .var 7, .var 8, .var 10, .call f.course [.var 3, .var 7, .var 8, .var 10]])) [.ret (.bl false)] []], .ifs (.not (.call f.law_refused [.var 3])) [.ret (.bl false)] []], .setTup [11, 12, 13, 14, 15] (.call f.law_known []), .ifs (.or (.cmp .NotEq (.call f.after [.var 11, .int 2]) (.tup [.tup [.int 2], .tup [.int 0, .int 1], .tup [.int 1, .int 2]])) (.or (.cmp .NotEq (.call f.after [.var 12, .bin .Pow (.int 10) (.int 30)]) (.var 12)) (.one (.cmp .NotEq (.call f.after [.var 11, .int 0]) (.tup [.tup [.int 0], .tup [.int 1], .tup [.int 2]]))))) [.ret (.bl false)] [], .ifs (.cmp .NotEq (.comp (.call f.can [.var 11, .int 0, .int 0, .var 6]) [6] false 0 [.lst [.int 0, .int 1, .int 2, .int 3, .int 4, .int 5, .bin .Pow (.int 10) (.int 30)]] [] [6]) (.lst [.bl true, .bl false, .bl false, .bl true, .bl false, .bl true, .bl true])) [.ret (.bl false)] [], .ifs (.or (.cmp .IsNot (.call f.can [.var 12, .int 0, .int 2, .int 2]) (.bl true)) (.one (.cmp .IsNot (.call f.can [.var 12, .int 2, .int 0, .int 2]) (.bl false)))) [.ret (.bl false)] [], .ret (.cmp .Eq (.lst [.call f.course [.var 11, .int 0, .int 2, .int 4], .call f.course [.var 11, .int 0, .int 0, .int 1], .call f.course [.var 12, .int 1, .int 1, .int 0]]) (.lst [.tup [.int 0, .int 1, .int 2, .int 1, .int 2], .non, .tup [.int 1]]))]⟩
def x_need_number (f : Ix) : Df := ⟨3, 3, [.ifs (.not (.call f.is_whole [.var 0, .var 1, .var 2])) [.raise "InvalidNumber"] []]⟩
def x_powers (f : Ix) : Df := ⟨1, 3, [.set 1 (.lst [.call f.nothing_done [.bf .len [.var 0]]]), .whil (.bl true) [.set 2 (.call f.times [.idx (.var 1) (.neg (.int 1)), .var 0]), .ifs (.cmp .In (.var 2) (.var 1)) [.ret (.tup [.var 1, .meth .index (.var 1) [.var 2]])] [], .set 1 (.bin .Add (.var 1) (.lst [.var 2]))]]⟩
def x_index_of (f : Ix) : Df := ⟨3, 3, [.ret (.ite (.cmp .Lt (.var 2) (.bf .len [.var 0])) (.var 2) (.bin .Add (.var 1) (.bin .Mod (.bin .Sub (.var 2) (.var 1)) (.bin .Sub (.bf .len [.var 0]) (.var 1)))))]⟩
def x_shortened (f : Ix) : Df := ⟨2, 9, [.set 2 (.bin .Sub (.bf .len [.var 0]) (.var 1)), .set 3 (.comp (.var 7) [7] false 1 [.int 1, .bin .Add (.var 2) (.int 1)] [.cmp .Eq (.bin .Mod (.var 2) (.var 7)) (.int 0)] [7]), .set 4 (.comp (.var 7) [7] false 0 [.var 3] [.bf .all [.comp (.cmp .Eq (.idx (.var 0) (.bin .Add (.var 1) (.var 8))) (.idx (.var 0) (.bin .Add (.var 1) (.bin .Mod (.var 8) (.var 7))))) [8] false 1 [.var 2] [] [8]]] [7]), .setPar [5, 6] [.idx (.var 4) (.int 0), .var 1], .whil (.and (.cmp .Gt (.var 6) (.int 0)) (.one (.cmp .Eq (.idx (.var 0) (.bin .Sub (.var 6) (.int 1))) (.idx (.var 0) (.call f.index_of [.var 0, .var 1, .bin .Add (.bin .Sub (.var 6) (.int 1)) (.var 5)]))))) [.set 6 (.bin .Sub (.var 6) (.int 1))], .ret (.tup [.var 6, .var 5])]⟩
def x_calendar_of (f : Ix) : Df := ⟨3, 12, [.setTup [3, 4] (.call f.powers [.var 0]), .set 5 (.comp (.cmp .In (.var 2) (.idx (.var 10) (.var 1))) [10] false 0 [.var 3] [] [10]), .setTup [6, 7] (.call f.shortened [.var 5, .var 4]), .set 8 (.bf .tuple [.comp (.var 11) [11] false 1 [.var 6] [.idx (.var 5) (.var 11)] [11]]), .set 9 (.comp (.bin .Mod (.var 11) (.var 7)) [11] false 1 [.var 6, .bin .Add (.var 6) (.var 7)] [.idx (.var 5) (.call f.index_of [.var 5, .var 4, .var 11])] [11]), .ret (.tup [.var 8, .var 6, .var 7, .bf .tuple [.bf .sort [.var 9]]])]⟩
def x_calendar (f : Ix) : Df := ⟨3, 3, [.expr (.call f.need_two [.var 0, .var 1, .var 2]), .ret (.call f.calendar_of [.var 0, .var 1, .var 2])]⟩
def x_next_of (f : Ix) : Df := ⟨2, 10, [.setTup [2, 3, 4, 5] (.var 0), .set 6 (.comp (.var 9) [9] false 0 [.var 2] [.cmp .GtE (.var 9) (.var 1)] [9]), .ifs (.cmp .NotEq (.var 6) (.lst [])) [.ret (.idx (.var 6) (.int 0))] [], .set 7 (.bf .max2 [.var 3, .var 1]), .set 8 (.comp (.var 9) [9] false 1 [.var 7, .bin .Add (.var 7) (.var 4)] [.cmp .In (.bin .Mod (.var 9) (.var 4)) (.var 5)] [9]), .ret (.ite (.cmp .NotEq (.var 8) (.lst [])) (.idx (.var 8) (.int 0)) (.non))]⟩
def x_next_rounds (f : Ix) : Df := ⟨4, 4, [.expr (.call f.need_two [.var 0, .var 1, .var 2]), .expr (.call f.need_rounds [.var 3, .glob "FAR" 1000000000000000000000000000000]), .ret (.call f.next_of [.call f.calendar_of [.var 0, .var 1, .var 2], .var 3])]⟩
def x_numbered (f : Ix) : Df := ⟨4, 10, [.expr (.call f.need_two [.var 0, .var 1, .var 2]), .expr (.call f.need_number [.var 3, .int 0, .glob "FAR" 1000000000000000000000000000000]), .setTup [4, 5, 6, 7] (.call f.calendar_of [.var 0, .var 1, .var 2]), .ifs (.cmp .Lt (.var 3) (.bf .len [.var 4])) [.ret (.idx (.var 4) (.var 3))] [], .ifs (.cmp .Eq (.var 7) (.tup [])) [.ret (.non)] [], .set 3 (.bin .Sub (.var 3) (.bf .len [.var 4])), .set 8 (.comp (.var 9) [9] false 1 [.var 5, .bin .Add (.var 5) (.var 6)] [.cmp .In (.bin .Mod (.var 9) (.var 6)) (.var 7)] [9]), .ret (.bin .Add (.idx (.var 8) (.bin .Mod (.var 3) (.bf .len [.var 8]))) (.bin .Mult (.var 6) (.bin .FloorDiv (.var 3) (.bf .len [.var 8]))))]⟩
def x_law_goes (f : Ix) : Df := ⟨2, 3, [.ret (.cmp .Eq (.comp (.var 2) [2] false 1 [.int 40, .bin .Sub (.int 120) (.var 1)] [.cmp .NotEq (.idx (.var 0) (.var 2)) (.idx (.var 0) (.bin .Add (.var 2) (.var 1)))] [2]) (.lst []))]⟩
def x_law_calendar (f : Ix) : Df := ⟨1, 8, [.set 1 (.idx (.comp (.var 7) [7] false 1 [.int 1, .int 31] [.call f.law_goes [.var 0, .var 7]] [7]) (.int 0)), .set 2 (.comp (.var 6) [6] false 1 [.int 60] [.cmp .NotEq (.idx (.var 0) (.var 6)) (.idx (.var 0) (.bin .Add (.var 6) (.var 1)))] [6]), .set 3 (.ite (.cmp .NotEq (.var 2) (.lst [])) (.bin .Add (.idx (.var 2) (.neg (.int 1))) (.int 1)) (.int 0)), .set 4 (.bf .tuple [.comp (.var 6) [6] false 1 [.var 3] [.idx (.var 0) (.var 6)] [6]]), .set 5 (.comp (.bin .Mod (.var 6) (.var 1)) [6] false 1 [.var 3, .bin .Add (.var 3) (.var 1)] [.idx (.var 0) (.var 6)] [6]), .ret (.tup [.var 4, .var 3, .var 1, .bf .tuple [.bf .sort [.var 5]]])]⟩
def x_law_has (f : Ix) : Df := ⟨2, 2, [.ret (.or (.cmp .In (.var 1) (.idx (.var 0) (.int 0))) (.one (.and (.cmp .GtE (.var 1) (.idx (.var 0) (.int 1))) (.one (.cmp .In (.bin .Mod (.var 1) (.idx (.var 0) (.int 2))) (.idx (.var 0) (.int 3)))))))]⟩
def x_law_far_right (f : Ix) : Df := ⟨5, 9, [.fors [5] false 1 [.int 4] [.set 6 (.call f.law_rounds [.var 0]), .set 7 (.call f.next_rounds [.var 1, .var 2, .var 3, .var 6]), .ifs (.cmp .Is (.var 7) (.non)) [.ifs (.or (.cmp .NotEq (.idx (.var 4) (.int 3)) (.tup [])) (.one (.cmp .NotEq (.comp (.var 8) [8] false 0 [.idx (.var 4) (.int 0)] [.cmp .GtE (.var 8) (.var 6)] [8]) (.lst [])))) [.ret (.bl false)] []] [.ifs (.or (.cmp .Lt (.var 7) (.var 6)) (.one (.not (.call f.law_has [.var 4, .var 7])))) [.ret (.bl false)] [.ifs (.or (.cmp .NotEq (.comp (.var 8) [8] false 1 [.var 6, .bf .min2 [.var 7, .bin .Add (.var 6) (.int 130)]] [.call f.law_has [.var 4, .var 8]] [8]) (.lst [])) (.one (.cmp .Gt (.var 7) (.bin .Add (.var 6) (.int 120))))) [.ret (.bl false)] []]]], .ret (.bl true)]⟩
def x_law_numbered_right (f : Ix) : Df := ⟨4, 9, [.set 4 (.slc (.comp (.var 8) [8] false 1 [.int 100] [.call f.law_has [.var 3, .var 8]] [8]) [] [.int 12]), .ifs (.cmp .NotEq (.comp (.call f.numbered [.var 0, .var 1, .var 2, .var 8]) [8] false 1 [.bf .len [.var 4]] [] [8]) (.var 4)) [.ret (.bl false)] [], .set 5 (.call f.numbered [.var 0, .var 1, .var 2, .bin .Pow (.int 10) (.int 30)]), .ifs (.cmp .Eq (.idx (.var 3) (.int 3)) (.tup [])) [.ret (.and (.cmp .Is (.var 5) (.non)) (.one (.cmp .Is (.call f.numbered [.var 0, .var 1, .var 2, .bf .len [.var 4]]) (.non))))] [], .set 6 (.bin .Sub (.bin .Pow (.int 10) (.int 30)) (.bf .len [.idx (.var 3) (.int 0)])), .set 7 (.comp (.var 8) [8] false 1 [.idx (.var 3) (.int 1), .bin .Add (.idx (.var 3) (.int 1)) (.idx (.var 3) (.int 2))] [.cmp .In (.bin .Mod (.var 8) (.idx (.var 3) (.int 2))) (.idx (.var 3) (.int 3))] [8]), .ret (.cmp .Eq (.var 5) (.bin .Add (.idx (.var 7) (.bin .Mod (.var 6) (.bf .len [.var 7]))) (.bin .Mult (.idx (.var 3) (.int 2)) (.bin .FloorDiv (.var 6) (.bf .len [.var 7])))))]⟩
def x_law3 (f : Ix) : Df := ⟨1, 18, [.fors [1] false 1 [.bf .max2 [.int 4, .bf .min2 [.int 9, .bf .len [.var 0]]]] [.set 2 (.call f.law_vat [.var 0, .var 1]), .set 3 (.call f.law_table [.var 2, .bin .Add (.int 1) (.call f.law_under [.var 2, .int 6])]), .set 4 (.call f.law_walked [.var 3, .int 119]), .fors [5] false 1 [.int 5] [.setTup [6, 7] (.tup [.call f.law_under [.var 2, .bf .len [.var 3]], .call f.law_under [.var 2, .bf .len [.var 3]]]), .set 8 (.call f.law_calendar [.comp (.cmp .In (.var 7) (.idx (.var 17) (.var 6))) [17] false 0 [.var 4] [] [17]]), .ifs (.cmp .NotEq (.call f.calendar [.var 3, .var 6, .var 7]) (.var 8)) [.ret (.bl false)] [], .ifs (.or (.not (.call f.law_far_right [.var 2, .var 3, .var 6, .var 7, .var 8])) (.one (.not (.call f.law_numbered_right [.var 3, .var 6, .var 7, .var 8])))) [.ret (.bl false)] []], .fors [9] false 0 [.lst [.neg (.int 1), .bl true, .non, .bin .Add (.bin .Pow (.int 10) (.int 30)) (.int 1)]] [.ifs (.cmp .NotEq (.err (.call f.next_rounds [.var 3, .int 0, .int 0, .var 9])) (.str "rounds value")) [.ret (.bl false)] [], .ifs (.cmp .NotEq (.err (.call f.numbered [.var 3, .int 0, .int 0, .var 9])) (.str "number value")) [.ret (.bl false)] []], .set 10 (.lst [.err (.call f.calendar [.var 3, .bf .len [.var 3], .non]), .err (.call f.numbered [.var 3, .int 0, .bl true, .non])]), .ifs (.or (.cmp .NotEq (.var 10) (.bin .Mult (.lst [.str "person value"]) (.int 2))) (.one (.cmp .NotEq (.err (.call f.calendar [.int 5, .non, .non])) (.str "table value")))) [.ret (.bl false)] []], .setTup [11, 12, 13, 14, 15] (.call f.law_known []), .ifs (.cmp .NotEq (.lst [.call f.calendar [.var 11, .int 0, .int 0], .call f.calendar [.var 12, .int 0, .int 2], .call f.calendar [.var 13, .int 0, .int 2]]) (.lst [.tup [.tup [.int 0, .int 3], .int 5, .int 1, .tup [.int 0]], .tup [.tup [], .int 0, .int 3, .tup [.int 2]], .tup [.tup [], .int 0, .int 1, .tup []]])) [.ret (.bl false)] [], .ifs (.cmp .NotEq (.lst [.call f.next_rounds [.var 11, .int 0, .int 0, .int 1], .call f.next_rounds [.var 11, .int 0, .int 0, .int 4], .call f.next_rounds [.var 13, .int 0, .int 2, .int 0], .call f.calendar [.var 14, .int 0, .int 3]]) (.lst [.int 3, .int 5, .non, .tup [.tup [], .int 0, .int 3, .tup [.int 2]]])) [.ret (.bl false)] [], .set 16 (.tup [.tup [.int 1], .tup [.int 0, .int 2], .tup [.int 3], .tup [.int 4], .tup [.int 2]]), .ifs (.or (.cmp .NotEq (.call f.calendar [.var 16, .int 0, .int 2]) (.tup [.tup [.int 2], .int 4, .int 1, .tup [.int 0]])) (.one (.cmp .NotEq (.call f.calendar [.tup [.tup [.int 1], .tup []], .int 0, .int 1]) (.tup [.tup [.int 1], .int 2, .int 1, .tup []])))) [.ret (.bl false)] [], .ret (.cmp .Eq (.lst [.call f.numbered [.var 11, .int 0, .int 0, .int 1], .call f.numbered [.var 11, .int 0, .int 0, .bin .Pow (.int 10) (.int 30)], .call f.numbered [.var 12, .int 0, .int 2, .bin .Pow (.int 10) (.int 30)]]) (.lst [.int 3, .bin .Add (.bin .Pow (.int 10) (.int 30)) (.int 3), .bin .Add (.bin .Mult (.int 3) (.bin .Pow (.int 10) (.int 30))) (.int 2)]))]⟩
def x_coming_round (f : Ix) : Df := ⟨1, 3, [.expr (.call f.need_table [.var 0]), .setTup [1, 2] (.call f.powers [.var 0]), .ret (.tup [.var 2, .bin .Sub (.bf .len [.var 1]) (.var 2)])]⟩
def x_law4 (f : Ix) : Df := ⟨1, 18, [.fors [1] false 1 [.bf .max2 [.int 6, .bf .min2 [.int 14, .bf .len [.var 0]]]] [.set 2 (.call f.law_vat [.var 0, .var 1]), .set 3 (.call f.law_table [.var 2, .bin .Add (.int 1) (.call f.law_under [.var 2, .int 6])]), .set 4 (.call f.law_walked [.var 3, .int 60]), .setTup [5, 6] (.call f.coming_round [.var 3]), .set 7 (.idx (.comp (.var 17) [17] false 1 [.int 1, .int 60] [.cmp .In (.idx (.var 4) (.var 17)) (.slc (.var 4) [] [.var 17])] [17]) (.int 0)), .ifs (.cmp .NotEq (.tup [.var 5, .var 6]) (.tup [.meth .index (.var 4) [.idx (.var 4) (.var 7)], .bin .Sub (.var 7) (.meth .index (.var 4) [.idx (.var 4) (.var 7)])])) [.ret (.bl false)] [], .set 8 (.bin .Sub (.bin .Pow (.int 10) (.int 30)) (.call f.law_under [.var 2, .int 1000])), .ifs (.cmp .NotEq (.call f.after [.var 3, .var 8]) (.idx (.var 4) (.bin .Add (.var 5) (.bin .Mod (.bin .Sub (.var 8) (.var 5)) (.var 6))))) [.ret (.bl false)] [], .ifs (.cmp .NotEq (.err (.call f.coming_round [.bf .list [.var 3]])) (.str "table value")) [.ret (.bl false)] []], .setTup [9, 10, 11, 12, 13] (.call f.law_known []), .set 14 (.lst [.var 9, .var 10, .var 11, .var 12, .var 13, .tup [.tup []], .tup [.tup [.int 0]]]), .ifs (.cmp .NotEq (.comp (.call f.coming_round [.var 3]) [3] false 0 [.var 14] [] [3]) (.lst [.tup [.int 5, .int 1], .tup [.int 0, .int 3], .tup [.int 0, .int 2], .tup [.int 1, .int 3], .tup [.int 1, .int 1], .tup [.int 1, .int 1], .tup [.int 0, .int 1]])) [.ret (.bl false)] [], .set 15 (.tup [.tup [.int 1], .tup [.int 2], .tup [.int 3], .tup [.int 4], .tup [.int 5], .tup [.int 0, .int 1]]), .set 16 (.tup [.tup [.int 1], .tup [.int 2], .tup [.int 0], .tup [.int 4], .tup [.int 3], .tup []]), .ret (.cmp .Eq (.lst [.call f.coming_round [.var 15], .call f.coming_round [.var 16], .call f.coming_round [.tup [.tup [.int 1], .tup [.int 2], .tup [.int 3], .tup []]]]) (.lst [.tup [.int 26, .int 1], .tup [.int 1, .int 6], .tup [.int 4, .int 1]]))]⟩
def x_shared (f : Ix) : Df := ⟨2, 2, [.whil (.cmp .Gt (.var 1) (.int 0)) [.setPar [0, 1] [.var 1, .bin .Mod (.var 0) (.var 1)]], .ret (.var 0)]⟩
def x_closure_of (f : Ix) : Df := ⟨2, 2, [.ret (.bf .tuple [.bf .sort [.call f.levels_of [.var 0, .var 1, .rng true [.bf .len [.var 0]]]]])]⟩
def x_lump_of (f : Ix) : Df := ⟨2, 3, [.ret (.bf .tuple [.comp (.var 2) [2] false 0 [.call f.closure_of [.var 0, .var 1]] [.cmp .In (.var 1) (.call f.closure_of [.var 0, .var 2])] [2]])]⟩
def x_period_of (f : Ix) : Df := ⟨2, 7, [.set 2 (.call f.lump_of [.var 0, .var 1]), .setPar [3, 4] [.call f.levels_of [.var 0, .var 1, .var 2], .int 0], .fors [5] false 0 [.var 2] [.fors [6] false 0 [.idx (.var 0) (.var 5)] [.ifs (.cmp .In (.var 6) (.var 2)) [.set 4 (.call f.shared [.var 4, .bf .abs [.bin .Sub (.bin .Add (.idx (.var 3) (.var 5)) (.int 1)) (.idx (.var 3) (.var 6))]])] []]], .ret (.var 4)]⟩
def x_turns_of (f : Ix) : Df := ⟨2, 7, [.setTup [2, 3] (.tup [.call f.period_of [.var 0, .var 1], .call f.lump_of [.var 0, .var 1]]), .set 4 (.call f.levels_of [.var 0, .var 1, .var 3]), .ret (.bf .tuple [.comp (.bf .tuple [.comp (.var 6) [6] false 0 [.var 3] [.cmp .Eq (.bin .Mod (.idx (.var 4) (.var 6)) (.var 2)) (.var 5)] [6]]) [5] false 1 [.var 2] [] [5]])]⟩
def x_lumps (f : Ix) : Df := ⟨1, 2, [.expr (.call f.need_table [.var 0]), .ret (.bf .sset [.comp (.tup [.call f.lump_of [.var 0, .var 1], .call f.period_of [.var 0, .var 1]]) [1] false 1 [.bf .len [.var 0]] [] [1]])]⟩
def x_turns (f : Ix) : Df := ⟨2, 2, [.expr (.call f.need_table [.var 0]), .expr (.call f.need_person [.var 1, .bf .len [.var 0]]), .ret (.call f.turns_of [.var 0, .var 1])]⟩
def x_law_lump (f : Ix) : Df := ⟨2, 5, [.set 2 (.comp (.var 3) [3] false 1 [.bf .len [.idx (.var 0) (.int 0)]] [.cmp .NotEq (.comp (.int 1) [4] false 0 [.var 0] [.cmp .In (.var 3) (.idx (.var 4) (.var 1))] [4]) (.lst [])] [3]), .ret (.bf .tuple [.comp (.var 3) [3] false 0 [.var 2] [.cmp .NotEq (.comp (.int 1) [4] false 0 [.var 0] [.cmp .In (.var 1) (.idx (.var 4) (.var 3))] [4]) (.lst [])] [3]])]⟩
def x_law_within (f : Ix) : Df := ⟨2, 5, [.setOwn 2 [], .fors [3] false 1 [.bf .len [.var 0]] [.append 2 (.bf .tuple [.comp (.var 4) [4] false 0 [.idx (.var 0) (.var 3)] [.and (.cmp .In (.var 3) (.var 1)) (.one (.cmp .In (.var 4) (.var 1)))] [4]])], .frz 2, .ret (.bf .tuple [.var 2])]⟩
def x_law_period (f : Ix) : Df := ⟨2, 7, [.set 2 (.int 0), .fors [3] false 1 [.int 1, .int 41] [.ifs (.cmp .NotEq (.comp (.int 1) [6] false 0 [.var 1] [.cmp .In (.var 6) (.idx (.idx (.var 0) (.var 3)) (.var 6))] [6]) (.lst [])) [.setPar [4, 5] [.var 2, .var 3], .whil (.cmp .Gt (.var 5) (.int 0)) [.setPar [4, 5] [.var 5, .bin .Mod (.var 4) (.var 5)]], .set 2 (.var 4)] []], .ret (.var 2)]⟩
def x_law5 (f : Ix) : Df := ⟨1, 23, [.fors [1] false 1 [.bf .max2 [.int 5, .bf .min2 [.int 11, .bf .len [.var 0]]]] [.set 2 (.call f.law_vat [.var 0, .var 1]), .set 3 (.call f.law_table [.var 2, .bin .Add (.int 1) (.call f.law_under [.var 2, .int 6])]), .setPar [4, 5] [.call f.law_walked [.var 3, .int 40], .lst []], .fors [6] false 1 [.bf .len [.var 3]] [.set 7 (.call f.law_lump [.slc (.var 4) [] [.int 7], .var 6]), .set 8 (.call f.law_period [.var 4, .var 7]), .append 5 (.tup [.var 7, .var 8]), .set 9 (.call f.law_walked [.call f.law_within [.var 3, .var 7], .int 40]), .setOwn 10 [], .fors [11] false 1 [.var 8] [.set 12 (.comp (.idx (.var 21) (.var 6)) [20, 21] true 2 [.var 9] [.cmp .Eq (.bin .Mod (.var 20) (.var 8)) (.var 11)] [20, 21]), .append 10 (.bf .tuple [.comp (.var 14) [14] false 0 [.var 7] [.cmp .NotEq (.comp (.int 1) [22] false 0 [.var 12] [.cmp .In (.var 14) (.var 22)] [22]) (.lst [])] [14]])], .frz 10, .ifs (.cmp .NotEq (.call f.turns [.var 3, .var 6]) (.bf .tuple [.var 10])) [.ret (.bl false)] []], .ifs (.cmp .NotEq (.call f.lumps [.var 3]) (.bf .sset [.var 5])) [.ret (.bl false)] [], .fors [13] false 0 [.lst [.neg (.int 1), .bf .len [.var 3], .bl true, .non]] [.ifs (.cmp .NotEq (.err (.call f.turns [.var 3, .var 13])) (.str "person value")) [.ret (.bl false)] []], .ifs (.cmp .NotEq (.err (.call f.lumps [.tup []])) (.str "table value")) [.ret (.bl false)] [], .ifs (.cmp .NotEq (.err (.call f.turns [.non, .non])) (.str "table value")) [.ret (.bl false)] []], .setTup [14, 15, 16, 17, 18] (.call f.law_known []), .ifs (.cmp .NotEq (.lst [.call f.lumps [.var 14], .call f.lumps [.var 16], .call f.lumps [.var 17]]) (.lst [.lst [.tup [.tup [.int 0, .int 1, .int 2], .int 1]], .lst [.tup [.tup [.int 0, .int 1], .int 2], .tup [.tup [.int 2], .int 1]], .lst [.tup [.tup [.int 0, .int 1, .int 2, .int 3], .int 3]]])) [.ret (.bl false)] [], .ifs (.or (.cmp .NotEq (.call f.lumps [.tup [.tup [.int 1], .tup []]]) (.lst [.tup [.tup [.int 0], .int 0], .tup [.tup [.int 1], .int 0]])) (.or (.cmp .NotEq (.call f.turns [.tup [.tup [.int 1], .tup []], .int 0]) (.tup [])) (.one (.cmp .NotEq (.call f.turns [.var 14, .int 0]) (.tup [.tup [.int 0, .int 1, .int 2]]))))) [.ret (.bl false)] [], .set 19 (.tup [.tup [.int 3], .tup [.int 3], .tup [.int 4, .int 5], .tup [.int 2], .tup [.int 0, .int 1], .tup [.int 0]]), .ret (.cmp .Eq (.lst [.call f.turns [.var 15, .int 1], .call f.turns [.var 17, .int 3], .call f.turns [.var 19, .int 4]]) (.lst [.tup [.tup [.int 1], .tup [.int 2], .tup [.int 0]], .tup [.tup [.int 3], .tup [.int 0], .tup [.int 1, .int 2]], .tup [.tup [.int 4, .int 5], .tup [.int 0, .int 1], .tup [.int 3], .tup [.int 2]]]))]⟩
def x_is_filling (f : Ix) : Df := ⟨1, 3, [.set 1 (.rng true [.bf .len [.var 0]]), .ret (.and (.bf .all [.comp (.cmp .Eq (.call f.closure_of [.var 0, .var 2]) (.var 1)) [2] false 0 [.var 1] [] [2]]) (.one (.cmp .Eq (.call f.period_of [.var 0, .int 0]) (.int 1))))]⟩
def x_full_from (f : Ix) : Df := ⟨1, 1, [.expr (.call f.need_table [.var 0]), .ret (.ite (.call f.is_filling [.var 0]) (.idx (.call f.powers [.var 0]) (.int 1)) (.non))]⟩
def x_bar (f : Ix) : Df := ⟨1, 4, [.expr (.call f.need_table [.var 0]), .fors [1, 2] true 2 [.var 0] [.ifs (.cmp .Eq (.var 2) (.tup [])) [.ret (.tup [.str "stuck", .var 1])] []], .fors [1] false 1 [.bf .len [.var 0]] [.set 3 (.call f.closure_of [.var 0, .var 1]), .ifs (.cmp .Lt (.bf .len [.var 3]) (.bf .len [.var 0])) [.ret (.tup [.str "closed", .var 3])] []], .ret (.ite (.cmp .Gt (.call f.period_of [.var 0, .int 0]) (.int 1)) (.tup [.str "turns", .call f.turns_of [.var 0, .int 0]]) (.non))]⟩
def x_law_full (f : Ix) : Df := ⟨1, 2, [.ret (.cmp .Eq (.comp (.var 1) [1] false 0 [.var 0] [.cmp .NotEq (.bf .len [.var 1]) (.bf .len [.var 0])] [1]) (.lst []))]⟩
def x_law_turning (f : Ix) : Df := ⟨2, 6, [.set 2 (.bin .Add (.int 2) (.call f.law_under [.var 0, .int 2])), .setOwn 3 [], .fors [4] false 1 [.var 1] [.append 3 (.bf .tuple [.comp (.var 5) [5] false 1 [.var 1] [.and (.cmp .Eq (.bin .Mod (.bin .Sub (.bin .Add (.var 4) (.int 1)) (.var 5)) (.var 2)) (.int 0)) (.one (.cmp .Gt (.call f.law_under [.var 0, .int 4]) (.int 0)))] [5]])], .frz 3, .ret (.bf .tuple [.var 3])]⟩
def x_law6 (f : Ix) : Df := ⟨1, 15, [.fors [1] false 1 [.bf .max2 [.int 6, .bf .min2 [.int 14, .bf .len [.var 0]]]] [.set 2 (.call f.law_vat [.var 0, .var 1]), .set 3 (.bin .Add (.int 1) (.call f.law_under [.var 2, .int 6])), .fors [4] false 0 [.lst [.call f.law_table [.var 2, .var 3], .call f.law_turning [.var 2, .var 3]]] [.set 5 (.call f.law_walked [.var 4, .int 60]), .set 6 (.comp (.var 14) [14] false 1 [.int 61] [.not (.call f.law_full [.idx (.var 5) (.var 14)])] [14]), .set 7 (.ite (.and (.cmp .NotEq (.var 6) (.lst [])) (.one (.cmp .Eq (.idx (.var 6) (.neg (.int 1))) (.int 60)))) (.non) (.ite (.cmp .NotEq (.var 6) (.lst [])) (.bin .Add (.idx (.var 6) (.neg (.int 1))) (.int 1)) (.int 0))), .ifs (.cmp .NotEq (.call f.full_from [.var 4]) (.var 7)) [.ret (.bl false)] [], .set 8 (.call f.bar [.var 4]), .ifs (.or (.cmp .NotEq (.cmp .Is (.var 8) (.non)) (.cmp .IsNot (.var 7) (.non))) (.one (.and (.cmp .IsNot (.var 8) (.non)) (.one (.not (.call f.law_is_bar [.var 4, .var 8])))))) [.ret (.bl false)] []], .ifs (.cmp .NotEq (.err (.call f.full_from [.tup [.int 7]])) (.str "table value")) [.ret (.bl false)] [], .ifs (.cmp .NotEq (.err (.call f.bar [.lst []])) (.str "table value")) [.ret (.bl false)] []], .setTup [9, 10, 11, 12, 13] (.call f.law_known []), .ifs (.cmp .NotEq (.comp (.call f.full_from [.var 4]) [4] false 0 [.lst [.var 9, .var 10, .var 11, .var 13, .tup [.tup [.int 0]], .tup [.tup []]]] [] [4]) (.lst [.int 5, .non, .non, .int 1, .int 0, .non])) [.ret (.bl false)] [], .ifs (.or (.cmp .IsNot (.call f.bar [.var 9]) (.non)) (.or (.cmp .NotEq (.call f.bar [.tup [.tup []]]) (.tup [.str "stuck", .int 0])) (.one (.cmp .NotEq (.call f.bar [.tup [.tup [.int 0], .tup [.int 0, .int 1]]]) (.tup [.str "closed", .tup [.int 0]]))))) [.ret (.bl false)] [], .ifs (.or (.cmp .NotEq (.idx (.call f.bar [.var 10]) (.int 0)) (.str "turns")) (.or (.cmp .NotEq (.bf .len [.idx (.call f.bar [.var 10]) (.int 1)]) (.int 3)) (.one (.cmp .NotEq (.idx (.call f.bar [.tup [.tup [.int 0], .tup [.int 1]]]) (.int 0)) (.str "closed"))))) [.ret (.bl false)] [], .ret (.cmp .Eq (.call f.full_from [.tup [.tup [.int 1], .tup [.int 2], .tup [.int 3], .tup [.int 4], .tup [.int 5], .tup [.int 0, .int 1]]]) (.int 26))]⟩
def x_with_arrow (f : Ix) : Df := ⟨2, 4, [.setTup [2, 3] (.var 1), .ret (.bin .Add (.bin .Add (.slc (.var 0) [] [.var 2]) (.tup [.bf .tuple [.bf .sort [.bin .Add (.idx (.var 0) (.var 2)) (.tup [.var 3])]]])) (.slc (.var 0) [.bin .Add (.var 2) (.int 1)] []))]⟩
def x_without_arrow (f : Ix) : Df := ⟨2, 5, [.setTup [2, 3] (.var 1), .ret (.bin .Add (.bin .Add (.slc (.var 0) [] [.var 2]) (.tup [.bf .tuple [.comp (.var 4) [4] false 0 [.idx (.var 0) (.var 2)] [.cmp .NotEq (.var 4) (.var 3)] [4]]])) (.slc (.var 0) [.bin .Add (.var 2) (.int 1)] []))]⟩
def x_spare_arrows (f : Ix) : Df := ⟨1, 2, [.expr (.call f.need_table [.var 0]), .ret (.comp (.var 1) [1] false 0 [.call f.arrows_of [.var 0]] [.call f.is_filling [.call f.without_arrow [.var 0, .var 1]]] [1])]⟩
def x_law_every (f : Ix) : Df := ⟨1, 1, [.ret (.call f.law_arrows [.bin .Mult (.tup [.rng true [.var 0]]) (.var 0)])]⟩
def x_law_fills (f : Ix) : Df := ⟨1, 1, [.ret (.and (.call f.law_full [.call f.law_far [.var 0, .int 40]]) (.one (.call f.law_full [.call f.law_far [.var 0, .int 41]])))]⟩
def x_law_flipped (f : Ix) : Df := ⟨2, 6, [.setTup [2, 3] (.var 1), .set 4 (.comp (.var 5) [5] false 1 [.bf .len [.var 0]] [.cmp .NotEq (.cmp .In (.var 5) (.idx (.var 0) (.var 2))) (.cmp .Eq (.var 5) (.var 3))] [5]), .ret (.bin .Add (.bin .Add (.slc (.var 0) [] [.var 2]) (.tup [.bf .tuple [.var 4]])) (.slc (.var 0) [.bin .Add (.var 2) (.int 1)] []))]⟩
def x_law7 (f : Ix) : Df := ⟨1, 14, [.fors [1] false 1 [.bf .max2 [.int 5, .bf .min2 [.int 11, .bf .len [.var 0]]]] [.set 2 (.call f.law_vat [.var 0, .var 1]), .set 3 (.call f.law_table [.var 2, .bin .Add (.int 1) (.call f.law_under [.var 2, .int 5])]), .setTup [4, 5] (.tup [.call f.law_every [.bf .len [.var 3]], .call f.law_arrows [.var 3]]), .set 6 (.comp (.var 13) [13] false 0 [.var 4] [.and (.cmp .NotIn (.var 13) (.var 5)) (.one (.call f.law_fills [.call f.law_flipped [.var 3, .var 13]]))] [13]), .ifs (.cmp .NotEq (.call f.filling_arrows [.var 3]) (.var 6)) [.ret (.bl false)] [], .ifs (.cmp .NotEq (.call f.spare_arrows [.var 3]) (.comp (.var 13) [13] false 0 [.var 5] [.call f.law_fills [.call f.law_flipped [.var 3, .var 13]]] [13])) [.ret (.bl false)] [], .setOwn 7 [.err (.call f.filling_arrows [.bin .Add (.var 3) (.tup [.non])])], .append 7 (.err (.call f.spare_arrows [.str "0"])), .frz 7, .ifs (.cmp .NotEq (.var 7) (.bin .Mult (.lst [.str "table value"]) (.int 2))) [.ret (.bl false)] []], .setTup [8, 9, 10, 11, 12] (.call f.law_known []), .ifs (.or (.cmp .NotEq (.call f.filling_arrows [.var 9]) (.lst [.tup [.int 0, .int 0], .tup [.int 0, .int 2], .tup [.int 1, .int 0], .tup [.int 1, .int 1], .tup [.int 2, .int 1], .tup [.int 2, .int 2]])) (.one (.cmp .NotEq (.call f.filling_arrows [.var 10]) (.lst [])))) [.ret (.bl false)] [], .ifs (.or (.cmp .NotEq (.call f.spare_arrows [.var 8]) (.lst [])) (.one (.cmp .NotEq (.bf .len [.call f.spare_arrows [.var 12]]) (.int 9)))) [.ret (.bl false)] [], .ifs (.or (.cmp .NotEq (.call f.filling_arrows [.var 12]) (.lst [])) (.one (.cmp .NotEq (.call f.filling_arrows [.tup [.tup []]]) (.lst [.tup [.int 0, .int 0]])))) [.ret (.bl false)] [], .ret (.and (.cmp .Eq (.call f.spare_arrows [.tup [.tup [.int 0, .int 1], .tup [.int 0, .int 1]]]) (.lst [.tup [.int 0, .int 0], .tup [.int 1, .int 1]])) (.one (.cmp .Eq (.call f.filling_arrows [.tup [.tup [.int 0, .int 1], .tup []]]) (.lst [.tup [.int 1, .int 0]]))))]⟩
def x_reached_of (f : Ix) : Df := ⟨2, 10, [.setTup [2, 3] (.call f.powers [.var 0]), .set 4 (.comp (.bf .len [.idx (.var 8) (.var 1)]) [8] false 0 [.var 2] [] [8]), .setTup [5, 6] (.call f.shortened [.var 4, .var 3]), .set 7 (.bf .tuple [.comp (.idx (.var 4) (.call f.index_of [.var 4, .var 3, .var 9])) [9] false 1 [.var 5, .bin .Add (.var 5) (.var 6)] [] [9]]), .ret (.tup [.bf .tuple [.slc (.var 4) [] [.var 5]], .var 7])]⟩
def x_reached (f : Ix) : Df := ⟨2, 2, [.expr (.call f.need_table [.var 0]), .expr (.call f.need_person [.var 1, .bf .len [.var 0]]), .ret (.call f.reached_of [.var 0, .var 1])]⟩
def x_mean_share (f : Ix) : Df := ⟨2, 6, [.expr (.call f.need_table [.var 0]), .expr (.call f.need_person [.var 1, .bf .len [.var 0]]), .set 2 (.idx (.call f.reached_of [.var 0, .var 1]) (.int 1)), .setPar [3, 4] [.bf .sum [.var 2], .bin .Mult (.bf .len [.var 2]) (.bf .len [.var 0])], .set 5 (.call f.shared [.var 4, .var 3]), .ret (.tup [.bin .FloorDiv (.var 3) (.var 5), .bin .FloorDiv (.var 4) (.var 5)])]⟩
def x_law_lowest (f : Ix) : Df := ⟨2, 3, [.fors [2] false 1 [.var 1, .int 0, .neg (.int 1)] [.ifs (.and (.cmp .Eq (.bin .Mod (.var 0) (.var 2)) (.int 0)) (.one (.cmp .Eq (.bin .Mod (.var 1) (.var 2)) (.int 0)))) [.ret (.tup [.bin .FloorDiv (.var 0) (.var 2), .bin .FloorDiv (.var 1) (.var 2)])] []], .ret (.tup [.var 0, .var 1])]⟩
def x_law8 (f : Ix) : Df := ⟨1, 21, [.fors [1] false 1 [.bf .max2 [.int 5, .bf .min2 [.int 11, .bf .len [.var 0]]]] [.set 2 (.call f.law_vat [.var 0, .var 1]), .set 3 (.call f.law_table [.var 2, .bin .Add (.int 1) (.call f.law_under [.var 2, .int 6])]), .set 4 (.call f.law_walked [.var 3, .int 119]), .fors [5] false 1 [.bf .len [.var 3]] [.set 6 (.comp (.bf .len [.idx (.var 20) (.var 5)]) [20] false 0 [.var 4] [] [20]), .setTup [7, 8, 9, 10] (.call f.law_calendar [.var 6]), .set 11 (.tup [.bf .tuple [.slc (.var 6) [] [.var 8]], .bf .tuple [.slc (.var 6) [.var 8] [.bin .Add (.var 8) (.var 9)]]]), .ifs (.or (.cmp .NotEq (.call f.reached [.var 3, .var 5]) (.var 11)) (.one (.cmp .NotEq (.call f.mean_share [.var 3, .var 5]) (.call f.law_lowest [.bf .sum [.idx (.var 11) (.int 1)], .bin .Mult (.var 9) (.bf .len [.var 3])])))) [.ret (.bl false)] []], .fors [12] false 0 [.lst [.neg (.int 1), .bf .len [.var 3], .bl true, .non]] [.setOwn 13 [.err (.call f.reached [.var 3, .var 12])], .append 13 (.err (.call f.mean_share [.var 3, .var 12])), .frz 13, .ifs (.cmp .NotEq (.var 13) (.bin .Mult (.lst [.str "person value"]) (.int 2))) [.ret (.bl false)] []], .ifs (.cmp .NotEq (.err (.call f.reached [.non, .int 0])) (.str "table value")) [.ret (.bl false)] []], .setTup [14, 15, 16, 17, 18] (.call f.law_known []), .ifs (.cmp .NotEq (.lst [.call f.reached [.var 14, .int 0], .call f.reached [.var 15, .int 0], .call f.reached [.var 17, .int 0]]) (.lst [.tup [.tup [.int 1, .int 1, .int 1, .int 2, .int 2], .tup [.int 3]], .tup [.tup [], .tup [.int 1]], .tup [.tup [], .tup [.int 1, .int 2, .int 1]]])) [.ret (.bl false)] [], .ifs (.or (.cmp .NotEq (.call f.reached [.tup [.tup [.int 1], .tup []], .int 0]) (.tup [.tup [.int 1, .int 1], .tup [.int 0]])) (.one (.cmp .NotEq (.call f.mean_share [.tup [.tup [.int 1], .tup []], .int 0]) (.tup [.int 0, .int 1])))) [.ret (.bl false)] [], .set 19 (.tup [.tup [.int 1, .int 2], .tup [.int 3], .tup [.int 3], .tup [.int 0], .tup [.int 0]]), .ret (.cmp .Eq (.lst [.call f.mean_share [.var 14, .int 0], .call f.mean_share [.var 15, .int 0], .call f.mean_share [.var 17, .int 0], .call f.mean_share [.var 19, .int 4]]) (.lst [.tup [.int 1, .int 1], .tup [.int 1, .int 3], .tup [.int 1, .int 3], .tup [.int 4, .int 15]]))]⟩
def x_need_like (f : Ix) : Df := ⟨2, 2, [.expr (.call f.need_table [.var 0]), .expr (.call f.need_table [.var 1]), .ifs (.cmp .NotEq (.bf .len [.var 0]) (.bf .len [.var 1])) [.raise "Unlike"] []]⟩
def x_pairs_of (f : Ix) : Df := ⟨2, 4, [.set 2 (.lst [.tup [.call f.nothing_done [.bf .len [.var 0]], .call f.nothing_done [.bf .len [.var 1]]]]), .whil (.bl true) [.set 3 (.tup [.call f.times [.idx (.idx (.var 2) (.neg (.int 1))) (.int 0), .var 0], .call f.times [.idx (.idx (.var 2) (.neg (.int 1))) (.int 1), .var 1]]), .ifs (.cmp .In (.var 3) (.var 2)) [.ret (.tup [.var 2, .meth .index (.var 2) [.var 3]])] [], .set 2 (.bin .Add (.var 2) (.lst [.var 3]))]]⟩
def x_same_from (f : Ix) : Df := ⟨2, 7, [.expr (.call f.need_like [.var 0, .var 1]), .setTup [2, 3] (.call f.pairs_of [.var 0, .var 1]), .set 4 (.comp (.var 5) [5, 6] true 2 [.var 2] [.cmp .NotEq (.idx (.var 6) (.int 0)) (.idx (.var 6) (.int 1))] [5, 6]), .ifs (.cmp .Eq (.var 4) (.lst [])) [.ret (.int 0)] [], .ret (.ite (.cmp .Lt (.idx (.var 4) (.neg (.int 1))) (.var 3)) (.bin .Add (.idx (.var 4) (.neg (.int 1))) (.int 1)) (.non))]⟩
def x_first_apart (f : Ix) : Df := ⟨2, 5, [.expr (.call f.need_like [.var 0, .var 1]), .set 2 (.comp (.var 3) [3, 4] true 2 [.idx (.call f.pairs_of [.var 0, .var 1]) (.int 0)] [.cmp .NotEq (.idx (.var 4) (.int 0)) (.idx (.var 4) (.int 1))] [3, 4]), .ret (.ite (.cmp .NotEq (.var 2) (.lst [])) (.idx (.var 2) (.int 0)) (.non))]⟩
def x_law_near (f : Ix) : Df := ⟨2, 7, [.set 2 (.call f.law_under [.var 0, .int 3]), .ifs (.cmp .Eq (.var 2) (.int 0)) [.ret (.call f.law_table [.var 0, .bf .len [.var 1]])] [], .setTup [3, 4] (.tup [.call f.law_under [.var 0, .bf .len [.var 1]], .call f.law_under [.var 0, .bf .len [.var 1]]]), .set 5 (.comp (.var 6) [6] false 1 [.bf .len [.var 1]] [.cmp .NotEq (.cmp .In (.var 6) (.idx (.var 1) (.var 3))) (.cmp .Eq (.var 6) (.var 4))] [6]), .ret (.bin .Add (.bin .Add (.slc (.var 1) [] [.var 3]) (.tup [.bf .tuple [.var 5]])) (.slc (.var 1) [.bin .Add (.var 3) (.int 1)] []))]⟩
def x_all_lots (f : Ix) : Df := ⟨1, 4, [.set 1 (.lst [.tup []]), .fors [2] false 1 [.var 0] [.set 1 (.bin .Add (.var 1) (.comp (.bin .Add (.var 3) (.tup [.var 2])) [3] false 0 [.var 1] [] [3]))], .ret (.bf .sort [.var 1])]⟩
def x_all_tables (f : Ix) : Df := ⟨1, 6, [.setTup [1, 2] (.tup [.lst [.tup []], .call f.all_lots [.var 0]]), .fors [3] false 1 [.var 0] [.set 1 (.comp2 (.bin .Add (.var 4) (.tup [.var 5])) [4] false 0 [.var 1] 5 (.var 2) [] [4, 5])], .ret (.var 1)]⟩
def x_law_tables (f : Ix) : Df := ⟨1, 6, [.set 1 (.lst [.tup []]), .fors [2] false 1 [.var 0] [.set 3 (.lst []), .fors [4] false 0 [.var 1] [.set 3 (.bin .Add (.var 3) (.comp (.bin .Add (.var 4) (.tup [.var 5])) [5] false 0 [.call f.law_lots [.var 0]] [] [5]))], .set 1 (.var 3)], .ret (.var 1)]⟩
def x_law_few (f : Ix) : Df := ⟨1, 1, [.ret (.ite (.cmp .Lt (.var 0) (.int 12)) (.var 0) (.bin .Add (.int 6) (.bin .Mod (.bin .Sub (.var 0) (.int 6)) (.int 6))))]⟩
def x_law10 (f : Ix) : Df := ⟨1, 15, [.fors [1] false 1 [.bf .max2 [.int 4, .bf .min2 [.int 8, .bf .len [.var 0]]]] [.set 2 (.call f.law_vat [.var 0, .var 1]), .set 3 (.call f.law_some [.var 2, .lst [.int 1, .int 2, .int 2, .int 3]]), .setTup [4, 5] (.tup [.call f.law_some [.var 2, .lst [.int 0, .int 1, .int 2, .int 3, .int 4, .int 6, .bin .Sub (.bin .Pow (.int 10) (.int 30)) (.int 7)]], .call f.law_table [.var 2, .var 3]]), .fors [6] false 0 [.lst [.var 5, .call f.law_far [.var 5, .call f.law_few [.var 4]]]] [.set 7 (.comp (.var 14) [14] false 0 [.call f.law_tables [.var 3]] [.cmp .Eq (.call f.law_far [.var 14, .call f.law_few [.var 4]]) (.var 6)] [14]), .ifs (.cmp .NotEq (.call f.roots [.var 6, .var 4]) (.var 7)) [.ret (.bl false)] []], .fors [8] false 0 [.lst [.neg (.int 1), .bl true, .non, .bin .Add (.bin .Pow (.int 10) (.int 30)) (.int 1)]] [.ifs (.cmp .NotEq (.err (.call f.roots [.var 5, .var 8])) (.str "rounds value")) [.ret (.bl false)] []], .ifs (.cmp .NotEq (.err (.call f.roots [.int 5, .non])) (.str "table value")) [.ret (.bl false)] [], .ifs (.cmp .NotEq (.err (.call f.roots [.bin .Mult (.tup [.tup []]) (.int 4), .non])) (.str "rounds value")) [.ret (.bl false)] []], .setTup [6, 9, 10, 11, 12] (.call f.law_known []), .ifs (.or (.cmp .NotEq (.err (.call f.roots [.var 11, .int 2])) (.str "many value")) (.or (.cmp .NotEq (.call f.roots [.var 9, .int 1]) (.lst [.var 9])) (.one (.cmp .NotEq (.call f.roots [.var 9, .int 3]) (.lst []))))) [.ret (.bl false)] [], .set 13 (.tup [.tup [.int 0], .tup [.int 1], .tup [.int 2]]), .ifs (.or (.cmp .NotEq (.call f.roots [.var 9, .int 2]) (.lst [.tup [.tup [.int 2], .tup [.int 0], .tup [.int 1]]])) (.or (.cmp .NotEq (.bf .len [.call f.roots [.var 13, .int 2]]) (.int 4)) (.one (.cmp .NotEq (.call f.roots [.tup [.tup [.int 1], .tup []], .int 2]) (.lst []))))) [.ret (.bl false)] [], .ret (.cmp .Eq (.lst [.bf .len [.call f.roots [.slc (.var 13) [] [.int 2], .int 0]], .bf .len [.call f.roots [.slc (.var 13) [] [.int 2], .bin .Pow (.int 10) (.int 30)]], .bf .len [.call f.roots [.tup [.tup [], .tup []], .int 2]], .call f.roots [.tup [.tup []], .int 0]]) (.lst [.int 16, .int 2, .int 3, .lst []]))]⟩
def x_is_fact (f : Ix) : Df := ⟨2, 4, [.ifs (.or (.not (.isi (.var 1) "tuple")) (.or (.cmp .NotEq (.bf .len [.var 1]) (.int 4)) (.one (.not (.isi (.idx (.var 1) (.int 3)) "bool"))))) [.ret (.bl false)] [], .set 2 (.bf .all [.comp (.call f.is_whole [.var 3, .int 0, .bin .Sub (.var 0) (.int 1)]) [3] false 0 [.slc (.var 1) [] [.int 2]] [] [3]]), .ret (.and (.var 2) (.one (.call f.is_whole [.idx (.var 1) (.int 2), .int 0, .glob "FAR" 1000000000000000000000000000000])))]⟩
def x_need_facts (f : Ix) : Df := ⟨2, 3, [.expr (.call f.need_number [.var 0, .int 1, .glob "MOST_PEOPLE" 3]), .ifs (.or (.not (.isi (.var 1) "tuple")) (.or (.cmp .Gt (.bf .len [.var 1]) (.glob "MOST_FACTS" 8)) (.one (.not (.bf .all [.comp (.call f.is_fact [.var 0, .var 2]) [2] false 0 [.var 1] [] [2]]))))) [.raise "InvalidFacts"] []]⟩
def x_is_so (f : Ix) : Df := ⟨3, 7, [.setTup [3, 4, 5, 6] (.var 2), .ret (.cmp .Eq (.cmp .In (.var 4) (.idx (.idx (.var 0) (.call f.index_of [.var 0, .var 1, .var 5])) (.var 3))) (.var 6))]⟩
def x_fitting (f : Ix) : Df := ⟨2, 7, [.set 2 (.comp (.call f.powers [.var 3]) [3] false 0 [.call f.all_tables [.var 0]] [] [3]), .ret (.comp (.tup [.var 4, .var 5]) [4, 5] true 0 [.var 2] [.bf .all [.comp (.call f.is_so [.var 4, .var 5, .var 6]) [6] false 0 [.var 1] [] [6]]] [4, 5])]⟩
def x_need_fitting (f : Ix) : Df := ⟨2, 3, [.set 2 (.call f.fitting [.var 0, .var 1]), .ifs (.cmp .Eq (.var 2) (.lst [])) [.raise "Impossible"] [], .ret (.var 2)]⟩
def x_how_many (f : Ix) : Df := ⟨2, 2, [.expr (.call f.need_facts [.var 0, .var 1]), .ret (.bf .len [.call f.fitting [.var 0, .var 1]])]⟩
def x_surely (f : Ix) : Df := ⟨3, 6, [.expr (.call f.need_facts [.var 0, .var 1]), .ifs (.not (.call f.is_fact [.var 0, .var 2])) [.raise "InvalidFacts"] [], .set 3 (.bf .sset [.comp (.call f.is_so [.var 4, .var 5, .var 2]) [4, 5] true 0 [.call f.need_fitting [.var 0, .var 1]] [] [4, 5]]), .ret (.ite (.cmp .Eq (.bf .len [.var 3]) (.int 1)) (.idx (.var 3) (.int 0)) (.non))]⟩
def x_law_fact (f : Ix) : Df := ⟨2, 6, [.setPar [2, 3] [.call f.law_under [.var 0, .bf .len [.idx (.var 1) (.int 0)]], .call f.law_under [.var 0, .bf .len [.idx (.var 1) (.int 0)]]], .set 4 (.call f.law_some [.var 0, .lst [.int 0, .int 1, .int 1, .int 2, .int 2, .int 3, .int 4, .int 5, .int 6, .int 9, .bin .Pow (.int 10) (.int 30)]]), .set 5 (.cmp .In (.var 3) (.idx (.idx (.var 1) (.call f.law_few [.var 4])) (.var 2))), .ret (.tup [.var 2, .var 3, .var 4, .cmp .NotEq (.var 5) (.cmp .Eq (.call f.law_under [.var 0, .int 8]) (.int 0))])]⟩
def x_law_keeps (f : Ix) : Df := ⟨2, 6, [.ret (.cmp .Eq (.comp (.int 1) [2, 3, 4, 5] true 0 [.var 1] [.cmp .NotEq (.cmp .In (.var 3) (.idx (.idx (.var 0) (.call f.law_few [.var 4])) (.var 2))) (.var 5)] [2, 3, 4, 5]) (.lst []))]⟩
def x_law_rightK11 (f : Ix) : Df := ⟨4, 13, [.set 4 (.comp (.var 11) [11] false 0 [.var 1] [.call f.law_keeps [.var 11, .var 2]] [11]), .ifs (.cmp .NotEq (.call f.how_many [.var 0, .var 2]) (.bf .len [.var 4])) [.ret (.bl false)] [], .ifs (.cmp .Eq (.var 4) (.lst [])) [.ret (.cmp .Eq (.lst [.err (.call f.sure_arrows [.var 0, .var 2]), .err (.call f.surely [.var 0, .var 2, .var 3])]) (.bin .Mult (.lst [.str "impossible value"]) (.int 2)))] [], .set 5 (.call f.law_every [.var 0]), .set 6 (.comp (.var 12) [12] false 0 [.var 5] [.cmp .Eq (.comp (.int 1) [11] false 0 [.var 4] [.cmp .NotIn (.idx (.var 12) (.int 1)) (.idx (.idx (.var 11) (.int 1)) (.idx (.var 12) (.int 0)))] [11]) (.lst [])] [12]), .set 7 (.comp (.var 12) [12] false 0 [.var 5] [.cmp .Eq (.comp (.int 1) [11] false 0 [.var 4] [.cmp .In (.idx (.var 12) (.int 1)) (.idx (.idx (.var 11) (.int 1)) (.idx (.var 12) (.int 0)))] [11]) (.lst [])] [12]), .ifs (.cmp .NotEq (.call f.sure_arrows [.var 0, .var 2]) (.tup [.var 6, .var 7])) [.ret (.bl false)] [], .set 8 (.bf .len [.comp (.int 1) [11] false 0 [.var 4] [.call f.law_keeps [.var 11, .tup [.var 3]]] [11]]), .set 9 (.ite (.cmp .Eq (.var 8) (.bf .len [.var 4])) (.bl true) (.ite (.cmp .Eq (.var 8) (.int 0)) (.bl false) (.non))), .set 10 (.call f.surely [.var 0, .var 2, .var 3]), .ret (.and (.cmp .Eq (.var 10) (.var 9)) (.one (.cmp .Eq (.cmp .Is (.var 10) (.non)) (.cmp .Is (.var 9) (.non)))))]⟩
def x_law_refusedK11 (f : Ix) : Df := ⟨1, 4, [.set 1 (.tup [.int 0, .int 0, .int 1, .bl true]), .fors [2] false 0 [.lst [.non, .lst [], .tup [.int 1], .tup [.tup [.var 0, .int 0, .int 1, .bl true]], .tup [.tup [.int 0, .int 0, .neg (.int 1), .bl true]], .tup [.tup [.int 0, .int 0, .int 1, .int 1]], .tup [.tup [.int 0, .int 0, .int 1]], .bin .Mult (.tup [.var 1]) (.int 9)]] [.setOwn 3 [.err (.call f.how_many [.var 0, .var 2]), .err (.call f.sure_arrows [.var 0, .var 2])], .append 3 (.err (.call f.surely [.var 0, .var 2, .non])), .frz 3, .ifs (.cmp .NotEq (.var 3) (.bin .Mult (.lst [.str "facts value"]) (.int 3))) [.ret (.bl false)] []], .fors [2] false 0 [.lst [.int 0, .int 4, .bl true, .non]] [.ifs (.cmp .NotEq (.err (.call f.how_many [.var 2, .non])) (.str "number value")) [.ret (.bl false)] []], .ret (.cmp .Eq (.comp (.err (.call f.surely [.var 0, .tup [], .var 2])) [2] false 0 [.lst [.non, .tup [.int 0, .int 0], .tup [.int 0, .bl true, .int 1, .bl true]]] [] [2]) (.bin .Mult (.lst [.str "facts value"]) (.int 3)))]⟩
def x_law11 (f : Ix) : Df := ⟨1, 12, [.fors [1] false 1 [.bf .max2 [.int 3, .bf .min2 [.int 6, .bf .len [.var 0]]]] [.set 2 (.call f.law_vat [.var 0, .var 1]), .set 3 (.call f.law_some [.var 2, .lst [.int 1, .int 2, .int 2, .int 3]]), .set 4 (.comp (.call f.law_walked [.var 10, .int 12]) [10] false 0 [.call f.law_tables [.var 3]] [] [10]), .fors [5] false 1 [.int 3] [.set 6 (.call f.law_some [.var 2, .var 4]), .set 7 (.bf .tuple [.comp (.call f.law_fact [.var 2, .var 6]) [11] false 1 [.call f.law_under [.var 2, .int 6]] [] [11]]), .ifs (.not (.call f.law_right [.var 3, .var 4, .var 7, .call f.law_fact [.var 2, .call f.law_some [.var 2, .var 4]]])) [.ret (.bl false)] []], .ifs (.not (.call f.law_refused [.var 3])) [.ret (.bl false)] []], .set 8 (.tup [.tup [.int 0, .int 0, .int 2, .bl false], .tup [.int 1, .int 1, .int 2, .bl false]]), .ifs (.cmp .NotEq (.lst [.call f.how_many [.int 2, .tup []], .call f.how_many [.int 2, .var 8], .call f.sure_arrows [.int 2, .var 8]]) (.lst [.int 16, .int 3, .tup [.lst [], .lst [.tup [.int 0, .int 0], .tup [.int 1, .int 1]]]])) [.ret (.bl false)] [], .ifs (.or (.cmp .IsNot (.call f.surely [.int 2, .var 8, .tup [.int 0, .int 0, .bin .Pow (.int 10) (.int 30), .bl true]]) (.bl false)) (.one (.cmp .IsNot (.call f.surely [.int 2, .var 8, .tup [.int 0, .int 1, .int 1, .bl true]]) (.non)))) [.ret (.bl false)] [], .set 9 (.tup [.tup [.int 0, .int 0, .int 1, .bl false], .tup [.int 0, .int 0, .int 2, .bl true]]), .ifs (.or (.cmp .NotEq (.call f.sure_arrows [.int 2, .var 9]) (.tup [.lst [.tup [.int 0, .int 1], .tup [.int 1, .int 0]], .lst [.tup [.int 0, .int 0]]])) (.or (.cmp .NotEq (.call f.how_many [.int 2, .var 9]) (.int 2)) (.one (.cmp .NotEq (.call f.how_many [.int 3, .tup []]) (.int 512))))) [.ret (.bl false)] [], .ret (.cmp .Eq (.lst [.call f.how_many [.int 3, .tup [.tup [.int 0, .int 0, .int 0, .bl false]]], .call f.how_many [.int 1, .tup [.tup [.int 0, .int 0, .int 5, .bl true]]], .call f.surely [.int 2, .var 9, .tup [.int 0, .int 0, .bin .Pow (.int 10) (.int 30), .bl true]]]) (.lst [.int 0, .int 1, .bl true]))]⟩
def x_need_book (f : Ix) : Df := ⟨1, 1, [.ifs (.not (.call f.is_book [.var 0])) [.raise "InvalidBook"] []]⟩
def x_is_word (f : Ix) : Df := ⟨2, 3, [.ifs (.or (.not (.isi (.var 1) "tuple")) (.one (.cmp .Gt (.bf .len [.var 1]) (.glob "LONGEST" 40)))) [.ret (.bl false)] [], .ret (.bf .all [.comp (.call f.is_whole [.var 2, .int 0, .bin .Sub (.bf .len [.var 0]) (.int 1)]) [2] false 0 [.var 1] [] [2]])]⟩
def x_product (f : Ix) : Df := ⟨2, 4, [.expr (.call f.need_book [.var 0]), .ifs (.not (.call f.is_word [.var 0, .var 1])) [.raise "InvalidWord"] [], .set 2 (.call f.nothing_done [.bf .len [.idx (.var 0) (.int 0)]]), .fors [3] false 0 [.var 1] [.set 2 (.call f.times [.var 2, .idx (.var 0) (.var 3)])], .ret (.var 2)]⟩
def x_products (f : Ix) : Df := ⟨1, 1, [.expr (.call f.need_book [.var 0]), .ret (.bf .sort [.call f.all_products [.var 0]])]⟩
def x_law_refusedK12 (f : Ix) : Df := ⟨1, 3, [.fors [1] false 0 [.lst [.non, .lst [.int 0], .tup [.bf .len [.var 0]], .tup [.neg (.int 1)], .tup [.bl true], .bin .Mult (.tup [.int 0]) (.int 41), .tup [.non], .int 0]] [.ifs (.cmp .NotEq (.err (.call f.product [.var 0, .var 1])) (.str "word value")) [.ret (.bl false)] []], .fors [1] false 0 [.lst [.non, .tup [], .idx (.var 0) (.int 0), .bf .list [.var 0], .bin .Add (.var 0) (.tup [.bin .Mult (.tup [.tup []]) (.int 4)])]] [.set 2 (.lst [.err (.call f.products [.var 1]), .err (.call f.filling_word [.var 1])]), .set 2 (.bin .Add (.var 2) (.lst [.err (.call f.ending_word [.var 1]), .err (.call f.product [.var 1, .non])])), .ifs (.cmp .NotEq (.var 2) (.bin .Mult (.lst [.str "book value"]) (.int 4))) [.ret (.bl false)] []], .ret (.bl true)]⟩
def x_table_text (f : Ix) : Df := ⟨1, 1, [.expr (.call f.need_table [.var 0]), .ret (.call f.text_of [.var 0])]⟩
def x_is_arrow (f : Ix) : Df := ⟨2, 3, [.ifs (.or (.not (.isi (.var 1) "tuple")) (.one (.cmp .NotEq (.bf .len [.var 1]) (.int 2)))) [.ret (.bl false)] [], .ret (.bf .all [.comp (.call f.is_whole [.var 2, .int 0, .bin .Sub (.var 0) (.int 1)]) [2] false 0 [.var 1] [] [2]])]⟩
def x_wall (f : Ix) : Df := ⟨1, 1, [.whil (.bl true) [.pass]]⟩
def x_handed_on (f : Ix) : Df := ⟨2, 4, [.ret (.bf .tuple [.bf .sset [.comp2 (.var 3) [2] false 0 [.var 1] 3 (.idx (.var 0) (.var 2)) [] [2, 3]]])]⟩
def x_word_to (f : Ix) : Df := ⟨3, 12, [.setPar [3, 4] [.lst [.tup [.tup [], .var 1]], .lst [.var 1]], .fors [5] false 1 [.bin .Add (.glob "SHORT" 6) (.int 1)] [.fors [6, 7] true 0 [.var 3] [.ifs (.cmp .In (.var 2) (.var 7)) [.ret (.var 6)] []], .set 8 (.lst []), .fors [6, 7] true 0 [.var 3] [.fors [9, 10] true 2 [.var 0] [.set 11 (.call f.handed_on [.var 10, .var 7]), .ifs (.cmp .NotIn (.var 11) (.var 4)) [.setPar [4, 8] [.bin .Add (.var 4) (.lst [.var 11]), .bin .Add (.var 8) (.lst [.tup [.bin .Add (.var 6) (.tup [.var 9]), .var 11]])]] []]], .set 3 (.var 8)], .ret (.non)]⟩
def x_law_word_to (f : Ix) : Df := ⟨3, 11, [.set 3 (.lst [.tup [.tup [], .var 1]]), .fors [4] false 1 [.int 7] [.fors [5, 6] true 0 [.var 3] [.ifs (.cmp .In (.var 2) (.var 6)) [.ret (.var 5)] []], .setPar [7, 8] [.lst [], .lst []], .fors [5, 6] true 0 [.var 3] [.fors [9] false 1 [.bf .len [.var 0]] [.set 10 (.call f.law_onto [.idx (.var 0) (.var 9), .var 6]), .ifs (.cmp .NotIn (.var 10) (.var 8)) [.append 8 (.var 10), .append 7 (.tup [.bin .Add (.var 5) (.tup [.var 9]), .var 10])] []]], .set 3 (.var 7)], .ret (.non)]⟩
def x_law_later (f : Ix) : Df := ⟨3, 8, [.set 3 (.tup [.call f.law_onto [.idx (.var 0) (.int 0), .idx (.var 1) (.int 0)], .bin .Add (.idx (.var 1) (.int 1)) (.tup [.int 0])]), .set 4 (.idx (.var 3) (.int 0)), .fors [5] false 0 [.var 2] [.set 4 (.call f.law_onto [.idx (.var 0) (.var 5), .var 4])], .set 6 (.tup [.var 4, .bin .Add (.idx (.var 3) (.int 1)) (.var 2)]), .ret (.lst [.var 3, .var 6, .tup [.bf .tuple [.comp (.var 7) [7] false 0 [.var 4] [.cmp .NotEq (.var 7) (.int 2)] [7]], .idx (.var 6) (.int 1)]])]⟩
def x_law_renamed (f : Ix) : Df := ⟨2, 5, [.set 2 (.bin .Mult (.lst [.tup []]) (.bf .len [.var 0])), .fors [3] false 1 [.bf .len [.var 0]] [.setIdx (.var 2) (.idx (.var 1) (.var 3)) (.bf .tuple [.bf .sort [.comp (.idx (.var 1) (.var 4)) [4] false 0 [.idx (.var 0) (.var 3)] [] [4]]])], .ret (.bf .tuple [.var 2])]⟩
def x_law_order (f : Ix) : Df := ⟨2, 6, [.setPar [2, 3] [.rng false [.var 1], .tup []], .fors [4] false 1 [.var 1] [.set 5 (.call f.law_under [.var 0, .bf .len [.var 2]]), .setPar [3, 2] [.bin .Add (.var 3) (.tup [.idx (.var 2) (.var 5)]), .bin .Add (.slc (.var 2) [] [.var 5]) (.slc (.var 2) [.bin .Add (.var 5) (.int 1)] [])]], .ret (.var 3)]⟩
def x_law_moved (f : Ix) : Df := ⟨2, 3, [.ret (.bf .tuple [.bf .sort [.comp (.idx (.var 0) (.var 2)) [2] false 0 [.var 1] [] [2]]])]⟩
def x_law_renamed_right (f : Ix) : Df := ⟨3, 12, [.setPar [3, 4] [.call f.law_renamed [.var 1, .var 2], .bf .len [.var 1]], .set 5 (.call f.law_rounds [.var 0]), .ifs (.or (.cmp .NotEq (.call f.after [.var 3, .var 5]) (.call f.law_renamed [.call f.after [.var 1, .var 5], .var 2])) (.one (.cmp .NotEq (.call f.coming_round [.var 3]) (.call f.coming_round [.var 1])))) [.ret (.bl false)] [], .ifs (.cmp .NotEq (.call f.lumps [.var 3]) (.bf .sort [.comp (.tup [.call f.law_moved [.var 2, .var 7], .var 8]) [7, 8] true 0 [.call f.lumps [.var 1]] [] [7, 8]])) [.ret (.bl false)] [], .ifs (.cmp .NotEq (.call f.full_from [.var 3]) (.call f.full_from [.var 1])) [.ret (.bl false)] [], .ifs (.cmp .NotEq (.call f.filling_arrows [.var 3]) (.bf .sort [.comp (.tup [.idx (.var 2) (.var 9), .idx (.var 2) (.var 10)]) [9, 10] true 0 [.call f.filling_arrows [.var 1]] [] [9, 10]])) [.ret (.bl false)] [], .ifs (.cmp .NotEq (.call f.spare_arrows [.var 3]) (.bf .sort [.comp (.tup [.idx (.var 2) (.var 9), .idx (.var 2) (.var 10)]) [9, 10] true 0 [.call f.spare_arrows [.var 1]] [] [9, 10]])) [.ret (.bl false)] [], .fors [6] false 1 [.var 4] [.ifs (.cmp .NotEq (.call f.reached [.var 3, .idx (.var 2) (.var 6)]) (.call f.reached [.var 1, .var 6])) [.ret (.bl false)] [], .ifs (.cmp .NotEq (.call f.turns [.var 3, .idx (.var 2) (.var 6)]) (.bf .tuple [.comp (.call f.law_moved [.var 2, .var 11]) [11] false 0 [.call f.turns [.var 1, .var 6]] [] [11]])) [.ret (.bl false)] []], .ret (.cmp .Eq (.call f.same_from [.var 1, .var 1]) (.int 0))]⟩
def x_law_turned_right (f : Ix) : Df := ⟨1, 7, [.setTup [1, 2] (.tup [.call f.law_renamed [.var 0, .rng true [.bf .len [.var 0]]], .bf .len [.var 0]]), .setOwn 3 [], .fors [4] false 1 [.var 2] [.append 3 (.bf .tuple [.comp (.var 6) [6] false 1 [.var 2] [.cmp .In (.var 4) (.idx (.var 1) (.var 6))] [6]])], .frz 3, .set 5 (.bf .tuple [.var 3]), .ifs (.or (.cmp .NotEq (.call f.coming_round [.var 5]) (.call f.coming_round [.var 0])) (.one (.cmp .NotEq (.call f.full_from [.var 5]) (.call f.full_from [.var 0])))) [.ret (.bl false)] [], .ifs (.cmp .NotEq (.call f.lumps [.var 5]) (.call f.lumps [.var 0])) [.ret (.bl false)] [], .fors [4] false 1 [.var 2] [.fors [6] false 1 [.var 4, .var 2] [.ifs (.cmp .NotEq (.call f.calendar [.var 5, .var 4, .var 6]) (.call f.calendar [.var 0, .var 6, .var 4])) [.ret (.bl false)] []]], .ret (.bl true)]⟩
def x_law17 (f : Ix) : Df := ⟨1, 9, [.fors [1] false 1 [.bf .max2 [.int 5, .bf .min2 [.int 11, .bf .len [.var 0]]]] [.set 2 (.call f.law_vat [.var 0, .var 1]), .set 3 (.call f.law_table [.var 2, .bin .Add (.int 1) (.call f.law_under [.var 2, .int 6])]), .ifs (.or (.not (.call f.law_renamed_right [.var 2, .var 3, .call f.law_order [.var 2, .bf .len [.var 3]]])) (.one (.not (.call f.law_turned_right [.var 3])))) [.ret (.bl false)] []], .setTup [4, 5, 6, 7, 8] (.call f.law_known []), .ret (.and (.call f.law_renamed_right [.call f.law_vat [.lst [], .int 0], .var 7, .tup [.int 2, .int 0, .int 3, .int 1]]) (.one (.call f.law_turned_right [.var 4])))]⟩
def x_courseK18 (f : Ix) : Df := ⟨4, 9, [.expr (.call f.need_two [.var 0, .var 1, .var 2]), .expr (.call f.need_rounds [.var 3, .glob "LONGEST_rounds" 90]), .setOwn 4 [.call f.nothing_done [.bf .len [.var 0]]], .fors [5] false 1 [.var 3] [.append 4 (.call f.times [.var 0, .oidx 4 (.neg (.int 1))])], .frz 4, .ifs (.cmp .NotIn (.var 2) (.idx (.idx (.var 4) (.neg (.int 1))) (.var 1))) [.ret (.non)] [], .set 6 (.tup [.var 1]), .fors [7] false 1 [.bin .Sub (.var 3) (.int 1), .neg (.int 1), .neg (.int 1)] [.set 6 (.bin .Add (.var 6) (.tup [.idx (.comp (.var 8) [8] false 0 [.idx (.var 0) (.idx (.var 6) (.neg (.int 1)))] [.cmp .In (.var 2) (.idx (.idx (.var 4) (.var 7)) (.var 8))] [8]) (.int 0)]))], .ret (.var 6)]⟩
def x_is_wordK18 (f : Ix) : Df := ⟨2, 3, [.ifs (.or (.not (.isi (.var 1) "tuple")) (.one (.cmp .Gt (.bf .len [.var 1]) (.glob "LONGEST_books" 40)))) [.ret (.bl false)] [], .ret (.bf .all [.comp (.call f.is_whole [.var 2, .int 0, .bin .Sub (.bf .len [.var 0]) (.int 1)]) [2] false 0 [.var 1] [] [2]])]⟩
def x_law_great (f : Ix) : Df := ⟨1, 7, [.set 1 (.tup [.tup [.int 1], .tup [.int 2], .tup [.int 3], .tup [.int 4], .tup [.int 5], .tup [.int 0, .int 1]]), .ifs (.cmp .NotEq (.lst [.call f.full_from [.var 1], .call f.coming_round [.var 1], .call f.bar [.var 1]]) (.lst [.int 26, .tup [.int 26, .int 1], .non])) [.ret (.bl false)] [], .set 2 (.bf .tuple [.comp (.var 4) [4] false 1 [.int 26] [.cmp .In (.int 0) (.idx (.idx (.call f.law_walked [.var 1, .int 25]) (.var 4)) (.int 0))] [4]]), .ifs (.or (.cmp .NotEq (.call f.calendar [.var 1, .int 0, .int 0]) (.tup [.var 2, .int 26, .int 1, .tup [.int 0]])) (.or (.cmp .In (.int 25) (.var 2)) (.one (.cmp .NotEq (.slc (.var 2) [] [.int 3]) (.tup [.int 0, .int 6, .int 11]))))) [.ret (.bl false)] [], .ifs (.or (.cmp .NotEq (.call f.numbered [.var 1, .int 0, .int 0, .bin .Pow (.int 10) (.int 30)]) (.bin .Add (.bin .Sub (.bin .Pow (.int 10) (.int 30)) (.bf .len [.var 2])) (.int 26))) (.one (.cmp .NotEq (.call f.next_rounds [.var 1, .int 0, .int 0, .var 0]) (.var 0)))) [.ret (.bl false)] [], .set 3 (.call f.course [.var 1, .int 0, .int 0, .int 90]), .ret (.and (.cmp .Eq (.bf .len [.var 3]) (.int 91)) (.one (.cmp .Eq (.comp (.int 1) [5, 6] true 3 [.var 3, .slc (.var 3) [.int 1] []] [.cmp .NotIn (.var 6) (.idx (.var 1) (.var 5))] [5, 6]) (.lst []))))]⟩
end X
set_option Elab.async false
set_option linter.all false
set_option maxRecDepth 100000
/-! Pu0: the meaning, step by step, as rewriting rules. -/
namespace X
open PySem Ar
section
variable {α β : Type} {a : α} {s : Sto} {f : α → Sto → Res β} {x : Str}
theorem q_bo : (Res.ok a s).bind f = f a s := id rfl
theorem q_bx : (Res.ex x s : Res α).bind f = .ex x s := id rfl
theorem q_no : (Res.ok a s).noex = .ok a s := id rfl
theorem q_op : Res.opt (some a) s = .ok a s := id rfl
theorem q_uo (g : α → Sto → Out) : (Res.ok a s).out g = g a s := id rfl
theorem q_ux (g : α → Sto → Out) : (Res.ex x s : Res α).out g = .ex x s := id rfl
theorem q_on (ρ : Ar.Env) (g : Ar.Env → Sto → Out) : (Out.next ρ s).bind g = g ρ s := id rfl
theorem q_or (v : Vl) (g : Ar.Env → Sto → Out) : (Out.ret v s).bind g = .ret v s := id rfl
theorem q_ox (g : Ar.Env → Sto → Out) : (Out.ex x s).bind g = .ex x s := id rfl
theorem q_oo (g : α → Out) : oOut (some a) g = g a := id rfl
end
section
variable {i j : Int} {b c : Bool} {xs ys : List D} {x y : Str}
theorem q_tn : truth (.d .none) = some false := id rfl
theorem q_tb : truth (.d (.bool b)) = some b := id rfl
theorem q_ti : truth (.d (.int i)) = some (i != 0) := id rfl
theorem q_tl : truth (.d (.list xs)) = some (!xs.isEmpty) := id rfl
theorem q_tt : truth (.d (.tuple xs)) = some (!xs.isEmpty) := id rfl
theorem q_ab : asBool (.d (.bool b)) = some b := id rfl
theorem q_ai : asInt (.d (.int i)) = some i := id rfl
theorem q_ad (d : D) : asD (.d d) = some d := id rfl
theorem q_add : evBin .Add (.d (.int i)) (.d (.int j)) = some (.d (.int (i + j))) := id rfl
theorem q_sub : evBin .Sub (.d (.int i)) (.d (.int j)) = some (.d (.int (i - j))) := id rfl
theorem q_mul : evBin .Mult (.d (.int i)) (.d (.int j)) = if ((-(2 ^ 64) < i ∧ i < 2 ^ 64) ∨ (-(2 ^ 64) < j ∧ j < 2 ^ 64)) then some (.d (.int (i * j))) else none := id rfl
theorem q_fdv : evBin .FloorDiv (.d (.int i)) (.d (.int j)) = if 0 < j ∧ j < 1073741824 then some (.d (.int (i / j))) else none := id rfl
theorem q_mod : evBin .Mod (.d (.int i)) (.d (.int j)) = if 0 < j then some (.d (.int (i % j))) else none := id rfl
theorem q_pow : evBin .Pow (.d (.int i)) (.d (.int j)) = if 0 ≤ j ∧ j ≤ 1000000 ∧ i.natAbs < 2 ^ 64 then some (.d (.int (i ^ j.toNat))) else none := id rfl
theorem q_att : evBin .Add (.d (.tuple xs)) (.d (.tuple ys)) = if lineB (xs.length + ys.length) then some (.d (.tuple (xs ++ ys))) else none := id rfl
theorem q_all : evBin .Add (.d (.list xs)) (.d (.list ys)) = if lineB (xs.length + ys.length) then some (.d (.list (xs ++ ys))) else none := id rfl
theorem q_ass : evBin .Add (.d (.str x)) (.d (.str y)) = if x.length + y.length ≤ sizeLine then some (.d (.str (x ++ y))) else none := id rfl
theorem q_mlk : evBin .Mult (.d (.list xs)) (.d (.int i)) = if -(2 ^ 63) ≤ i ∧ i < 2 ^ 63 ∧ xs.length * i.toNat ≤ sizeLine then some (.d (.list (List.replicate i.toNat xs).flatten)) else none := id rfl
theorem q_mtk : evBin .Mult (.d (.tuple xs)) (.d (.int i)) = if xs ≠ [] ∧ 2 ≤ i ∧ i ≤ 1000 ∧ xs.length ≤ 1000 then some (.d (.tuple (List.replicate i.toNat xs).flatten)) else none := id rfl
theorem q_lt : evCmp .Lt (.d (.int i)) (.d (.int j)) = some (decide (i < j)) := id rfl
theorem q_le : evCmp .LtE (.d (.int i)) (.d (.int j)) = some (decide (i ≤ j)) := id rfl
theorem q_gt : evCmp .Gt (.d (.int i)) (.d (.int j)) = some (decide (j < i)) := id rfl
theorem q_ge : evCmp .GtE (.d (.int i)) (.d (.int j)) = some (decide (j ≤ i)) := id rfl
theorem q_eq (d e : D) : evCmp .Eq (.d d) (.d e) = if shp d && shp e then some (PyData.eqv d e) else none := id rfl
theorem q_ne (d e : D) : evCmp .NotEq (.d d) (.d e) = if shp d && shp e then some (!PyData.eqv d e) else none := id rfl
theorem q_in (d e : D) : evCmp .In (.d d) (.d e) = evIn d e := id rfl
theorem q_ni (d e : D) : evCmp .NotIn (.d d) (.d e) = (evIn d e).map (!·) := id rfl
theorem q_is (d e : D) : evCmp .Is (.d d) (.d e) = evIs d e := id rfl
theorem q_isn (d e : D) : evCmp .IsNot (.d d) (.d e) = (evIs d e).map (!·) := id rfl
theorem q_eqi : evCmp .Eq (.d (.int i)) (.d (.int j)) = some (decide (i = j)) := by
  show some (PyData.eqv (.int i) (.int j)) = _
  simp [PyData.eqv]
  try rfl
theorem q_ofb : ofB (some b) = some (.d (.bool b)) := id rfl
theorem q_ixl : evIdx (.d (.list xs)) (.d (.int i)) = fun _ => (L2.atI xs i).map .d := by funext s; rfl
theorem q_ixt : evIdx (.d (.tuple xs)) (.d (.int i)) = fun _ => (L2.atI xs i).map .d := by funext s; rfl
theorem q_ixs (ns : List Int) : evIdx (.scr ns) (.d (.int i)) = fun _ => (L2.atI ns i).map fun n => .d (.int n) := by funext s; rfl
theorem q_sll (lo hi : Option Int) : evSlc (.d (.list xs)) lo hi = some (.d (.list (cutD xs lo hi))) := id rfl
theorem q_slt (lo hi : Option Int) : evSlc (.d (.tuple xs)) lo hi = some (.d (.tuple (cutD xs lo hi))) := id rfl
theorem q_b0 : Ar.bound [] = some none := id rfl
theorem q_b1 : Ar.bound [.d (.int i)] = some (some i) := id rfl
theorem q_s0 (t : String) : evIsi (.d .none) t = some false := id rfl
theorem q_s1 (t : String) : evIsi (.d (.bool b)) t = some (t == "bool" || t == "int") := id rfl
theorem q_s2 (t : String) : evIsi (.d (.int i)) t = some (t == "int") := id rfl
theorem q_s3 (t : String) : evIsi (.d (.str x)) t = some (t == "str") := id rfl
theorem q_s4 (t : String) : evIsi (.d (.list xs)) t = some (t == "list") := id rfl
theorem q_s5 (t : String) : evIsi (.d (.tuple xs)) t = some (t == "tuple") := id rfl
theorem q_f1 : evBf .len [.d (.list xs)] = some (.d (.int xs.length)) := id rfl
theorem q_f2 : evBf .len [.d (.tuple xs)] = some (.d (.int xs.length)) := id rfl
theorem q_f3 (ns : List Int) : evBf .len [.scr ns] = some (.d (.int ns.length)) := id rfl
theorem q_f4 : evBf .tuple [.d (.list xs)] = some (.d (.tuple xs)) := id rfl
theorem q_f5 : evBf .tuple [.d (.tuple xs)] = some (.d (.tuple xs)) := id rfl
theorem q_f6 : evBf .list [.d (.list xs)] = some (.d (.list xs)) := id rfl
theorem q_f7 : evBf .list [.d (.tuple xs)] = some (.d (.list xs)) := id rfl
theorem q_f8 : evBf .abs [.d (.int i)] = some (.d (.int (if i < 0 then -i else i))) := id rfl
theorem q_f9 : evBf .max2 [.d (.int i), .d (.int j)] = some (.d (.int (if j > i then j else i))) := id rfl
theorem q_fa : evBf .min2 [.d (.int i), .d (.int j)] = some (.d (.int (if j < i then j else i))) := id rfl
theorem q_fb : evBf .int [.d (.int i)] = some (.d (.int i)) := id rfl
theorem q_fc : evBf .all [.d (.list xs)] = (allBool xs).map fun bs => .d (.bool (bs.all id)) := id rfl
theorem q_fd : evBf .sum [.d (.list xs)] = (allInt xs).map fun ns => .d (.int ns.sum) := id rfl
theorem q_fe : evBf .sset [.d (.list xs)] = (allInt xs).bind fun ns => if ns.length < 64 then some (.d (.list ((ssetI ns).map .int))) else none := id rfl
theorem q_i0l : evItems 0 [.d (.list xs)] = some xs := id rfl
theorem q_i0t : evItems 0 [.d (.tuple xs)] = some xs := id rfl
theorem q_i1 : evItems 1 [.d (.int i)] = if okI i && decide (i ≤ 16777216) then some (rngD 0 i) else none := id rfl
theorem q_i2 : evItems 1 [.d (.int i), .d (.int j)] = if okI i && okI j && decide (j - i ≤ 16777216) then some (rngD i j) else none := id rfl
theorem q_i3 {k : Int} : evItems 1 [.d (.int i), .d (.int j), .d (.int k)] = if decide (k = -1) && okI i && okI j && decide (i - j ≤ 16777216) then some (dwnD i j) else none := id rfl
theorem q_i4 : evItems 3 [.d (.list xs), .d (.list ys)] = some (xs.zipWith (fun x y => .tuple [x, y]) ys) := id rfl
theorem q_i5 : evItems 3 [.d (.tuple xs), .d (.tuple ys)] = some (xs.zipWith (fun x y => .tuple [x, y]) ys) := id rfl
theorem q_t1 (i : Nat) (d : D) (ρ : Ar.Env) : bindTg [i] false d ρ = some (ρ.set i (.v (.d d))) := id rfl
theorem q_t2 (i j : Nat) (d e : D) (ρ : Ar.Env) : bindTg [i, j] true (.tuple [d, e]) ρ = some ((ρ.set i (.v (.d d))).set j (.v (.d e))) := id rfl
theorem q_ads0 : allD [] = some [] := id rfl
theorem q_ads (d : D) (r : List Vl) : allD (.d d :: r) = (allD r).map (d :: ·) := id rfl
theorem q_sv0 (ρ : Ar.Env) : setVs ρ [] [] = some ρ := id rfl
theorem q_sv (ρ : Ar.Env) (i : Nat) (is : List Nat) (x : Vl) (r : List Vl) : setVs ρ (i :: is) (x :: r) = setVs (ρ.set i (.v x)) is r := id rfl
end
end X
set_option Elab.async false
set_option linter.all false
set_option maxRecDepth 100000
set_option maxHeartbeats 4000000
/-! Pu1: tables as relations; what the small defs compute. -/
namespace X
open PySem Ar
abbrev F := List Vl → Sto → Res Vl
def iv (k : Nat) : D := .int (k : Int)
def rowD (r : List Nat) : D := .tuple (r.map iv)
def tabD (t : List (List Nat)) : D := .tuple (t.map rowD)
def T (n : Nat) (R : Nat → Nat → Bool) : List (List Nat) := (List.range n).map fun i => (List.range n).filter (R i)
/-! ### lists made item by item -/
theorem mapR_pure {α : Type} {f : α → Sto → Res (List D)} {g : α → List D} {s : Sto} : ∀ {xs : List α}, (∀ x ∈ xs, f x s = .ok (g x) s) → mapR f xs s = .ok (xs.flatMap g) s
  | [], _ => rfl
  | x :: xs, h => by
    show (f x s).bind _ = _
    rw [h x List.mem_cons_self]
    show (mapR f xs s).bind _ = _
    rw [mapR_pure (xs := xs) fun y hy => h y (List.mem_cons_of_mem _ hy)]
    rfl
theorem flatMap_one {α β : Type} (g : α → β) : ∀ xs : List α, (xs.flatMap fun x => [g x]) = xs.map g
  | [] => rfl
  | x :: xs => by rw [List.flatMap_cons, flatMap_one g xs]; rfl
theorem mapR_map {α : Type} {f : α → Sto → Res (List D)} {g : α → D} {s : Sto} {xs : List α} (h : ∀ x ∈ xs, f x s = .ok [g x] s) : mapR f xs s = .ok (xs.map g) s := by
  rw [mapR_pure (g := fun x => [g x]) h, flatMap_one]
theorem mapR_of {α β : Type} {f : β → Sto → Res (List D)} {h : α → β} {g : α → D} {s : Sto} : ∀ {r : List α}, (∀ x ∈ r, f (h x) s = .ok [g x] s) → mapR f (r.map h) s = .ok (r.map g) s
  | [], _ => rfl
  | x :: r, e => by
    show (f (h x) s).bind _ = _
    rw [e x List.mem_cons_self]
    show (mapR f (r.map h) s).bind _ = _
    rw [mapR_of (r := r) fun y hy => e y (List.mem_cons_of_mem _ hy)]
    rfl
theorem mapR_ofs {α β : Type} {f : β → Sto → Res (List D)} {h : α → β} {g : α → List D} {s : Sto} : ∀ {r : List α}, (∀ x ∈ r, f (h x) s = .ok (g x) s) → mapR f (r.map h) s = .ok (r.flatMap g) s
  | [], _ => rfl
  | x :: r, e => by
    show (f (h x) s).bind _ = _
    rw [e x List.mem_cons_self]
    show (mapR f (r.map h) s).bind _ = _
    rw [mapR_ofs (r := r) fun y hy => e y (List.mem_cons_of_mem _ hy)]
    rfl
theorem mapR_app {α : Type} {f : α → Sto → Res (List D)} {ys : List α} : ∀ {xs : List α} {a : List D} {s s' : Sto}, mapR f xs s = .ok a s' → mapR f (xs ++ ys) s = (mapR f ys s').bind fun b s2 => .ok (a ++ b) s2
  | [], a, s, s', h => by
    cases h
    show mapR f ys s = _
    cases mapR f ys s <;> rfl
  | x :: xs, a, s, s', h => by
    have h : (f x s).bind (fun a s1 => (mapR f xs s1).bind fun b s2 => .ok (a ++ b) s2) = .ok a s' := h
    show (f x s).bind (fun a s1 => (mapR f (xs ++ ys) s1).bind fun b s2 => .ok (a ++ b) s2) = _
    cases q : f x s with
    | ok c s1 =>
      rw [q] at h
      have h : (mapR f xs s1).bind (fun b s2 => .ok (c ++ b) s2) = .ok a s' := h
      show (mapR f (xs ++ ys) s1).bind (fun b s2 => .ok (c ++ b) s2) = _
      cases q2 : mapR f xs s1 with
      | ok d s2 =>
        rw [q2] at h
        have h : Res.ok (c ++ d) s2 = .ok a s' := h
        cases h
        rw [mapR_app q2]
        cases mapR f ys s' with
        | ok e s3 =>
          show Res.ok (c ++ (d ++ e)) s3 = .ok (c ++ d ++ e) s3
          rw [List.append_assoc]
        | ex _ _ => rfl
        | bad => rfl
      | ex _ _ => rw [q2] at h; cases h
      | bad => rw [q2] at h; cases h
    | ex _ _ => rw [q] at h; cases h
    | bad => rw [q] at h; cases h
theorem allBool_map {α : Type} (g : α → Bool) : ∀ xs : List α, allBool (xs.map fun x => .bool (g x)) = some (xs.map g)
  | [] => rfl
  | x :: xs => by
    show (allBool (xs.map fun x => .bool (g x))).map (g x :: ·) = _
    rw [allBool_map g xs]
    rfl
theorem allInt_map {α : Type} (g : α → Int) : ∀ xs : List α, allInt (xs.map fun x => .int (g x)) = some (xs.map g)
  | [] => rfl
  | x :: xs => by
    show (allInt (xs.map fun x => .int (g x))).map (g x :: ·) = _
    rw [allInt_map g xs]
    rfl
theorem atI_nat {α : Type} (xs : List α) (k : Nat) : L2.atI xs (k : Int) = xs[k]? := by
  unfold L2.atI L2.ixN
  rw [if_pos (Int.natCast_nonneg k)]
  by_cases h : k < xs.length
  · rw [if_pos (by exact_mod_cast h)]
    rfl
  · rw [if_neg (by exact_mod_cast h), List.getElem?_eq_none (by omega)]
    rfl
theorem all_true {α : Type} (r : List α) : (r.map fun _ => true).all id = true := by
  rw [List.all_eq_true]
  intro x hx
  obtain ⟨_, _, rfl⟩ := List.mem_map.mp hx
  rfl
theorem allBool_snoc : ∀ n : Nat, allBool (((List.range n).map fun _ => PyData.bool true) ++ [.bool false]) = some (((List.range n).map fun _ => true) ++ [false]) := fun n => by
  generalize List.range n = l
  induction l with
  | nil => rfl
  | cons x l ih =>
    show (allBool ((l.map fun _ => PyData.bool true) ++ [.bool false])).map (true :: ·) = _
    rw [ih]
    rfl
/-! ### is_whole -/
def S_whole (P : F) : Prop := ∀ (v lo hi : Int) s, P [.d (.int v), .d (.int lo), .d (.int hi)] s = .ok (.d (.bool (decide (lo ≤ v ∧ v ≤ hi)))) s
def oddD : D → Bool
  | .none => true
  | .bool _ => true
  | .str _ => true
  | _ => false
def S_wholeO (P : F) : Prop := ∀ (d : D) (lo hi : Int) s, oddD d = true → P [.d d, .d (.int lo), .d (.int hi)] s = .ok (.d (.bool false)) s
section
variable {G : Gd} {f : Ix}
theorem p_whole : S_whole (callD G (x_is_whole f)) := by
  intro v lo hi s
  simp only [x_is_whole, callD, exs, ex, ev, evL, evTs, q_bo, q_bx, q_no, q_op, q_uo, q_ux, q_on, q_or, q_ox, q_oo, q_tn, q_tb, q_ti, q_tl, q_tt, q_ab, q_ai, q_ad, q_add, q_sub, q_mul, q_fdv, q_mod, q_pow, q_att, q_all, q_ass, q_mlk, q_mtk, q_lt, q_le, q_gt, q_ge, q_eqi, q_in, q_ni, q_is, q_isn, q_ofb, q_ixl, q_ixt, q_ixs, q_sll, q_slt, q_b0, q_b1, q_s0, q_s1, q_s2, q_s3, q_s4, q_s5, q_f1, q_f2, q_f3, q_f4, q_f5, q_f6, q_f7, q_f8, q_f9, q_fa, q_fb, q_fc, q_fd, q_fe, q_i0l, q_i0t, q_i1, q_i2, q_i3, q_i4, q_i5, q_t1, q_t2, q_ads0, q_ads, q_sv0, q_sv, List.map_cons, List.map_nil, List.length_cons, List.length_nil, List.getElem?_cons_zero, List.getElem?_cons_succ, List.cons_append, List.nil_append, Option.map_some, Option.map_none, Option.bind_some, if_true, if_false, Bool.false_eq_true, List.replicate, List.set_cons_zero, List.set_cons_succ, blkE, dropE, wipeE, beq_self_eq_true, Bool.not_true, Bool.not_false, Bool.true_or, Bool.false_or, Bool.or_true, Bool.or_false, Bool.and_true, Bool.true_and]
  by_cases h : lo ≤ v <;> by_cases h2 : v ≤ hi <;> simp [h, h2, callD, exs, ex, ev, evL, evTs, q_bo, q_bx, q_no, q_op, q_uo, q_ux, q_on, q_or, q_ox, q_oo, q_tn, q_tb, q_ti, q_tl, q_tt, q_ab, q_ai, q_ad, q_add, q_sub, q_mul, q_fdv, q_mod, q_pow, q_att, q_all, q_ass, q_mlk, q_mtk, q_lt, q_le, q_gt, q_ge, q_eqi, q_in, q_ni, q_is, q_isn, q_ofb, q_ixl, q_ixt, q_ixs, q_sll, q_slt, q_b0, q_b1, q_s0, q_s1, q_s2, q_s3, q_s4, q_s5, q_f1, q_f2, q_f3, q_f4, q_f5, q_f6, q_f7, q_f8, q_f9, q_fa, q_fb, q_fc, q_fd, q_fe, q_i0l, q_i0t, q_i1, q_i2, q_i3, q_i4, q_i5, q_t1, q_t2, q_ads0, q_ads, q_sv0, q_sv, List.map_cons, List.map_nil, List.length_cons, List.length_nil, List.getElem?_cons_zero, List.getElem?_cons_succ, List.cons_append, List.nil_append, Option.map_some, Option.map_none, Option.bind_some, if_true, if_false, Bool.false_eq_true, List.replicate, List.set_cons_zero, List.set_cons_succ, blkE, dropE, wipeE, beq_self_eq_true, Bool.not_true, Bool.not_false, Bool.true_or, Bool.false_or, Bool.or_true, Bool.or_false, Bool.and_true, Bool.true_and]
theorem p_wholeO : S_wholeO (callD G (x_is_whole f)) := by
  intro d lo hi s h
  cases d <;> first | (cases h; done) | (simp [x_is_whole, callD, exs, ex, ev, evL, evTs, q_bo, q_bx, q_no, q_op, q_uo, q_ux, q_on, q_or, q_ox, q_oo, q_tn, q_tb, q_ti, q_tl, q_tt, q_ab, q_ai, q_ad, q_add, q_sub, q_mul, q_fdv, q_mod, q_pow, q_att, q_all, q_ass, q_mlk, q_mtk, q_lt, q_le, q_gt, q_ge, q_eqi, q_in, q_ni, q_is, q_isn, q_ofb, q_ixl, q_ixt, q_ixs, q_sll, q_slt, q_b0, q_b1, q_s0, q_s1, q_s2, q_s3, q_s4, q_s5, q_f1, q_f2, q_f3, q_f4, q_f5, q_f6, q_f7, q_f8, q_f9, q_fa, q_fb, q_fc, q_fd, q_fe, q_i0l, q_i0t, q_i1, q_i2, q_i3, q_i4, q_i5, q_t1, q_t2, q_ads0, q_ads, q_sv0, q_sv, List.map_cons, List.map_nil, List.length_cons, List.length_nil, List.getElem?_cons_zero, List.getElem?_cons_succ, List.cons_append, List.nil_append, Option.map_some, Option.map_none, Option.bind_some, if_true, if_false, Bool.false_eq_true, List.replicate, List.set_cons_zero, List.set_cons_succ, blkE, dropE, wipeE, beq_self_eq_true, Bool.not_true, Bool.not_false, Bool.true_or, Bool.false_or, Bool.or_true, Bool.or_false, Bool.and_true, Bool.true_and]; done)
/-! ### is_lot, is_table -/
def S_lot (P : F) : Prop := ∀ (r : List Nat) (many : Nat) s, (∀ x ∈ r, x < many) → r.Pairwise (· < ·) → r.length ≤ 1000 → P [.d (rowD r), .d (.int many)] s = .ok (.d (.bool true)) s
def S_lotI (P : F) : Prop := ∀ (k m : Int) s, P [.d (.int k), .d (.int m)] s = .ok (.d (.bool false)) s
theorem zip_tail (r : List Nat) : (r.map iv).zipWith (fun x y => PyData.tuple [x, y]) ((r.map iv).drop 1) = (r.zip (r.drop 1)).map fun p => .tuple [iv p.1, iv p.2] := by
  rw [← List.map_drop, List.zipWith_map, List.zip, List.map_zipWith]
theorem pair_lt : ∀ {r : List Nat}, r.Pairwise (· < ·) → ∀ p ∈ r.zip (r.drop 1), p.1 < p.2
  | [], _, p, hp => by simp at hp
  | [x], _, p, hp => by simp at hp
  | x :: y :: r, h, p, hp => by
    rw [List.pairwise_cons] at h
    simp only [List.drop_succ_cons, List.drop_zero, List.zip_cons_cons, List.mem_cons] at hp
    rcases hp with rfl | hp
    · exact h.1 y List.mem_cons_self
    · exact pair_lt h.2 p (by simpa using hp)
theorem p_lot (w : S_whole (G.fn f.is_whole)) : S_lot (callD G (x_is_lot f)) := by
  intro r many s h1 h2 h3
  have e1 : ∀ x ∈ r, (decide ((0 : Int) ≤ (x : Int) ∧ (x : Int) ≤ (many : Int) - 1)) = true := fun x hx => by
    have := h1 x hx
    simp
    omega
  simp only [x_is_lot, rowD, callD, exs, ex, ev, evL, evTs, q_bo, q_bx, q_no, q_op, q_uo, q_ux, q_on, q_or, q_ox, q_oo, q_tn, q_tb, q_ti, q_tl, q_tt, q_ab, q_ai, q_ad, q_add, q_sub, q_mul, q_fdv, q_mod, q_pow, q_att, q_all, q_ass, q_mlk, q_mtk, q_lt, q_le, q_gt, q_ge, q_eqi, q_in, q_ni, q_is, q_isn, q_ofb, q_ixl, q_ixt, q_ixs, q_sll, q_slt, q_b0, q_b1, q_s0, q_s1, q_s2, q_s3, q_s4, q_s5, q_f1, q_f2, q_f3, q_f4, q_f5, q_f6, q_f7, q_f8, q_f9, q_fa, q_fb, q_fc, q_fd, q_fe, q_i0l, q_i0t, q_i1, q_i2, q_i3, q_i4, q_i5, q_t1, q_t2, q_ads0, q_ads, q_sv0, q_sv, List.map_cons, List.map_nil, List.length_cons, List.length_nil, List.getElem?_cons_zero, List.getElem?_cons_succ, List.cons_append, List.nil_append, Option.map_some, Option.map_none, Option.bind_some, if_true, if_false, Bool.false_eq_true, List.replicate, List.set_cons_zero, List.set_cons_succ, blkE, dropE, wipeE, beq_self_eq_true, Bool.not_true, Bool.not_false, Bool.true_or, Bool.false_or, Bool.or_true, Bool.or_false, Bool.and_true, Bool.true_and]
  rw [mapR_of (g := fun _ => .bool true) (by
    intro k hk
    show (G.fn f.is_whole [Vl.d (.int (k : Int)), Vl.d (PyData.int 0), Vl.d (PyData.int (↑many - 1))] s).bind _ = _
    rw [w, e1 k hk]
    rfl)]
  simp only [callD, exs, ex, ev, evL, evTs, q_bo, q_bx, q_no, q_op, q_uo, q_ux, q_on, q_or, q_ox, q_oo, q_tn, q_tb, q_ti, q_tl, q_tt, q_ab, q_ai, q_ad, q_add, q_sub, q_mul, q_fdv, q_mod, q_pow, q_att, q_all, q_ass, q_mlk, q_mtk, q_lt, q_le, q_gt, q_ge, q_eqi, q_in, q_ni, q_is, q_isn, q_ofb, q_ixl, q_ixt, q_ixs, q_sll, q_slt, q_b0, q_b1, q_s0, q_s1, q_s2, q_s3, q_s4, q_s5, q_f1, q_f2, q_f3, q_f4, q_f5, q_f6, q_f7, q_f8, q_f9, q_fa, q_fb, q_fc, q_fd, q_fe, q_i0l, q_i0t, q_i1, q_i2, q_i3, q_i4, q_i5, q_t1, q_t2, q_ads0, q_ads, q_sv0, q_sv, List.map_cons, List.map_nil, List.length_cons, List.length_nil, List.getElem?_cons_zero, List.getElem?_cons_succ, List.cons_append, List.nil_append, Option.map_some, Option.map_none, Option.bind_some, if_true, if_false, Bool.false_eq_true, List.replicate, List.set_cons_zero, List.set_cons_succ, blkE, dropE, wipeE, beq_self_eq_true, Bool.not_true, Bool.not_false, Bool.true_or, Bool.false_or, Bool.or_true, Bool.or_false, Bool.and_true, Bool.true_and, allBool_map, all_true]
  have ec : cutD (r.map iv) (some 1) none = (r.map iv).drop 1 := by
    unfold cutD
    rw [show HT.sIx (r.map iv).length 0 (some 1) = min 1 (r.map iv).length from HT.sIx_nat _ _ 1, HT.sIx_none]
    rw [List.take_of_length_le (by rw [List.length_drop]; exact Nat.le_refl _)]
    by_cases hr : r = []
    · rw [hr]; rfl
    · rw [Nat.min_eq_left (by rw [List.length_map]; exact Nat.succ_le_of_lt (List.length_pos_iff.mpr hr))]
  rw [ec, zip_tail, mapR_of (g := fun _ => .bool true) (by
    intro p hp
    simp only [callD, exs, ex, ev, evL, evTs, q_bo, q_bx, q_no, q_op, q_uo, q_ux, q_on, q_or, q_ox, q_oo, q_tn, q_tb, q_ti, q_tl, q_tt, q_ab, q_ai, q_ad, q_add, q_sub, q_mul, q_fdv, q_mod, q_pow, q_att, q_all, q_ass, q_mlk, q_mtk, q_lt, q_le, q_gt, q_ge, q_eqi, q_in, q_ni, q_is, q_isn, q_ofb, q_ixl, q_ixt, q_ixs, q_sll, q_slt, q_b0, q_b1, q_s0, q_s1, q_s2, q_s3, q_s4, q_s5, q_f1, q_f2, q_f3, q_f4, q_f5, q_f6, q_f7, q_f8, q_f9, q_fa, q_fb, q_fc, q_fd, q_fe, q_i0l, q_i0t, q_i1, q_i2, q_i3, q_i4, q_i5, q_t1, q_t2, q_ads0, q_ads, q_sv0, q_sv, List.map_cons, List.map_nil, List.length_cons, List.length_nil, List.getElem?_cons_zero, List.getElem?_cons_succ, List.cons_append, List.nil_append, Option.map_some, Option.map_none, Option.bind_some, if_true, if_false, Bool.false_eq_true, List.replicate, List.set_cons_zero, List.set_cons_succ, blkE, dropE, wipeE, beq_self_eq_true, Bool.not_true, Bool.not_false, Bool.true_or, Bool.false_or, Bool.or_true, Bool.or_false, Bool.and_true, Bool.true_and, iv]
    have := pair_lt h2 p hp
    rw [decide_eq_true (by exact_mod_cast this)])]
  simp only [callD, exs, ex, ev, evL, evTs, q_bo, q_bx, q_no, q_op, q_uo, q_ux, q_on, q_or, q_ox, q_oo, q_tn, q_tb, q_ti, q_tl, q_tt, q_ab, q_ai, q_ad, q_add, q_sub, q_mul, q_fdv, q_mod, q_pow, q_att, q_all, q_ass, q_mlk, q_mtk, q_lt, q_le, q_gt, q_ge, q_eqi, q_in, q_ni, q_is, q_isn, q_ofb, q_ixl, q_ixt, q_ixs, q_sll, q_slt, q_b0, q_b1, q_s0, q_s1, q_s2, q_s3, q_s4, q_s5, q_f1, q_f2, q_f3, q_f4, q_f5, q_f6, q_f7, q_f8, q_f9, q_fa, q_fb, q_fc, q_fd, q_fe, q_i0l, q_i0t, q_i1, q_i2, q_i3, q_i4, q_i5, q_t1, q_t2, q_ads0, q_ads, q_sv0, q_sv, List.map_cons, List.map_nil, List.length_cons, List.length_nil, List.getElem?_cons_zero, List.getElem?_cons_succ, List.cons_append, List.nil_append, Option.map_some, Option.map_none, Option.bind_some, if_true, if_false, Bool.false_eq_true, List.replicate, List.set_cons_zero, List.set_cons_succ, blkE, dropE, wipeE, beq_self_eq_true, Bool.not_true, Bool.not_false, Bool.true_or, Bool.false_or, Bool.or_true, Bool.or_false, Bool.and_true, Bool.true_and, allBool_map, all_true]
theorem p_lotI : S_lotI (callD G (x_is_lot f)) := by
  intro k m s
  simp [x_is_lot, callD, exs, ex, ev, evL, evTs, q_bo, q_bx, q_no, q_op, q_uo, q_ux, q_on, q_or, q_ox, q_oo, q_tn, q_tb, q_ti, q_tl, q_tt, q_ab, q_ai, q_ad, q_add, q_sub, q_mul, q_fdv, q_mod, q_pow, q_att, q_all, q_ass, q_mlk, q_mtk, q_lt, q_le, q_gt, q_ge, q_eqi, q_in, q_ni, q_is, q_isn, q_ofb, q_ixl, q_ixt, q_ixs, q_sll, q_slt, q_b0, q_b1, q_s0, q_s1, q_s2, q_s3, q_s4, q_s5, q_f1, q_f2, q_f3, q_f4, q_f5, q_f6, q_f7, q_f8, q_f9, q_fa, q_fb, q_fc, q_fd, q_fe, q_i0l, q_i0t, q_i1, q_i2, q_i3, q_i4, q_i5, q_t1, q_t2, q_ads0, q_ads, q_sv0, q_sv, List.map_cons, List.map_nil, List.length_cons, List.length_nil, List.getElem?_cons_zero, List.getElem?_cons_succ, List.cons_append, List.nil_append, Option.map_some, Option.map_none, Option.bind_some, if_true, if_false, Bool.false_eq_true, List.replicate, List.set_cons_zero, List.set_cons_succ, blkE, dropE, wipeE, beq_self_eq_true, Bool.not_true, Bool.not_false, Bool.true_or, Bool.false_or, Bool.or_true, Bool.or_false, Bool.and_true, Bool.true_and]
def Tab (n : Nat) (t : List (List Nat)) : Prop := ∃ R, t = T n R
theorem T_len (n : Nat) (R) : (T n R).length = n := by unfold T; rw [List.length_map, List.length_range]
theorem T_get {n i : Nat} {R : Nat → Nat → Bool} (h : i < n) : (T n R)[i]? = some ((List.range n).filter (R i)) := by
  unfold T
  rw [List.getElem?_map, List.getElem?_range h]
  rfl
theorem row_srt {n : Nat} (p : Nat → Bool) : ((List.range n).filter p).Pairwise (· < ·) := List.Pairwise.filter _ List.pairwise_lt_range
theorem row_lt {n : Nat} {p : Nat → Bool} {x : Nat} (h : x ∈ (List.range n).filter p) : x < n := List.mem_range.mp (List.mem_filter.mp h).1
theorem row_len {n : Nat} (p : Nat → Bool) : ((List.range n).filter p).length ≤ n := by
  have := List.length_filter_le p (List.range n)
  rwa [List.length_range] at this
/-! ### is_table -/
def S_table (P : F) : Prop := ∀ (n : Nat) R s, 1 ≤ n → n ≤ 6 → P [.d (tabD (T n R))] s = .ok (.d (.bool true)) s
theorem p_table (w : S_lot (G.fn f.is_lot)) : S_table (callD G (x_is_table f)) := by
  intro n R s h1 h2
  have e1 : (decide ((1 : Int) ≤ (n : Int))) = true := decide_eq_true (by exact_mod_cast h1)
  have e2 : (decide ((n : Int) ≤ (6 : Int))) = true := decide_eq_true (by exact_mod_cast h2)
  simp only [x_is_table, tabD, callD, exs, ex, ev, evL, evTs, q_bo, q_bx, q_no, q_op, q_uo, q_ux, q_on, q_or, q_ox, q_oo, q_tn, q_tb, q_ti, q_tl, q_tt, q_ab, q_ai, q_ad, q_add, q_sub, q_mul, q_fdv, q_mod, q_pow, q_att, q_all, q_ass, q_mlk, q_mtk, q_lt, q_le, q_gt, q_ge, q_eqi, q_in, q_ni, q_is, q_isn, q_ofb, q_ixl, q_ixt, q_ixs, q_sll, q_slt, q_b0, q_b1, q_s0, q_s1, q_s2, q_s3, q_s4, q_s5, q_f1, q_f2, q_f3, q_f4, q_f5, q_f6, q_f7, q_f8, q_f9, q_fa, q_fb, q_fc, q_fd, q_fe, q_i0l, q_i0t, q_i1, q_i2, q_i3, q_i4, q_i5, q_t1, q_t2, q_ads0, q_ads, q_sv0, q_sv, List.map_cons, List.map_nil, List.length_cons, List.length_nil, List.getElem?_cons_zero, List.getElem?_cons_succ, List.cons_append, List.nil_append, Option.map_some, Option.map_none, Option.bind_some, if_true, if_false, Bool.false_eq_true, List.replicate, List.set_cons_zero, List.set_cons_succ, blkE, dropE, wipeE, beq_self_eq_true, Bool.not_true, Bool.not_false, Bool.true_or, Bool.false_or, Bool.or_true, Bool.or_false, Bool.and_true, Bool.true_and, List.length_map, T_len, e1, e2]
  unfold T
  rw [List.map_map, mapR_of (g := fun _ => .bool true) (by
    intro k hk
    show (G.fn f.is_lot [Vl.d (rowD ((List.range n).filter (R k))), Vl.d (PyData.int (n : Int))] s).bind _ = _
    rw [w _ n s (fun x hx => row_lt hx) (row_srt _) (Nat.le_trans (row_len _) (by omega))]
    rfl)]
  simp only [callD, exs, ex, ev, evL, evTs, q_bo, q_bx, q_no, q_op, q_uo, q_ux, q_on, q_or, q_ox, q_oo, q_tn, q_tb, q_ti, q_tl, q_tt, q_ab, q_ai, q_ad, q_add, q_sub, q_mul, q_fdv, q_mod, q_pow, q_att, q_all, q_ass, q_mlk, q_mtk, q_lt, q_le, q_gt, q_ge, q_eqi, q_in, q_ni, q_is, q_isn, q_ofb, q_ixl, q_ixt, q_ixs, q_sll, q_slt, q_b0, q_b1, q_s0, q_s1, q_s2, q_s3, q_s4, q_s5, q_f1, q_f2, q_f3, q_f4, q_f5, q_f6, q_f7, q_f8, q_f9, q_fa, q_fb, q_fc, q_fd, q_fe, q_i0l, q_i0t, q_i1, q_i2, q_i3, q_i4, q_i5, q_t1, q_t2, q_ads0, q_ads, q_sv0, q_sv, List.map_cons, List.map_nil, List.length_cons, List.length_nil, List.getElem?_cons_zero, List.getElem?_cons_succ, List.cons_append, List.nil_append, Option.map_some, Option.map_none, Option.bind_some, if_true, if_false, Bool.false_eq_true, List.replicate, List.set_cons_zero, List.set_cons_succ, blkE, dropE, wipeE, beq_self_eq_true, Bool.not_true, Bool.not_false, Bool.true_or, Bool.false_or, Bool.or_true, Bool.or_false, Bool.and_true, Bool.true_and, allBool_map, all_true]
/-- a table with a number behind its rows -/
def S_tableO (P : F) : Prop := ∀ (n : Nat) R (k : Int) s, 1 ≤ n → n ≤ 6 → P [.d (.tuple ((T n R).map rowD ++ [.int k]))] s = .ok (.d (.bool false)) s
theorem p_tableO (w : S_lot (G.fn f.is_lot)) (w2 : S_lotI (G.fn f.is_lot)) : S_tableO (callD G (x_is_table f)) := by
  intro n R k s h1 h2
  by_cases h6 : n = 6
  · subst h6
    simp [x_is_table, callD, exs, ex, ev, evL, evTs, q_bo, q_bx, q_no, q_op, q_uo, q_ux, q_on, q_or, q_ox, q_oo, q_tn, q_tb, q_ti, q_tl, q_tt, q_ab, q_ai, q_ad, q_add, q_sub, q_mul, q_fdv, q_mod, q_pow, q_att, q_all, q_ass, q_mlk, q_mtk, q_lt, q_le, q_gt, q_ge, q_eqi, q_in, q_ni, q_is, q_isn, q_ofb, q_ixl, q_ixt, q_ixs, q_sll, q_slt, q_b0, q_b1, q_s0, q_s1, q_s2, q_s3, q_s4, q_s5, q_f1, q_f2, q_f3, q_f4, q_f5, q_f6, q_f7, q_f8, q_f9, q_fa, q_fb, q_fc, q_fd, q_fe, q_i0l, q_i0t, q_i1, q_i2, q_i3, q_i4, q_i5, q_t1, q_t2, q_ads0, q_ads, q_sv0, q_sv, List.map_cons, List.map_nil, List.length_cons, List.length_nil, List.getElem?_cons_zero, List.getElem?_cons_succ, List.cons_append, List.nil_append, Option.map_some, Option.map_none, Option.bind_some, if_true, if_false, Bool.false_eq_true, List.replicate, List.set_cons_zero, List.set_cons_succ, blkE, dropE, wipeE, beq_self_eq_true, Bool.not_true, Bool.not_false, Bool.true_or, Bool.false_or, Bool.or_true, Bool.or_false, Bool.and_true, Bool.true_and, List.length_append, List.length_map, T_len]
  · have e1 : (decide ((1 : Int) ≤ ((n + 1 : Nat) : Int))) = true := decide_eq_true (by omega)
    have e2 : (decide (((n + 1 : Nat) : Int) ≤ (6 : Int))) = true := decide_eq_true (by omega)
    simp only [x_is_table, callD, exs, ex, ev, evL, evTs, q_bo, q_bx, q_no, q_op, q_uo, q_ux, q_on, q_or, q_ox, q_oo, q_tn, q_tb, q_ti, q_tl, q_tt, q_ab, q_ai, q_ad, q_add, q_sub, q_mul, q_fdv, q_mod, q_pow, q_att, q_all, q_ass, q_mlk, q_mtk, q_lt, q_le, q_gt, q_ge, q_eqi, q_in, q_ni, q_is, q_isn, q_ofb, q_ixl, q_ixt, q_ixs, q_sll, q_slt, q_b0, q_b1, q_s0, q_s1, q_s2, q_s3, q_s4, q_s5, q_f1, q_f2, q_f3, q_f4, q_f5, q_f6, q_f7, q_f8, q_f9, q_fa, q_fb, q_fc, q_fd, q_fe, q_i0l, q_i0t, q_i1, q_i2, q_i3, q_i4, q_i5, q_t1, q_t2, q_ads0, q_ads, q_sv0, q_sv, List.map_cons, List.map_nil, List.length_cons, List.length_nil, List.getElem?_cons_zero, List.getElem?_cons_succ, List.cons_append, List.nil_append, Option.map_some, Option.map_none, Option.bind_some, if_true, if_false, Bool.false_eq_true, List.replicate, List.set_cons_zero, List.set_cons_succ, blkE, dropE, wipeE, beq_self_eq_true, Bool.not_true, Bool.not_false, Bool.true_or, Bool.false_or, Bool.or_true, Bool.or_false, Bool.and_true, Bool.true_and, List.length_append, List.length_map, T_len, e1, e2]
    have ea : mapR (fun x s => (G.fn f.is_lot [Vl.d x, Vl.d (PyData.int ((n + 1 : Nat) : Int))] s).bind fun y s2 => Res.opt (Option.map (fun y => [y]) (asD y)) s2) ((T n R).map rowD) s = .ok ((List.range n).map fun _ => .bool true) s := by
      unfold T
      rw [List.map_map, mapR_of (g := fun _ => .bool true)]
      intro k hk
      show (G.fn f.is_lot [Vl.d (rowD ((List.range n).filter (R k))), Vl.d (PyData.int ((n + 1 : Nat) : Int))] s).bind _ = _
      rw [w _ (n + 1) s (fun x hx => Nat.lt_succ_of_lt (row_lt hx)) (row_srt _) (Nat.le_trans (row_len _) (by omega))]
      rfl
    rw [mapR_app ea]
    have eb : mapR (fun x s => (G.fn f.is_lot [Vl.d x, Vl.d (PyData.int ((n + 1 : Nat) : Int))] s).bind fun y s2 => Res.opt (Option.map (fun y => [y]) (asD y)) s2) [.int k] s = .ok [.bool false] s := by
      show ((G.fn f.is_lot [Vl.d (.int k), Vl.d (PyData.int ((n + 1 : Nat) : Int))] s).bind _).bind _ = _
      rw [w2]
      rfl
    rw [eb]
    have ec : allBool (((List.range n).map fun _ => PyData.bool true) ++ [.bool false]) = some (((List.range n).map fun _ => true) ++ [false]) := allBool_snoc n
    simp only [callD, exs, ex, ev, evL, evTs, q_bo, q_bx, q_no, q_op, q_uo, q_ux, q_on, q_or, q_ox, q_oo, q_tn, q_tb, q_ti, q_tl, q_tt, q_ab, q_ai, q_ad, q_add, q_sub, q_mul, q_fdv, q_mod, q_pow, q_att, q_all, q_ass, q_mlk, q_mtk, q_lt, q_le, q_gt, q_ge, q_eqi, q_in, q_ni, q_is, q_isn, q_ofb, q_ixl, q_ixt, q_ixs, q_sll, q_slt, q_b0, q_b1, q_s0, q_s1, q_s2, q_s3, q_s4, q_s5, q_f1, q_f2, q_f3, q_f4, q_f5, q_f6, q_f7, q_f8, q_f9, q_fa, q_fb, q_fc, q_fd, q_fe, q_i0l, q_i0t, q_i1, q_i2, q_i3, q_i4, q_i5, q_t1, q_t2, q_ads0, q_ads, q_sv0, q_sv, List.map_cons, List.map_nil, List.length_cons, List.length_nil, List.getElem?_cons_zero, List.getElem?_cons_succ, List.cons_append, List.nil_append, Option.map_some, Option.map_none, Option.bind_some, if_true, if_false, Bool.false_eq_true, List.replicate, List.set_cons_zero, List.set_cons_succ, blkE, dropE, wipeE, beq_self_eq_true, Bool.not_true, Bool.not_false, Bool.true_or, Bool.false_or, Bool.or_true, Bool.or_false, Bool.and_true, Bool.true_and, ec, List.all_append, List.all_cons, List.all_nil, id, Bool.and_false]
/-! ### the raisers -/
def S_ntab (P : F) : Prop := ∀ (n : Nat) R s, 1 ≤ n → n ≤ 6 → P [.d (tabD (T n R))] s = .ok (.d .none) s
def S_ntabO (P : F) : Prop := ∀ (n : Nat) R (k : Int) s, 1 ≤ n → n ≤ 6 → P [.d (.tuple ((T n R).map rowD ++ [.int k]))] s = .ex "InvalidTable" s
theorem p_ntab (w : S_table (G.fn f.is_table)) : S_ntab (callD G (x_need_table f)) := by
  intro n R s h1 h2
  simp only [x_need_table, callD, exs, ex, ev, evL, evTs, q_bo, q_bx, q_no, q_op, q_uo, q_ux, q_on, q_or, q_ox, q_oo, q_tn, q_tb, q_ti, q_tl, q_tt, q_ab, q_ai, q_ad, q_add, q_sub, q_mul, q_fdv, q_mod, q_pow, q_att, q_all, q_ass, q_mlk, q_mtk, q_lt, q_le, q_gt, q_ge, q_eqi, q_in, q_ni, q_is, q_isn, q_ofb, q_ixl, q_ixt, q_ixs, q_sll, q_slt, q_b0, q_b1, q_s0, q_s1, q_s2, q_s3, q_s4, q_s5, q_f1, q_f2, q_f3, q_f4, q_f5, q_f6, q_f7, q_f8, q_f9, q_fa, q_fb, q_fc, q_fd, q_fe, q_i0l, q_i0t, q_i1, q_i2, q_i3, q_i4, q_i5, q_t1, q_t2, q_ads0, q_ads, q_sv0, q_sv, List.map_cons, List.map_nil, List.length_cons, List.length_nil, List.getElem?_cons_zero, List.getElem?_cons_succ, List.cons_append, List.nil_append, Option.map_some, Option.map_none, Option.bind_some, if_true, if_false, Bool.false_eq_true, List.replicate, List.set_cons_zero, List.set_cons_succ, blkE, dropE, wipeE, beq_self_eq_true, Bool.not_true, Bool.not_false, Bool.true_or, Bool.false_or, Bool.or_true, Bool.or_false, Bool.and_true, Bool.true_and, w n R s h1 h2]
theorem p_ntabO (w : S_tableO (G.fn f.is_table)) : S_ntabO (callD G (x_need_table f)) := by
  intro n R k s h1 h2
  simp only [x_need_table, callD, exs, ex, ev, evL, evTs, q_bo, q_bx, q_no, q_op, q_uo, q_ux, q_on, q_or, q_ox, q_oo, q_tn, q_tb, q_ti, q_tl, q_tt, q_ab, q_ai, q_ad, q_add, q_sub, q_mul, q_fdv, q_mod, q_pow, q_att, q_all, q_ass, q_mlk, q_mtk, q_lt, q_le, q_gt, q_ge, q_eqi, q_in, q_ni, q_is, q_isn, q_ofb, q_ixl, q_ixt, q_ixs, q_sll, q_slt, q_b0, q_b1, q_s0, q_s1, q_s2, q_s3, q_s4, q_s5, q_f1, q_f2, q_f3, q_f4, q_f5, q_f6, q_f7, q_f8, q_f9, q_fa, q_fb, q_fc, q_fd, q_fe, q_i0l, q_i0t, q_i1, q_i2, q_i3, q_i4, q_i5, q_t1, q_t2, q_ads0, q_ads, q_sv0, q_sv, List.map_cons, List.map_nil, List.length_cons, List.length_nil, List.getElem?_cons_zero, List.getElem?_cons_succ, List.cons_append, List.nil_append, Option.map_some, Option.map_none, Option.bind_some, if_true, if_false, Bool.false_eq_true, List.replicate, List.set_cons_zero, List.set_cons_succ, blkE, dropE, wipeE, beq_self_eq_true, Bool.not_true, Bool.not_false, Bool.true_or, Bool.false_or, Bool.or_true, Bool.or_false, Bool.and_true, Bool.true_and, w n R k s h1 h2]
def S_nper (P : F) : Prop := ∀ (v m : Int) s, P [.d (.int v), .d (.int m)] s = if 0 ≤ v ∧ v ≤ m - 1 then .ok (.d .none) s else .ex "InvalidPerson" s
def S_nperO (P : F) : Prop := ∀ (d : D) (m : Int) s, oddD d = true → P [.d d, .d (.int m)] s = .ex "InvalidPerson" s
theorem p_nper (w : S_whole (G.fn f.is_whole)) : S_nper (callD G (x_need_person f)) := by
  intro v m s
  simp only [x_need_person, callD, exs, ex, ev, evL, evTs, q_bo, q_bx, q_no, q_op, q_uo, q_ux, q_on, q_or, q_ox, q_oo, q_tn, q_tb, q_ti, q_tl, q_tt, q_ab, q_ai, q_ad, q_add, q_sub, q_mul, q_fdv, q_mod, q_pow, q_att, q_all, q_ass, q_mlk, q_mtk, q_lt, q_le, q_gt, q_ge, q_eqi, q_in, q_ni, q_is, q_isn, q_ofb, q_ixl, q_ixt, q_ixs, q_sll, q_slt, q_b0, q_b1, q_s0, q_s1, q_s2, q_s3, q_s4, q_s5, q_f1, q_f2, q_f3, q_f4, q_f5, q_f6, q_f7, q_f8, q_f9, q_fa, q_fb, q_fc, q_fd, q_fe, q_i0l, q_i0t, q_i1, q_i2, q_i3, q_i4, q_i5, q_t1, q_t2, q_ads0, q_ads, q_sv0, q_sv, List.map_cons, List.map_nil, List.length_cons, List.length_nil, List.getElem?_cons_zero, List.getElem?_cons_succ, List.cons_append, List.nil_append, Option.map_some, Option.map_none, Option.bind_some, if_true, if_false, Bool.false_eq_true, List.replicate, List.set_cons_zero, List.set_cons_succ, blkE, dropE, wipeE, beq_self_eq_true, Bool.not_true, Bool.not_false, Bool.true_or, Bool.false_or, Bool.or_true, Bool.or_false, Bool.and_true, Bool.true_and, w v 0 (m - 1) s]
  by_cases h : 0 ≤ v ∧ v ≤ m - 1
  · simp [h, callD, exs, ex, ev, evL, evTs, q_bo, q_bx, q_no, q_op, q_uo, q_ux, q_on, q_or, q_ox, q_oo, q_tn, q_tb, q_ti, q_tl, q_tt, q_ab, q_ai, q_ad, q_add, q_sub, q_mul, q_fdv, q_mod, q_pow, q_att, q_all, q_ass, q_mlk, q_mtk, q_lt, q_le, q_gt, q_ge, q_eqi, q_in, q_ni, q_is, q_isn, q_ofb, q_ixl, q_ixt, q_ixs, q_sll, q_slt, q_b0, q_b1, q_s0, q_s1, q_s2, q_s3, q_s4, q_s5, q_f1, q_f2, q_f3, q_f4, q_f5, q_f6, q_f7, q_f8, q_f9, q_fa, q_fb, q_fc, q_fd, q_fe, q_i0l, q_i0t, q_i1, q_i2, q_i3, q_i4, q_i5, q_t1, q_t2, q_ads0, q_ads, q_sv0, q_sv, List.map_cons, List.map_nil, List.length_cons, List.length_nil, List.getElem?_cons_zero, List.getElem?_cons_succ, List.cons_append, List.nil_append, Option.map_some, Option.map_none, Option.bind_some, if_true, if_false, Bool.false_eq_true, List.replicate, List.set_cons_zero, List.set_cons_succ, blkE, dropE, wipeE, beq_self_eq_true, Bool.not_true, Bool.not_false, Bool.true_or, Bool.false_or, Bool.or_true, Bool.or_false, Bool.and_true, Bool.true_and]
  · simp [h, callD, exs, ex, ev, evL, evTs, q_bo, q_bx, q_no, q_op, q_uo, q_ux, q_on, q_or, q_ox, q_oo, q_tn, q_tb, q_ti, q_tl, q_tt, q_ab, q_ai, q_ad, q_add, q_sub, q_mul, q_fdv, q_mod, q_pow, q_att, q_all, q_ass, q_mlk, q_mtk, q_lt, q_le, q_gt, q_ge, q_eqi, q_in, q_ni, q_is, q_isn, q_ofb, q_ixl, q_ixt, q_ixs, q_sll, q_slt, q_b0, q_b1, q_s0, q_s1, q_s2, q_s3, q_s4, q_s5, q_f1, q_f2, q_f3, q_f4, q_f5, q_f6, q_f7, q_f8, q_f9, q_fa, q_fb, q_fc, q_fd, q_fe, q_i0l, q_i0t, q_i1, q_i2, q_i3, q_i4, q_i5, q_t1, q_t2, q_ads0, q_ads, q_sv0, q_sv, List.map_cons, List.map_nil, List.length_cons, List.length_nil, List.getElem?_cons_zero, List.getElem?_cons_succ, List.cons_append, List.nil_append, Option.map_some, Option.map_none, Option.bind_some, if_true, if_false, Bool.false_eq_true, List.replicate, List.set_cons_zero, List.set_cons_succ, blkE, dropE, wipeE, beq_self_eq_true, Bool.not_true, Bool.not_false, Bool.true_or, Bool.false_or, Bool.or_true, Bool.or_false, Bool.and_true, Bool.true_and]
theorem p_nperO (w : S_wholeO (G.fn f.is_whole)) : S_nperO (callD G (x_need_person f)) := by
  intro d m s h
  simp only [x_need_person, callD, exs, ex, ev, evL, evTs, q_bo, q_bx, q_no, q_op, q_uo, q_ux, q_on, q_or, q_ox, q_oo, q_tn, q_tb, q_ti, q_tl, q_tt, q_ab, q_ai, q_ad, q_add, q_sub, q_mul, q_fdv, q_mod, q_pow, q_att, q_all, q_ass, q_mlk, q_mtk, q_lt, q_le, q_gt, q_ge, q_eqi, q_in, q_ni, q_is, q_isn, q_ofb, q_ixl, q_ixt, q_ixs, q_sll, q_slt, q_b0, q_b1, q_s0, q_s1, q_s2, q_s3, q_s4, q_s5, q_f1, q_f2, q_f3, q_f4, q_f5, q_f6, q_f7, q_f8, q_f9, q_fa, q_fb, q_fc, q_fd, q_fe, q_i0l, q_i0t, q_i1, q_i2, q_i3, q_i4, q_i5, q_t1, q_t2, q_ads0, q_ads, q_sv0, q_sv, List.map_cons, List.map_nil, List.length_cons, List.length_nil, List.getElem?_cons_zero, List.getElem?_cons_succ, List.cons_append, List.nil_append, Option.map_some, Option.map_none, Option.bind_some, if_true, if_false, Bool.false_eq_true, List.replicate, List.set_cons_zero, List.set_cons_succ, blkE, dropE, wipeE, beq_self_eq_true, Bool.not_true, Bool.not_false, Bool.true_or, Bool.false_or, Bool.or_true, Bool.or_false, Bool.and_true, Bool.true_and, w d _ _ _ h]
def S_nrou (P : F) : Prop := ∀ (v m : Int) s, P [.d (.int v), .d (.int m)] s = if 0 ≤ v ∧ v ≤ m then .ok (.d .none) s else .ex "InvalidRounds" s
def S_nrouO (P : F) : Prop := ∀ (d : D) (m : Int) s, oddD d = true → P [.d d, .d (.int m)] s = .ex "InvalidRounds" s
theorem p_nrou (w : S_whole (G.fn f.is_whole)) : S_nrou (callD G (x_need_rounds f)) := by
  intro v m s
  simp only [x_need_rounds, callD, exs, ex, ev, evL, evTs, q_bo, q_bx, q_no, q_op, q_uo, q_ux, q_on, q_or, q_ox, q_oo, q_tn, q_tb, q_ti, q_tl, q_tt, q_ab, q_ai, q_ad, q_add, q_sub, q_mul, q_fdv, q_mod, q_pow, q_att, q_all, q_ass, q_mlk, q_mtk, q_lt, q_le, q_gt, q_ge, q_eqi, q_in, q_ni, q_is, q_isn, q_ofb, q_ixl, q_ixt, q_ixs, q_sll, q_slt, q_b0, q_b1, q_s0, q_s1, q_s2, q_s3, q_s4, q_s5, q_f1, q_f2, q_f3, q_f4, q_f5, q_f6, q_f7, q_f8, q_f9, q_fa, q_fb, q_fc, q_fd, q_fe, q_i0l, q_i0t, q_i1, q_i2, q_i3, q_i4, q_i5, q_t1, q_t2, q_ads0, q_ads, q_sv0, q_sv, List.map_cons, List.map_nil, List.length_cons, List.length_nil, List.getElem?_cons_zero, List.getElem?_cons_succ, List.cons_append, List.nil_append, Option.map_some, Option.map_none, Option.bind_some, if_true, if_false, Bool.false_eq_true, List.replicate, List.set_cons_zero, List.set_cons_succ, blkE, dropE, wipeE, beq_self_eq_true, Bool.not_true, Bool.not_false, Bool.true_or, Bool.false_or, Bool.or_true, Bool.or_false, Bool.and_true, Bool.true_and, w v 0 m s]
  by_cases h : 0 ≤ v ∧ v ≤ m
  · simp [h, callD, exs, ex, ev, evL, evTs, q_bo, q_bx, q_no, q_op, q_uo, q_ux, q_on, q_or, q_ox, q_oo, q_tn, q_tb, q_ti, q_tl, q_tt, q_ab, q_ai, q_ad, q_add, q_sub, q_mul, q_fdv, q_mod, q_pow, q_att, q_all, q_ass, q_mlk, q_mtk, q_lt, q_le, q_gt, q_ge, q_eqi, q_in, q_ni, q_is, q_isn, q_ofb, q_ixl, q_ixt, q_ixs, q_sll, q_slt, q_b0, q_b1, q_s0, q_s1, q_s2, q_s3, q_s4, q_s5, q_f1, q_f2, q_f3, q_f4, q_f5, q_f6, q_f7, q_f8, q_f9, q_fa, q_fb, q_fc, q_fd, q_fe, q_i0l, q_i0t, q_i1, q_i2, q_i3, q_i4, q_i5, q_t1, q_t2, q_ads0, q_ads, q_sv0, q_sv, List.map_cons, List.map_nil, List.length_cons, List.length_nil, List.getElem?_cons_zero, List.getElem?_cons_succ, List.cons_append, List.nil_append, Option.map_some, Option.map_none, Option.bind_some, if_true, if_false, Bool.false_eq_true, List.replicate, List.set_cons_zero, List.set_cons_succ, blkE, dropE, wipeE, beq_self_eq_true, Bool.not_true, Bool.not_false, Bool.true_or, Bool.false_or, Bool.or_true, Bool.or_false, Bool.and_true, Bool.true_and]
  · simp [h, callD, exs, ex, ev, evL, evTs, q_bo, q_bx, q_no, q_op, q_uo, q_ux, q_on, q_or, q_ox, q_oo, q_tn, q_tb, q_ti, q_tl, q_tt, q_ab, q_ai, q_ad, q_add, q_sub, q_mul, q_fdv, q_mod, q_pow, q_att, q_all, q_ass, q_mlk, q_mtk, q_lt, q_le, q_gt, q_ge, q_eqi, q_in, q_ni, q_is, q_isn, q_ofb, q_ixl, q_ixt, q_ixs, q_sll, q_slt, q_b0, q_b1, q_s0, q_s1, q_s2, q_s3, q_s4, q_s5, q_f1, q_f2, q_f3, q_f4, q_f5, q_f6, q_f7, q_f8, q_f9, q_fa, q_fb, q_fc, q_fd, q_fe, q_i0l, q_i0t, q_i1, q_i2, q_i3, q_i4, q_i5, q_t1, q_t2, q_ads0, q_ads, q_sv0, q_sv, List.map_cons, List.map_nil, List.length_cons, List.length_nil, List.getElem?_cons_zero, List.getElem?_cons_succ, List.cons_append, List.nil_append, Option.map_some, Option.map_none, Option.bind_some, if_true, if_false, Bool.false_eq_true, List.replicate, List.set_cons_zero, List.set_cons_succ, blkE, dropE, wipeE, beq_self_eq_true, Bool.not_true, Bool.not_false, Bool.true_or, Bool.false_or, Bool.or_true, Bool.or_false, Bool.and_true, Bool.true_and]
theorem p_nrouO (w : S_wholeO (G.fn f.is_whole)) : S_nrouO (callD G (x_need_rounds f)) := by
  intro d m s h
  simp only [x_need_rounds, callD, exs, ex, ev, evL, evTs, q_bo, q_bx, q_no, q_op, q_uo, q_ux, q_on, q_or, q_ox, q_oo, q_tn, q_tb, q_ti, q_tl, q_tt, q_ab, q_ai, q_ad, q_add, q_sub, q_mul, q_fdv, q_mod, q_pow, q_att, q_all, q_ass, q_mlk, q_mtk, q_lt, q_le, q_gt, q_ge, q_eqi, q_in, q_ni, q_is, q_isn, q_ofb, q_ixl, q_ixt, q_ixs, q_sll, q_slt, q_b0, q_b1, q_s0, q_s1, q_s2, q_s3, q_s4, q_s5, q_f1, q_f2, q_f3, q_f4, q_f5, q_f6, q_f7, q_f8, q_f9, q_fa, q_fb, q_fc, q_fd, q_fe, q_i0l, q_i0t, q_i1, q_i2, q_i3, q_i4, q_i5, q_t1, q_t2, q_ads0, q_ads, q_sv0, q_sv, List.map_cons, List.map_nil, List.length_cons, List.length_nil, List.getElem?_cons_zero, List.getElem?_cons_succ, List.cons_append, List.nil_append, Option.map_some, Option.map_none, Option.bind_some, if_true, if_false, Bool.false_eq_true, List.replicate, List.set_cons_zero, List.set_cons_succ, blkE, dropE, wipeE, beq_self_eq_true, Bool.not_true, Bool.not_false, Bool.true_or, Bool.false_or, Bool.or_true, Bool.or_false, Bool.and_true, Bool.true_and, w d _ _ _ h]
/-! ### products -/
def comp (n : Nat) (R S : Nat → Nat → Bool) (i j : Nat) : Bool := (List.range n).any fun h => R i h && S h j
def idR (i j : Nat) : Bool := decide (i = j)
theorem T_ext {n : Nat} {R S : Nat → Nat → Bool} (h : ∀ i j, i < n → j < n → R i j = S i j) : T n R = T n S := by
  unfold T
  refine List.map_congr_left fun i hi => List.filter_congr fun j hj => h i j (List.mem_range.mp hi) (List.mem_range.mp hj)
theorem sset_nat {n : Nat} {L : List Nat} (h : ∀ x ∈ L, x < n) : ssetI (L.map fun (k : Nat) => (k : Int)) = ((List.range n).filter fun (j : Nat) => decide (j ∈ L)).map fun (k : Nat) => (k : Int) := by
  refine srt_uniq ssetI_srt ?_ fun x => ?_
  · rw [List.pairwise_map]
    exact (row_srt _).imp fun q => by exact_mod_cast q
  · rw [ssetI_mem, List.mem_map, List.mem_map]
    constructor
    · rintro ⟨k, hk, rfl⟩
      exact ⟨k, List.mem_filter.mpr ⟨List.mem_range.mpr (h k hk), decide_eq_true hk⟩, rfl⟩
    · rintro ⟨k, hk, rfl⟩
      exact ⟨k, of_decide_eq_true (List.mem_filter.mp hk).2, rfl⟩
theorem sum_le {α : Type} (g : α → List Nat) (b : Nat) : ∀ l : List α, (∀ x ∈ l, (g x).length ≤ b) → (l.flatMap g).length ≤ l.length * b
  | [], _ => by simp
  | x :: l, h => by
    rw [List.flatMap_cons, List.length_append, List.length_cons, Nat.succ_mul]
    have h1 := h x List.mem_cons_self
    have h2 := sum_le g b l fun y hy => h y (List.mem_cons_of_mem _ hy)
    omega
def S_times (P : F) : Prop := ∀ (n : Nat) R S s, n ≤ 6 → P [.d (tabD (T n R)), .d (tabD (T n S))] s = .ok (.d (tabD (T n (comp n R S)))) s
theorem T_rows (n : Nat) (R : Nat → Nat → Bool) : (T n R).map rowD = (List.range n).map fun i => rowD ((List.range n).filter (R i)) := by
  unfold T
  rw [List.map_map]
  rfl
theorem map_id' (r : List Nat) (s : Sto) : mapR (fun (x1 : D) (s : Sto) => Res.ok [x1] s) (r.map iv) s = .ok (r.map iv) s := mapR_of fun k _ => rfl
theorem flat_iv (g : Nat → List Nat) : ∀ l : List Nat, (l.flatMap fun h => (g h).map iv) = (l.flatMap g).map iv
  | [] => rfl
  | x :: l => by rw [List.flatMap_cons, List.flatMap_cons, List.map_append, flat_iv g l]
theorem row_comp {n : Nat} {R S : Nat → Nat → Bool} (i : Nat) (hn : n ≤ 6) : ∃ L : List Nat, ((List.range n).filter (R i)).flatMap (fun h => (List.range n).filter (S h)) = L ∧ L.length ≤ 36 ∧ (∀ x ∈ L, x < n) ∧ ((List.range n).filter fun (j : Nat) => decide (j ∈ L)) = (List.range n).filter (comp n R S i) := by
  refine ⟨_, rfl, ?_, fun x hx => ?_, List.filter_congr fun j hj => ?_⟩
  · have h1 := sum_le (fun h => (List.range n).filter (S h)) n ((List.range n).filter (R i)) fun x _ => row_len _
    have h2 := row_len (n := n) (R i)
    have h3 : ((List.range n).filter (R i)).length * n ≤ 6 * 6 := Nat.mul_le_mul (Nat.le_trans h2 hn) hn
    omega
  · obtain ⟨h, _, hx⟩ := List.mem_flatMap.mp hx
    exact row_lt hx
  · unfold comp
    rw [Bool.eq_iff_iff, decide_eq_true_iff, List.any_eq_true, List.mem_flatMap]
    constructor
    · rintro ⟨h, h1, h2⟩
      exact ⟨h, (List.mem_filter.mp h1).1, by rw [(List.mem_filter.mp h1).2, (List.mem_filter.mp h2).2]; rfl⟩
    · rintro ⟨h, h1, h2⟩
      rw [Bool.and_eq_true] at h2
      exact ⟨h, List.mem_filter.mpr ⟨h1, h2.1⟩, List.mem_filter.mpr ⟨hj, h2.2⟩⟩
theorem p_times : S_times (callD G (x_times f)) := by
  intro n R S s hn
  simp only [x_times, tabD, callD, exs, ex, ev, evL, evTs, q_bo, q_bx, q_no, q_op, q_uo, q_ux, q_on, q_or, q_ox, q_oo, q_tn, q_tb, q_ti, q_tl, q_tt, q_ab, q_ai, q_ad, q_add, q_sub, q_mul, q_fdv, q_mod, q_pow, q_att, q_all, q_ass, q_mlk, q_mtk, q_lt, q_le, q_gt, q_ge, q_eqi, q_in, q_ni, q_is, q_isn, q_ofb, q_ixl, q_ixt, q_ixs, q_sll, q_slt, q_b0, q_b1, q_s0, q_s1, q_s2, q_s3, q_s4, q_s5, q_f1, q_f2, q_f3, q_f4, q_f5, q_f6, q_f7, q_f8, q_f9, q_fa, q_fb, q_fc, q_fd, q_fe, q_i0l, q_i0t, q_i1, q_i2, q_i3, q_i4, q_i5, q_t1, q_t2, q_ads0, q_ads, q_sv0, q_sv, List.map_cons, List.map_nil, List.length_cons, List.length_nil, List.getElem?_cons_zero, List.getElem?_cons_succ, List.cons_append, List.nil_append, Option.map_some, Option.map_none, Option.bind_some, if_true, if_false, Bool.false_eq_true, List.replicate, List.set_cons_zero, List.set_cons_succ, blkE, dropE, wipeE, beq_self_eq_true, Bool.not_true, Bool.not_false, Bool.true_or, Bool.false_or, Bool.or_true, Bool.or_false, Bool.and_true, Bool.true_and]
  rw [T_rows n R, mapR_of (g := fun i => rowD ((List.range n).filter (comp n R S i))) (by
    intro i hi
    obtain ⟨L, e1, e2, e3, e4⟩ := row_comp (R := R) (S := S) i hn
    simp only [rowD, callD, exs, ex, ev, evL, evTs, q_bo, q_bx, q_no, q_op, q_uo, q_ux, q_on, q_or, q_ox, q_oo, q_tn, q_tb, q_ti, q_tl, q_tt, q_ab, q_ai, q_ad, q_add, q_sub, q_mul, q_fdv, q_mod, q_pow, q_att, q_all, q_ass, q_mlk, q_mtk, q_lt, q_le, q_gt, q_ge, q_eqi, q_in, q_ni, q_is, q_isn, q_ofb, q_ixl, q_ixt, q_ixs, q_sll, q_slt, q_b0, q_b1, q_s0, q_s1, q_s2, q_s3, q_s4, q_s5, q_f1, q_f2, q_f3, q_f4, q_f5, q_f6, q_f7, q_f8, q_f9, q_fa, q_fb, q_fc, q_fd, q_fe, q_i0l, q_i0t, q_i1, q_i2, q_i3, q_i4, q_i5, q_t1, q_t2, q_ads0, q_ads, q_sv0, q_sv, List.map_cons, List.map_nil, List.length_cons, List.length_nil, List.getElem?_cons_zero, List.getElem?_cons_succ, List.cons_append, List.nil_append, Option.map_some, Option.map_none, Option.bind_some, if_true, if_false, Bool.false_eq_true, List.replicate, List.set_cons_zero, List.set_cons_succ, blkE, dropE, wipeE, beq_self_eq_true, Bool.not_true, Bool.not_false, Bool.true_or, Bool.false_or, Bool.or_true, Bool.or_false, Bool.and_true, Bool.true_and]
    rw [mapR_ofs (g := fun h => ((List.range n).filter (S h)).map iv) (by
      intro h hh
      have hn' := row_lt hh
      simp only [callD, exs, ex, ev, evL, evTs, q_bo, q_bx, q_no, q_op, q_uo, q_ux, q_on, q_or, q_ox, q_oo, q_tn, q_tb, q_ti, q_tl, q_tt, q_ab, q_ai, q_ad, q_add, q_sub, q_mul, q_fdv, q_mod, q_pow, q_att, q_all, q_ass, q_mlk, q_mtk, q_lt, q_le, q_gt, q_ge, q_eqi, q_in, q_ni, q_is, q_isn, q_ofb, q_ixl, q_ixt, q_ixs, q_sll, q_slt, q_b0, q_b1, q_s0, q_s1, q_s2, q_s3, q_s4, q_s5, q_f1, q_f2, q_f3, q_f4, q_f5, q_f6, q_f7, q_f8, q_f9, q_fa, q_fb, q_fc, q_fd, q_fe, q_i0l, q_i0t, q_i1, q_i2, q_i3, q_i4, q_i5, q_t1, q_t2, q_ads0, q_ads, q_sv0, q_sv, List.map_cons, List.map_nil, List.length_cons, List.length_nil, List.getElem?_cons_zero, List.getElem?_cons_succ, List.cons_append, List.nil_append, Option.map_some, Option.map_none, Option.bind_some, if_true, if_false, Bool.false_eq_true, List.replicate, List.set_cons_zero, List.set_cons_succ, blkE, dropE, wipeE, beq_self_eq_true, Bool.not_true, Bool.not_false, Bool.true_or, Bool.false_or, Bool.or_true, Bool.or_false, Bool.and_true, Bool.true_and, iv, atI_nat, List.getElem?_map]
      rw [T_get hn']
      simp only [callD, exs, ex, ev, evL, evTs, q_bo, q_bx, q_no, q_op, q_uo, q_ux, q_on, q_or, q_ox, q_oo, q_tn, q_tb, q_ti, q_tl, q_tt, q_ab, q_ai, q_ad, q_add, q_sub, q_mul, q_fdv, q_mod, q_pow, q_att, q_all, q_ass, q_mlk, q_mtk, q_lt, q_le, q_gt, q_ge, q_eqi, q_in, q_ni, q_is, q_isn, q_ofb, q_ixl, q_ixt, q_ixs, q_sll, q_slt, q_b0, q_b1, q_s0, q_s1, q_s2, q_s3, q_s4, q_s5, q_f1, q_f2, q_f3, q_f4, q_f5, q_f6, q_f7, q_f8, q_f9, q_fa, q_fb, q_fc, q_fd, q_fe, q_i0l, q_i0t, q_i1, q_i2, q_i3, q_i4, q_i5, q_t1, q_t2, q_ads0, q_ads, q_sv0, q_sv, List.map_cons, List.map_nil, List.length_cons, List.length_nil, List.getElem?_cons_zero, List.getElem?_cons_succ, List.cons_append, List.nil_append, Option.map_some, Option.map_none, Option.bind_some, if_true, if_false, Bool.false_eq_true, List.replicate, List.set_cons_zero, List.set_cons_succ, blkE, dropE, wipeE, beq_self_eq_true, Bool.not_true, Bool.not_false, Bool.true_or, Bool.false_or, Bool.or_true, Bool.or_false, Bool.and_true, Bool.true_and, rowD]
      exact map_id' _ _)]
    rw [flat_iv, e1]
    have e5 : lineB (L.map iv).length = true := by
      unfold lineB
      rw [List.length_map]
      exact decide_eq_true (by rw [sizeLine_eq]; omega)
    have e6 : allInt (L.map iv) = some (L.map fun (k : Nat) => (k : Int)) := allInt_map (fun (k : Nat) => (k : Int)) L
    have e7 : (L.map fun (k : Nat) => (k : Int)).length < 64 := by
      rw [List.length_map]
      omega
    simp only [callD, exs, ex, ev, evL, evTs, q_bo, q_bx, q_no, q_op, q_uo, q_ux, q_on, q_or, q_ox, q_oo, q_tn, q_tb, q_ti, q_tl, q_tt, q_ab, q_ai, q_ad, q_add, q_sub, q_mul, q_fdv, q_mod, q_pow, q_att, q_all, q_ass, q_mlk, q_mtk, q_lt, q_le, q_gt, q_ge, q_eqi, q_in, q_ni, q_is, q_isn, q_ofb, q_ixl, q_ixt, q_ixs, q_sll, q_slt, q_b0, q_b1, q_s0, q_s1, q_s2, q_s3, q_s4, q_s5, q_f1, q_f2, q_f3, q_f4, q_f5, q_f6, q_f7, q_f8, q_f9, q_fa, q_fb, q_fc, q_fd, q_fe, q_i0l, q_i0t, q_i1, q_i2, q_i3, q_i4, q_i5, q_t1, q_t2, q_ads0, q_ads, q_sv0, q_sv, List.map_cons, List.map_nil, List.length_cons, List.length_nil, List.getElem?_cons_zero, List.getElem?_cons_succ, List.cons_append, List.nil_append, Option.map_some, Option.map_none, Option.bind_some, if_true, if_false, Bool.false_eq_true, List.replicate, List.set_cons_zero, List.set_cons_succ, blkE, dropE, wipeE, beq_self_eq_true, Bool.not_true, Bool.not_false, Bool.true_or, Bool.false_or, Bool.or_true, Bool.or_false, Bool.and_true, Bool.true_and, e5, e6, e7]
    rw [sset_nat e3, e4, List.map_map]
    rfl)]
  simp only [callD, exs, ex, ev, evL, evTs, q_bo, q_bx, q_no, q_op, q_uo, q_ux, q_on, q_or, q_ox, q_oo, q_tn, q_tb, q_ti, q_tl, q_tt, q_ab, q_ai, q_ad, q_add, q_sub, q_mul, q_fdv, q_mod, q_pow, q_att, q_all, q_ass, q_mlk, q_mtk, q_lt, q_le, q_gt, q_ge, q_eqi, q_in, q_ni, q_is, q_isn, q_ofb, q_ixl, q_ixt, q_ixs, q_sll, q_slt, q_b0, q_b1, q_s0, q_s1, q_s2, q_s3, q_s4, q_s5, q_f1, q_f2, q_f3, q_f4, q_f5, q_f6, q_f7, q_f8, q_f9, q_fa, q_fb, q_fc, q_fd, q_fe, q_i0l, q_i0t, q_i1, q_i2, q_i3, q_i4, q_i5, q_t1, q_t2, q_ads0, q_ads, q_sv0, q_sv, List.map_cons, List.map_nil, List.length_cons, List.length_nil, List.getElem?_cons_zero, List.getElem?_cons_succ, List.cons_append, List.nil_append, Option.map_some, Option.map_none, Option.bind_some, if_true, if_false, Bool.false_eq_true, List.replicate, List.set_cons_zero, List.set_cons_succ, blkE, dropE, wipeE, beq_self_eq_true, Bool.not_true, Bool.not_false, Bool.true_or, Bool.false_or, Bool.or_true, Bool.or_false, Bool.and_true, Bool.true_and]
  rw [T_rows]
def S_nothing (P : F) : Prop := ∀ (n : Nat) s, n ≤ 6 → P [.d (.int n)] s = .ok (.d (tabD (T n idR))) s
theorem rng_nat (n : Nat) : rngD 0 (n : Int) = (List.range n).map iv := by
  unfold rngD
  rw [Int.sub_zero, Int.toNat_natCast]
  refine List.map_congr_left fun k _ => ?_
  rw [Int.zero_add]
  rfl
theorem okI_small {i : Int} (h : -1000000 ≤ i ∧ i ≤ 1000000) : okI i = true := by
  unfold okI
  exact decide_eq_true (by omega)
theorem id_row : ∀ {n i : Nat}, i < n → (List.range n).filter (idR i) = [i]
  | n + 1, i, h => by
    rw [List.range_succ, List.filter_append]
    by_cases e : i = n
    · subst e
      have q : (List.range i).filter (idR i) = [] := List.filter_eq_nil_iff.mpr fun j hj => by
        have := List.mem_range.mp hj
        unfold idR
        rw [decide_eq_true_iff]
        omega
      rw [q]
      simp [idR]
    · rw [id_row (show i < n by omega)]
      have q : [n].filter (idR i) = [] := by simp [idR, e]
      rw [q]
      rfl
theorem i1_ok {n : Nat} (hn : n ≤ 1000000) : evItems 1 [.d (.int n)] = some ((List.range n).map iv) := by
  rw [q_i1, okI_small (by omega), ← rng_nat, decide_eq_true (show (n : Int) ≤ 16777216 by omega)]
  rfl
theorem p_nothing : S_nothing (callD G (x_nothing_done f)) := by
  intro n s hn
  simp only [x_nothing_done, tabD, callD, exs, ex, ev, evL, evTs, q_bo, q_no, q_op, q_uo, q_on, q_or, q_ad, q_t1, q_f4, q_ads, q_ads0, List.map_cons, List.map_nil, List.length_cons, List.length_nil, List.getElem?_cons_zero, List.getElem?_cons_succ, List.cons_append, List.nil_append, Option.map_some, if_true, List.replicate, List.set_cons_zero, List.set_cons_succ, blkE, dropE, wipeE, i1_ok (show n ≤ 1000000 by omega)]
  rw [mapR_of (g := fun k => rowD [k]) (by intro k hk; rfl), T_rows]
  simp only [q_bo, q_no, q_op, q_uo, q_on, q_or, q_f4]
  refine congrArg (fun z => Res.ok (Vl.d (PyData.tuple z)) s) (List.map_congr_left fun k hk => ?_)
  rw [id_row (List.mem_range.mp hk)]
end
end X
set_option Elab.async false
set_option linter.all false
set_option maxRecDepth 100000
set_option maxHeartbeats 4000000
/-! Pu2: powers. -/
namespace X
open PySem Ar
/-- the power of a relation -/
def pw (n : Nat) (R : Nat → Nat → Bool) : Nat → Nat → Nat → Bool
  | 0 => idR
  | k + 1 => comp n R (pw n R k)
/-- the same below n -/
def Eqn (n : Nat) (R S : Nat → Nat → Bool) : Prop := ∀ i j, i < n → j < n → R i j = S i j
theorem comp_iff {n : Nat} {R S : Nat → Nat → Bool} {i j : Nat} : comp n R S i j = true ↔ ∃ h, h < n ∧ R i h = true ∧ S h j = true := by
  unfold comp
  rw [List.any_eq_true]
  constructor
  · rintro ⟨h, h1, h2⟩
    rw [Bool.and_eq_true] at h2
    exact ⟨h, List.mem_range.mp h1, h2⟩
  · rintro ⟨h, h1, h2⟩
    exact ⟨h, List.mem_range.mpr h1, by rw [Bool.and_eq_true]; exact h2⟩
theorem comp_assoc (n : Nat) (R S U : Nat → Nat → Bool) : comp n (comp n R S) U = comp n R (comp n S U) := by
  funext i j
  rw [Bool.eq_iff_iff, comp_iff, comp_iff]
  constructor
  · rintro ⟨h, h1, h2, h3⟩
    obtain ⟨g, g1, g2, g3⟩ := comp_iff.mp h2
    exact ⟨g, g1, g2, comp_iff.mpr ⟨h, h1, g3, h3⟩⟩
  · rintro ⟨h, h1, h2, h3⟩
    obtain ⟨g, g1, g2, g3⟩ := comp_iff.mp h3
    exact ⟨g, g1, comp_iff.mpr ⟨h, h1, h2, g2⟩, g3⟩
theorem Eqn.comp {n : Nat} {R R' S S' : Nat → Nat → Bool} (h1 : Eqn n R R') (h2 : Eqn n S S') : Eqn n (comp n R S) (comp n R' S') := fun i j hi hj => by
  rw [Bool.eq_iff_iff, comp_iff, comp_iff]
  constructor
  · rintro ⟨h, a, b, c⟩
    exact ⟨h, a, by rw [← h1 i h hi a]; exact b, by rw [← h2 h j a hj]; exact c⟩
  · rintro ⟨h, a, b, c⟩
    exact ⟨h, a, by rw [h1 i h hi a]; exact b, by rw [h2 h j a hj]; exact c⟩
theorem Eqn.refl (n : Nat) (R : Nat → Nat → Bool) : Eqn n R R := fun _ _ _ _ => rfl
theorem Eqn.symm {n : Nat} {R S : Nat → Nat → Bool} (h : Eqn n R S) : Eqn n S R := fun i j a b => (h i j a b).symm
theorem Eqn.trans {n : Nat} {R S U : Nat → Nat → Bool} (h : Eqn n R S) (g : Eqn n S U) : Eqn n R U := fun i j a b => (h i j a b).trans (g i j a b)
theorem id_comp (n : Nat) (R : Nat → Nat → Bool) : Eqn n (comp n idR R) R := fun i j hi hj => by
  rw [Bool.eq_iff_iff, comp_iff]
  constructor
  · rintro ⟨h, a, b, c⟩
    rw [of_decide_eq_true b]
    exact c
  · intro h
    exact ⟨i, hi, decide_eq_true rfl, h⟩
theorem comp_id (n : Nat) (R : Nat → Nat → Bool) : Eqn n (comp n R idR) R := fun i j hi hj => by
  rw [Bool.eq_iff_iff, comp_iff]
  constructor
  · rintro ⟨h, a, b, c⟩
    rw [← of_decide_eq_true c]
    exact b
  · intro h
    exact ⟨j, hj, h, decide_eq_true rfl⟩
theorem pw_add (n : Nat) (R : Nat → Nat → Bool) : ∀ a b, Eqn n (comp n (pw n R a) (pw n R b)) (pw n R (a + b))
  | 0, b => by
    rw [Nat.zero_add]
    exact id_comp n _
  | a + 1, b => by
    have e : a + 1 + b = (a + b) + 1 := by omega
    rw [e]
    show Eqn n (comp n (comp n R (pw n R a)) (pw n R b)) (comp n R (pw n R (a + b)))
    rw [comp_assoc]
    exact (Eqn.refl n R).comp (pw_add n R a b)
theorem pw_one (n : Nat) (R : Nat → Nat → Bool) : Eqn n (pw n R 1) R := comp_id n R
section
variable {G : Gd} {f : Ix}
def S_raised (P : F) : Prop := ∀ (n : Nat) R (r : Nat) s, n ≤ 6 → r < 2 ^ 110 → P [.d (tabD (T n R)), .d (.int r)] s = .ok (.d (tabD (T n (pw n R r)))) s
def rT (G : Gd) : Ar.Env → Sto → Res Bool := fun ρ s => (ev G (.cmp .Gt (.var 1) (.int 0)) ρ s).bind fun x s1 => Res.opt (truth x) s1
def rB (G : Gd) (f : Ix) : Ar.Env → Sto → Out := fun ρ s => exs G [.ifs (.cmp .Eq (.bin .Mod (.var 1) (.int 2)) (.int 1)) [.set 2 (.call f.times [.var 2, .var 0])] [], .setPar [0, 1] [.call f.times [.var 0, .var 0], .bin .FloorDiv (.var 1) (.int 2)]] ρ s
theorem rT_ev (x y : Slot) (r : Nat) (s : Sto) : rT G [x, .v (.d (.int r)), y] s = .ok (decide (0 < r)) s := by
  have e : decide ((0 : Int) < (r : Int)) = decide (0 < r) := by
    rw [decide_eq_decide]
    omega
  simp only [rT, callD, exs, ex, ev, evL, evTs, q_bo, q_bx, q_no, q_op, q_uo, q_ux, q_on, q_or, q_ox, q_oo, q_tn, q_tb, q_ti, q_tl, q_tt, q_ab, q_ai, q_ad, q_add, q_sub, q_mul, q_fdv, q_mod, q_pow, q_att, q_all, q_ass, q_mlk, q_mtk, q_lt, q_le, q_gt, q_ge, q_eqi, q_in, q_ni, q_is, q_isn, q_ofb, q_ixl, q_ixt, q_ixs, q_sll, q_slt, q_b0, q_b1, q_s0, q_s1, q_s2, q_s3, q_s4, q_s5, q_f1, q_f2, q_f3, q_f4, q_f5, q_f6, q_f7, q_f8, q_f9, q_fa, q_fb, q_fc, q_fd, q_fe, q_i0l, q_i0t, q_i1, q_i2, q_i3, q_i4, q_i5, q_t1, q_t2, q_ads0, q_ads, q_sv0, q_sv, List.map_cons, List.map_nil, List.length_cons, List.length_nil, List.getElem?_cons_zero, List.getElem?_cons_succ, List.cons_append, List.nil_append, Option.map_some, Option.map_none, Option.bind_some, if_true, if_false, Bool.false_eq_true, List.replicate, List.set_cons_zero, List.set_cons_succ, blkE, dropE, wipeE, beq_self_eq_true, Bool.not_true, Bool.not_false, Bool.true_or, Bool.false_or, Bool.or_true, Bool.or_false, Bool.and_true, Bool.true_and, e]
theorem rB_ev (t : S_times (G.fn f.times)) (n : Nat) (R : Nat → Nat → Bool) (hn : n ≤ 6) (s : Sto) (a b r : Nat) :
    rB G f [.v (.d (tabD (T n (pw n R b)))), .v (.d (.int r)), .v (.d (tabD (T n (pw n R a))))] s = .next [.v (.d (tabD (T n (pw n R (b + b))))), .v (.d (.int (r / 2 : Nat))), .v (.d (tabD (T n (pw n R (if r % 2 = 1 then a + b else a)))))] s := by
  have tb : ∀ s, G.fn f.times [.d (tabD (T n (pw n R b))), .d (tabD (T n (pw n R b)))] s = .ok (.d (tabD (T n (pw n R (b + b))))) s := fun s => by
    rw [t n _ _ s hn, T_ext (pw_add n R b b)]
  have ta : ∀ s, G.fn f.times [.d (tabD (T n (pw n R a))), .d (tabD (T n (pw n R b)))] s = .ok (.d (tabD (T n (pw n R (a + b))))) s := fun s => by
    rw [t n _ _ s hn, T_ext (pw_add n R a b)]
  have e2 : ((r : Int) / 2) = ((r / 2 : Nat) : Int) := by omega
  have c1 : (0 : Int) < 2 ∧ (2 : Int) < 1073741824 := by omega
  have c2 : (0 : Int) < 2 := by omega
  by_cases ho : r % 2 = 1
  · have e3 : (decide ((r : Int) % 2 = 1)) = true := decide_eq_true (by omega)
    rw [if_pos ho]
    simp only [rB, callD, exs, ex, ev, evL, evTs, q_bo, q_bx, q_no, q_op, q_uo, q_ux, q_on, q_or, q_ox, q_oo, q_tn, q_tb, q_ti, q_tl, q_tt, q_ab, q_ai, q_ad, q_add, q_sub, q_mul, q_fdv, q_mod, q_pow, q_att, q_all, q_ass, q_mlk, q_mtk, q_lt, q_le, q_gt, q_ge, q_eqi, q_in, q_ni, q_is, q_isn, q_ofb, q_ixl, q_ixt, q_ixs, q_sll, q_slt, q_b0, q_b1, q_s0, q_s1, q_s2, q_s3, q_s4, q_s5, q_f1, q_f2, q_f3, q_f4, q_f5, q_f6, q_f7, q_f8, q_f9, q_fa, q_fb, q_fc, q_fd, q_fe, q_i0l, q_i0t, q_i1, q_i2, q_i3, q_i4, q_i5, q_t1, q_t2, q_ads0, q_ads, q_sv0, q_sv, List.map_cons, List.map_nil, List.length_cons, List.length_nil, List.getElem?_cons_zero, List.getElem?_cons_succ, List.cons_append, List.nil_append, Option.map_some, Option.map_none, Option.bind_some, if_true, if_false, Bool.false_eq_true, List.replicate, List.set_cons_zero, List.set_cons_succ, blkE, dropE, wipeE, beq_self_eq_true, Bool.not_true, Bool.not_false, Bool.true_or, Bool.false_or, Bool.or_true, Bool.or_false, Bool.and_true, Bool.true_and, c1, c2, e3, and_self, ta, tb, e2]
  · have e3 : (decide ((r : Int) % 2 = 1)) = false := decide_eq_false (by omega)
    rw [if_neg ho]
    simp only [rB, callD, exs, ex, ev, evL, evTs, q_bo, q_bx, q_no, q_op, q_uo, q_ux, q_on, q_or, q_ox, q_oo, q_tn, q_tb, q_ti, q_tl, q_tt, q_ab, q_ai, q_ad, q_add, q_sub, q_mul, q_fdv, q_mod, q_pow, q_att, q_all, q_ass, q_mlk, q_mtk, q_lt, q_le, q_gt, q_ge, q_eqi, q_in, q_ni, q_is, q_isn, q_ofb, q_ixl, q_ixt, q_ixs, q_sll, q_slt, q_b0, q_b1, q_s0, q_s1, q_s2, q_s3, q_s4, q_s5, q_f1, q_f2, q_f3, q_f4, q_f5, q_f6, q_f7, q_f8, q_f9, q_fa, q_fb, q_fc, q_fd, q_fe, q_i0l, q_i0t, q_i1, q_i2, q_i3, q_i4, q_i5, q_t1, q_t2, q_ads0, q_ads, q_sv0, q_sv, List.map_cons, List.map_nil, List.length_cons, List.length_nil, List.getElem?_cons_zero, List.getElem?_cons_succ, List.cons_append, List.nil_append, Option.map_some, Option.map_none, Option.bind_some, if_true, if_false, Bool.false_eq_true, List.replicate, List.set_cons_zero, List.set_cons_succ, blkE, dropE, wipeE, beq_self_eq_true, Bool.not_true, Bool.not_false, Bool.true_or, Bool.false_or, Bool.or_true, Bool.or_false, Bool.and_true, Bool.true_and, c1, c2, e3, and_self, ta, tb, e2]
theorem raised_loop (t : S_times (G.fn f.times)) (n : Nat) (R : Nat → Nat → Bool) (hn : n ≤ 6) (s : Sto) : ∀ (m d a b r : Nat), r < 2 ^ d → d < m →
    ∃ b', whileO (rT G) (rB G f) m [.v (.d (tabD (T n (pw n R b)))), .v (.d (.int r)), .v (.d (tabD (T n (pw n R a))))] s = .next [.v (.d b'), .v (.d (.int (0 : Nat))), .v (.d (tabD (T n (pw n R (a + b * r)))))] s
  | 0, d, a, b, r, h1, h2 => by omega
  | m + 1, d, a, b, r, h1, h2 => by
    unfold whileO
    rw [rT_ev, q_uo]
    by_cases h0 : r = 0
    · subst h0
      exact ⟨_, rfl⟩
    · rw [decide_eq_true (show 0 < r by omega), if_pos rfl, rB_ev t n R hn, q_on]
      obtain ⟨d', rfl⟩ : ∃ d', d = d' + 1 := by
        cases d with
        | zero => simp at h1; omega
        | succ d => exact ⟨d, rfl⟩
      have hd : r / 2 < 2 ^ d' := by
        rw [Nat.pow_succ] at h1
        omega
      obtain ⟨b', ih⟩ := raised_loop t n R hn s m d' (if r % 2 = 1 then a + b else a) (b + b) (r / 2) hd (by omega)
      refine ⟨b', ?_⟩
      rw [ih]
      have e : (if r % 2 = 1 then a + b else a) + (b + b) * (r / 2) = a + b * r := by
        have q : r = r % 2 + 2 * (r / 2) := (Nat.mod_add_div r 2).symm
        generalize hk : r / 2 = k at q
        split
        · rename_i z
          rw [z] at q
          rw [q, Nat.mul_add, Nat.mul_one, ← Nat.two_mul, Nat.add_assoc, Nat.mul_left_comm, Nat.mul_assoc]
        · have z : r % 2 = 0 := by omega
          rw [z, Nat.zero_add] at q
          rw [q, ← Nat.two_mul, Nat.mul_left_comm, Nat.mul_assoc]
      rw [e]
theorem p_raised (t : S_times (G.fn f.times)) (z : S_nothing (G.fn f.nothing_done)) (hf : 111 ≤ G.fuel) : S_raised (callD G (x_raised f)) := by
  intro n R r s hn hr
  obtain ⟨b', h⟩ := raised_loop t n R hn s G.fuel 110 0 1 r hr (by omega)
  have e0 : T n (pw n R 1) = T n R := T_ext (pw_one n R)
  rw [e0, Nat.zero_add, Nat.one_mul] at h
  have zz : G.fn f.nothing_done [.d (.int ((T n R).length : Nat))] s = .ok (.d (tabD (T n (pw n R 0)))) s := by
    rw [T_len]
    exact z n s hn
  have h2 : whileO (fun ρ s => (ev G (.cmp .Gt (.var 1) (.int 0)) ρ s).bind fun x s1 => Res.opt (truth x) s1) (fun ρ s => exs G [.ifs (.cmp .Eq (.bin .Mod (.var 1) (.int 2)) (.int 1)) [.set 2 (.call f.times [.var 2, .var 0])] [], .setPar [0, 1] [.call f.times [.var 0, .var 0], .bin .FloorDiv (.var 1) (.int 2)]] ρ s) G.fuel
    [.v (.d (tabD (T n R))), .v (.d (.int r)), .v (.d (tabD (T n (pw n R 0))))] s = _ := h
  have eb : exs G (x_raised f).body [.v (.d (tabD (T n R))), .v (.d (.int r)), .un] s = .ret (.d (tabD (T n (pw n R r)))) s := by
    show ((ev G (.call f.nothing_done [.bf .len [.var 0]]) [.v (.d (tabD (T n R))), .v (.d (.int r)), .un] s).out _).bind _ = _
    have e1 : ev G (.call f.nothing_done [.bf .len [.var 0]]) [.v (.d (tabD (T n R))), .v (.d (.int r)), .un] s = .ok (.d (tabD (T n (pw n R 0)))) s := by
      simp only [tabD, callD, exs, ex, ev, evL, evTs, q_bo, q_bx, q_no, q_op, q_uo, q_ux, q_on, q_or, q_ox, q_oo, q_tn, q_tb, q_ti, q_tl, q_tt, q_ab, q_ai, q_ad, q_add, q_sub, q_mul, q_fdv, q_mod, q_pow, q_att, q_all, q_ass, q_mlk, q_mtk, q_lt, q_le, q_gt, q_ge, q_eqi, q_in, q_ni, q_is, q_isn, q_ofb, q_ixl, q_ixt, q_ixs, q_sll, q_slt, q_b0, q_b1, q_s0, q_s1, q_s2, q_s3, q_s4, q_s5, q_f1, q_f2, q_f3, q_f4, q_f5, q_f6, q_f7, q_f8, q_f9, q_fa, q_fb, q_fc, q_fd, q_fe, q_i0l, q_i0t, q_i1, q_i2, q_i3, q_i4, q_i5, q_t1, q_t2, q_ads0, q_ads, q_sv0, q_sv, List.map_cons, List.map_nil, List.length_cons, List.length_nil, List.getElem?_cons_zero, List.getElem?_cons_succ, List.cons_append, List.nil_append, Option.map_some, Option.map_none, Option.bind_some, if_true, if_false, Bool.false_eq_true, List.replicate, List.set_cons_zero, List.set_cons_succ, blkE, dropE, wipeE, beq_self_eq_true, Bool.not_true, Bool.not_false, Bool.true_or, Bool.false_or, Bool.or_true, Bool.or_false, Bool.and_true, Bool.true_and, List.length_map]
      exact zz
    rw [e1, q_uo, q_on]
    show (whileO _ _ G.fuel _ s).bind _ = _
    refine (congrArg (fun o => Out.bind o _) h2).trans ?_
    rfl
  show (match exs G (x_raised f).body [.v (.d (tabD (T n R))), .v (.d (.int r)), .un] s with
    | .ret v s1 => Res.ok v s1
    | .next _ s1 => .ok (.d .none) s1
    | .ex x s1 => .ex x s1
    | .bad => .bad) = _
  rw [eb]
end
end X
set_option Elab.async false
set_option linter.all false
set_option maxRecDepth 100000
set_option maxHeartbeats 4000000
/-! Mx1: powers of a relation over at most six come round: from 40 on, by 5 or 12. -/
namespace X
/-! ### walks in a graph of at most six -/
theorem pw_split {n : Nat} {R : Nat → Nat → Bool} {a b i j : Nat} (hi : i < n) (hj : j < n) : pw n R (a + b) i j = true ↔ ∃ h, h < n ∧ pw n R a i h = true ∧ pw n R b h j = true := by
  rw [← pw_add n R a b i j hi hj, comp_iff]
theorem pw_cat {n : Nat} {R : Nat → Nat → Bool} {a b i h j : Nat} (hi : i < n) (hh : h < n) (hj : j < n) (x : pw n R a i h = true) (y : pw n R b h j = true) : pw n R (a + b) i j = true := (pw_split hi hj).mpr ⟨h, hh, x, y⟩
theorem pw_path {n : Nat} {R : Nat → Nat → Bool} {j : Nat} : ∀ (k i : Nat), i < n → pw n R k i j = true → ∃ g : Nat → Nat, g 0 = i ∧ g k = j ∧ (∀ t, t ≤ k → g t < n) ∧ ∀ t, t < k → R (g t) (g (t + 1)) = true
  | 0, i, hi, h => ⟨fun _ => i, rfl, of_decide_eq_true h, fun _ _ => hi, fun t ht => by omega⟩
  | k + 1, i, hi, h => by
    obtain ⟨x, x1, x2, x3⟩ := comp_iff.mp (show comp n R (pw n R k) i j = true from h)
    obtain ⟨g, g1, g2, g3, g4⟩ := pw_path k x x1 x3
    refine ⟨fun t => match t with
      | 0 => i
      | t + 1 => g t, rfl, g2, fun t ht => ?_, fun t ht => ?_⟩
    · cases t with
      | zero => exact hi
      | succ t => exact g3 t (by omega)
    · cases t with
      | zero =>
        show R i (g 0) = true
        rw [g1]
        exact x2
      | succ t => exact g4 t (by omega)
theorem path_pw {n : Nat} {R : Nat → Nat → Bool} {g : Nat → Nat} {k : Nat} (h1 : ∀ t, t ≤ k → g t < n) (h2 : ∀ t, t < k → R (g t) (g (t + 1)) = true) : ∀ (d a : Nat), a + d ≤ k → pw n R d (g a) (g (a + d)) = true
  | 0, a, _ => decide_eq_true rfl
  | d + 1, a, h => by
    show comp n R (pw n R d) (g a) (g (a + (d + 1))) = true
    rw [comp_iff]
    refine ⟨g (a + 1), h1 _ (by omega), h2 _ (by omega), ?_⟩
    have := path_pw h1 h2 d (a + 1) (by omega)
    rwa [show a + 1 + d = a + (d + 1) by omega] at this
theorem pig : ∀ (n : Nat) (g : Nat → Nat), (∀ t, t ≤ n → g t < n) → ∃ s t, s < t ∧ t ≤ n ∧ g s = g t
  | 0, g, h => absurd (h 0 (Nat.le_refl _)) (Nat.not_lt_zero _)
  | n + 1, g, h => by
    by_cases hd : ∃ t, t ≤ n ∧ g t = g (n + 1)
    · obtain ⟨t, t1, t2⟩ := hd
      exact ⟨t, n + 1, by omega, Nat.le_refl _, t2⟩
    · have hd' : ∀ t, t ≤ n → g t ≠ g (n + 1) := fun t ht e => hd ⟨t, ht, e⟩
      obtain ⟨s, t, h1, h2, h3⟩ := pig n (fun t => if g t = n then g (n + 1) else g t) (fun t ht => by
        have a1 := h t (by omega)
        have a2 := h (n + 1) (Nat.le_refl _)
        have a3 := hd' t ht
        show (if g t = n then g (n + 1) else g t) < n
        split <;> omega)
      have a1 := hd' t h2
      have a2 := hd' s (by omega)
      have h3 : (if g s = n then g (n + 1) else g s) = (if g t = n then g (n + 1) else g t) := h3
      refine ⟨s, t, h1, by omega, ?_⟩
      split at h3 <;> split at h3 <;> omega
theorem pig_least (g : Nat → Nat) (n : Nat) : ∀ (m s d : Nat), d ≤ m → 0 < d → s + d ≤ n → g s = g (s + d) → ∃ s d, 0 < d ∧ s + d ≤ n ∧ g s = g (s + d) ∧ ∀ a b, s ≤ a → a < b → b < s + d → g a ≠ g b
  | 0, s, d, h1, h2, _, _ => by omega
  | m + 1, s, d, h1, h2, h3, h4 => by
    by_cases hd : ∃ a b, s ≤ a ∧ a < b ∧ b < s + d ∧ g a = g b
    · obtain ⟨a, b, a1, a2, a3, a4⟩ := hd
      exact pig_least g n m a (b - a) (by omega) (by omega) (by omega) (by rw [show a + (b - a) = b by omega]; exact a4)
    · exact ⟨s, d, h2, h3, h4, fun a b a1 a2 a3 a4 => hd ⟨a, b, a1, a2, a3, a4⟩⟩
/-- a ring of unlike people -/
structure Cy (n : Nat) (R : Nat → Nat → Bool) (c : Nat) (z : Nat → Nat) : Prop where
  pos : 0 < c
  le : c ≤ n
  lt : ∀ t, t ≤ c → z t < n
  arr : ∀ t, t < c → R (z t) (z (t + 1)) = true
  back : z c = z 0
  ne : ∀ a b, a < b → b < c → z a ≠ z b
theorem Cy.walk {n : Nat} {R : Nat → Nat → Bool} {c : Nat} {z : Nat → Nat} (h : Cy n R c z) (a d : Nat) (hd : a + d ≤ c) : pw n R d (z a) (z (a + d)) = true := path_pw h.lt h.arr d a hd
theorem Cy.round {n : Nat} {R : Nat → Nat → Bool} {c : Nat} {z : Nat → Nat} (h : Cy n R c z) (a : Nat) (ha : a ≤ c) : pw n R c (z a) (z a) = true := by
  have h1 := h.walk a (c - a) (by omega)
  have h2 := h.walk 0 a (by omega)
  rw [show a + (c - a) = c by omega, h.back] at h1
  rw [Nat.zero_add] at h2
  have := pw_cat (h.lt a ha) (h.lt 0 (by omega)) (h.lt a ha) h1 h2
  rwa [show c - a + a = c by omega] at this
theorem has_ring {n : Nat} {R : Nat → Nat → Bool} {k i j : Nat} (hi : i < n) (hj : j < n) (hk : n ≤ k) (h : pw n R k i j = true) : ∃ c z a b, Cy n R c z ∧ pw n R a i (z 0) = true ∧ pw n R b (z 0) j = true ∧ a + c + b = k := by
  obtain ⟨g, g1, g2, g3, g4⟩ := pw_path k i hi h
  obtain ⟨s, t, h1, h2, h3⟩ := pig n g fun t ht => g3 t (by omega)
  obtain ⟨s, d, d1, d2, d3, d4⟩ := pig_least g n (t - s) s (t - s) (Nat.le_refl _) (by omega) (by omega) (by rw [show s + (t - s) = t by omega]; exact h3)
  refine ⟨d, fun t => g (s + t), s, k - (s + d), ⟨d1, by omega, fun t ht => g3 _ (by omega), fun t ht => g4 _ (by omega), d3.symm, fun a b a1 a2 => d4 _ _ (by omega) (by omega) (by omega)⟩, ?_, ?_, by omega⟩
  · have := path_pw g3 g4 s 0 (by omega)
    rw [Nat.zero_add, g1] at this
    exact this
  · have := path_pw g3 g4 (k - (s + d)) (s + d) (by omega)
    rw [show s + d + (k - (s + d)) = k by omega, g2, ← d3] at this
    exact this
theorem red {n : Nat} {R : Nat → Nat → Bool} {v : Nat} (hv : v < n) : ∀ (q a i : Nat), i < n → n * q ≤ a → pw n R a i v = true → ∃ l : List Nat, l.length = q ∧ (∀ x ∈ l, 0 < x) ∧ ∀ s : List Nat, s.Sublist l → s.sum ≤ a ∧ pw n R (a - s.sum) i v = true
  | 0, a, i, _, _, h => ⟨[], rfl, fun x hx => by simp at hx, fun s hs => by
      rw [List.sublist_nil] at hs
      subst hs
      exact ⟨Nat.zero_le _, h⟩⟩
  | q + 1, a, i, hi, hq, h => by
    have e : n * (q + 1) = n + n * q := by rw [Nat.mul_succ, Nat.add_comm]
    obtain ⟨x, x1, x2, x3⟩ := (pw_split (a := n) (b := a - n) hi hv).mp (by rw [show n + (a - n) = a by omega]; exact h)
    obtain ⟨c, z, a1, b1, hz, w1, w2, w3⟩ := has_ring hi x1 (Nat.le_refl _) x2
    obtain ⟨l, l1, l2, l3⟩ := red hv q (a - n) x x1 (by omega) x3
    refine ⟨c :: l, by rw [List.length_cons, l1], fun y hy => ?_, fun s hs => ?_⟩
    · rcases List.mem_cons.mp hy with p | p
      · rw [p]; exact hz.pos
      · exact l2 y p
    · have hle := hz.le
      cases hs with
      | cons _ hs =>
        obtain ⟨s1, s2⟩ := l3 s hs
        refine ⟨by omega, ?_⟩
        have := pw_cat hi x1 hv x2 s2
        rwa [show n + (a - n - s.sum) = a - s.sum by omega] at this
      | cons_cons _ hs =>
        rename_i s
        obtain ⟨s1, s2⟩ := l3 s hs
        rw [List.sum_cons]
        refine ⟨by omega, ?_⟩
        have z0 := hz.lt 0 (by omega)
        have := pw_cat hi x1 hv (pw_cat hi z0 x1 w1 w2) s2
        rwa [show a1 + b1 + (a - n - s.sum) = a - (c + s.sum) by omega] at this
theorem sum_app : ∀ a b : List Nat, (a ++ b).sum = a.sum + b.sum
  | [], b => by simp
  | x :: a, b => by rw [List.cons_append, List.sum_cons, List.sum_cons, sum_app a b, Nat.add_assoc]
theorem subsum {c : Nat} {l : List Nat} (hc : 0 < c) (hl : c ≤ l.length) : ∃ s : List Nat, s.Sublist l ∧ s ≠ [] ∧ s.sum % c = 0 := by
  obtain ⟨s, t, h1, h2, h3⟩ := pig c (fun t => (l.take t).sum % c) fun t _ => Nat.mod_lt _ hc
  have h3 : (l.take s).sum % c = (l.take t).sum % c := h3
  refine ⟨(l.take t).drop s, (List.drop_sublist _ _).trans (List.take_sublist _ _), fun e => ?_, ?_⟩
  · have : ((l.take t).drop s).length = 0 := by rw [e]; rfl
    rw [List.length_drop, List.length_take] at this
    omega
  · have e : l.take t = l.take s ++ (l.take t).drop s := by
      conv => lhs; rw [← List.take_append_drop s (l.take t)]
      rw [List.take_take, Nat.min_eq_left (by omega)]
    have e2 : (l.take t).sum = (l.take s).sum + ((l.take t).drop s).sum := by
      conv => lhs; rw [e]
      exact sum_app _ _
    generalize ((l.take t).drop s).sum = y at *
    rw [e2] at h3
    generalize (l.take s).sum = x at *
    have := Nat.sub_mod_eq_zero_of_mod_eq h3.symm
    rwa [Nat.add_sub_cancel_left] at this
theorem pos_sum : ∀ {s : List Nat}, s ≠ [] → (∀ x ∈ s, 0 < x) → 0 < s.sum
  | [], h, _ => absurd rfl h
  | x :: s, _, h => by
    have := h x List.mem_cons_self
    rw [List.sum_cons]
    omega
theorem shrink {n : Nat} {R : Nat → Nat → Bool} {i j v c : Nat} (hn : n ≤ 6) (hi : i < n) (hj : j < n) (hv : v < n) (hc : 0 < c) (hcn : c ≤ n) : ∀ (m a b : Nat), a + b ≤ m → pw n R a i v = true → pw n R b v j = true → ∃ a' b', pw n R a' i v = true ∧ pw n R b' v j = true ∧ (a' + b') % c = (a + b) % c ∧ a' + b' ≤ 40
  | 0, a, b, h, h1, h2 => ⟨a, b, h1, h2, rfl, by omega⟩
  | m + 1, a, b, h, h1, h2 => by
    by_cases h40 : a + b ≤ 40
    · exact ⟨a, b, h1, h2, rfl, h40⟩
    · obtain ⟨la, la1, la2, la3⟩ := red hv (a / n) a i hi (by rw [Nat.mul_comm]; exact Nat.div_mul_le_self a n) h1
      obtain ⟨lb, lb1, lb2, lb3⟩ := red hj (b / n) b v hv (by rw [Nat.mul_comm]; exact Nat.div_mul_le_self b n) h2
      have hq : c ≤ a / n + b / n := by
        have : n = 1 ∨ n = 2 ∨ n = 3 ∨ n = 4 ∨ n = 5 ∨ n = 6 := by omega
        rcases this with z | z | z | z | z | z <;> subst z <;> omega
      obtain ⟨s, s1, s2, s3⟩ := subsum (l := la ++ lb) hc (by rw [List.length_append, la1, lb1]; exact hq)
      obtain ⟨sa, sb, rfl, sa1, sb1⟩ := List.sublist_append_iff.mp s1
      have sp : 0 < (sa ++ sb).sum := pos_sum s2 fun x hx => by
        rcases List.mem_append.mp (s1.subset hx) with p | p
        · exact la2 x p
        · exact lb2 x p
      obtain ⟨a1, a2⟩ := la3 sa sa1
      obtain ⟨b1, b2⟩ := lb3 sb sb1
      rw [sum_app] at sp s3
      obtain ⟨a', b', p1, p2, p3, p4⟩ := shrink hn hi hj hv hc hcn m (a - sa.sum) (b - sb.sum) (by omega) a2 b2
      refine ⟨a', b', p1, p2, ?_, p4⟩
      rw [p3]
      have e : a + b = (a - sa.sum + (b - sb.sum)) + (sa.sum + sb.sum) := by omega
      rw [e]
      generalize a - sa.sum + (b - sb.sum) = x
      rw [Nat.add_mod x, s3, Nat.add_zero, Nat.mod_mod]
theorem rounds_pw {n : Nat} {R : Nat → Nat → Bool} {v c : Nat} (hv : v < n) (h : pw n R c v v = true) : ∀ t, pw n R (c * t) v v = true
  | 0 => decide_eq_true rfl
  | t + 1 => by
    rw [Nat.mul_succ]
    exact pw_cat hv hv hv (rounds_pw hv h t) h
/-- what is so after many rounds is so for ever, by the length of some ring -/
theorem core {n : Nat} {R : Nat → Nat → Bool} {i j k : Nat} (hn : n ≤ 6) (hi : i < n) (hj : j < n) (hk : n ≤ k) (h : pw n R k i j = true) : ∃ c z a b, Cy n R c z ∧ pw n R a i (z 0) = true ∧ pw n R b (z 0) j = true ∧ a + c + b = k ∧ ∀ m, 40 ≤ m → m % c = k % c → pw n R m i j = true := by
  obtain ⟨c, z, a, b, hz, h1, h2, h3⟩ := has_ring hi hj hk h
  refine ⟨c, z, a, b, hz, h1, h2, h3, fun m h40 hm => ?_⟩
  have z0 := hz.lt 0 (by omega)
  obtain ⟨a', b', p1, p2, p3, p4⟩ := shrink hn hi hj z0 hz.pos hz.le (a + b) a b (Nat.le_refl _) h1 h2
  have e1 : (a' + b') % c = m % c := by
    rw [p3, hm, ← h3, show a + c + b = a + b + c by omega, Nat.add_mod_right]
  have e2 := Nat.sub_mod_eq_zero_of_mod_eq e1.symm
  obtain ⟨t, ht⟩ := Nat.dvd_of_mod_eq_zero e2
  have r := rounds_pw z0 (hz.round 0 (by omega)) t
  have := pw_cat hi z0 hj (pw_cat hi z0 z0 p1 r) p2
  rwa [show a' + c * t + b' = m by omega] at this
theorem mod_add_dvd {k c P : Nat} (h : P % c = 0) : (k + P) % c = k % c := by
  rw [Nat.add_mod, h, Nat.add_zero, Nat.mod_mod]
theorem c_cases {c n : Nat} (h0 : 0 < c) (h1 : c ≤ n) (h2 : n ≤ 6) : c = 1 ∨ c = 2 ∨ c = 3 ∨ c = 4 ∨ c = 5 ∨ c = 6 := by omega
theorem per60 {n : Nat} {R : Nat → Nat → Bool} {i j k : Nat} (hn : n ≤ 6) (hi : i < n) (hj : j < n) (hk : 40 ≤ k) : pw n R (k + 60) i j = pw n R k i j := by
  rw [Bool.eq_iff_iff]
  constructor
  · intro h
    obtain ⟨c, z, a, b, hz, _, _, _, h4⟩ := core hn hi hj (by omega) h
    refine h4 k hk ?_
    rw [mod_add_dvd]
    rcases c_cases hz.pos hz.le hn with e | e | e | e | e | e <;> rw [e]
  · intro h
    obtain ⟨c, z, a, b, hz, _, _, _, h4⟩ := core hn hi hj (by omega) h
    refine h4 (k + 60) (by omega) ?_
    rw [mod_add_dvd]
    rcases c_cases hz.pos hz.le hn with e | e | e | e | e | e <;> rw [e]
/-- powers come round: from 40 on, by 5 or by 12 rounds -/
theorem comes_round {n : Nat} (R : Nat → Nat → Bool) (hn : n ≤ 6) : ∃ P, (P = 5 ∨ P = 12) ∧ ∀ k, 40 ≤ k → Eqn n (pw n R (k + P)) (pw n R k) := by
  by_cases h5 : ∃ y, Cy n R 5 y
  · obtain ⟨y, hy⟩ := h5
    have up : ∀ k i j, n ≤ k → 40 ≤ k + 5 → i < n → j < n → pw n R k i j = true → pw n R (k + 5) i j = true := fun k i j hk h40 hi hj h => by
      obtain ⟨c, z, a, b, hz, w1, w2, w3, h4⟩ := core hn hi hj hk h
      by_cases hc : c = 1 ∨ c = 5
      · refine h4 (k + 5) h40 ?_
        rw [mod_add_dvd]
        rcases hc with e | e <;> rw [e]
      · have hc0 := hz.pos
        have hcn := hz.le
        obtain ⟨s, t, s1, s2, s3⟩ := pig n (fun s => if s < c then z s else y (s - c)) fun t ht => by
          show (if t < c then z t else y (t - c)) < n
          split
          · exact hz.lt t (by omega)
          · exact hy.lt _ (by omega)
        have s3 : (if s < c then z s else y (s - c)) = (if t < c then z t else y (t - c)) := s3
        have hs : s < c := Decidable.byContradiction fun q => by
          rw [if_neg q, if_neg (by omega)] at s3
          exact hy.ne _ _ (by omega) (by omega) s3
        have ht : ¬ t < c := fun q => by
          rw [if_pos hs, if_pos q] at s3
          exact hz.ne _ _ s1 q s3
        rw [if_pos hs, if_neg ht] at s3
        have z0 := hz.lt 0 (by omega)
        have zs := hz.lt s (by omega)
        have r1 := hz.walk 0 s (by omega)
        have r2 := hy.round (t - c) (by omega)
        rw [← s3] at r2
        have r3 := hz.walk s (c - s) (by omega)
        rw [show s + (c - s) = c by omega, hz.back] at r3
        rw [Nat.zero_add] at r1
        have r4 := pw_cat z0 zs z0 (pw_cat z0 zs zs r1 r2) r3
        have := pw_cat hi z0 hj (pw_cat hi z0 z0 w1 r4) w2
        rwa [show a + (s + 5 + (c - s)) + b = k + 5 by omega] at this
    refine ⟨5, .inl rfl, fun k hk i j hi hj => ?_⟩
    rw [Bool.eq_iff_iff]
    constructor
    · intro h
      rw [← per60 hn hi hj hk]
      have h1 := up _ i j (by omega) (by omega) hi hj h
      have h2 := up _ i j (by omega) (by omega) hi hj h1
      have h3 := up _ i j (by omega) (by omega) hi hj h2
      have h4 := up _ i j (by omega) (by omega) hi hj h3
      have h5 := up _ i j (by omega) (by omega) hi hj h4
      have h6 := up _ i j (by omega) (by omega) hi hj h5
      have h7 := up _ i j (by omega) (by omega) hi hj h6
      have h8 := up _ i j (by omega) (by omega) hi hj h7
      have h9 := up _ i j (by omega) (by omega) hi hj h8
      have h10 := up _ i j (by omega) (by omega) hi hj h9
      have h11 := up _ i j (by omega) (by omega) hi hj h10
      exact h11
    · exact up k i j (by omega) (by omega) hi hj
  · refine ⟨12, .inr rfl, fun k hk i j hi hj => ?_⟩
    have key : ∀ c z, Cy n R c z → 12 % c = 0 := fun c z hz => by
      rcases c_cases hz.pos hz.le hn with e | e | e | e | e | e
      · rw [e]
      · rw [e]
      · rw [e]
      · rw [e]
      · subst e
        exact absurd ⟨z, hz⟩ h5
      · rw [e]
    rw [Bool.eq_iff_iff]
    constructor
    · intro h
      obtain ⟨c, z, a, b, hz, _, _, _, h4⟩ := core hn hi hj (by omega) h
      refine h4 k hk ?_
      rw [mod_add_dvd (key c z hz)]
    · intro h
      obtain ⟨c, z, a, b, hz, _, _, _, h4⟩ := core hn hi hj (by omega) h
      refine h4 (k + 12) (by omega) ?_
      rw [mod_add_dvd (key c z hz)]
end X
set_option Elab.async false
set_option linter.all false
set_option maxRecDepth 100000
set_option maxHeartbeats 4000000
/-! Pu3: after, can, need_two. -/
namespace X
open PySem Ar
section
variable {G : Gd} {f : Ix}
theorem far_lt {r : Nat} (h : r ≤ 1000000000000000000000000000000) : r < 2 ^ 110 := by
  have : (1000000000000000000000000000000 : Nat) < 2 ^ 110 := by decide
  omega
def S_after (P : F) : Prop := ∀ (n : Nat) R (r : Nat) s, 1 ≤ n → n ≤ 6 → r ≤ 1000000000000000000000000000000 → P [.d (tabD (T n R)), .d (.int r)] s = .ok (.d (tabD (T n (pw n R r)))) s
def S_afterX (P : F) : Prop := ∀ (n : Nat) R (d : D) s, 1 ≤ n → n ≤ 6 → (oddD d = true ∨ ∃ i : Int, d = .int i ∧ (i < 0 ∨ 1000000000000000000000000000000 < i)) → P [.d (tabD (T n R)), .d d] s = .ex "InvalidRounds" s
def S_afterT (P : F) : Prop := ∀ (n : Nat) R (k : Int) (d : D) s, 1 ≤ n → n ≤ 6 → P [.d (.tuple ((T n R).map rowD ++ [.int k])), .d d] s = .ex "InvalidTable" s
theorem p_after (a : S_ntab (G.fn f.need_table)) (b : S_nrou (G.fn f.need_rounds)) (c : S_raised (G.fn f.raised)) : S_after (callD G (x_after f)) := by
  intro n R r s h1 h2 h3
  have e1 := a n R s h1 h2
  have e2 := b r 1000000000000000000000000000000 s
  rw [if_pos ⟨by omega, by omega⟩] at e2
  have e3 := c n R r s h2 (far_lt h3)
  simp only [x_after, callD, exs, ex, ev, evL, evTs, q_bo, q_bx, q_no, q_op, q_uo, q_ux, q_on, q_or, q_ox, q_oo, q_tn, q_tb, q_ti, q_tl, q_tt, q_ab, q_ai, q_ad, q_add, q_sub, q_mul, q_fdv, q_mod, q_pow, q_att, q_all, q_ass, q_mlk, q_mtk, q_lt, q_le, q_gt, q_ge, q_eqi, q_in, q_ni, q_is, q_isn, q_ofb, q_ixl, q_ixt, q_ixs, q_sll, q_slt, q_b0, q_b1, q_s0, q_s1, q_s2, q_s3, q_s4, q_s5, q_f1, q_f2, q_f3, q_f4, q_f5, q_f6, q_f7, q_f8, q_f9, q_fa, q_fb, q_fc, q_fd, q_fe, q_i0l, q_i0t, q_i1, q_i2, q_i3, q_i4, q_i5, q_t1, q_t2, q_ads0, q_ads, q_sv0, q_sv, List.map_cons, List.map_nil, List.length_cons, List.length_nil, List.getElem?_cons_zero, List.getElem?_cons_succ, List.cons_append, List.nil_append, Option.map_some, Option.map_none, Option.bind_some, if_true, if_false, Bool.false_eq_true, List.replicate, List.set_cons_zero, List.set_cons_succ, blkE, dropE, wipeE, beq_self_eq_true, Bool.not_true, Bool.not_false, Bool.true_or, Bool.false_or, Bool.or_true, Bool.or_false, Bool.and_true, Bool.true_and, e1, e2, e3]
theorem p_afterX (a : S_ntab (G.fn f.need_table)) (b : S_nrou (G.fn f.need_rounds)) (b2 : S_nrouO (G.fn f.need_rounds)) : S_afterX (callD G (x_after f)) := by
  intro n R d s h1 h2 h3
  have e1 := a n R s h1 h2
  have e2 : G.fn f.need_rounds [.d d, .d (.int 1000000000000000000000000000000)] s = .ex "InvalidRounds" s := by
    rcases h3 with h | ⟨i, rfl, h⟩
    · exact b2 d _ s h
    · rw [b i _ s, if_neg (by omega)]
  simp only [x_after, callD, exs, ex, ev, evL, evTs, q_bo, q_bx, q_no, q_op, q_uo, q_ux, q_on, q_or, q_ox, q_oo, q_tn, q_tb, q_ti, q_tl, q_tt, q_ab, q_ai, q_ad, q_add, q_sub, q_mul, q_fdv, q_mod, q_pow, q_att, q_all, q_ass, q_mlk, q_mtk, q_lt, q_le, q_gt, q_ge, q_eqi, q_in, q_ni, q_is, q_isn, q_ofb, q_ixl, q_ixt, q_ixs, q_sll, q_slt, q_b0, q_b1, q_s0, q_s1, q_s2, q_s3, q_s4, q_s5, q_f1, q_f2, q_f3, q_f4, q_f5, q_f6, q_f7, q_f8, q_f9, q_fa, q_fb, q_fc, q_fd, q_fe, q_i0l, q_i0t, q_i1, q_i2, q_i3, q_i4, q_i5, q_t1, q_t2, q_ads0, q_ads, q_sv0, q_sv, List.map_cons, List.map_nil, List.length_cons, List.length_nil, List.getElem?_cons_zero, List.getElem?_cons_succ, List.cons_append, List.nil_append, Option.map_some, Option.map_none, Option.bind_some, if_true, if_false, Bool.false_eq_true, List.replicate, List.set_cons_zero, List.set_cons_succ, blkE, dropE, wipeE, beq_self_eq_true, Bool.not_true, Bool.not_false, Bool.true_or, Bool.false_or, Bool.or_true, Bool.or_false, Bool.and_true, Bool.true_and, e1, e2]
theorem p_afterT (a : S_ntabO (G.fn f.need_table)) : S_afterT (callD G (x_after f)) := by
  intro n R k d s h1 h2
  have e1 := a n R k s h1 h2
  simp only [x_after, callD, exs, ex, ev, evL, evTs, q_bo, q_bx, q_no, q_op, q_uo, q_ux, q_on, q_or, q_ox, q_oo, q_tn, q_tb, q_ti, q_tl, q_tt, q_ab, q_ai, q_ad, q_add, q_sub, q_mul, q_fdv, q_mod, q_pow, q_att, q_all, q_ass, q_mlk, q_mtk, q_lt, q_le, q_gt, q_ge, q_eqi, q_in, q_ni, q_is, q_isn, q_ofb, q_ixl, q_ixt, q_ixs, q_sll, q_slt, q_b0, q_b1, q_s0, q_s1, q_s2, q_s3, q_s4, q_s5, q_f1, q_f2, q_f3, q_f4, q_f5, q_f6, q_f7, q_f8, q_f9, q_fa, q_fb, q_fc, q_fd, q_fe, q_i0l, q_i0t, q_i1, q_i2, q_i3, q_i4, q_i5, q_t1, q_t2, q_ads0, q_ads, q_sv0, q_sv, List.map_cons, List.map_nil, List.length_cons, List.length_nil, List.getElem?_cons_zero, List.getElem?_cons_succ, List.cons_append, List.nil_append, Option.map_some, Option.map_none, Option.bind_some, if_true, if_false, Bool.false_eq_true, List.replicate, List.set_cons_zero, List.set_cons_succ, blkE, dropE, wipeE, beq_self_eq_true, Bool.not_true, Bool.not_false, Bool.true_or, Bool.false_or, Bool.or_true, Bool.or_false, Bool.and_true, Bool.true_and, e1]
/-- the error of a table (good here) and two people -/
def S_two (P : F) : Prop := ∀ (n : Nat) R (a b : Nat) s, 1 ≤ n → n ≤ 6 → a < n → b < n → P [.d (tabD (T n R)), .d (.int a), .d (.int b)] s = .ok (.d .none) s
def badP (n : Nat) (d : D) : Prop := oddD d = true ∨ ∃ i : Int, d = .int i ∧ (i < 0 ∨ (n : Int) - 1 < i)
def S_twoX (P : F) : Prop := ∀ (n : Nat) R (d e : D) s, 1 ≤ n → n ≤ 6 → (badP n d ∨ ((∃ a : Nat, a < n ∧ d = .int a) ∧ badP n e)) → P [.d (tabD (T n R)), .d d, .d e] s = .ex "InvalidPerson" s
theorem p_two (a : S_ntab (G.fn f.need_table)) (b : S_nper (G.fn f.need_person)) : S_two (callD G (x_need_two f)) := by
  intro n R x y s h1 h2 h3 h4
  have e1 := a n R s h1 h2
  have e2 := b x n s
  have e3 := b y n s
  rw [if_pos ⟨by omega, by omega⟩] at e2 e3
  have el : ((T n R).map rowD).length = n := by rw [List.length_map, T_len]
  unfold tabD at e1 ⊢
  simp only [x_need_two, callD, exs, ex, ev, evL, evTs, q_bo, q_bx, q_no, q_op, q_uo, q_ux, q_on, q_or, q_ox, q_oo, q_tn, q_tb, q_ti, q_tl, q_tt, q_ab, q_ai, q_ad, q_add, q_sub, q_mul, q_fdv, q_mod, q_pow, q_att, q_all, q_ass, q_mlk, q_mtk, q_lt, q_le, q_gt, q_ge, q_eqi, q_in, q_ni, q_is, q_isn, q_ofb, q_ixl, q_ixt, q_ixs, q_sll, q_slt, q_b0, q_b1, q_s0, q_s1, q_s2, q_s3, q_s4, q_s5, q_f1, q_f2, q_f3, q_f4, q_f5, q_f6, q_f7, q_f8, q_f9, q_fa, q_fb, q_fc, q_fd, q_fe, q_i0l, q_i0t, q_i1, q_i2, q_i3, q_i4, q_i5, q_t1, q_t2, q_ads0, q_ads, q_sv0, q_sv, List.map_cons, List.map_nil, List.length_cons, List.length_nil, List.getElem?_cons_zero, List.getElem?_cons_succ, List.cons_append, List.nil_append, Option.map_some, Option.map_none, Option.bind_some, if_true, if_false, Bool.false_eq_true, List.replicate, List.set_cons_zero, List.set_cons_succ, blkE, dropE, wipeE, beq_self_eq_true, Bool.not_true, Bool.not_false, Bool.true_or, Bool.false_or, Bool.or_true, Bool.or_false, Bool.and_true, Bool.true_and, el, e1, e2, e3]
theorem p_twoX (a : S_ntab (G.fn f.need_table)) (b : S_nper (G.fn f.need_person)) (b2 : S_nperO (G.fn f.need_person)) : S_twoX (callD G (x_need_two f)) := by
  intro n R d e s h1 h2 h
  have e1 := a n R s h1 h2
  have el : ((T n R).map rowD).length = n := by rw [List.length_map, T_len]
  have bad : ∀ d, badP n d → G.fn f.need_person [.d d, .d (.int n)] s = .ex "InvalidPerson" s := fun d hd => by
    rcases hd with h | ⟨i, rfl, h⟩
    · exact b2 d _ s h
    · rw [b i _ s, if_neg (by omega)]
  unfold tabD at e1 ⊢
  rcases h with h | ⟨⟨x, hx, rfl⟩, h⟩
  · have e2 := bad d h
    simp only [x_need_two, callD, exs, ex, ev, evL, evTs, q_bo, q_bx, q_no, q_op, q_uo, q_ux, q_on, q_or, q_ox, q_oo, q_tn, q_tb, q_ti, q_tl, q_tt, q_ab, q_ai, q_ad, q_add, q_sub, q_mul, q_fdv, q_mod, q_pow, q_att, q_all, q_ass, q_mlk, q_mtk, q_lt, q_le, q_gt, q_ge, q_eqi, q_in, q_ni, q_is, q_isn, q_ofb, q_ixl, q_ixt, q_ixs, q_sll, q_slt, q_b0, q_b1, q_s0, q_s1, q_s2, q_s3, q_s4, q_s5, q_f1, q_f2, q_f3, q_f4, q_f5, q_f6, q_f7, q_f8, q_f9, q_fa, q_fb, q_fc, q_fd, q_fe, q_i0l, q_i0t, q_i1, q_i2, q_i3, q_i4, q_i5, q_t1, q_t2, q_ads0, q_ads, q_sv0, q_sv, List.map_cons, List.map_nil, List.length_cons, List.length_nil, List.getElem?_cons_zero, List.getElem?_cons_succ, List.cons_append, List.nil_append, Option.map_some, Option.map_none, Option.bind_some, if_true, if_false, Bool.false_eq_true, List.replicate, List.set_cons_zero, List.set_cons_succ, blkE, dropE, wipeE, beq_self_eq_true, Bool.not_true, Bool.not_false, Bool.true_or, Bool.false_or, Bool.or_true, Bool.or_false, Bool.and_true, Bool.true_and, el, e1, e2]
  · have e2 := b x n s
    rw [if_pos ⟨by omega, by omega⟩] at e2
    have e3 := bad e h
    simp only [x_need_two, callD, exs, ex, ev, evL, evTs, q_bo, q_bx, q_no, q_op, q_uo, q_ux, q_on, q_or, q_ox, q_oo, q_tn, q_tb, q_ti, q_tl, q_tt, q_ab, q_ai, q_ad, q_add, q_sub, q_mul, q_fdv, q_mod, q_pow, q_att, q_all, q_ass, q_mlk, q_mtk, q_lt, q_le, q_gt, q_ge, q_eqi, q_in, q_ni, q_is, q_isn, q_ofb, q_ixl, q_ixt, q_ixs, q_sll, q_slt, q_b0, q_b1, q_s0, q_s1, q_s2, q_s3, q_s4, q_s5, q_f1, q_f2, q_f3, q_f4, q_f5, q_f6, q_f7, q_f8, q_f9, q_fa, q_fb, q_fc, q_fd, q_fe, q_i0l, q_i0t, q_i1, q_i2, q_i3, q_i4, q_i5, q_t1, q_t2, q_ads0, q_ads, q_sv0, q_sv, List.map_cons, List.map_nil, List.length_cons, List.length_nil, List.getElem?_cons_zero, List.getElem?_cons_succ, List.cons_append, List.nil_append, Option.map_some, Option.map_none, Option.bind_some, if_true, if_false, Bool.false_eq_true, List.replicate, List.set_cons_zero, List.set_cons_succ, blkE, dropE, wipeE, beq_self_eq_true, Bool.not_true, Bool.not_false, Bool.true_or, Bool.false_or, Bool.or_true, Bool.or_false, Bool.and_true, Bool.true_and, el, e1, e2, e3]
/-! ### membership -/
theorem flat_row (r : List Nat) : (r.map iv).all flatD = true := by
  rw [List.all_map, List.all_eq_true]
  intro x _
  rfl
theorem eqv_iv (a b : Nat) : PyData.eqv (iv a) (iv b) = decide (a = b) := by
  unfold iv
  show (((a : Int) == (b : Int)) : Bool) = _
  rw [Bool.eq_iff_iff, beq_iff_eq, decide_eq_true_iff]
  omega
theorem in_row (k : Nat) (r : List Nat) : evIn (.int k) (rowD r) = some (decide (k ∈ r)) := by
  show (if flatD (.int k) && (r.map iv).all flatD then some ((r.map iv).any fun z => PyData.eqv z (.int k)) else none) = _
  rw [flat_row]
  show some _ = _
  rw [List.any_map]
  refine congrArg some ?_
  rw [Bool.eq_iff_iff, List.any_eq_true, decide_eq_true_iff]
  constructor
  · rintro ⟨x, hx, h⟩
    have h : PyData.eqv (iv x) (iv k) = true := h
    rw [eqv_iv, decide_eq_true_iff] at h
    rw [← h]
    exact hx
  · intro h
    exact ⟨k, h, by show PyData.eqv (iv k) (iv k) = true; rw [eqv_iv]; simp⟩
end
end X
set_option Elab.async false
set_option linter.all false
set_option maxRecDepth 100000
set_option maxHeartbeats 4000000
/-! Pu4: can, course. -/
namespace X
open PySem Ar
/-- one row of a relation -/
def row (n : Nat) (R : Nat → Nat → Bool) (i : Nat) : List Nat := (List.range n).filter (R i)
theorem mem_row {n : Nat} {R : Nat → Nat → Bool} {i j : Nat} : j ∈ row n R i ↔ j < n ∧ R i j = true := by
  unfold row
  rw [List.mem_filter, List.mem_range]
theorem idx_row {n i : Nat} {R : Nat → Nat → Bool} (h : i < n) (s : Sto) : evIdx (.d (tabD (T n R))) (.d (.int i)) s = some (.d (rowD (row n R i))) := by
  unfold tabD
  rw [q_ixt]
  show (L2.atI _ _).map _ = _
  rw [atI_nat, List.getElem?_map, T_get h]
  rfl
theorem in_rowR {n i j : Nat} {R : Nat → Nat → Bool} (h : j < n) : evIn (.int j) (rowD (row n R i)) = some (R i j) := by
  rw [in_row]
  refine congrArg some ?_
  rw [Bool.eq_iff_iff, decide_eq_true_iff, mem_row]
  exact ⟨fun x => x.2, fun x => ⟨h, x⟩⟩
section
variable {G : Gd} {f : Ix}
def S_can (P : F) : Prop := ∀ (n : Nat) R (a b r : Nat) s, 1 ≤ n → n ≤ 6 → a < n → b < n → r ≤ 1000000000000000000000000000000 → P [.d (tabD (T n R)), .d (.int a), .d (.int b), .d (.int r)] s = .ok (.d (.bool (pw n R r a b))) s
theorem p_can (a : S_two (G.fn f.need_two)) (b : S_nrou (G.fn f.need_rounds)) (c : S_raised (G.fn f.raised)) : S_can (callD G (x_can f)) := by
  intro n R x y r s h1 h2 hx hy h3
  have e1 := a n R x y s h1 h2 hx hy
  have e2 := b r 1000000000000000000000000000000 s
  rw [if_pos ⟨by omega, by omega⟩] at e2
  have e3 := c n R r s h2 (far_lt h3)
  simp only [x_can, callD, exs, ex, ev, evL, evTs, q_bo, q_bx, q_no, q_op, q_uo, q_ux, q_on, q_or, q_ox, q_oo, q_tn, q_tb, q_ti, q_tl, q_tt, q_ab, q_ai, q_ad, q_add, q_sub, q_mul, q_fdv, q_mod, q_pow, q_att, q_all, q_ass, q_mlk, q_mtk, q_lt, q_le, q_gt, q_ge, q_eqi, q_in, q_ni, q_is, q_isn, q_ofb, q_ixl, q_ixt, q_ixs, q_sll, q_slt, q_b0, q_b1, q_s0, q_s1, q_s2, q_s3, q_s4, q_s5, q_f1, q_f2, q_f3, q_f4, q_f5, q_f6, q_f7, q_f8, q_f9, q_fa, q_fb, q_fc, q_fd, q_fe, q_i0l, q_i0t, q_i1, q_i2, q_i3, q_i4, q_i5, q_t1, q_t2, q_ads0, q_ads, q_sv0, q_sv, List.map_cons, List.map_nil, List.length_cons, List.length_nil, List.getElem?_cons_zero, List.getElem?_cons_succ, List.cons_append, List.nil_append, Option.map_some, Option.map_none, Option.bind_some, if_true, if_false, Bool.false_eq_true, List.replicate, List.set_cons_zero, List.set_cons_succ, blkE, dropE, wipeE, beq_self_eq_true, Bool.not_true, Bool.not_false, Bool.true_or, Bool.false_or, Bool.or_true, Bool.or_false, Bool.and_true, Bool.true_and, e1, e2, e3, idx_row hx, in_rowR hy]
def S_canP (P : F) : Prop := ∀ (n : Nat) R (d e g : D) s, 1 ≤ n → n ≤ 6 → (badP n d ∨ ((∃ a : Nat, a < n ∧ d = .int a) ∧ badP n e)) → P [.d (tabD (T n R)), .d d, .d e, .d g] s = .ex "InvalidPerson" s
theorem p_canP (a : S_twoX (G.fn f.need_two)) : S_canP (callD G (x_can f)) := by
  intro n R d e g s h1 h2 h
  have e1 := a n R d e s h1 h2 h
  simp only [x_can, callD, exs, ex, ev, evL, evTs, q_bo, q_bx, q_no, q_op, q_uo, q_ux, q_on, q_or, q_ox, q_oo, q_tn, q_tb, q_ti, q_tl, q_tt, q_ab, q_ai, q_ad, q_add, q_sub, q_mul, q_fdv, q_mod, q_pow, q_att, q_all, q_ass, q_mlk, q_mtk, q_lt, q_le, q_gt, q_ge, q_eqi, q_in, q_ni, q_is, q_isn, q_ofb, q_ixl, q_ixt, q_ixs, q_sll, q_slt, q_b0, q_b1, q_s0, q_s1, q_s2, q_s3, q_s4, q_s5, q_f1, q_f2, q_f3, q_f4, q_f5, q_f6, q_f7, q_f8, q_f9, q_fa, q_fb, q_fc, q_fd, q_fe, q_i0l, q_i0t, q_i1, q_i2, q_i3, q_i4, q_i5, q_t1, q_t2, q_ads0, q_ads, q_sv0, q_sv, List.map_cons, List.map_nil, List.length_cons, List.length_nil, List.getElem?_cons_zero, List.getElem?_cons_succ, List.cons_append, List.nil_append, Option.map_some, Option.map_none, Option.bind_some, if_true, if_false, Bool.false_eq_true, List.replicate, List.set_cons_zero, List.set_cons_succ, blkE, dropE, wipeE, beq_self_eq_true, Bool.not_true, Bool.not_false, Bool.true_or, Bool.false_or, Bool.or_true, Bool.or_false, Bool.and_true, Bool.true_and, e1]
def S_canR (P : F) : Prop := ∀ (n : Nat) R (a b : Nat) (d : D) s, 1 ≤ n → n ≤ 6 → a < n → b < n → (oddD d = true ∨ ∃ i : Int, d = .int i ∧ (i < 0 ∨ 1000000000000000000000000000000 < i)) → P [.d (tabD (T n R)), .d (.int a), .d (.int b), .d d] s = .ex "InvalidRounds" s
theorem p_canR (a : S_two (G.fn f.need_two)) (b : S_nrou (G.fn f.need_rounds)) (b2 : S_nrouO (G.fn f.need_rounds)) : S_canR (callD G (x_can f)) := by
  intro n R x y d s h1 h2 hx hy h3
  have e1 := a n R x y s h1 h2 hx hy
  have e2 : G.fn f.need_rounds [.d d, .d (.int 1000000000000000000000000000000)] s = .ex "InvalidRounds" s := by
    rcases h3 with h | ⟨i, rfl, h⟩
    · exact b2 d _ s h
    · rw [b i _ s, if_neg (by omega)]
  simp only [x_can, callD, exs, ex, ev, evL, evTs, q_bo, q_bx, q_no, q_op, q_uo, q_ux, q_on, q_or, q_ox, q_oo, q_tn, q_tb, q_ti, q_tl, q_tt, q_ab, q_ai, q_ad, q_add, q_sub, q_mul, q_fdv, q_mod, q_pow, q_att, q_all, q_ass, q_mlk, q_mtk, q_lt, q_le, q_gt, q_ge, q_eqi, q_in, q_ni, q_is, q_isn, q_ofb, q_ixl, q_ixt, q_ixs, q_sll, q_slt, q_b0, q_b1, q_s0, q_s1, q_s2, q_s3, q_s4, q_s5, q_f1, q_f2, q_f3, q_f4, q_f5, q_f6, q_f7, q_f8, q_f9, q_fa, q_fb, q_fc, q_fd, q_fe, q_i0l, q_i0t, q_i1, q_i2, q_i3, q_i4, q_i5, q_t1, q_t2, q_ads0, q_ads, q_sv0, q_sv, List.map_cons, List.map_nil, List.length_cons, List.length_nil, List.getElem?_cons_zero, List.getElem?_cons_succ, List.cons_append, List.nil_append, Option.map_some, Option.map_none, Option.bind_some, if_true, if_false, Bool.false_eq_true, List.replicate, List.set_cons_zero, List.set_cons_succ, blkE, dropE, wipeE, beq_self_eq_true, Bool.not_true, Bool.not_false, Bool.true_or, Bool.false_or, Bool.or_true, Bool.or_false, Bool.and_true, Bool.true_and, e1, e2]
def S_courseP (P : F) : Prop := ∀ (n : Nat) R (d e g : D) s, 1 ≤ n → n ≤ 6 → (badP n d ∨ ((∃ a : Nat, a < n ∧ d = .int a) ∧ badP n e)) → P [.d (tabD (T n R)), .d d, .d e, .d g] s = .ex "InvalidPerson" s
theorem p_courseP (a : S_twoX (G.fn f.need_two)) : S_courseP (callD G (x_course f)) := by
  intro n R d e g s h1 h2 h
  have e1 := a n R d e s h1 h2 h
  simp only [x_course, callD, exs, ex, ev, evL, evTs, q_bo, q_bx, q_no, q_op, q_uo, q_ux, q_on, q_or, q_ox, q_oo, q_tn, q_tb, q_ti, q_tl, q_tt, q_ab, q_ai, q_ad, q_add, q_sub, q_mul, q_fdv, q_mod, q_pow, q_att, q_all, q_ass, q_mlk, q_mtk, q_lt, q_le, q_gt, q_ge, q_eqi, q_in, q_ni, q_is, q_isn, q_ofb, q_ixl, q_ixt, q_ixs, q_sll, q_slt, q_b0, q_b1, q_s0, q_s1, q_s2, q_s3, q_s4, q_s5, q_f1, q_f2, q_f3, q_f4, q_f5, q_f6, q_f7, q_f8, q_f9, q_fa, q_fb, q_fc, q_fd, q_fe, q_i0l, q_i0t, q_i1, q_i2, q_i3, q_i4, q_i5, q_t1, q_t2, q_ads0, q_ads, q_sv0, q_sv, List.map_cons, List.map_nil, List.length_cons, List.length_nil, List.getElem?_cons_zero, List.getElem?_cons_succ, List.cons_append, List.nil_append, Option.map_some, Option.map_none, Option.bind_some, if_true, if_false, Bool.false_eq_true, List.replicate, List.set_cons_zero, List.set_cons_succ, blkE, dropE, wipeE, beq_self_eq_true, Bool.not_true, Bool.not_false, Bool.true_or, Bool.false_or, Bool.or_true, Bool.or_false, Bool.and_true, Bool.true_and, e1]
def S_courseR (P : F) : Prop := ∀ (n : Nat) R (a b : Nat) (d : D) s, 1 ≤ n → n ≤ 6 → a < n → b < n → (oddD d = true ∨ ∃ i : Int, d = .int i ∧ (i < 0 ∨ 90 < i)) → P [.d (tabD (T n R)), .d (.int a), .d (.int b), .d d] s = .ex "InvalidRounds" s
theorem p_courseR (a : S_two (G.fn f.need_two)) (b : S_nrou (G.fn f.need_rounds)) (b2 : S_nrouO (G.fn f.need_rounds)) : S_courseR (callD G (x_course f)) := by
  intro n R x y d s h1 h2 hx hy h3
  have e1 := a n R x y s h1 h2 hx hy
  have e2 : G.fn f.need_rounds [.d d, .d (.int 90)] s = .ex "InvalidRounds" s := by
    rcases h3 with h | ⟨i, rfl, h⟩
    · exact b2 d _ s h
    · rw [b i _ s, if_neg (by omega)]
  simp only [x_course, callD, exs, ex, ev, evL, evTs, q_bo, q_bx, q_no, q_op, q_uo, q_ux, q_on, q_or, q_ox, q_oo, q_tn, q_tb, q_ti, q_tl, q_tt, q_ab, q_ai, q_ad, q_add, q_sub, q_mul, q_fdv, q_mod, q_pow, q_att, q_all, q_ass, q_mlk, q_mtk, q_lt, q_le, q_gt, q_ge, q_eqi, q_in, q_ni, q_is, q_isn, q_ofb, q_ixl, q_ixt, q_ixs, q_sll, q_slt, q_b0, q_b1, q_s0, q_s1, q_s2, q_s3, q_s4, q_s5, q_f1, q_f2, q_f3, q_f4, q_f5, q_f6, q_f7, q_f8, q_f9, q_fa, q_fb, q_fc, q_fd, q_fe, q_i0l, q_i0t, q_i1, q_i2, q_i3, q_i4, q_i5, q_t1, q_t2, q_ads0, q_ads, q_sv0, q_sv, List.map_cons, List.map_nil, List.length_cons, List.length_nil, List.getElem?_cons_zero, List.getElem?_cons_succ, List.cons_append, List.nil_append, Option.map_some, Option.map_none, Option.bind_some, if_true, if_false, Bool.false_eq_true, List.replicate, List.set_cons_zero, List.set_cons_succ, blkE, dropE, wipeE, beq_self_eq_true, Bool.not_true, Bool.not_false, Bool.true_or, Bool.false_or, Bool.or_true, Bool.or_false, Bool.and_true, Bool.true_and, e1, e2]
end
end X
set_option Elab.async false
set_option linter.all false
set_option maxRecDepth 100000
set_option maxHeartbeats 4000000
/-! Pu5: loops; course. -/
namespace X
open PySem Ar
/-! ### loops -/
theorem forO_rng' {f : D → Ar.Env → Sto → Out} {h : Nat → D} (I : Nat → Ar.Env → Sto → Prop) (r : Nat) (step : ∀ k, k < r → ∀ ρ s, I k ρ s → ∃ ρ' s', f (h k) ρ s = .next ρ' s' ∧ I (k + 1) ρ' s') : ∀ m k ρ s, k + m = r → I k ρ s → ∃ ρ' s', forO f ((List.range' k m).map h) ρ s = .next ρ' s' ∧ I r ρ' s'
  | 0, k, ρ, s, e, i => ⟨ρ, s, rfl, by rw [Nat.add_zero] at e; rw [← e]; exact i⟩
  | m + 1, k, ρ, s, e, i => by
    obtain ⟨ρ', s', e1, i1⟩ := step k (by omega) ρ s i
    obtain ⟨ρ2, s2, e2, i2⟩ := forO_rng' I r step m (k + 1) ρ' s' (by omega) i1
    refine ⟨ρ2, s2, ?_, i2⟩
    rw [List.range'_succ, List.map_cons]
    show (f (h k) ρ s).bind _ = _
    rw [e1]
    exact e2
theorem forO_rng {f : D → Ar.Env → Sto → Out} {h : Nat → D} {r : Nat} {ρ : Ar.Env} {s : Sto} (I : Nat → Ar.Env → Sto → Prop) (step : ∀ k, k < r → ∀ ρ s, I k ρ s → ∃ ρ' s', f (h k) ρ s = .next ρ' s' ∧ I (k + 1) ρ' s') (i : I 0 ρ s) : ∃ ρ' s', forO f ((List.range r).map h) ρ s = .next ρ' s' ∧ I r ρ' s' := by
  rw [List.range_eq_range']
  exact forO_rng' I r step r 0 ρ s (by omega) i
theorem forO_all {f : D → Ar.Env → Sto → Out} (I : Ar.Env → Sto → Prop) : ∀ {xs : List D} {ρ : Ar.Env} {s : Sto}, (∀ x ∈ xs, ∀ ρ s, I ρ s → ∃ ρ' s', f x ρ s = .next ρ' s' ∧ I ρ' s') → I ρ s → ∃ ρ' s', forO f xs ρ s = .next ρ' s' ∧ I ρ' s'
  | [], ρ, s, _, i => ⟨ρ, s, rfl, i⟩
  | x :: xs, ρ, s, step, i => by
    obtain ⟨ρ', s', e1, i1⟩ := step x List.mem_cons_self ρ s i
    obtain ⟨ρ2, s2, e2, i2⟩ := forO_all I (xs := xs) (fun y hy => step y (List.mem_cons_of_mem _ hy)) i1
    refine ⟨ρ2, s2, ?_, i2⟩
    show (f x ρ s).bind _ = _
    rw [e1]
    exact e2
theorem atI_last {α : Type} (xs : List α) (x : α) : L2.atI (xs ++ [x]) (-1) = some x := by
  unfold L2.atI L2.ixN
  have e : (xs ++ [x]).length = xs.length + 1 := by simp
  rw [if_neg (by omega), if_pos (by rw [e]; omega), e]
  show (xs ++ [x])[_]? = _
  have e2 : (-1 + ((xs.length + 1 : Nat) : Int)).toNat = xs.length := by omega
  rw [e2, List.getElem?_append_right (Nat.le_refl _), Nat.sub_self]
  rfl
theorem flat_if (p : Nat → Bool) : ∀ r : List Nat, (r.flatMap fun x => if p x then [iv x] else []) = (r.filter p).map iv
  | [] => rfl
  | x :: r => by
    rw [List.flatMap_cons, flat_if p r, List.filter_cons]
    cases p x <;> rfl
/-- a walk from a, the last met at its end -/
inductive Wk (n : Nat) (R : Nat → Nat → Bool) (a : Nat) : Nat → List Nat → Prop where
  | one : a < n → Wk n R a a [a]
  | snoc {x y : Nat} {w : List Nat} : Wk n R a x w → R x y = true → y < n → Wk n R a y (w ++ [y])
theorem Wk.last {n : Nat} {R : Nat → Nat → Bool} {a x : Nat} {w : List Nat} (h : Wk n R a x w) : ∃ v, w = v ++ [x] := by
  cases h with
  | one h => exact ⟨[], rfl⟩
  | snoc h _ _ => exact ⟨_, rfl⟩
theorem Wk.lt {n : Nat} {R : Nat → Nat → Bool} {a x : Nat} {w : List Nat} (h : Wk n R a x w) : x < n := by
  cases h with
  | one h => exact h
  | snoc _ _ h => exact h
theorem Wk.head {n : Nat} {R : Nat → Nat → Bool} {a x : Nat} {w : List Nat} (h : Wk n R a x w) : ∃ v, w = a :: v := by
  induction h with
  | one h => exact ⟨[], rfl⟩
  | snoc h _ _ ih =>
    obtain ⟨v, rfl⟩ := ih
    exact ⟨v ++ [_], rfl⟩
def Ts (n : Nat) (R : Nat → Nat → Bool) (k : Nat) : List D := (List.range (k + 1)).map fun j => tabD (T n (pw n R j))
theorem Ts_succ (n : Nat) (R : Nat → Nat → Bool) (k : Nat) : Ts n R (k + 1) = Ts n R k ++ [tabD (T n (pw n R (k + 1)))] := by
  unfold Ts
  rw [List.range_succ, List.map_append]
  rfl
theorem Ts_last (n : Nat) (R : Nat → Nat → Bool) (k : Nat) : L2.atI (Ts n R k) (-1) = some (tabD (T n (pw n R k))) := by
  unfold Ts
  rw [List.range_succ, List.map_append]
  exact atI_last _ _
theorem Ts_len (n : Nat) (R : Nat → Nat → Bool) (k : Nat) : (Ts n R k).length = k + 1 := by
  unfold Ts
  rw [List.length_map, List.length_range]
theorem Ts_get (n : Nat) (R : Nat → Nat → Bool) (k j : Nat) (h : j ≤ k) : L2.atI (Ts n R k) (j : Int) = some (tabD (T n (pw n R j))) := by
  unfold Ts
  rw [atI_nat, List.getElem?_map, List.getElem?_range (by omega)]
  rfl
section
variable {G : Gd} {f : Ix}
theorem exs_app : ∀ (xs ys : List Ar.S) (ρ : Ar.Env) (s : Sto), exs G (xs ++ ys) ρ s = (exs G xs ρ s).bind fun ρ1 s1 => exs G ys ρ1 s1
  | [], ys, ρ, s => by simp only [exs, q_on, List.nil_append]
  | x :: xs, ys, ρ, s => by
    rw [List.cons_append]
    simp only [exs]
    cases ex G x ρ s with
    | next ρ1 s1 =>
      simp only [q_on]
      exact exs_app xs ys ρ1 s1
    | ret _ _ => rfl
    | ex _ _ => rfl
    | bad => rfl
theorem exs_cut {b : List Ar.S} {ρ ρ1 : Ar.Env} {s s1 : Sto} (k : Nat) (h : exs G (b.take k) ρ s = .next ρ1 s1) : exs G b ρ s = exs G (b.drop k) ρ1 s1 := by
  conv => lhs; rw [← List.take_append_drop k b]
  rw [exs_app, h, q_on]
theorem exs_one {b : List Ar.S} {c : Ar.S} {ρ ρ1 : Ar.Env} {s s1 : Sto} (h : ex G c ρ s = .next ρ1 s1) : exs G (c :: b) ρ s = exs G b ρ1 s1 := by
  simp only [exs, h, q_on]
theorem ex_fors {tg : List Nat} {tt : Bool} {ik : Nat} {its : List C} {body : List Ar.S} {ρ : Ar.Env} {s s1 : Sto} {vs : List Vl} {xs : List D} (h1 : evL G its ρ s = .ok vs s1) (h2 : evItems ik vs = some xs) : ex G (.fors tg tt ik its body) ρ s = forO (fun x ρ s => oOut (bindTg tg tt x ρ) fun ρ1 => exs G body ρ1 s) xs ρ s1 := by
  simp only [ex, h1, h2, q_uo, q_oo]
theorem callD_ret {d : Df} {vs : List Vl} {s s1 : Sto} {v : Vl} (h : vs.length = d.ps) (e : exs G d.body (vs.map Slot.v ++ List.replicate (d.ns - vs.length) .un) s = .ret v s1) : callD G d vs s = .ok v s1 := by
  unfold callD
  rw [if_pos h, e]
theorem callD_next {d : Df} {vs : List Vl} {s s1 : Sto} {ρ : Ar.Env} (h : vs.length = d.ps) (e : exs G d.body (vs.map Slot.v ++ List.replicate (d.ns - vs.length) .un) s = .next ρ s1) : callD G d vs s = .ok (.d .none) s1 := by
  unfold callD
  rw [if_pos h, e]
def S_course (P : F) : Prop := ∀ (n : Nat) R (a b r : Nat) s, 1 ≤ n → n ≤ 6 → a < n → b < n → r ≤ 90 →
  ∃ d, P [.d (tabD (T n R)), .d (.int a), .d (.int b), .d (.int r)] s = .ok (.d d) s ∧ ((pw n R r a b = false ∧ d = .none) ∨ ∃ w, d = rowD w ∧ Wk n R a b w ∧ w.length = r + 1)
theorem p_course (q : S_two (G.fn f.need_two)) (b : S_nrou (G.fn f.need_rounds)) (c : S_nothing (G.fn f.nothing_done)) (t : S_times (G.fn f.times)) : S_course (callD G (x_course f)) := by
  intro n R x y r s h1 h2 hx hy hr
  have e1 := q n R x y s h1 h2 hx hy
  have e2 := b r 90 s
  rw [if_pos ⟨by omega, by omega⟩] at e2
  have e3 : G.fn f.nothing_done [.d (.int ((T n R).map rowD).length)] s = .ok (.d (tabD (T n (pw n R 0)))) s := by
    rw [List.length_map, T_len]
    exact c n s h2
  have c1 : exs G ((x_course f).body.take 3) [.v (.d (tabD (T n R))), .v (.d (.int x)), .v (.d (.int y)), .v (.d (.int r)), .un, .un, .un, .un, .un] s = .next [.v (.d (tabD (T n R))), .v (.d (.int x)), .v (.d (.int y)), .v (.d (.int r)), .own (Ts n R 0), .un, .un, .un, .un] s := by
    simp only [tabD] at e1 e3 ⊢
    simp only [x_course, List.take_succ_cons, List.take_zero, callD, exs, ex, ev, evL, evTs, q_bo, q_bx, q_no, q_op, q_uo, q_ux, q_on, q_or, q_ox, q_oo, q_tn, q_tb, q_ti, q_tl, q_tt, q_ab, q_ai, q_ad, q_add, q_sub, q_mul, q_fdv, q_mod, q_pow, q_att, q_all, q_ass, q_mlk, q_mtk, q_lt, q_le, q_gt, q_ge, q_eqi, q_in, q_ni, q_is, q_isn, q_ofb, q_ixl, q_ixt, q_ixs, q_sll, q_slt, q_b0, q_b1, q_s0, q_s1, q_s2, q_s3, q_s4, q_s5, q_f1, q_f2, q_f3, q_f4, q_f5, q_f6, q_f7, q_f8, q_f9, q_fa, q_fb, q_fc, q_fd, q_fe, q_i0l, q_i0t, q_i1, q_i2, q_i3, q_i4, q_i5, q_t1, q_t2, q_ads0, q_ads, q_sv0, q_sv, List.map_cons, List.map_nil, List.length_cons, List.length_nil, List.getElem?_cons_zero, List.getElem?_cons_succ, List.cons_append, List.nil_append, Option.map_some, Option.map_none, Option.bind_some, if_true, if_false, Bool.false_eq_true, List.replicate, List.set_cons_zero, List.set_cons_succ, blkE, dropE, wipeE, beq_self_eq_true, Bool.not_true, Bool.not_false, Bool.true_or, Bool.false_or, Bool.or_true, Bool.or_false, Bool.and_true, Bool.true_and, e1, e2, e3]
    rfl
  let I1 : Nat → Ar.Env → Sto → Prop := fun k ρ s1 => s1 = s ∧ ∃ u, ρ = [.v (.d (tabD (T n R))), .v (.d (.int x)), .v (.d (.int y)), .v (.d (.int r)), .own (Ts n R k), u, .un, .un, .un]
  obtain ⟨ρ1, s1, l1, z1, u, z2⟩ := forO_rng (f := fun x ρ s => oOut (bindTg [5] false x ρ) fun ρ1 => exs G [.append 4 (.call f.times [.var 0, .oidx 4 (.neg (.int 1))])] ρ1 s) (h := iv) (r := r) (s := s) I1 (by
    rintro k hk ρ s1 ⟨rfl, u, rfl⟩
    refine ⟨_, s1, ?_, rfl, .v (.d (iv k)), rfl⟩
    have ta : ∀ s, G.fn f.times [.d (tabD (T n R)), .d (tabD (T n (pw n R k)))] s = .ok (.d (tabD (T n (pw n R (k + 1))))) s := fun s => t n _ _ s h2
    have lt : (Ts n R k).length < sizeLine := by rw [Ts_len, sizeLine_eq]; omega
    simp only [callD, exs, ex, ev, evL, evTs, q_bo, q_bx, q_no, q_op, q_uo, q_ux, q_on, q_or, q_ox, q_oo, q_tn, q_tb, q_ti, q_tl, q_tt, q_ab, q_ai, q_ad, q_add, q_sub, q_mul, q_fdv, q_mod, q_pow, q_att, q_all, q_ass, q_mlk, q_mtk, q_lt, q_le, q_gt, q_ge, q_eqi, q_in, q_ni, q_is, q_isn, q_ofb, q_ixl, q_ixt, q_ixs, q_sll, q_slt, q_b0, q_b1, q_s0, q_s1, q_s2, q_s3, q_s4, q_s5, q_f1, q_f2, q_f3, q_f4, q_f5, q_f6, q_f7, q_f8, q_f9, q_fa, q_fb, q_fc, q_fd, q_fe, q_i0l, q_i0t, q_i1, q_i2, q_i3, q_i4, q_i5, q_t1, q_t2, q_ads0, q_ads, q_sv0, q_sv, List.map_cons, List.map_nil, List.length_cons, List.length_nil, List.getElem?_cons_zero, List.getElem?_cons_succ, List.cons_append, List.nil_append, Option.map_some, Option.map_none, Option.bind_some, if_true, if_false, Bool.false_eq_true, List.replicate, List.set_cons_zero, List.set_cons_succ, blkE, dropE, wipeE, beq_self_eq_true, Bool.not_true, Bool.not_false, Bool.true_or, Bool.false_or, Bool.or_true, Bool.or_false, Bool.and_true, Bool.true_and, Ts_last, ta, lt, Ts_succ]) (ρ := [.v (.d (tabD (T n R))), .v (.d (.int x)), .v (.d (.int y)), .v (.d (.int r)), .own (Ts n R 0), .un, .un, .un, .un]) ⟨rfl, .un, rfl⟩
  subst z1 z2
  have l2 := (ex_fors (G := G) (tg := [5]) (tt := false) (ik := 1) (its := [.var 3]) (body := [.append 4 (.call f.times [.var 0, .oidx 4 (.neg (.int 1))])]) (ρ := [.v (.d (tabD (T n R))), .v (.d (.int x)), .v (.d (.int y)), .v (.d (.int r)), .own (Ts n R 0), .un, .un, .un, .un]) (s := s1) rfl (i1_ok (n := r) (by omega))).trans l1
  have hd : ∃ d, exs G ((x_course f).body.drop 4) [.v (.d (tabD (T n R))), .v (.d (.int x)), .v (.d (.int y)), .v (.d (.int r)), .own (Ts n R r), u, .un, .un, .un] s1 = .ret (.d d) s1 ∧ ((pw n R r x y = false ∧ d = .none) ∨ ∃ w, d = rowD w ∧ Wk n R x y w ∧ w.length = r + 1) := by
    cases hp : pw n R r x y with
    | false =>
      refine ⟨.none, ?_, .inl ⟨rfl, rfl⟩⟩
      simp only [x_course, List.drop_succ_cons, List.drop_zero, callD, exs, ex, ev, evL, evTs, q_bo, q_bx, q_no, q_op, q_uo, q_ux, q_on, q_or, q_ox, q_oo, q_tn, q_tb, q_ti, q_tl, q_tt, q_ab, q_ai, q_ad, q_add, q_sub, q_mul, q_fdv, q_mod, q_pow, q_att, q_all, q_ass, q_mlk, q_mtk, q_lt, q_le, q_gt, q_ge, q_eqi, q_in, q_ni, q_is, q_isn, q_ofb, q_ixl, q_ixt, q_ixs, q_sll, q_slt, q_b0, q_b1, q_s0, q_s1, q_s2, q_s3, q_s4, q_s5, q_f1, q_f2, q_f3, q_f4, q_f5, q_f6, q_f7, q_f8, q_f9, q_fa, q_fb, q_fc, q_fd, q_fe, q_i0l, q_i0t, q_i1, q_i2, q_i3, q_i4, q_i5, q_t1, q_t2, q_ads0, q_ads, q_sv0, q_sv, List.map_cons, List.map_nil, List.length_cons, List.length_nil, List.getElem?_cons_zero, List.getElem?_cons_succ, List.cons_append, List.nil_append, Option.map_some, Option.map_none, Option.bind_some, if_true, if_false, Bool.false_eq_true, List.replicate, List.set_cons_zero, List.set_cons_succ, blkE, dropE, wipeE, beq_self_eq_true, Bool.not_true, Bool.not_false, Bool.true_or, Bool.false_or, Bool.or_true, Bool.or_false, Bool.and_true, Bool.true_and, Ts_last, idx_row hx, in_rowR hy, hp]
    | true =>
      let I2 : Nat → Ar.Env → Sto → Prop := fun k ρ s2 => s2 = s1 ∧ ∃ v z w, ρ = [.v (.d (tabD (T n R))), .v (.d (.int x)), .v (.d (.int y)), .v (.d (.int r)), .v (.d (.list (Ts n R r))), u, .v (.d (rowD w)), v, .un] ∧ Wk n R x z w ∧ w.length = k + 1 ∧ pw n R (r - k) z y = true
      obtain ⟨ρ3, s3, l3, z3, v, z, w, z4, w1, w2, w3⟩ := forO_rng (f := fun x ρ s => oOut (bindTg [7] false x ρ) fun ρ1 => exs G [.set 6 (.bin .Add (.var 6) (.tup [.idx (.comp (.var 8) [8] false 0 [.idx (.var 0) (.idx (.var 6) (.neg (.int 1)))] [.cmp .In (.var 2) (.idx (.idx (.var 4) (.var 7)) (.var 8))] [8]) (.int 0)]))] ρ1 s) (h := fun k => .int ((r : Int) - 1 - (k : Int))) (r := r) (s := s1) I2 (by
        rintro k hk ρ s2 ⟨rfl, v, z, w, rfl, w1, w2, w3⟩
        have en : r - k = (r - 1 - k) + 1 := by omega
        rw [en] at w3
        obtain ⟨p, p1, p2, p3⟩ := comp_iff.mp w3
        obtain ⟨w', rfl⟩ := w1.last
        have ez : (r : Int) - 1 - (k : Int) = ((r - 1 - k : Nat) : Int) := by omega
        have lw : (row n R z).filter (fun p => pw n R (r - 1 - k) p y) ≠ [] := fun h => by
          have : p ∈ (row n R z).filter (fun p => pw n R (r - 1 - k) p y) := List.mem_filter.mpr ⟨mem_row.mpr ⟨p1, p2⟩, p3⟩
          rw [h] at this
          cases this
        obtain ⟨o, os, ho⟩ := List.exists_cons_of_ne_nil lw
        have hm : o ∈ (row n R z).filter (fun p => pw n R (r - 1 - k) p y) := by rw [ho]; exact List.mem_cons_self
        obtain ⟨m1, m2⟩ := List.mem_filter.mp hm
        obtain ⟨m3, m4⟩ := mem_row.mp m1
        refine ⟨[.v (.d (tabD (T n R))), .v (.d (.int x)), .v (.d (.int y)), .v (.d (.int r)), .v (.d (.list (Ts n R r))), u, .v (.d (rowD (w' ++ [z] ++ [o]))), .v (.d (.int ((r - 1 - k : Nat) : Int))), .un], s2, ?_, rfl, .v (.d (.int ((r - 1 - k : Nat) : Int))), o, w' ++ [z] ++ [o], rfl, w1.snoc m4 m3, by rw [List.length_append, w2]; rfl, by rw [show r - (k + 1) = r - 1 - k by omega]; exact m2⟩
        have tl : evIdx (.d (rowD (w' ++ [z]))) (.d (.int (-1))) s2 = some (.d (.int z)) := by
          unfold rowD
          rw [q_ixt, List.map_append]
          show (L2.atI _ _).map _ = _
          rw [List.map_cons, List.map_nil, atI_last]
          rfl
        have gt : L2.atI (Ts n R r) ((r - 1 - k : Nat) : Int) = some (tabD (T n (pw n R (r - 1 - k)))) := Ts_get n R r _ (by omega)
        simp only [callD, exs, ex, ev, evL, evTs, q_bo, q_bx, q_no, q_op, q_uo, q_ux, q_on, q_or, q_ox, q_oo, q_tn, q_tb, q_ti, q_tl, q_tt, q_ab, q_ai, q_ad, q_add, q_sub, q_mul, q_fdv, q_mod, q_pow, q_att, q_all, q_ass, q_mlk, q_mtk, q_lt, q_le, q_gt, q_ge, q_eqi, q_in, q_ni, q_is, q_isn, q_ofb, q_ixl, q_ixt, q_ixs, q_sll, q_slt, q_b0, q_b1, q_s0, q_s1, q_s2, q_s3, q_s4, q_s5, q_f1, q_f2, q_f3, q_f4, q_f5, q_f6, q_f7, q_f8, q_f9, q_fa, q_fb, q_fc, q_fd, q_fe, q_i0l, q_i0t, q_i1, q_i2, q_i3, q_i4, q_i5, q_t1, q_t2, q_ads0, q_ads, q_sv0, q_sv, List.map_cons, List.map_nil, List.length_cons, List.length_nil, List.getElem?_cons_zero, List.getElem?_cons_succ, List.cons_append, List.nil_append, Option.map_some, Option.map_none, Option.bind_some, if_true, if_false, Bool.false_eq_true, List.replicate, List.set_cons_zero, List.set_cons_succ, blkE, dropE, wipeE, beq_self_eq_true, Bool.not_true, Bool.not_false, Bool.true_or, Bool.false_or, Bool.or_true, Bool.or_false, Bool.and_true, Bool.true_and, ez, tl, idx_row w1.lt, gt]
        simp only [rowD, callD, exs, ex, ev, evL, evTs, q_bo, q_bx, q_no, q_op, q_uo, q_ux, q_on, q_or, q_ox, q_oo, q_tn, q_tb, q_ti, q_tl, q_tt, q_ab, q_ai, q_ad, q_add, q_sub, q_mul, q_fdv, q_mod, q_pow, q_att, q_all, q_ass, q_mlk, q_mtk, q_lt, q_le, q_gt, q_ge, q_eqi, q_in, q_ni, q_is, q_isn, q_ofb, q_ixl, q_ixt, q_ixs, q_sll, q_slt, q_b0, q_b1, q_s0, q_s1, q_s2, q_s3, q_s4, q_s5, q_f1, q_f2, q_f3, q_f4, q_f5, q_f6, q_f7, q_f8, q_f9, q_fa, q_fb, q_fc, q_fd, q_fe, q_i0l, q_i0t, q_i1, q_i2, q_i3, q_i4, q_i5, q_t1, q_t2, q_ads0, q_ads, q_sv0, q_sv, List.map_cons, List.map_nil, List.length_cons, List.length_nil, List.getElem?_cons_zero, List.getElem?_cons_succ, List.cons_append, List.nil_append, Option.map_some, Option.map_none, Option.bind_some, if_true, if_false, Bool.false_eq_true, List.replicate, List.set_cons_zero, List.set_cons_succ, blkE, dropE, wipeE, beq_self_eq_true, Bool.not_true, Bool.not_false, Bool.true_or, Bool.false_or, Bool.or_true, Bool.or_false, Bool.and_true, Bool.true_and]
        rw [mapR_ofs (g := fun p => if pw n R (r - 1 - k) p y then [iv p] else []) (by
          intro p hp
          have hp' := (mem_row.mp hp).1
          simp only [callD, exs, ex, ev, evL, evTs, q_bo, q_bx, q_no, q_op, q_uo, q_ux, q_on, q_or, q_ox, q_oo, q_tn, q_tb, q_ti, q_tl, q_tt, q_ab, q_ai, q_ad, q_add, q_sub, q_mul, q_fdv, q_mod, q_pow, q_att, q_all, q_ass, q_mlk, q_mtk, q_lt, q_le, q_gt, q_ge, q_eqi, q_in, q_ni, q_is, q_isn, q_ofb, q_ixl, q_ixt, q_ixs, q_sll, q_slt, q_b0, q_b1, q_s0, q_s1, q_s2, q_s3, q_s4, q_s5, q_f1, q_f2, q_f3, q_f4, q_f5, q_f6, q_f7, q_f8, q_f9, q_fa, q_fb, q_fc, q_fd, q_fe, q_i0l, q_i0t, q_i1, q_i2, q_i3, q_i4, q_i5, q_t1, q_t2, q_ads0, q_ads, q_sv0, q_sv, List.map_cons, List.map_nil, List.length_cons, List.length_nil, List.getElem?_cons_zero, List.getElem?_cons_succ, List.cons_append, List.nil_append, Option.map_some, Option.map_none, Option.bind_some, if_true, if_false, Bool.false_eq_true, List.replicate, List.set_cons_zero, List.set_cons_succ, blkE, dropE, wipeE, beq_self_eq_true, Bool.not_true, Bool.not_false, Bool.true_or, Bool.false_or, Bool.or_true, Bool.or_false, Bool.and_true, Bool.true_and, gt, iv, idx_row hp', in_rowR hy]
          cases pw n R (r - 1 - k) p y <;> simp only [callD, exs, ex, ev, evL, evTs, q_bo, q_bx, q_no, q_op, q_uo, q_ux, q_on, q_or, q_ox, q_oo, q_tn, q_tb, q_ti, q_tl, q_tt, q_ab, q_ai, q_ad, q_add, q_sub, q_mul, q_fdv, q_mod, q_pow, q_att, q_all, q_ass, q_mlk, q_mtk, q_lt, q_le, q_gt, q_ge, q_eqi, q_in, q_ni, q_is, q_isn, q_ofb, q_ixl, q_ixt, q_ixs, q_sll, q_slt, q_b0, q_b1, q_s0, q_s1, q_s2, q_s3, q_s4, q_s5, q_f1, q_f2, q_f3, q_f4, q_f5, q_f6, q_f7, q_f8, q_f9, q_fa, q_fb, q_fc, q_fd, q_fe, q_i0l, q_i0t, q_i1, q_i2, q_i3, q_i4, q_i5, q_t1, q_t2, q_ads0, q_ads, q_sv0, q_sv, List.map_cons, List.map_nil, List.length_cons, List.length_nil, List.getElem?_cons_zero, List.getElem?_cons_succ, List.cons_append, List.nil_append, Option.map_some, Option.map_none, Option.bind_some, if_true, if_false, Bool.false_eq_true, List.replicate, List.set_cons_zero, List.set_cons_succ, blkE, dropE, wipeE, beq_self_eq_true, Bool.not_true, Bool.not_false, Bool.true_or, Bool.false_or, Bool.or_true, Bool.or_false, Bool.and_true, Bool.true_and])]
        have l0 : L2.atI (iv o :: os.map iv) 0 = some (iv o) := atI_nat _ 0
        have lb : lineB ((w'.map iv ++ [iv z]).length + (0 + 1)) = true := by
          have : (w'.map iv ++ [iv z]).length = k + 1 := by rw [← w2, List.length_append, List.length_append, List.length_map]; rfl
          rw [this]
          exact decide_eq_true (by rw [sizeLine_eq]; omega)
        rw [flat_if, ho]
        simp only [callD, exs, ex, ev, evL, evTs, q_bo, q_bx, q_no, q_op, q_uo, q_ux, q_on, q_or, q_ox, q_oo, q_tn, q_tb, q_ti, q_tl, q_tt, q_ab, q_ai, q_ad, q_add, q_sub, q_mul, q_fdv, q_mod, q_pow, q_att, q_all, q_ass, q_mlk, q_mtk, q_lt, q_le, q_gt, q_ge, q_eqi, q_in, q_ni, q_is, q_isn, q_ofb, q_ixl, q_ixt, q_ixs, q_sll, q_slt, q_b0, q_b1, q_s0, q_s1, q_s2, q_s3, q_s4, q_s5, q_f1, q_f2, q_f3, q_f4, q_f5, q_f6, q_f7, q_f8, q_f9, q_fa, q_fb, q_fc, q_fd, q_fe, q_i0l, q_i0t, q_i1, q_i2, q_i3, q_i4, q_i5, q_t1, q_t2, q_ads0, q_ads, q_sv0, q_sv, List.map_cons, List.map_nil, List.length_cons, List.length_nil, List.getElem?_cons_zero, List.getElem?_cons_succ, List.cons_append, List.nil_append, Option.map_some, Option.map_none, Option.bind_some, if_true, if_false, Bool.false_eq_true, List.replicate, List.set_cons_zero, List.set_cons_succ, blkE, dropE, wipeE, beq_self_eq_true, Bool.not_true, Bool.not_false, Bool.true_or, Bool.false_or, Bool.or_true, Bool.or_false, Bool.and_true, Bool.true_and, l0, lb, List.map_append]) (ρ := [.v (.d (tabD (T n R))), .v (.d (.int x)), .v (.d (.int y)), .v (.d (.int r)), .v (.d (.list (Ts n R r))), u, .v (.d (rowD [x])), .un, .un]) ⟨rfl, .un, x, [x], rfl, .one hx, rfl, hp⟩
      subst z3 z4
      rw [Nat.sub_self] at w3
      have := of_decide_eq_true w3
      subst this
      refine ⟨rowD w, ?_, .inr ⟨w, rfl, w1, w2⟩⟩
      have dw : evItems 1 [.d (.int ((r : Int) - 1)), .d (.int (-1)), .d (.int (-1))] = some ((List.range r).map fun k => .int ((r : Int) - 1 - (k : Int))) := by
        rw [q_i3, okI_small (by omega), okI_small (by omega)]
        have : ((r : Int) - 1 - (-1)).toNat = r := by omega
        simp only [dwnD, this, decide_true, Bool.true_and]
        rw [decide_eq_true (by omega)]
        rfl
      have l4 := (ex_fors (G := G) (tg := [7]) (tt := false) (ik := 1) (its := [.bin .Sub (.var 3) (.int 1), .neg (.int 1), .neg (.int 1)]) (body := [.set 6 (.bin .Add (.var 6) (.tup [.idx (.comp (.var 8) [8] false 0 [.idx (.var 0) (.idx (.var 6) (.neg (.int 1)))] [.cmp .In (.var 2) (.idx (.idx (.var 4) (.var 7)) (.var 8))] [8]) (.int 0)]))]) (ρ := [.v (.d (tabD (T n R))), .v (.d (.int x)), .v (.d (.int z)), .v (.d (.int r)), .v (.d (.list (Ts n R r))), u, .v (.d (rowD [x])), .un, .un]) (s := s3) (by simp only [callD, exs, ex, ev, evL, evTs, q_bo, q_bx, q_no, q_op, q_uo, q_ux, q_on, q_or, q_ox, q_oo, q_tn, q_tb, q_ti, q_tl, q_tt, q_ab, q_ai, q_ad, q_add, q_sub, q_mul, q_fdv, q_mod, q_pow, q_att, q_all, q_ass, q_mlk, q_mtk, q_lt, q_le, q_gt, q_ge, q_eqi, q_in, q_ni, q_is, q_isn, q_ofb, q_ixl, q_ixt, q_ixs, q_sll, q_slt, q_b0, q_b1, q_s0, q_s1, q_s2, q_s3, q_s4, q_s5, q_f1, q_f2, q_f3, q_f4, q_f5, q_f6, q_f7, q_f8, q_f9, q_fa, q_fb, q_fc, q_fd, q_fe, q_i0l, q_i0t, q_i1, q_i2, q_i3, q_i4, q_i5, q_t1, q_t2, q_ads0, q_ads, q_sv0, q_sv, List.map_cons, List.map_nil, List.length_cons, List.length_nil, List.getElem?_cons_zero, List.getElem?_cons_succ, List.cons_append, List.nil_append, Option.map_some, Option.map_none, Option.bind_some, if_true, if_false, Bool.false_eq_true, List.replicate, List.set_cons_zero, List.set_cons_succ, blkE, dropE, wipeE, beq_self_eq_true, Bool.not_true, Bool.not_false, Bool.true_or, Bool.false_or, Bool.or_true, Bool.or_false, Bool.and_true, Bool.true_and]) dw).trans l3
      have c2 : exs G (((x_course f).body.drop 4).take 3) [.v (.d (tabD (T n R))), .v (.d (.int x)), .v (.d (.int z)), .v (.d (.int r)), .own (Ts n R r), u, .un, .un, .un] s3 = .next [.v (.d (tabD (T n R))), .v (.d (.int x)), .v (.d (.int z)), .v (.d (.int r)), .v (.d (.list (Ts n R r))), u, .v (.d (rowD [x])), .un, .un] s3 := by
        simp only [x_course, List.drop_succ_cons, List.drop_zero, List.take_succ_cons, List.take_zero, callD, exs, ex, ev, evL, evTs, q_bo, q_bx, q_no, q_op, q_uo, q_ux, q_on, q_or, q_ox, q_oo, q_tn, q_tb, q_ti, q_tl, q_tt, q_ab, q_ai, q_ad, q_add, q_sub, q_mul, q_fdv, q_mod, q_pow, q_att, q_all, q_ass, q_mlk, q_mtk, q_lt, q_le, q_gt, q_ge, q_eqi, q_in, q_ni, q_is, q_isn, q_ofb, q_ixl, q_ixt, q_ixs, q_sll, q_slt, q_b0, q_b1, q_s0, q_s1, q_s2, q_s3, q_s4, q_s5, q_f1, q_f2, q_f3, q_f4, q_f5, q_f6, q_f7, q_f8, q_f9, q_fa, q_fb, q_fc, q_fd, q_fe, q_i0l, q_i0t, q_i1, q_i2, q_i3, q_i4, q_i5, q_t1, q_t2, q_ads0, q_ads, q_sv0, q_sv, List.map_cons, List.map_nil, List.length_cons, List.length_nil, List.getElem?_cons_zero, List.getElem?_cons_succ, List.cons_append, List.nil_append, Option.map_some, Option.map_none, Option.bind_some, if_true, if_false, Bool.false_eq_true, List.replicate, List.set_cons_zero, List.set_cons_succ, blkE, dropE, wipeE, beq_self_eq_true, Bool.not_true, Bool.not_false, Bool.true_or, Bool.false_or, Bool.or_true, Bool.or_false, Bool.and_true, Bool.true_and, Ts_last, idx_row hx, in_rowR hy, hp]
        rfl
      refine (exs_cut 3 c2).trans ?_
      refine (exs_one l4).trans ?_
      simp only [callD, exs, ex, ev, evL, evTs, q_bo, q_bx, q_no, q_op, q_uo, q_ux, q_on, q_or, q_ox, q_oo, q_tn, q_tb, q_ti, q_tl, q_tt, q_ab, q_ai, q_ad, q_add, q_sub, q_mul, q_fdv, q_mod, q_pow, q_att, q_all, q_ass, q_mlk, q_mtk, q_lt, q_le, q_gt, q_ge, q_eqi, q_in, q_ni, q_is, q_isn, q_ofb, q_ixl, q_ixt, q_ixs, q_sll, q_slt, q_b0, q_b1, q_s0, q_s1, q_s2, q_s3, q_s4, q_s5, q_f1, q_f2, q_f3, q_f4, q_f5, q_f6, q_f7, q_f8, q_f9, q_fa, q_fb, q_fc, q_fd, q_fe, q_i0l, q_i0t, q_i1, q_i2, q_i3, q_i4, q_i5, q_t1, q_t2, q_ads0, q_ads, q_sv0, q_sv, List.map_cons, List.map_nil, List.length_cons, List.length_nil, List.getElem?_cons_zero, List.getElem?_cons_succ, List.cons_append, List.nil_append, Option.map_some, Option.map_none, Option.bind_some, if_true, if_false, Bool.false_eq_true, List.replicate, List.set_cons_zero, List.set_cons_succ, blkE, dropE, wipeE, beq_self_eq_true, Bool.not_true, Bool.not_false, Bool.true_or, Bool.false_or, Bool.or_true, Bool.or_false, Bool.and_true, Bool.true_and]
  obtain ⟨d, e, h⟩ := hd
  refine ⟨d, callD_ret rfl ?_, h⟩
  refine (exs_cut 3 c1).trans ?_
  refine (exs_one l2).trans e
end
end X
set_option Elab.async false
set_option linter.all false
set_option maxRecDepth 100000
set_option maxHeartbeats 4000000
/-! Pu6: what a law draws; what it walks. -/
namespace X
open PySem Ar
/-! ### steps, one by one -/
section
variable {G : Gd} {ρ : Ar.Env} {s s1 s2 s3 : Sto}
theorem exE {c : C} {x : Vl} (h : ev G c ρ s = .ok x s1) : ex G (.expr c) ρ s = .next ρ s1 := by simp only [ex, h, q_uo]
theorem exEx {c : C} {x : Str} (h : ev G c ρ s = .ex x s1) : ex G (.expr c) ρ s = .ex x s1 := by simp only [ex, h, q_ux]
theorem exS {c : C} {x : Vl} {i : Nat} (h : ev G c ρ s = .ok x s1) : ex G (.set i c) ρ s = .next (ρ.set i (.v x)) s1 := by simp only [ex, h, q_uo]
theorem exR {c : C} {x : Vl} (h : ev G c ρ s = .ok x s1) : ex G (.ret c) ρ s = .ret x s1 := by simp only [ex, h, q_uo]
theorem exI {c : C} {x : Vl} {b : Bool} {A B : List Ar.S} (h : ev G c ρ s = .ok x s1) (ht : truth x = some b) : ex G (.ifs c A B) ρ s = if b then exs G A ρ s1 else exs G B ρ s1 := by simp only [ex, h, ht, q_uo, q_oo]
theorem exOwn {es : List C} {i : Nat} {vs : List Vl} {ds : List D} (h : evL G es ρ s = .ok vs s1) (ha : allD vs = some ds) : ex G (.setOwn i es) ρ s = .next (ρ.set i (.own ds)) s1 := by simp only [ex, h, ha, q_uo, q_oo]
theorem exPar {es : List C} {is : List Nat} {vs : List Vl} {ρ1 : Ar.Env} (h : evL G es ρ s = .ok vs s1) (ha : setVs ρ is vs = some ρ1) : ex G (.setPar is es) ρ s = .next ρ1 s1 := by simp only [ex, h, ha, q_uo, q_oo]
theorem exApp {c : C} {k : Nat} {d : D} {xs : List D} (hk : ρ[k]? = some (.own xs)) (h : ev G c ρ s = .ok (.d d) s1) (hl : xs.length < sizeLine) : ex G (.append k c) ρ s = .next (ρ.set k (.own (xs ++ [d]))) s1 := by
  simp only [ex, hk, h, q_uo, q_oo, q_ad, hl, if_true]
theorem exFrz {k : Nat} {xs : List D} (hk : ρ[k]? = some (.own xs)) : ex G (.frz k) ρ s = .next (ρ.set k (.v (.d (.list xs)))) s := by
  simp only [ex, hk]
theorem exSetIdx {a i v : C} {x : D} {n k : Nat} {j : Int} {xs : List D} (hv : ev G v ρ s = .ok (.d x) s1) (ha : ev G a ρ s1 = .ok (.ref n) s2) (hi : ev G i ρ s2 = .ok (.d (.int j)) s3) (hs : s3[n]? = some (.lst xs)) (hk : L2.ixN xs.length j = some k) : ex G (.setIdx a i v) ρ s = .next ρ (s3.set n (.lst (xs.set k x))) := by
  simp only [ex, hv, ha, hi, q_uo, hs, hk]
theorem exs_n {b : List Ar.S} {c : Ar.S} {ρ1 : Ar.Env} {o : Out} (h : ex G c ρ s = .next ρ1 s1) (r : exs G b ρ1 s1 = o) : exs G (c :: b) ρ s = o := by simp only [exs, h, q_on, r]
theorem exs_r {b : List Ar.S} {c : Ar.S} {v : Vl} (h : ex G c ρ s = .ret v s1) : exs G (c :: b) ρ s = .ret v s1 := by simp only [exs, h, q_or]
theorem exs_x {b : List Ar.S} {c : Ar.S} {x : Str} (h : ex G c ρ s = .ex x s1) : exs G (c :: b) ρ s = .ex x s1 := by simp only [exs, h, q_ox]
theorem exs_e : exs G [] ρ s = .next ρ s := by simp only [exs]
/-- an if that goes on -/
theorem exs_if {c : C} {x : Vl} {A B b : List Ar.S} {ρ1 : Ar.Env} {o : Out} {t : Bool} (h : ev G c ρ s = .ok x s1) (ht : truth x = some t) (hb : exs G (if t then A else B) ρ s1 = .next ρ1 s2) (r : exs G b ρ1 s2 = o) : exs G (.ifs c A B :: b) ρ s = o := by
  refine exs_n (ρ1 := ρ1) (s1 := s2) ?_ r
  rw [exI h ht]
  cases t <;> exact hb
/-- an if that is not taken -/
theorem exs_if0 {c : C} {x : Vl} {A b : List Ar.S} {o : Out} (h : ev G c ρ s = .ok x s1) (ht : truth x = some false) (r : exs G b ρ s1 = o) : exs G (.ifs c A [] :: b) ρ s = o := exs_if h ht exs_e r
theorem exs_ifr {c : C} {x : Vl} {A B b : List Ar.S} {v : Vl} {t : Bool} (h : ev G c ρ s = .ok x s1) (ht : truth x = some t) (hb : exs G (if t then A else B) ρ s1 = .ret v s2) : exs G (.ifs c A B :: b) ρ s = .ret v s2 := by
  refine exs_r ?_
  rw [exI h ht]
  cases t <;> exact hb
theorem evL1 {c : C} {x : Vl} (h : ev G c ρ s = .ok x s1) : evL G [c] ρ s = .ok [x] s1 := by simp only [evL, h, q_bo]
theorem evLc {c : C} {cs : List C} {x : Vl} {xs : List Vl} (h : ev G c ρ s = .ok x s1) (r : evL G cs ρ s1 = .ok xs s2) : evL G (c :: cs) ρ s = .ok (x :: xs) s2 := by simp only [evL, h, r, q_bo]
theorem evC {f : Nat} {es : List C} {vs : List Vl} {o : Res Vl} (h : evL G es ρ s = .ok vs s1) (r : G.fn f vs s1 = o) : ev G (.call f es) ρ s = o := by simp only [ev, h, q_bo, r]
theorem callR {d : Df} {vs : List Vl} {v : Vl} (ρ0 : Ar.Env) (h : vs.length = d.ps) (hρ : vs.map Slot.v ++ List.replicate (d.ns - vs.length) .un = ρ0) (e : exs G d.body ρ0 s = .ret v s1) : callD G d vs s = .ok v s1 := by
  subst hρ
  exact callD_ret h e
/-! ### comprehensions -/
theorem comp_pure {α : Type} {elt : C} {tg : List Nat} {tt : Bool} {ik : Nat} {its ifs : List C} {own : List Nat} {vs : List Vl} {l : List α} {h : α → D} (p : α → Bool) (g : α → D) (ρ1 : α → Ar.Env) (e1 : evL G its ρ s = .ok vs s1) (e2 : evItems ik vs = some (l.map h)) (e3 : ∀ a ∈ l, bindTg tg tt (h a) (blkE ρ own) = some (ρ1 a)) (e4 : ∀ a ∈ l, evTs G ifs (ρ1 a) s1 = .ok (p a) s1) (e5 : ∀ a ∈ l, p a = true → ev G elt (ρ1 a) s1 = .ok (.d (g a)) s1) :
    ev G (.comp elt tg tt ik its ifs own) ρ s = .ok (.d (.list ((l.filter p).map g))) s1 := by
  simp only [ev, e1, e2, q_bo, q_op]
  rw [mapR_ofs (g := fun a => if p a then [g a] else []) (by
    intro a ha
    rw [e3 a ha]
    show (evTs G ifs (ρ1 a) s1).bind _ = _
    rw [e4 a ha, q_bo]
    cases hp : p a with
    | false => rfl
    | true =>
      show (ev G elt (ρ1 a) s1).bind _ = _
      rw [e5 a ha hp]
      rfl)]
  have : (l.flatMap fun a => if p a then [g a] else []) = (l.filter p).map g := by
    clear e2 e3 e4 e5
    induction l with
    | nil => rfl
    | cons x l ih =>
      rw [List.flatMap_cons, ih, List.filter_cons]
      cases p x <;> rfl
  rw [this]
  rfl
theorem comp_all {α : Type} {elt : C} {tg : List Nat} {tt : Bool} {ik : Nat} {its : List C} {own : List Nat} {vs : List Vl} {l : List α} {h : α → D} (g : α → D) (ρ1 : α → Ar.Env) (e1 : evL G its ρ s = .ok vs s1) (e2 : evItems ik vs = some (l.map h)) (e3 : ∀ a ∈ l, bindTg tg tt (h a) (blkE ρ own) = some (ρ1 a)) (e5 : ∀ a ∈ l, ev G elt (ρ1 a) s1 = .ok (.d (g a)) s1) :
    ev G (.comp elt tg tt ik its [] own) ρ s = .ok (.d (.list (l.map g))) s1 := by
  rw [comp_pure (fun _ => true) g ρ1 e1 e2 e3 (fun a _ => by simp only [evTs]) fun a ha _ => e5 a ha]
  rw [List.filter_eq_self.mpr fun _ _ => rfl]
/-- one that draws -/
theorem comp_pick {i ik : Nat} {its ifs : List C} {own : List Nat} {vs : List Vl} {l : List Nat} (I : Sto → Prop) (e1 : evL G its ρ s = .ok vs s1) (e2 : evItems ik vs = some (l.map iv)) (hi : i < (blkE ρ own).length) (e4 : ∀ a ∈ l, ∀ s, I s → ∃ b s', evTs G ifs ((blkE ρ own).set i (.v (.d (iv a)))) s = .ok b s' ∧ I s') (i0 : I s1) :
    ∃ (r : List Nat) (s' : Sto), r.Sublist l ∧ ev G (.comp (.var i) [i] false ik its ifs own) ρ s = .ok (.d (.list (r.map iv))) s' ∧ I s' := by
  simp only [ev, e1, e2, q_bo, q_op]
  have key : ∀ s, I s → ∃ (r : List Nat) (s' : Sto), r.Sublist l ∧ mapR (fun x s => match bindTg [i] false x (blkE ρ own) with
        | none => .bad
        | some ρ1 => (evTs G ifs ρ1 s).bind fun k s1 => if k then (ev G (.var i) ρ1 s1).bind fun y s2 => Res.opt ((asD y).map fun y => [y]) s2 else .ok [] s1) (l.map iv) s = .ok (r.map iv) s' ∧ I s' := by
    clear e2 i0
    induction l with
    | nil => exact fun s h => ⟨[], s, List.Sublist.refl _, rfl, h⟩
    | cons x l ih =>
      intro s h
      obtain ⟨b, s', f1, f2⟩ := e4 x List.mem_cons_self s h
      obtain ⟨r, s2, r1, r2, r3⟩ := ih (fun a ha => e4 a (List.mem_cons_of_mem _ ha)) s' f2
      cases b with
      | false =>
        refine ⟨r, s2, r1.cons _, ?_, r3⟩
        show (Res.bind ((evTs G ifs ((blkE ρ own).set i (.v (.d (iv x)))) s).bind _) _) = _
        rw [f1, q_bo]
        show Res.bind (mapR _ (l.map iv) s') _ = _
        rw [r2]
        rfl
      | true =>
        refine ⟨x :: r, s2, r1.cons_cons _, ?_, r3⟩
        show (Res.bind ((evTs G ifs ((blkE ρ own).set i (.v (.d (iv x)))) s).bind _) _) = _
        rw [f1, q_bo]
        have ev1 : ev G (.var i) ((blkE ρ own).set i (.v (.d (iv x)))) s' = .ok (.d (iv x)) s' := by
          simp only [ev, List.getElem?_set_self hi]
        show Res.bind ((ev G (.var i) ((blkE ρ own).set i (.v (.d (iv x)))) s').bind _) _ = _
        rw [ev1]
        show Res.bind (mapR _ (l.map iv) s') _ = _
        rw [r2]
        rfl
  obtain ⟨r, s', r1, r2, r3⟩ := key s1 i0
  refine ⟨r, s', r1, ?_, r3⟩
  refine (congrArg (fun z => Res.bind (Res.noex z) _) r2).trans ?_
  rfl
end
/-! ### what a law draws from -/
def GV (r : Nat) (s : Sto) : Prop := ∃ c v : Int, s[r]? = some (.lst [.int c, .int v]) ∧ 0 ≤ c ∧ 0 ≤ v ∧ v < 2147483648
theorem mul_small {i j : Int} (h0 : 0 ≤ j) (h1 : j < 18446744073709551616) : evBin .Mult (.d (.int i)) (.d (.int j)) = some (.d (.int (i * j))) := by
  rw [q_mul, if_pos (.inr ⟨by omega, by omega⟩)]
theorem mul_small' {i j : Int} (h0 : 0 ≤ i) (h1 : i < 18446744073709551616) : evBin .Mult (.d (.int i)) (.d (.int j)) = some (.d (.int (i * j))) := by
  rw [q_mul, if_pos (.inl ⟨by omega, by omega⟩)]
theorem div_small {i j : Int} (h0 : 0 < j) (h1 : j < 1073741824) : evBin .FloorDiv (.d (.int i)) (.d (.int j)) = some (.d (.int (i / j))) := by
  rw [q_fdv, if_pos ⟨h0, h1⟩]
theorem mod_pos {i j : Int} (h0 : 0 < j) : evBin .Mod (.d (.int i)) (.d (.int j)) = some (.d (.int (i % j))) := by
  rw [q_mod, if_pos h0]
theorem pow_10_18 : evBin .Pow (.d (.int 10)) (.d (.int 18)) = some (.d (.int 1000000000000000000)) := by
  rw [q_pow, if_pos ⟨by decide, by decide, by decide⟩]
  rfl
theorem pow_10_30 : evBin .Pow (.d (.int 10)) (.d (.int 30)) = some (.d (.int 1000000000000000000000000000000)) := by
  rw [q_pow, if_pos ⟨by decide, by decide, by decide⟩]
  rfl
theorem pow_10_15 : evBin .Pow (.d (.int 10)) (.d (.int 15)) = some (.d (.int 1000000000000000)) := by
  rw [q_pow, if_pos ⟨by decide, by decide, by decide⟩]
  rfl
theorem ref_at {r : Nat} {s : Sto} {xs : List D} {i : Int} {x : D} (h : s[r]? = some (.lst xs)) (hx : L2.atI xs i = some x) : evIdx (.ref r) (.d (.int i)) s = some (Vl.d x) := by
  show (match s[r]? with
    | some (.lst xs) => (L2.atI xs i).map Vl.d
    | _ => none) = _
  rw [h]
  show (L2.atI xs i).map Vl.d = _
  rw [hx]
  rfl
theorem at0 (x y : D) : L2.atI [x, y] 0 = some x := atI_nat [x, y] 0
theorem at1 (x y : D) : L2.atI [x, y] 1 = some y := atI_nat [x, y] 1
theorem GV.lt {r : Nat} {s : Sto} (h : GV r s) : r < s.length := by
  obtain ⟨c, v, h, _⟩ := h
  exact (List.getElem?_eq_some_iff.mp h).1
theorem gv_set {r : Nat} {s : Sto} {c v : Int} (h : r < s.length) (hc : 0 ≤ c) (hv : 0 ≤ v) (hv2 : v < 2147483648) : GV r (s.set r (.lst [.int c, .int v])) := ⟨c, v, List.getElem?_set_self h, hc, hv, hv2⟩
section
variable {G : Gd} {f : Ix}
def S_under (P : F) : Prop := ∀ (r m : Nat) s, GV r s → 1 ≤ m → m < 1000000 → ∃ (k : Nat) (s' : Sto), P [.ref r, .d (.int m)] s = .ok (.d (.int k)) s' ∧ k < m ∧ GV r s'
theorem p_under : S_under (callD G (x_law_under f)) := by
  intro r m s hg h1 h2
  have hr := hg.lt
  obtain ⟨c, v, hs, hc, hv, hv2⟩ := hg
  have m0 : (0 : Int) < (m : Int) := by omega
  have m1 : (m : Int) < 1073741824 := by omega
  have a0 : evIdx (.ref r) (.d (.int 0)) s = some (Vl.d (.int c)) := ref_at hs (at0 _ _)
  have a1 : evIdx (.ref r) (.d (.int 1)) s = some (Vl.d (.int v)) := ref_at hs (at1 _ _)
  have e0 : ∀ (x y : Slot), ev G (.cmp .Gt (.idx (.var 0) (.int 0)) (.int 0)) [.v (.ref r), .v (.d (.int m)), x, y] s = .ok (.d (.bool (decide (0 < c)))) s := fun x y => by
    simp only [callD, exs, ex, ev, evL, evTs, q_bo, q_bx, q_no, q_op, q_uo, q_ux, q_on, q_or, q_ox, q_oo, q_tn, q_tb, q_ti, q_tl, q_tt, q_ab, q_ai, q_ad, q_add, q_sub, q_att, q_all, q_ass, q_mlk, q_mtk, q_lt, q_le, q_gt, q_ge, q_eqi, q_in, q_ni, q_is, q_isn, q_ofb, q_ixl, q_ixt, q_ixs, q_sll, q_slt, q_b0, q_b1, q_s0, q_s1, q_s2, q_s3, q_s4, q_s5, q_f1, q_f2, q_f3, q_f4, q_f5, q_f6, q_f7, q_f8, q_f9, q_fa, q_fb, q_fc, q_fd, q_fe, q_i0l, q_i0t, q_i1, q_i2, q_i3, q_i4, q_i5, q_t1, q_t2, q_ads0, q_ads, q_sv0, q_sv, List.map_cons, List.map_nil, List.length_cons, List.length_nil, List.getElem?_cons_zero, List.getElem?_cons_succ, List.cons_append, List.nil_append, Option.map_some, Option.map_none, Option.bind_some, if_true, if_false, Bool.false_eq_true, List.replicate, List.set_cons_zero, List.set_cons_succ, blkE, dropE, wipeE, beq_self_eq_true, Bool.not_true, Bool.not_false, Bool.true_or, Bool.false_or, Bool.or_true, Bool.or_false, Bool.and_true, Bool.true_and, a0]
  by_cases c0 : 0 < c
  · refine ⟨(c % m).toNat, s.set r (.lst [.int (c / m), .int v]), ?_, ?_, gv_set hr (Int.ediv_nonneg hc (by omega)) hv hv2⟩
    · have et : (((c % m).toNat : Nat) : Int) = c % m := Int.toNat_of_nonneg (Int.emod_nonneg _ (by omega))
      refine callR [.v (.ref r), .v (.d (.int m)), .un, .un] rfl rfl ?_
      refine exs_ifr (e0 _ _) rfl ?_
      rw [decide_eq_true c0]
      show exs G [_, _, _] _ s = _
      refine exs_n (exS (x := .d (.int (c % m))) (s1 := s) ?_) ?_
      · simp only [callD, exs, ex, ev, evL, evTs, q_bo, q_bx, q_no, q_op, q_uo, q_ux, q_on, q_or, q_ox, q_oo, q_tn, q_tb, q_ti, q_tl, q_tt, q_ab, q_ai, q_ad, q_add, q_sub, q_att, q_all, q_ass, q_mlk, q_mtk, q_lt, q_le, q_gt, q_ge, q_eqi, q_in, q_ni, q_is, q_isn, q_ofb, q_ixl, q_ixt, q_ixs, q_sll, q_slt, q_b0, q_b1, q_s0, q_s1, q_s2, q_s3, q_s4, q_s5, q_f1, q_f2, q_f3, q_f4, q_f5, q_f6, q_f7, q_f8, q_f9, q_fa, q_fb, q_fc, q_fd, q_fe, q_i0l, q_i0t, q_i1, q_i2, q_i3, q_i4, q_i5, q_t1, q_t2, q_ads0, q_ads, q_sv0, q_sv, List.map_cons, List.map_nil, List.length_cons, List.length_nil, List.getElem?_cons_zero, List.getElem?_cons_succ, List.cons_append, List.nil_append, Option.map_some, Option.map_none, Option.bind_some, if_true, if_false, Bool.false_eq_true, List.replicate, List.set_cons_zero, List.set_cons_succ, blkE, dropE, wipeE, beq_self_eq_true, Bool.not_true, Bool.not_false, Bool.true_or, Bool.false_or, Bool.or_true, Bool.or_false, Bool.and_true, Bool.true_and, a0, mod_pos m0]
      refine exs_n (exSetIdx (x := .int (c / m)) (s1 := s) (s2 := s) (s3 := s) (n := r) (j := 0) (k := 0) (xs := [.int c, .int v]) ?_ ?_ ?_ hs rfl) ?_
      · simp only [callD, exs, ex, ev, evL, evTs, q_bo, q_bx, q_no, q_op, q_uo, q_ux, q_on, q_or, q_ox, q_oo, q_tn, q_tb, q_ti, q_tl, q_tt, q_ab, q_ai, q_ad, q_add, q_sub, q_att, q_all, q_ass, q_mlk, q_mtk, q_lt, q_le, q_gt, q_ge, q_eqi, q_in, q_ni, q_is, q_isn, q_ofb, q_ixl, q_ixt, q_ixs, q_sll, q_slt, q_b0, q_b1, q_s0, q_s1, q_s2, q_s3, q_s4, q_s5, q_f1, q_f2, q_f3, q_f4, q_f5, q_f6, q_f7, q_f8, q_f9, q_fa, q_fb, q_fc, q_fd, q_fe, q_i0l, q_i0t, q_i1, q_i2, q_i3, q_i4, q_i5, q_t1, q_t2, q_ads0, q_ads, q_sv0, q_sv, List.map_cons, List.map_nil, List.length_cons, List.length_nil, List.getElem?_cons_zero, List.getElem?_cons_succ, List.cons_append, List.nil_append, Option.map_some, Option.map_none, Option.bind_some, if_true, if_false, Bool.false_eq_true, List.replicate, List.set_cons_zero, List.set_cons_succ, blkE, dropE, wipeE, beq_self_eq_true, Bool.not_true, Bool.not_false, Bool.true_or, Bool.false_or, Bool.or_true, Bool.or_false, Bool.and_true, Bool.true_and, a0, div_small m0 m1]
      · simp only [callD, exs, ex, ev, evL, evTs, q_bo, q_bx, q_no, q_op, q_uo, q_ux, q_on, q_or, q_ox, q_oo, q_tn, q_tb, q_ti, q_tl, q_tt, q_ab, q_ai, q_ad, q_add, q_sub, q_att, q_all, q_ass, q_mlk, q_mtk, q_lt, q_le, q_gt, q_ge, q_eqi, q_in, q_ni, q_is, q_isn, q_ofb, q_ixl, q_ixt, q_ixs, q_sll, q_slt, q_b0, q_b1, q_s0, q_s1, q_s2, q_s3, q_s4, q_s5, q_f1, q_f2, q_f3, q_f4, q_f5, q_f6, q_f7, q_f8, q_f9, q_fa, q_fb, q_fc, q_fd, q_fe, q_i0l, q_i0t, q_i1, q_i2, q_i3, q_i4, q_i5, q_t1, q_t2, q_ads0, q_ads, q_sv0, q_sv, List.map_cons, List.map_nil, List.length_cons, List.length_nil, List.getElem?_cons_zero, List.getElem?_cons_succ, List.cons_append, List.nil_append, Option.map_some, Option.map_none, Option.bind_some, if_true, if_false, Bool.false_eq_true, List.replicate, List.set_cons_zero, List.set_cons_succ, blkE, dropE, wipeE, beq_self_eq_true, Bool.not_true, Bool.not_false, Bool.true_or, Bool.false_or, Bool.or_true, Bool.or_false, Bool.and_true, Bool.true_and]
      · simp only [callD, exs, ex, ev, evL, evTs, q_bo, q_bx, q_no, q_op, q_uo, q_ux, q_on, q_or, q_ox, q_oo, q_tn, q_tb, q_ti, q_tl, q_tt, q_ab, q_ai, q_ad, q_add, q_sub, q_att, q_all, q_ass, q_mlk, q_mtk, q_lt, q_le, q_gt, q_ge, q_eqi, q_in, q_ni, q_is, q_isn, q_ofb, q_ixl, q_ixt, q_ixs, q_sll, q_slt, q_b0, q_b1, q_s0, q_s1, q_s2, q_s3, q_s4, q_s5, q_f1, q_f2, q_f3, q_f4, q_f5, q_f6, q_f7, q_f8, q_f9, q_fa, q_fb, q_fc, q_fd, q_fe, q_i0l, q_i0t, q_i1, q_i2, q_i3, q_i4, q_i5, q_t1, q_t2, q_ads0, q_ads, q_sv0, q_sv, List.map_cons, List.map_nil, List.length_cons, List.length_nil, List.getElem?_cons_zero, List.getElem?_cons_succ, List.cons_append, List.nil_append, Option.map_some, Option.map_none, Option.bind_some, if_true, if_false, Bool.false_eq_true, List.replicate, List.set_cons_zero, List.set_cons_succ, blkE, dropE, wipeE, beq_self_eq_true, Bool.not_true, Bool.not_false, Bool.true_or, Bool.false_or, Bool.or_true, Bool.or_false, Bool.and_true, Bool.true_and]
      refine exs_r (exR ?_)
      simp only [callD, exs, ex, ev, evL, evTs, q_bo, q_bx, q_no, q_op, q_uo, q_ux, q_on, q_or, q_ox, q_oo, q_tn, q_tb, q_ti, q_tl, q_tt, q_ab, q_ai, q_ad, q_add, q_sub, q_att, q_all, q_ass, q_mlk, q_mtk, q_lt, q_le, q_gt, q_ge, q_eqi, q_in, q_ni, q_is, q_isn, q_ofb, q_ixl, q_ixt, q_ixs, q_sll, q_slt, q_b0, q_b1, q_s0, q_s1, q_s2, q_s3, q_s4, q_s5, q_f1, q_f2, q_f3, q_f4, q_f5, q_f6, q_f7, q_f8, q_f9, q_fa, q_fb, q_fc, q_fd, q_fe, q_i0l, q_i0t, q_i1, q_i2, q_i3, q_i4, q_i5, q_t1, q_t2, q_ads0, q_ads, q_sv0, q_sv, List.map_cons, List.map_nil, List.length_cons, List.length_nil, List.getElem?_cons_zero, List.getElem?_cons_succ, List.cons_append, List.nil_append, Option.map_some, Option.map_none, Option.bind_some, if_true, if_false, Bool.false_eq_true, List.replicate, List.set_cons_zero, List.set_cons_succ, blkE, dropE, wipeE, beq_self_eq_true, Bool.not_true, Bool.not_false, Bool.true_or, Bool.false_or, Bool.or_true, Bool.or_false, Bool.and_true, Bool.true_and, et]
    · have := Int.emod_lt_of_pos c m0
      omega
  · let w := (v * 39373 + 101) % 2147483629
    have w0 : 0 ≤ w := Int.emod_nonneg _ (by omega)
    have w1 : w < 2147483629 := Int.emod_lt_of_pos _ (by omega)
    let z := (w * (w / 5 + 9)) % 2147483587
    have hg2 : GV r (s.set r (.lst [.int c, .int w])) := gv_set hr hc w0 (by omega)
    have b1 : evIdx (.ref r) (.d (.int 1)) (s.set r (.lst [.int c, .int w])) = some (Vl.d (.int w)) := ref_at (List.getElem?_set_self hr) (at1 _ _)
    refine ⟨((z / 32) % m).toNat, s.set r (.lst [.int c, .int w]), ?_, ?_, hg2⟩
    · have et : ((((z / 32) % m).toNat : Nat) : Int) = (z / 32) % m := Int.toNat_of_nonneg (Int.emod_nonneg _ (by omega))
      refine callR [.v (.ref r), .v (.d (.int m)), .un, .un] rfl rfl ?_
      refine exs_if0 (e0 _ _) (by rw [decide_eq_false c0]; rfl) ?_
      refine exs_n (exSetIdx (x := .int w) (s1 := s) (s2 := s) (s3 := s) (n := r) (j := 1) (k := 1) (xs := [.int c, .int v]) ?_ ?_ ?_ hs rfl) ?_
      · simp only [callD, exs, ex, ev, evL, evTs, q_bo, q_bx, q_no, q_op, q_uo, q_ux, q_on, q_or, q_ox, q_oo, q_tn, q_tb, q_ti, q_tl, q_tt, q_ab, q_ai, q_ad, q_add, q_sub, q_att, q_all, q_ass, q_mlk, q_mtk, q_lt, q_le, q_gt, q_ge, q_eqi, q_in, q_ni, q_is, q_isn, q_ofb, q_ixl, q_ixt, q_ixs, q_sll, q_slt, q_b0, q_b1, q_s0, q_s1, q_s2, q_s3, q_s4, q_s5, q_f1, q_f2, q_f3, q_f4, q_f5, q_f6, q_f7, q_f8, q_f9, q_fa, q_fb, q_fc, q_fd, q_fe, q_i0l, q_i0t, q_i1, q_i2, q_i3, q_i4, q_i5, q_t1, q_t2, q_ads0, q_ads, q_sv0, q_sv, List.map_cons, List.map_nil, List.length_cons, List.length_nil, List.getElem?_cons_zero, List.getElem?_cons_succ, List.cons_append, List.nil_append, Option.map_some, Option.map_none, Option.bind_some, if_true, if_false, Bool.false_eq_true, List.replicate, List.set_cons_zero, List.set_cons_succ, blkE, dropE, wipeE, beq_self_eq_true, Bool.not_true, Bool.not_false, Bool.true_or, Bool.false_or, Bool.or_true, Bool.or_false, Bool.and_true, Bool.true_and, a1, mul_small (show (0 : Int) ≤ 39373 by decide) (by decide), mod_pos (show (0 : Int) < 2147483629 by decide)]
        rfl
      · simp only [callD, exs, ex, ev, evL, evTs, q_bo, q_bx, q_no, q_op, q_uo, q_ux, q_on, q_or, q_ox, q_oo, q_tn, q_tb, q_ti, q_tl, q_tt, q_ab, q_ai, q_ad, q_add, q_sub, q_att, q_all, q_ass, q_mlk, q_mtk, q_lt, q_le, q_gt, q_ge, q_eqi, q_in, q_ni, q_is, q_isn, q_ofb, q_ixl, q_ixt, q_ixs, q_sll, q_slt, q_b0, q_b1, q_s0, q_s1, q_s2, q_s3, q_s4, q_s5, q_f1, q_f2, q_f3, q_f4, q_f5, q_f6, q_f7, q_f8, q_f9, q_fa, q_fb, q_fc, q_fd, q_fe, q_i0l, q_i0t, q_i1, q_i2, q_i3, q_i4, q_i5, q_t1, q_t2, q_ads0, q_ads, q_sv0, q_sv, List.map_cons, List.map_nil, List.length_cons, List.length_nil, List.getElem?_cons_zero, List.getElem?_cons_succ, List.cons_append, List.nil_append, Option.map_some, Option.map_none, Option.bind_some, if_true, if_false, Bool.false_eq_true, List.replicate, List.set_cons_zero, List.set_cons_succ, blkE, dropE, wipeE, beq_self_eq_true, Bool.not_true, Bool.not_false, Bool.true_or, Bool.false_or, Bool.or_true, Bool.or_false, Bool.and_true, Bool.true_and]
      · simp only [callD, exs, ex, ev, evL, evTs, q_bo, q_bx, q_no, q_op, q_uo, q_ux, q_on, q_or, q_ox, q_oo, q_tn, q_tb, q_ti, q_tl, q_tt, q_ab, q_ai, q_ad, q_add, q_sub, q_att, q_all, q_ass, q_mlk, q_mtk, q_lt, q_le, q_gt, q_ge, q_eqi, q_in, q_ni, q_is, q_isn, q_ofb, q_ixl, q_ixt, q_ixs, q_sll, q_slt, q_b0, q_b1, q_s0, q_s1, q_s2, q_s3, q_s4, q_s5, q_f1, q_f2, q_f3, q_f4, q_f5, q_f6, q_f7, q_f8, q_f9, q_fa, q_fb, q_fc, q_fd, q_fe, q_i0l, q_i0t, q_i1, q_i2, q_i3, q_i4, q_i5, q_t1, q_t2, q_ads0, q_ads, q_sv0, q_sv, List.map_cons, List.map_nil, List.length_cons, List.length_nil, List.getElem?_cons_zero, List.getElem?_cons_succ, List.cons_append, List.nil_append, Option.map_some, Option.map_none, Option.bind_some, if_true, if_false, Bool.false_eq_true, List.replicate, List.set_cons_zero, List.set_cons_succ, blkE, dropE, wipeE, beq_self_eq_true, Bool.not_true, Bool.not_false, Bool.true_or, Bool.false_or, Bool.or_true, Bool.or_false, Bool.and_true, Bool.true_and]
      refine exs_n (exS (x := .d (.int z)) (s1 := s.set r (.lst [.int c, .int w])) ?_) ?_
      · show ev G _ _ (s.set r (.lst [.int c, .int w])) = _
        simp only [callD, exs, ex, ev, evL, evTs, q_bo, q_bx, q_no, q_op, q_uo, q_ux, q_on, q_or, q_ox, q_oo, q_tn, q_tb, q_ti, q_tl, q_tt, q_ab, q_ai, q_ad, q_add, q_sub, q_att, q_all, q_ass, q_mlk, q_mtk, q_lt, q_le, q_gt, q_ge, q_eqi, q_in, q_ni, q_is, q_isn, q_ofb, q_ixl, q_ixt, q_ixs, q_sll, q_slt, q_b0, q_b1, q_s0, q_s1, q_s2, q_s3, q_s4, q_s5, q_f1, q_f2, q_f3, q_f4, q_f5, q_f6, q_f7, q_f8, q_f9, q_fa, q_fb, q_fc, q_fd, q_fe, q_i0l, q_i0t, q_i1, q_i2, q_i3, q_i4, q_i5, q_t1, q_t2, q_ads0, q_ads, q_sv0, q_sv, List.map_cons, List.map_nil, List.length_cons, List.length_nil, List.getElem?_cons_zero, List.getElem?_cons_succ, List.cons_append, List.nil_append, Option.map_some, Option.map_none, Option.bind_some, if_true, if_false, Bool.false_eq_true, List.replicate, List.set_cons_zero, List.set_cons_succ, blkE, dropE, wipeE, beq_self_eq_true, Bool.not_true, Bool.not_false, Bool.true_or, Bool.false_or, Bool.or_true, Bool.or_false, Bool.and_true, Bool.true_and, b1, div_small (show (0 : Int) < 5 by decide) (by decide), mul_small' w0 (show w < 18446744073709551616 by omega), mod_pos (show (0 : Int) < 2147483587 by decide)]
        rfl
      refine exs_r (exR ?_)
      simp only [callD, exs, ex, ev, evL, evTs, q_bo, q_bx, q_no, q_op, q_uo, q_ux, q_on, q_or, q_ox, q_oo, q_tn, q_tb, q_ti, q_tl, q_tt, q_ab, q_ai, q_ad, q_add, q_sub, q_att, q_all, q_ass, q_mlk, q_mtk, q_lt, q_le, q_gt, q_ge, q_eqi, q_in, q_ni, q_is, q_isn, q_ofb, q_ixl, q_ixt, q_ixs, q_sll, q_slt, q_b0, q_b1, q_s0, q_s1, q_s2, q_s3, q_s4, q_s5, q_f1, q_f2, q_f3, q_f4, q_f5, q_f6, q_f7, q_f8, q_f9, q_fa, q_fb, q_fc, q_fd, q_fe, q_i0l, q_i0t, q_i1, q_i2, q_i3, q_i4, q_i5, q_t1, q_t2, q_ads0, q_ads, q_sv0, q_sv, List.map_cons, List.map_nil, List.length_cons, List.length_nil, List.getElem?_cons_zero, List.getElem?_cons_succ, List.cons_append, List.nil_append, Option.map_some, Option.map_none, Option.bind_some, if_true, if_false, Bool.false_eq_true, List.replicate, List.set_cons_zero, List.set_cons_succ, blkE, dropE, wipeE, beq_self_eq_true, Bool.not_true, Bool.not_false, Bool.true_or, Bool.false_or, Bool.or_true, Bool.or_false, Bool.and_true, Bool.true_and, div_small (show (0 : Int) < 32 by decide) (by decide), mod_pos m0, et]
    · have := Int.emod_lt_of_pos (z / 32) m0
      have := Int.emod_nonneg (z / 32) (show (m : Int) ≠ 0 by omega)
      omega
def S_vat (P : F) : Prop := ∀ (ns : List Int) (k : Nat) s, k < 100 → ∃ s', P [.scr ns, .d (.int k)] s = .ok (.ref s.length) s' ∧ GV s.length s'
theorem p_vat : S_vat (callD G (x_law_vat f)) := by
  intro ns k s hk
  have fin : ∀ cell : Int, 0 ≤ cell → ∃ s', exs G [.ret (.newl [.ite (.cmp .GtE (.var 2) (.bin .Pow (.int 10) (.int 18))) (.var 2) (.int 0), .bin .Add (.bin .Mod (.bf .int [.bin .Add (.bin .Add (.bin .Mult (.var 2) (.int 131071)) (.bin .Mult (.int 8191) (.var 1))) (.int 5)]) (.int 2147483629)) (.int 1)])] [.v (.scr ns), .v (.d (.int k)), .v (.d (.int cell))] s = .ret (.ref s.length) s' ∧ GV s.length s' := fun cell hc => by
    let c := if 1000000000000000000 ≤ cell then cell else 0
    let v := (cell * 131071 + 8191 * (k : Int) + 5) % 2147483629 + 1
    have v0 : 0 ≤ (cell * 131071 + 8191 * (k : Int) + 5) % 2147483629 := Int.emod_nonneg _ (by omega)
    have v1 : (cell * 131071 + 8191 * (k : Int) + 5) % 2147483629 < 2147483629 := Int.emod_lt_of_pos _ (by omega)
    refine ⟨s ++ [.lst [.int c, .int v]], ?_, c, v, ?_, ?_, by omega, by omega⟩
    · refine exs_r (exR ?_)
      have e1 : ev G (.ite (.cmp .GtE (.var 2) (.bin .Pow (.int 10) (.int 18))) (.var 2) (.int 0)) [.v (.scr ns), .v (.d (.int k)), .v (.d (.int cell))] s = .ok (.d (.int c)) s := by
        simp only [callD, exs, ex, ev, evL, evTs, q_bo, q_bx, q_no, q_op, q_uo, q_ux, q_on, q_or, q_ox, q_oo, q_tn, q_tb, q_ti, q_tl, q_tt, q_ab, q_ai, q_ad, q_add, q_sub, q_att, q_all, q_ass, q_mlk, q_mtk, q_lt, q_le, q_gt, q_ge, q_eqi, q_in, q_ni, q_is, q_isn, q_ofb, q_ixl, q_ixt, q_ixs, q_sll, q_slt, q_b0, q_b1, q_s0, q_s1, q_s2, q_s3, q_s4, q_s5, q_f1, q_f2, q_f3, q_f4, q_f5, q_f6, q_f7, q_f8, q_f9, q_fa, q_fb, q_fc, q_fd, q_fe, q_i0l, q_i0t, q_i1, q_i2, q_i3, q_i4, q_i5, q_t1, q_t2, q_ads0, q_ads, q_sv0, q_sv, List.map_cons, List.map_nil, List.length_cons, List.length_nil, List.getElem?_cons_zero, List.getElem?_cons_succ, List.cons_append, List.nil_append, Option.map_some, Option.map_none, Option.bind_some, if_true, if_false, Bool.false_eq_true, List.replicate, List.set_cons_zero, List.set_cons_succ, blkE, dropE, wipeE, beq_self_eq_true, Bool.not_true, Bool.not_false, Bool.true_or, Bool.false_or, Bool.or_true, Bool.or_false, Bool.and_true, Bool.true_and, pow_10_18]
        by_cases q : 1000000000000000000 ≤ cell
        · have qc : c = cell := if_pos q
          rw [decide_eq_true q, qc]
          rfl
        · have qc : c = 0 := if_neg q
          rw [decide_eq_false q, qc]
          rfl
      have e2 : ev G (.bin .Add (.bin .Mod (.bf .int [.bin .Add (.bin .Add (.bin .Mult (.var 2) (.int 131071)) (.bin .Mult (.int 8191) (.var 1))) (.int 5)]) (.int 2147483629)) (.int 1)) [.v (.scr ns), .v (.d (.int k)), .v (.d (.int cell))] s = .ok (.d (.int v)) s := by
        simp only [callD, exs, ex, ev, evL, evTs, q_bo, q_bx, q_no, q_op, q_uo, q_ux, q_on, q_or, q_ox, q_oo, q_tn, q_tb, q_ti, q_tl, q_tt, q_ab, q_ai, q_ad, q_add, q_sub, q_att, q_all, q_ass, q_mlk, q_mtk, q_lt, q_le, q_gt, q_ge, q_eqi, q_in, q_ni, q_is, q_isn, q_ofb, q_ixl, q_ixt, q_ixs, q_sll, q_slt, q_b0, q_b1, q_s0, q_s1, q_s2, q_s3, q_s4, q_s5, q_f1, q_f2, q_f3, q_f4, q_f5, q_f6, q_f7, q_f8, q_f9, q_fa, q_fb, q_fc, q_fd, q_fe, q_i0l, q_i0t, q_i1, q_i2, q_i3, q_i4, q_i5, q_t1, q_t2, q_ads0, q_ads, q_sv0, q_sv, List.map_cons, List.map_nil, List.length_cons, List.length_nil, List.getElem?_cons_zero, List.getElem?_cons_succ, List.cons_append, List.nil_append, Option.map_some, Option.map_none, Option.bind_some, if_true, if_false, Bool.false_eq_true, List.replicate, List.set_cons_zero, List.set_cons_succ, blkE, dropE, wipeE, beq_self_eq_true, Bool.not_true, Bool.not_false, Bool.true_or, Bool.false_or, Bool.or_true, Bool.or_false, Bool.and_true, Bool.true_and, mul_small (show (0 : Int) ≤ 131071 by decide) (by decide), mul_small' (show (0 : Int) ≤ 8191 by decide) (by decide), mod_pos (show (0 : Int) < 2147483629 by decide)]
        rfl
      have e3 := evLc e1 (evL1 e2)
      simp only [ev, e3, q_bo, q_ads, q_ads0, Option.map_some]
    · rw [List.getElem?_append_right (Nat.le_refl _), Nat.sub_self]
      rfl
    · show 0 ≤ (if 1000000000000000000 ≤ cell then cell else 0)
      split <;> omega
  have e1 : ex G (.set 2 (.bin .Add (.bin .Mult (.int 7919) (.var 1)) (.int 43))) [.v (.scr ns), .v (.d (.int k)), .un] s = .next [.v (.scr ns), .v (.d (.int k)), .v (.d (.int (7919 * (k : Int) + 43)))] s := by
    refine exS ?_
    simp only [callD, exs, ex, ev, evL, evTs, q_bo, q_bx, q_no, q_op, q_uo, q_ux, q_on, q_or, q_ox, q_oo, q_tn, q_tb, q_ti, q_tl, q_tt, q_ab, q_ai, q_ad, q_add, q_sub, q_att, q_all, q_ass, q_mlk, q_mtk, q_lt, q_le, q_gt, q_ge, q_eqi, q_in, q_ni, q_is, q_isn, q_ofb, q_ixl, q_ixt, q_ixs, q_sll, q_slt, q_b0, q_b1, q_s0, q_s1, q_s2, q_s3, q_s4, q_s5, q_f1, q_f2, q_f3, q_f4, q_f5, q_f6, q_f7, q_f8, q_f9, q_fa, q_fb, q_fc, q_fd, q_fe, q_i0l, q_i0t, q_i1, q_i2, q_i3, q_i4, q_i5, q_t1, q_t2, q_ads0, q_ads, q_sv0, q_sv, List.map_cons, List.map_nil, List.length_cons, List.length_nil, List.getElem?_cons_zero, List.getElem?_cons_succ, List.cons_append, List.nil_append, Option.map_some, Option.map_none, Option.bind_some, if_true, if_false, Bool.false_eq_true, List.replicate, List.set_cons_zero, List.set_cons_succ, blkE, dropE, wipeE, beq_self_eq_true, Bool.not_true, Bool.not_false, Bool.true_or, Bool.false_or, Bool.or_true, Bool.or_false, Bool.and_true, Bool.true_and, mul_small' (show (0 : Int) ≤ 7919 by decide) (by decide)]
  have e2 : ev G (.cmp .Lt (.var 1) (.bf .len [.var 0])) [.v (.scr ns), .v (.d (.int k)), .v (.d (.int (7919 * (k : Int) + 43)))] s = .ok (.d (.bool (decide ((k : Int) < (ns.length : Int))))) s := by
    simp only [callD, exs, ex, ev, evL, evTs, q_bo, q_bx, q_no, q_op, q_uo, q_ux, q_on, q_or, q_ox, q_oo, q_tn, q_tb, q_ti, q_tl, q_tt, q_ab, q_ai, q_ad, q_add, q_sub, q_att, q_all, q_ass, q_mlk, q_mtk, q_lt, q_le, q_gt, q_ge, q_eqi, q_in, q_ni, q_is, q_isn, q_ofb, q_ixl, q_ixt, q_ixs, q_sll, q_slt, q_b0, q_b1, q_s0, q_s1, q_s2, q_s3, q_s4, q_s5, q_f1, q_f2, q_f3, q_f4, q_f5, q_f6, q_f7, q_f8, q_f9, q_fa, q_fb, q_fc, q_fd, q_fe, q_i0l, q_i0t, q_i1, q_i2, q_i3, q_i4, q_i5, q_t1, q_t2, q_ads0, q_ads, q_sv0, q_sv, List.map_cons, List.map_nil, List.length_cons, List.length_nil, List.getElem?_cons_zero, List.getElem?_cons_succ, List.cons_append, List.nil_append, Option.map_some, Option.map_none, Option.bind_some, if_true, if_false, Bool.false_eq_true, List.replicate, List.set_cons_zero, List.set_cons_succ, blkE, dropE, wipeE, beq_self_eq_true, Bool.not_true, Bool.not_false, Bool.true_or, Bool.false_or, Bool.or_true, Bool.or_false, Bool.and_true, Bool.true_and]
  by_cases hl : k < ns.length
  · obtain ⟨s', f1, f2⟩ := fin (if ns[k] < 0 then -ns[k] else ns[k]) (by split <;> omega)
    refine ⟨s', callR [.v (.scr ns), .v (.d (.int k)), .un] rfl rfl ?_, f2⟩
    refine exs_n e1 ?_
    refine exs_if e2 (by rw [decide_eq_true (by omega)]; rfl) ?_ f1
    refine exs_n (exS ?_) exs_e
    have e3 : evIdx (.scr ns) (.d (.int k)) s = some (.d (.int ns[k])) := by
      rw [q_ixs]
      show (L2.atI ns k).map _ = _
      rw [atI_nat, List.getElem?_eq_getElem hl]
      rfl
    simp only [callD, exs, ex, ev, evL, evTs, q_bo, q_bx, q_no, q_op, q_uo, q_ux, q_on, q_or, q_ox, q_oo, q_tn, q_tb, q_ti, q_tl, q_tt, q_ab, q_ai, q_ad, q_add, q_sub, q_att, q_all, q_ass, q_mlk, q_mtk, q_lt, q_le, q_gt, q_ge, q_eqi, q_in, q_ni, q_is, q_isn, q_ofb, q_ixl, q_ixt, q_ixs, q_sll, q_slt, q_b0, q_b1, q_s0, q_s1, q_s2, q_s3, q_s4, q_s5, q_f1, q_f2, q_f3, q_f4, q_f5, q_f6, q_f7, q_f8, q_f9, q_fa, q_fb, q_fc, q_fd, q_fe, q_i0l, q_i0t, q_i1, q_i2, q_i3, q_i4, q_i5, q_t1, q_t2, q_ads0, q_ads, q_sv0, q_sv, List.map_cons, List.map_nil, List.length_cons, List.length_nil, List.getElem?_cons_zero, List.getElem?_cons_succ, List.cons_append, List.nil_append, Option.map_some, Option.map_none, Option.bind_some, if_true, if_false, Bool.false_eq_true, List.replicate, List.set_cons_zero, List.set_cons_succ, blkE, dropE, wipeE, beq_self_eq_true, Bool.not_true, Bool.not_false, Bool.true_or, Bool.false_or, Bool.or_true, Bool.or_false, Bool.and_true, Bool.true_and, e3]
  · obtain ⟨s', f1, f2⟩ := fin (7919 * (k : Int) + 43) (by omega)
    refine ⟨s', callR [.v (.scr ns), .v (.d (.int k)), .un] rfl rfl ?_, f2⟩
    refine exs_n e1 ?_
    exact exs_if0 e2 (by rw [decide_eq_false (by omega)]; rfl) f1
/-- one of a list -/
def S_some (P : F) : Prop := ∀ (r : Nat) (xs : List D) s, GV r s → xs ≠ [] → xs.length < 1000000 → ∃ x s', P [.ref r, .d (.list xs)] s = .ok (.d x) s' ∧ x ∈ xs ∧ GV r s'
theorem p_some (u : S_under (G.fn f.law_under)) : S_some (callD G (x_law_some f)) := by
  intro r xs s hg h1 h2
  obtain ⟨k, s', u1, u2, u3⟩ := u r xs.length s hg (List.length_pos_iff.mpr h1) h2
  refine ⟨xs[k], s', callR [.v (.ref r), .v (.d (.list xs))] rfl rfl (exs_r (exR ?_)), List.getElem_mem u2, u3⟩
  have e : L2.atI xs (k : Int) = some xs[k] := by rw [atI_nat, List.getElem?_eq_getElem u2]
  simp only [callD, exs, ex, ev, evL, evTs, q_bo, q_bx, q_no, q_op, q_uo, q_ux, q_on, q_or, q_ox, q_oo, q_tn, q_tb, q_ti, q_tl, q_tt, q_ab, q_ai, q_ad, q_add, q_sub, q_att, q_all, q_ass, q_mlk, q_mtk, q_lt, q_le, q_gt, q_ge, q_eqi, q_in, q_ni, q_is, q_isn, q_ofb, q_ixl, q_ixt, q_ixs, q_sll, q_slt, q_b0, q_b1, q_s0, q_s1, q_s2, q_s3, q_s4, q_s5, q_f1, q_f2, q_f3, q_f4, q_f5, q_f6, q_f7, q_f8, q_f9, q_fa, q_fb, q_fc, q_fd, q_fe, q_i0l, q_i0t, q_i1, q_i2, q_i3, q_i4, q_i5, q_t1, q_t2, q_ads0, q_ads, q_sv0, q_sv, List.map_cons, List.map_nil, List.length_cons, List.length_nil, List.getElem?_cons_zero, List.getElem?_cons_succ, List.cons_append, List.nil_append, Option.map_some, Option.map_none, Option.bind_some, if_true, if_false, Bool.false_eq_true, List.replicate, List.set_cons_zero, List.set_cons_succ, blkE, dropE, wipeE, beq_self_eq_true, Bool.not_true, Bool.not_false, Bool.true_or, Bool.false_or, Bool.or_true, Bool.or_false, Bool.and_true, Bool.true_and, u1, e]
def lvD (r : List Nat) : D := .list (r.map iv)
def S_drawn (P : F) : Prop := ∀ (r n o : Nat) s, GV r s → n ≤ 6 → 1 ≤ o → o < 1000000 → ∃ (Ls : List (List Nat)) (s' : Sto), P [.ref r, .d (.int n), .d (.int o)] s = .ok (.d (.list (Ls.map lvD))) s' ∧ GV r s' ∧ Ls.length = n ∧ ∀ L ∈ Ls, L.Sublist (List.range n)
theorem p_drawn (u : S_under (G.fn f.law_under)) : S_drawn (callD G (x_law_drawn_rows f)) := by
  intro r n o s hg h1 h2 h3
  let I : Nat → Ar.Env → Sto → Prop := fun k ρ s => GV r s ∧ ∃ (Ls : List (List Nat)) (w : Slot), ρ = [.v (.ref r), .v (.d (.int n)), .v (.d (.int o)), .own (Ls.map lvD), w, .un] ∧ Ls.length = k ∧ ∀ L ∈ Ls, L.Sublist (List.range n)
  obtain ⟨ρ1, s1, l1, z1, Ls, w, z2, z3, z4⟩ := forO_rng (f := fun x ρ s => oOut (bindTg [4] false x ρ) fun ρ1 => exs G [.append 3 (.comp (.var 5) [5] false 1 [.var 1] [.cmp .Eq (.call f.law_under [.var 0, .var 2]) (.int 0)] [5])] ρ1 s) (h := iv) (r := n) I (by
    rintro k hk ρ s ⟨hg, Ls, w, rfl, i1, i2⟩
    obtain ⟨row, s', c1, c2, c3⟩ := comp_pick (G := G) (ρ := [.v (.ref r), .v (.d (.int n)), .v (.d (.int o)), .own (Ls.map lvD), .v (.d (iv k)), .un]) (s := s) (s1 := s) (i := 5) (ik := 1) (its := [.var 1]) (ifs := [.cmp .Eq (.call f.law_under [.var 0, .var 2]) (.int 0)]) (own := [5]) (l := List.range n) (GV r) (by simp only [callD, exs, ex, ev, evL, evTs, q_bo, q_bx, q_no, q_op, q_uo, q_ux, q_on, q_or, q_ox, q_oo, q_tn, q_tb, q_ti, q_tl, q_tt, q_ab, q_ai, q_ad, q_add, q_sub, q_att, q_all, q_ass, q_mlk, q_mtk, q_lt, q_le, q_gt, q_ge, q_eqi, q_in, q_ni, q_is, q_isn, q_ofb, q_ixl, q_ixt, q_ixs, q_sll, q_slt, q_b0, q_b1, q_s0, q_s1, q_s2, q_s3, q_s4, q_s5, q_f1, q_f2, q_f3, q_f4, q_f5, q_f6, q_f7, q_f8, q_f9, q_fa, q_fb, q_fc, q_fd, q_fe, q_i0l, q_i0t, q_i1, q_i2, q_i3, q_i4, q_i5, q_t1, q_t2, q_ads0, q_ads, q_sv0, q_sv, List.map_cons, List.map_nil, List.length_cons, List.length_nil, List.getElem?_cons_zero, List.getElem?_cons_succ, List.cons_append, List.nil_append, Option.map_some, Option.map_none, Option.bind_some, if_true, if_false, Bool.false_eq_true, List.replicate, List.set_cons_zero, List.set_cons_succ, blkE, dropE, wipeE, beq_self_eq_true, Bool.not_true, Bool.not_false, Bool.true_or, Bool.false_or, Bool.or_true, Bool.or_false, Bool.and_true, Bool.true_and]) (i1_ok (by omega)) (by simp [blkE, dropE, wipeE]) (by
      intro a ha s hg
      obtain ⟨j, s', u1, u2, u3⟩ := u r o s hg h2 h3
      refine ⟨decide ((j : Int) = 0), s', ?_, u3⟩
      simp only [callD, exs, ex, ev, evL, evTs, q_bo, q_bx, q_no, q_op, q_uo, q_ux, q_on, q_or, q_ox, q_oo, q_tn, q_tb, q_ti, q_tl, q_tt, q_ab, q_ai, q_ad, q_add, q_sub, q_att, q_all, q_ass, q_mlk, q_mtk, q_lt, q_le, q_gt, q_ge, q_eqi, q_in, q_ni, q_is, q_isn, q_ofb, q_ixl, q_ixt, q_ixs, q_sll, q_slt, q_b0, q_b1, q_s0, q_s1, q_s2, q_s3, q_s4, q_s5, q_f1, q_f2, q_f3, q_f4, q_f5, q_f6, q_f7, q_f8, q_f9, q_fa, q_fb, q_fc, q_fd, q_fe, q_i0l, q_i0t, q_i1, q_i2, q_i3, q_i4, q_i5, q_t1, q_t2, q_ads0, q_ads, q_sv0, q_sv, List.map_cons, List.map_nil, List.length_cons, List.length_nil, List.getElem?_cons_zero, List.getElem?_cons_succ, List.cons_append, List.nil_append, Option.map_some, Option.map_none, Option.bind_some, if_true, if_false, Bool.false_eq_true, List.replicate, List.set_cons_zero, List.set_cons_succ, blkE, dropE, wipeE, beq_self_eq_true, Bool.not_true, Bool.not_false, Bool.true_or, Bool.false_or, Bool.or_true, Bool.or_false, Bool.and_true, Bool.true_and, u1]
      cases decide ((j : Int) = 0) <;> rfl) hg
    refine ⟨[.v (.ref r), .v (.d (.int n)), .v (.d (.int o)), .own ((Ls ++ [row]).map lvD), .v (.d (iv k)), .un], s', ?_, c3, Ls ++ [row], _, rfl, by rw [List.length_append, i1]; rfl, fun L hL => ?_⟩
    · rw [q_t1, q_oo]
      refine exs_n (exApp (xs := Ls.map lvD) rfl c2 (by rw [List.length_map, i1, sizeLine_eq]; omega)) ?_
      simp only [exs, List.map_append]
      rfl
    · rcases List.mem_append.mp hL with p | p
      · exact i2 L p
      · rw [List.mem_singleton.mp p]
        exact c1) (ρ := [.v (.ref r), .v (.d (.int n)), .v (.d (.int o)), .own [], .un, .un]) (s := s) ⟨hg, [], .un, rfl, rfl, fun L hL => by simp at hL⟩
  subst z2
  refine ⟨Ls, s1, callR [.v (.ref r), .v (.d (.int n)), .v (.d (.int o)), .un, .un, .un] rfl rfl ?_, z1, z3, z4⟩
  refine exs_n (exOwn (vs := []) (ds := []) (s1 := s) (by simp only [evL]) rfl) ?_
  refine exs_n ((ex_fors (vs := [.d (.int n)]) (s1 := s) (by simp only [callD, exs, ex, ev, evL, evTs, q_bo, q_bx, q_no, q_op, q_uo, q_ux, q_on, q_or, q_ox, q_oo, q_tn, q_tb, q_ti, q_tl, q_tt, q_ab, q_ai, q_ad, q_add, q_sub, q_att, q_all, q_ass, q_mlk, q_mtk, q_lt, q_le, q_gt, q_ge, q_eqi, q_in, q_ni, q_is, q_isn, q_ofb, q_ixl, q_ixt, q_ixs, q_sll, q_slt, q_b0, q_b1, q_s0, q_s1, q_s2, q_s3, q_s4, q_s5, q_f1, q_f2, q_f3, q_f4, q_f5, q_f6, q_f7, q_f8, q_f9, q_fa, q_fb, q_fc, q_fd, q_fe, q_i0l, q_i0t, q_i1, q_i2, q_i3, q_i4, q_i5, q_t1, q_t2, q_ads0, q_ads, q_sv0, q_sv, List.map_cons, List.map_nil, List.length_cons, List.length_nil, List.getElem?_cons_zero, List.getElem?_cons_succ, List.cons_append, List.nil_append, Option.map_some, Option.map_none, Option.bind_some, if_true, if_false, Bool.false_eq_true, List.replicate, List.set_cons_zero, List.set_cons_succ, blkE, dropE, wipeE, beq_self_eq_true, Bool.not_true, Bool.not_false, Bool.true_or, Bool.false_or, Bool.or_true, Bool.or_false, Bool.and_true, Bool.true_and]) (i1_ok (by omega))).trans l1) ?_
  refine exs_n (exFrz rfl) ?_
  refine exs_r (exR ?_)
  simp only [callD, exs, ex, ev, evL, evTs, q_bo, q_bx, q_no, q_op, q_uo, q_ux, q_on, q_or, q_ox, q_oo, q_tn, q_tb, q_ti, q_tl, q_tt, q_ab, q_ai, q_ad, q_add, q_sub, q_att, q_all, q_ass, q_mlk, q_mtk, q_lt, q_le, q_gt, q_ge, q_eqi, q_in, q_ni, q_is, q_isn, q_ofb, q_ixl, q_ixt, q_ixs, q_sll, q_slt, q_b0, q_b1, q_s0, q_s1, q_s2, q_s3, q_s4, q_s5, q_f1, q_f2, q_f3, q_f4, q_f5, q_f6, q_f7, q_f8, q_f9, q_fa, q_fb, q_fc, q_fd, q_fe, q_i0l, q_i0t, q_i1, q_i2, q_i3, q_i4, q_i5, q_t1, q_t2, q_ads0, q_ads, q_sv0, q_sv, List.map_cons, List.map_nil, List.length_cons, List.length_nil, List.getElem?_cons_zero, List.getElem?_cons_succ, List.cons_append, List.nil_append, Option.map_some, Option.map_none, Option.bind_some, if_true, if_false, Bool.false_eq_true, List.replicate, List.set_cons_zero, List.set_cons_succ, blkE, dropE, wipeE, beq_self_eq_true, Bool.not_true, Bool.not_false, Bool.true_or, Bool.false_or, Bool.or_true, Bool.or_false, Bool.and_true, Bool.true_and]
theorem rows_T (n : Nat) (Ls : List (List Nat)) (h : Ls.length = n) : ∃ R, (Ls.map fun L => rowD ((List.range n).filter fun (j : Nat) => decide (j ∈ L))) = (T n R).map rowD := by
  refine ⟨fun i j => decide (j ∈ (Ls[i]?).getD []), ?_⟩
  rw [T_rows]
  refine List.ext_getElem? fun i => ?_
  rw [List.getElem?_map, List.getElem?_map]
  by_cases hi : i < n
  · rw [List.getElem?_range hi, List.getElem?_eq_getElem (by omega)]
    simp [List.getElem?_eq_getElem (show i < Ls.length by omega)]
  · rw [List.getElem?_eq_none (by omega), List.getElem?_eq_none (by rw [List.length_range]; omega)]
    rfl
def S_dtab (P : F) : Prop := ∀ (r n : Nat) s, GV r s → 1 ≤ n → n ≤ 6 → ∃ R s', P [.ref r, .d (.int n)] s = .ok (.d (tabD (T n R))) s' ∧ GV r s'
theorem sset_row {n : Nat} {L : List Nat} (h : ∀ x ∈ L, x < n) (hl : L.length < 64) : evBf .sset [.d (lvD L)] = some (.d (.list (((List.range n).filter fun (j : Nat) => decide (j ∈ L)).map iv))) := by
  unfold lvD
  have e6 : allInt (L.map iv) = some (L.map fun (k : Nat) => (k : Int)) := allInt_map (fun (k : Nat) => (k : Int)) L
  rw [q_fe, e6, Option.bind_some, if_pos (by rw [List.length_map]; exact hl), sset_nat h, List.map_map]
  rfl
theorem p_dtab (u : S_under (G.fn f.law_under)) (so : S_some (G.fn f.law_some)) (dr : S_drawn (G.fn f.law_drawn_rows)) : S_dtab (callD G (x_law_table f)) := by
  intro r n s hg h1 h2
  obtain ⟨way, s1, u1, u2, u3⟩ := u r 4 s hg (by omega) (by omega)
  obtain ⟨od, s2, o1, o2, o3⟩ : ∃ (od : Nat) (s2 : Sto), ev G (.call f.law_some [.var 0, .ite (.cmp .Eq (.var 2) (.int 0)) (.lst [.int 5, .int 9]) (.lst [.int 2, .int 3, .int 3, .int 4])]) [.v (.ref r), .v (.d (.int n)), .v (.d (.int way)), .un, .un, .un, .un] s1 = .ok (.d (.int od)) s2 ∧ (1 ≤ od ∧ od < 1000000) ∧ GV r s2 := by
    by_cases hw : way = 0
    · obtain ⟨x, s2, a1, a2, a3⟩ := so r [.int 5, .int 9] s1 u3 (by simp) (by simp)
      have e : decide ((way : Int) = 0) = true := decide_eq_true (by omega)
      rcases List.mem_cons.mp a2 with p | p
      · subst p
        exact ⟨5, s2, by simp only [callD, exs, ex, ev, evL, evTs, q_bo, q_bx, q_no, q_op, q_uo, q_ux, q_on, q_or, q_ox, q_oo, q_tn, q_tb, q_ti, q_tl, q_tt, q_ab, q_ai, q_ad, q_add, q_sub, q_att, q_all, q_ass, q_mlk, q_mtk, q_lt, q_le, q_gt, q_ge, q_eqi, q_in, q_ni, q_is, q_isn, q_ofb, q_ixl, q_ixt, q_ixs, q_sll, q_slt, q_b0, q_b1, q_s0, q_s1, q_s2, q_s3, q_s4, q_s5, q_f1, q_f2, q_f3, q_f4, q_f5, q_f6, q_f7, q_f8, q_f9, q_fa, q_fb, q_fc, q_fd, q_fe, q_i0l, q_i0t, q_i1, q_i2, q_i3, q_i4, q_i5, q_t1, q_t2, q_ads0, q_ads, q_sv0, q_sv, List.map_cons, List.map_nil, List.length_cons, List.length_nil, List.getElem?_cons_zero, List.getElem?_cons_succ, List.cons_append, List.nil_append, Option.map_some, Option.map_none, Option.bind_some, if_true, if_false, Bool.false_eq_true, List.replicate, List.set_cons_zero, List.set_cons_succ, blkE, dropE, wipeE, beq_self_eq_true, Bool.not_true, Bool.not_false, Bool.true_or, Bool.false_or, Bool.or_true, Bool.or_false, Bool.and_true, Bool.true_and, e]; exact a1, ⟨by omega, by omega⟩, a3⟩
      · rw [List.mem_singleton] at p
        subst p
        exact ⟨9, s2, by simp only [callD, exs, ex, ev, evL, evTs, q_bo, q_bx, q_no, q_op, q_uo, q_ux, q_on, q_or, q_ox, q_oo, q_tn, q_tb, q_ti, q_tl, q_tt, q_ab, q_ai, q_ad, q_add, q_sub, q_att, q_all, q_ass, q_mlk, q_mtk, q_lt, q_le, q_gt, q_ge, q_eqi, q_in, q_ni, q_is, q_isn, q_ofb, q_ixl, q_ixt, q_ixs, q_sll, q_slt, q_b0, q_b1, q_s0, q_s1, q_s2, q_s3, q_s4, q_s5, q_f1, q_f2, q_f3, q_f4, q_f5, q_f6, q_f7, q_f8, q_f9, q_fa, q_fb, q_fc, q_fd, q_fe, q_i0l, q_i0t, q_i1, q_i2, q_i3, q_i4, q_i5, q_t1, q_t2, q_ads0, q_ads, q_sv0, q_sv, List.map_cons, List.map_nil, List.length_cons, List.length_nil, List.getElem?_cons_zero, List.getElem?_cons_succ, List.cons_append, List.nil_append, Option.map_some, Option.map_none, Option.bind_some, if_true, if_false, Bool.false_eq_true, List.replicate, List.set_cons_zero, List.set_cons_succ, blkE, dropE, wipeE, beq_self_eq_true, Bool.not_true, Bool.not_false, Bool.true_or, Bool.false_or, Bool.or_true, Bool.or_false, Bool.and_true, Bool.true_and, e]; exact a1, ⟨by omega, by omega⟩, a3⟩
    · obtain ⟨x, s2, a1, a2, a3⟩ := so r [.int 2, .int 3, .int 3, .int 4] s1 u3 (by simp) (by simp)
      have e : decide ((way : Int) = 0) = false := decide_eq_false (by omega)
      simp only [List.mem_cons, List.not_mem_nil, or_false] at a2
      rcases a2 with p | p | p | p
      · subst p
        exact ⟨2, s2, by simp only [callD, exs, ex, ev, evL, evTs, q_bo, q_bx, q_no, q_op, q_uo, q_ux, q_on, q_or, q_ox, q_oo, q_tn, q_tb, q_ti, q_tl, q_tt, q_ab, q_ai, q_ad, q_add, q_sub, q_att, q_all, q_ass, q_mlk, q_mtk, q_lt, q_le, q_gt, q_ge, q_eqi, q_in, q_ni, q_is, q_isn, q_ofb, q_ixl, q_ixt, q_ixs, q_sll, q_slt, q_b0, q_b1, q_s0, q_s1, q_s2, q_s3, q_s4, q_s5, q_f1, q_f2, q_f3, q_f4, q_f5, q_f6, q_f7, q_f8, q_f9, q_fa, q_fb, q_fc, q_fd, q_fe, q_i0l, q_i0t, q_i1, q_i2, q_i3, q_i4, q_i5, q_t1, q_t2, q_ads0, q_ads, q_sv0, q_sv, List.map_cons, List.map_nil, List.length_cons, List.length_nil, List.getElem?_cons_zero, List.getElem?_cons_succ, List.cons_append, List.nil_append, Option.map_some, Option.map_none, Option.bind_some, if_true, if_false, Bool.false_eq_true, List.replicate, List.set_cons_zero, List.set_cons_succ, blkE, dropE, wipeE, beq_self_eq_true, Bool.not_true, Bool.not_false, Bool.true_or, Bool.false_or, Bool.or_true, Bool.or_false, Bool.and_true, Bool.true_and, e]; exact a1, ⟨by omega, by omega⟩, a3⟩
      · subst p
        exact ⟨3, s2, by simp only [callD, exs, ex, ev, evL, evTs, q_bo, q_bx, q_no, q_op, q_uo, q_ux, q_on, q_or, q_ox, q_oo, q_tn, q_tb, q_ti, q_tl, q_tt, q_ab, q_ai, q_ad, q_add, q_sub, q_att, q_all, q_ass, q_mlk, q_mtk, q_lt, q_le, q_gt, q_ge, q_eqi, q_in, q_ni, q_is, q_isn, q_ofb, q_ixl, q_ixt, q_ixs, q_sll, q_slt, q_b0, q_b1, q_s0, q_s1, q_s2, q_s3, q_s4, q_s5, q_f1, q_f2, q_f3, q_f4, q_f5, q_f6, q_f7, q_f8, q_f9, q_fa, q_fb, q_fc, q_fd, q_fe, q_i0l, q_i0t, q_i1, q_i2, q_i3, q_i4, q_i5, q_t1, q_t2, q_ads0, q_ads, q_sv0, q_sv, List.map_cons, List.map_nil, List.length_cons, List.length_nil, List.getElem?_cons_zero, List.getElem?_cons_succ, List.cons_append, List.nil_append, Option.map_some, Option.map_none, Option.bind_some, if_true, if_false, Bool.false_eq_true, List.replicate, List.set_cons_zero, List.set_cons_succ, blkE, dropE, wipeE, beq_self_eq_true, Bool.not_true, Bool.not_false, Bool.true_or, Bool.false_or, Bool.or_true, Bool.or_false, Bool.and_true, Bool.true_and, e]; exact a1, ⟨by omega, by omega⟩, a3⟩
      · subst p
        exact ⟨3, s2, by simp only [callD, exs, ex, ev, evL, evTs, q_bo, q_bx, q_no, q_op, q_uo, q_ux, q_on, q_or, q_ox, q_oo, q_tn, q_tb, q_ti, q_tl, q_tt, q_ab, q_ai, q_ad, q_add, q_sub, q_att, q_all, q_ass, q_mlk, q_mtk, q_lt, q_le, q_gt, q_ge, q_eqi, q_in, q_ni, q_is, q_isn, q_ofb, q_ixl, q_ixt, q_ixs, q_sll, q_slt, q_b0, q_b1, q_s0, q_s1, q_s2, q_s3, q_s4, q_s5, q_f1, q_f2, q_f3, q_f4, q_f5, q_f6, q_f7, q_f8, q_f9, q_fa, q_fb, q_fc, q_fd, q_fe, q_i0l, q_i0t, q_i1, q_i2, q_i3, q_i4, q_i5, q_t1, q_t2, q_ads0, q_ads, q_sv0, q_sv, List.map_cons, List.map_nil, List.length_cons, List.length_nil, List.getElem?_cons_zero, List.getElem?_cons_succ, List.cons_append, List.nil_append, Option.map_some, Option.map_none, Option.bind_some, if_true, if_false, Bool.false_eq_true, List.replicate, List.set_cons_zero, List.set_cons_succ, blkE, dropE, wipeE, beq_self_eq_true, Bool.not_true, Bool.not_false, Bool.true_or, Bool.false_or, Bool.or_true, Bool.or_false, Bool.and_true, Bool.true_and, e]; exact a1, ⟨by omega, by omega⟩, a3⟩
      · subst p
        exact ⟨4, s2, by simp only [callD, exs, ex, ev, evL, evTs, q_bo, q_bx, q_no, q_op, q_uo, q_ux, q_on, q_or, q_ox, q_oo, q_tn, q_tb, q_ti, q_tl, q_tt, q_ab, q_ai, q_ad, q_add, q_sub, q_att, q_all, q_ass, q_mlk, q_mtk, q_lt, q_le, q_gt, q_ge, q_eqi, q_in, q_ni, q_is, q_isn, q_ofb, q_ixl, q_ixt, q_ixs, q_sll, q_slt, q_b0, q_b1, q_s0, q_s1, q_s2, q_s3, q_s4, q_s5, q_f1, q_f2, q_f3, q_f4, q_f5, q_f6, q_f7, q_f8, q_f9, q_fa, q_fb, q_fc, q_fd, q_fe, q_i0l, q_i0t, q_i1, q_i2, q_i3, q_i4, q_i5, q_t1, q_t2, q_ads0, q_ads, q_sv0, q_sv, List.map_cons, List.map_nil, List.length_cons, List.length_nil, List.getElem?_cons_zero, List.getElem?_cons_succ, List.cons_append, List.nil_append, Option.map_some, Option.map_none, Option.bind_some, if_true, if_false, Bool.false_eq_true, List.replicate, List.set_cons_zero, List.set_cons_succ, blkE, dropE, wipeE, beq_self_eq_true, Bool.not_true, Bool.not_false, Bool.true_or, Bool.false_or, Bool.or_true, Bool.or_false, Bool.and_true, Bool.true_and, e]; exact a1, ⟨by omega, by omega⟩, a3⟩
  obtain ⟨Ls, s3, d1, d2, d3, d4⟩ := dr r n od s2 o3 h2 o2.1 o2.2
  have fin : ∀ Ms : List (List Nat), Ms.length = n → (∀ L ∈ Ms, L.length < 64 ∧ ∀ x ∈ L, x < n) → ∃ R, exs G [.ret (.bf .tuple [.comp (.bf .tuple [.bf .sset [.var 6]]) [6] false 0 [.var 4] [] [6]])] [.v (.ref r), .v (.d (.int n)), .v (.d (.int way)), .v (.d (.int od)), .v (.d (.list (Ms.map lvD))), .un, .un] s3 = .ret (.d (tabD (T n R))) s3 := fun Ms m1 m2 => by
    obtain ⟨R, hR⟩ := rows_T n Ms m1
    refine ⟨R, exs_r (exR ?_)⟩
    have e1 := comp_all (G := G) (elt := .bf .tuple [.bf .sset [.var 6]]) (tg := [6]) (tt := false) (ik := 0) (its := [.var 4]) (own := [6]) (ρ := [.v (.ref r), .v (.d (.int n)), .v (.d (.int way)), .v (.d (.int od)), .v (.d (.list (Ms.map lvD))), .un, .un]) (s := s3) (s1 := s3) (l := Ms) (h := lvD) (vs := [.d (.list (Ms.map lvD))]) (fun L => rowD ((List.range n).filter fun (j : Nat) => decide (j ∈ L))) (fun L => [.v (.ref r), .v (.d (.int n)), .v (.d (.int way)), .v (.d (.int od)), .v (.d (.list (Ms.map lvD))), .un, .v (.d (lvD L))]) (by simp only [callD, exs, ex, ev, evL, evTs, q_bo, q_bx, q_no, q_op, q_uo, q_ux, q_on, q_or, q_ox, q_oo, q_tn, q_tb, q_ti, q_tl, q_tt, q_ab, q_ai, q_ad, q_add, q_sub, q_att, q_all, q_ass, q_mlk, q_mtk, q_lt, q_le, q_gt, q_ge, q_eqi, q_in, q_ni, q_is, q_isn, q_ofb, q_ixl, q_ixt, q_ixs, q_sll, q_slt, q_b0, q_b1, q_s0, q_s1, q_s2, q_s3, q_s4, q_s5, q_f1, q_f2, q_f3, q_f4, q_f5, q_f6, q_f7, q_f8, q_f9, q_fa, q_fb, q_fc, q_fd, q_fe, q_i0l, q_i0t, q_i1, q_i2, q_i3, q_i4, q_i5, q_t1, q_t2, q_ads0, q_ads, q_sv0, q_sv, List.map_cons, List.map_nil, List.length_cons, List.length_nil, List.getElem?_cons_zero, List.getElem?_cons_succ, List.cons_append, List.nil_append, Option.map_some, Option.map_none, Option.bind_some, if_true, if_false, Bool.false_eq_true, List.replicate, List.set_cons_zero, List.set_cons_succ, blkE, dropE, wipeE, beq_self_eq_true, Bool.not_true, Bool.not_false, Bool.true_or, Bool.false_or, Bool.or_true, Bool.or_false, Bool.and_true, Bool.true_and]) (q_i0l) (fun L _ => rfl) (fun L hL => by
      simp only [callD, exs, ex, ev, evL, evTs, q_bo, q_bx, q_no, q_op, q_uo, q_ux, q_on, q_or, q_ox, q_oo, q_tn, q_tb, q_ti, q_tl, q_tt, q_ab, q_ai, q_ad, q_add, q_sub, q_att, q_all, q_ass, q_mlk, q_mtk, q_lt, q_le, q_gt, q_ge, q_eqi, q_in, q_ni, q_is, q_isn, q_ofb, q_ixl, q_ixt, q_ixs, q_sll, q_slt, q_b0, q_b1, q_s0, q_s1, q_s2, q_s3, q_s4, q_s5, q_f1, q_f2, q_f3, q_f4, q_f5, q_f6, q_f7, q_f8, q_f9, q_fa, q_fb, q_fc, q_fd, q_fe, q_i0l, q_i0t, q_i1, q_i2, q_i3, q_i4, q_i5, q_t1, q_t2, q_ads0, q_ads, q_sv0, q_sv, List.map_cons, List.map_nil, List.length_cons, List.length_nil, List.getElem?_cons_zero, List.getElem?_cons_succ, List.cons_append, List.nil_append, Option.map_some, Option.map_none, Option.bind_some, if_true, if_false, Bool.false_eq_true, List.replicate, List.set_cons_zero, List.set_cons_succ, blkE, dropE, wipeE, beq_self_eq_true, Bool.not_true, Bool.not_false, Bool.true_or, Bool.false_or, Bool.or_true, Bool.or_false, Bool.and_true, Bool.true_and, sset_row (m2 L hL).2 (m2 L hL).1]
      rfl)
    simp only [ev, evL] at e1 ⊢
    simp only [callD, exs, ex, ev, evL, evTs, q_bo, q_bx, q_no, q_op, q_uo, q_ux, q_on, q_or, q_ox, q_oo, q_tn, q_tb, q_ti, q_tl, q_tt, q_ab, q_ai, q_ad, q_add, q_sub, q_att, q_all, q_ass, q_mlk, q_mtk, q_lt, q_le, q_gt, q_ge, q_eqi, q_in, q_ni, q_is, q_isn, q_ofb, q_ixl, q_ixt, q_ixs, q_sll, q_slt, q_b0, q_b1, q_s0, q_s1, q_s2, q_s3, q_s4, q_s5, q_f1, q_f2, q_f3, q_f4, q_f5, q_f6, q_f7, q_f8, q_f9, q_fa, q_fb, q_fc, q_fd, q_fe, q_i0l, q_i0t, q_i1, q_i2, q_i3, q_i4, q_i5, q_t1, q_t2, q_ads0, q_ads, q_sv0, q_sv, List.map_cons, List.map_nil, List.length_cons, List.length_nil, List.getElem?_cons_zero, List.getElem?_cons_succ, List.cons_append, List.nil_append, Option.map_some, Option.map_none, Option.bind_some, if_true, if_false, Bool.false_eq_true, List.replicate, List.set_cons_zero, List.set_cons_succ, blkE, dropE, wipeE, beq_self_eq_true, Bool.not_true, Bool.not_false, Bool.true_or, Bool.false_or, Bool.or_true, Bool.or_false, Bool.and_true, Bool.true_and] at e1 ⊢
    rw [e1, hR]
    rfl
  have pre : ∀ {o : Out}, exs G ((x_law_table f).body.drop 3) [.v (.ref r), .v (.d (.int n)), .v (.d (.int way)), .v (.d (.int od)), .v (.d (.list (Ls.map lvD))), .un, .un] s3 = o → exs G (x_law_table f).body [.v (.ref r), .v (.d (.int n)), .un, .un, .un, .un, .un] s = o := fun {o} h => by
    refine exs_n (exS (x := .d (.int way)) (s1 := s1) ?_) ?_
    · simp only [callD, exs, ex, ev, evL, evTs, q_bo, q_bx, q_no, q_op, q_uo, q_ux, q_on, q_or, q_ox, q_oo, q_tn, q_tb, q_ti, q_tl, q_tt, q_ab, q_ai, q_ad, q_add, q_sub, q_att, q_all, q_ass, q_mlk, q_mtk, q_lt, q_le, q_gt, q_ge, q_eqi, q_in, q_ni, q_is, q_isn, q_ofb, q_ixl, q_ixt, q_ixs, q_sll, q_slt, q_b0, q_b1, q_s0, q_s1, q_s2, q_s3, q_s4, q_s5, q_f1, q_f2, q_f3, q_f4, q_f5, q_f6, q_f7, q_f8, q_f9, q_fa, q_fb, q_fc, q_fd, q_fe, q_i0l, q_i0t, q_i1, q_i2, q_i3, q_i4, q_i5, q_t1, q_t2, q_ads0, q_ads, q_sv0, q_sv, List.map_cons, List.map_nil, List.length_cons, List.length_nil, List.getElem?_cons_zero, List.getElem?_cons_succ, List.cons_append, List.nil_append, Option.map_some, Option.map_none, Option.bind_some, if_true, if_false, Bool.false_eq_true, List.replicate, List.set_cons_zero, List.set_cons_succ, blkE, dropE, wipeE, beq_self_eq_true, Bool.not_true, Bool.not_false, Bool.true_or, Bool.false_or, Bool.or_true, Bool.or_false, Bool.and_true, Bool.true_and]
      exact u1
    refine exs_n (exS o1) ?_
    refine exs_n (exS (x := .d (.list (Ls.map lvD))) (s1 := s3) ?_) h
    simp only [callD, exs, ex, ev, evL, evTs, q_bo, q_bx, q_no, q_op, q_uo, q_ux, q_on, q_or, q_ox, q_oo, q_tn, q_tb, q_ti, q_tl, q_tt, q_ab, q_ai, q_ad, q_add, q_sub, q_att, q_all, q_ass, q_mlk, q_mtk, q_lt, q_le, q_gt, q_ge, q_eqi, q_in, q_ni, q_is, q_isn, q_ofb, q_ixl, q_ixt, q_ixs, q_sll, q_slt, q_b0, q_b1, q_s0, q_s1, q_s2, q_s3, q_s4, q_s5, q_f1, q_f2, q_f3, q_f4, q_f5, q_f6, q_f7, q_f8, q_f9, q_fa, q_fb, q_fc, q_fd, q_fe, q_i0l, q_i0t, q_i1, q_i2, q_i3, q_i4, q_i5, q_t1, q_t2, q_ads0, q_ads, q_sv0, q_sv, List.map_cons, List.map_nil, List.length_cons, List.length_nil, List.getElem?_cons_zero, List.getElem?_cons_succ, List.cons_append, List.nil_append, Option.map_some, Option.map_none, Option.bind_some, if_true, if_false, Bool.false_eq_true, List.replicate, List.set_cons_zero, List.set_cons_succ, blkE, dropE, wipeE, beq_self_eq_true, Bool.not_true, Bool.not_false, Bool.true_or, Bool.false_or, Bool.or_true, Bool.or_false, Bool.and_true, Bool.true_and]
    exact d1
  have ew : ∀ x, ev G (.cmp .Lt (.var 2) (.int 2)) [.v (.ref r), .v (.d (.int n)), .v (.d (.int way)), .v (.d (.int od)), x, .un, .un] s3 = .ok (.d (.bool (decide ((way : Int) < 2)))) s3 := fun x => by simp only [callD, exs, ex, ev, evL, evTs, q_bo, q_bx, q_no, q_op, q_uo, q_ux, q_on, q_or, q_ox, q_oo, q_tn, q_tb, q_ti, q_tl, q_tt, q_ab, q_ai, q_ad, q_add, q_sub, q_att, q_all, q_ass, q_mlk, q_mtk, q_lt, q_le, q_gt, q_ge, q_eqi, q_in, q_ni, q_is, q_isn, q_ofb, q_ixl, q_ixt, q_ixs, q_sll, q_slt, q_b0, q_b1, q_s0, q_s1, q_s2, q_s3, q_s4, q_s5, q_f1, q_f2, q_f3, q_f4, q_f5, q_f6, q_f7, q_f8, q_f9, q_fa, q_fb, q_fc, q_fd, q_fe, q_i0l, q_i0t, q_i1, q_i2, q_i3, q_i4, q_i5, q_t1, q_t2, q_ads0, q_ads, q_sv0, q_sv, List.map_cons, List.map_nil, List.length_cons, List.length_nil, List.getElem?_cons_zero, List.getElem?_cons_succ, List.cons_append, List.nil_append, Option.map_some, Option.map_none, Option.bind_some, if_true, if_false, Bool.false_eq_true, List.replicate, List.set_cons_zero, List.set_cons_succ, blkE, dropE, wipeE, beq_self_eq_true, Bool.not_true, Bool.not_false, Bool.true_or, Bool.false_or, Bool.or_true, Bool.or_false, Bool.and_true, Bool.true_and]
  by_cases hw : way < 2
  · have ln : ∀ i, i < n → ∃ L, Ls[i]? = some L ∧ L.Sublist (List.range n) := fun i hi => by
      have hi' : i < Ls.length := by omega
      exact ⟨Ls[i], List.getElem?_eq_getElem hi', d4 _ (List.getElem_mem hi')⟩
    let Ms := (List.range n).map fun i => (Ls[i]?).getD [] ++ [(i + 1) % n]
    obtain ⟨R, hR⟩ := fin Ms (by rw [List.length_map, List.length_range]) (fun L hL => by
      obtain ⟨i, hi, rfl⟩ := List.mem_map.mp hL
      obtain ⟨L, l1, l2⟩ := ln i (List.mem_range.mp hi)
      rw [l1]
      have := l2.length_le
      rw [List.length_range] at this
      refine ⟨by rw [Option.getD_some, List.length_append, List.length_singleton]; omega, fun x hx => ?_⟩
      rcases List.mem_append.mp hx with p | p
      · exact List.mem_range.mp (l2.subset p)
      · rw [List.mem_singleton.mp p]
        exact Nat.mod_lt _ (by omega))
    refine ⟨R, s3, callR [.v (.ref r), .v (.d (.int n)), .un, .un, .un, .un, .un] rfl rfl (pre ?_), d2⟩
    refine exs_if (ew _) (by rw [decide_eq_true (by omega)]; rfl) ?_ hR
    refine exs_n (exS ?_) exs_e
    have := comp_all (G := G) (elt := .bin .Add (.idx (.var 4) (.var 5)) (.lst [.bin .Mod (.bin .Add (.var 5) (.int 1)) (.var 1)])) (tg := [5]) (tt := false) (ik := 1) (its := [.var 1]) (own := [5]) (ρ := [.v (.ref r), .v (.d (.int n)), .v (.d (.int way)), .v (.d (.int od)), .v (.d (.list (Ls.map lvD))), .un, .un]) (s := s3) (s1 := s3) (l := List.range n) (h := iv) (vs := [.d (.int n)]) (fun i => lvD ((Ls[i]?).getD [] ++ [(i + 1) % n])) (fun i => [.v (.ref r), .v (.d (.int n)), .v (.d (.int way)), .v (.d (.int od)), .v (.d (.list (Ls.map lvD))), .v (.d (iv i)), .un]) (by simp only [callD, exs, ex, ev, evL, evTs, q_bo, q_bx, q_no, q_op, q_uo, q_ux, q_on, q_or, q_ox, q_oo, q_tn, q_tb, q_ti, q_tl, q_tt, q_ab, q_ai, q_ad, q_add, q_sub, q_att, q_all, q_ass, q_mlk, q_mtk, q_lt, q_le, q_gt, q_ge, q_eqi, q_in, q_ni, q_is, q_isn, q_ofb, q_ixl, q_ixt, q_ixs, q_sll, q_slt, q_b0, q_b1, q_s0, q_s1, q_s2, q_s3, q_s4, q_s5, q_f1, q_f2, q_f3, q_f4, q_f5, q_f6, q_f7, q_f8, q_f9, q_fa, q_fb, q_fc, q_fd, q_fe, q_i0l, q_i0t, q_i1, q_i2, q_i3, q_i4, q_i5, q_t1, q_t2, q_ads0, q_ads, q_sv0, q_sv, List.map_cons, List.map_nil, List.length_cons, List.length_nil, List.getElem?_cons_zero, List.getElem?_cons_succ, List.cons_append, List.nil_append, Option.map_some, Option.map_none, Option.bind_some, if_true, if_false, Bool.false_eq_true, List.replicate, List.set_cons_zero, List.set_cons_succ, blkE, dropE, wipeE, beq_self_eq_true, Bool.not_true, Bool.not_false, Bool.true_or, Bool.false_or, Bool.or_true, Bool.or_false, Bool.and_true, Bool.true_and]) (i1_ok (by omega)) (fun L _ => rfl) (fun i hi => by
      obtain ⟨L, l1, l2⟩ := ln i (List.mem_range.mp hi)
      have q1 : L2.atI (Ls.map lvD) (i : Int) = some (lvD L) := by
        rw [atI_nat, List.getElem?_map, l1]
        rfl
      have q2 : ((i : Int) + 1) % (n : Int) = (((i + 1) % n : Nat) : Int) := by simp
      have q3 : lineB ((L.map iv).length + 1) = true := by
        have := l2.length_le
        rw [List.length_range] at this
        unfold lineB
        rw [List.length_map]
        exact decide_eq_true (by rw [sizeLine_eq]; omega)
      rw [l1]
      simp only [callD, exs, ex, ev, evL, evTs, q_bo, q_bx, q_no, q_op, q_uo, q_ux, q_on, q_or, q_ox, q_oo, q_tn, q_tb, q_ti, q_tl, q_tt, q_ab, q_ai, q_ad, q_add, q_sub, q_att, q_all, q_ass, q_mlk, q_mtk, q_lt, q_le, q_gt, q_ge, q_eqi, q_in, q_ni, q_is, q_isn, q_ofb, q_ixl, q_ixt, q_ixs, q_sll, q_slt, q_b0, q_b1, q_s0, q_s1, q_s2, q_s3, q_s4, q_s5, q_f1, q_f2, q_f3, q_f4, q_f5, q_f6, q_f7, q_f8, q_f9, q_fa, q_fb, q_fc, q_fd, q_fe, q_i0l, q_i0t, q_i1, q_i2, q_i3, q_i4, q_i5, q_t1, q_t2, q_ads0, q_ads, q_sv0, q_sv, List.map_cons, List.map_nil, List.length_cons, List.length_nil, List.getElem?_cons_zero, List.getElem?_cons_succ, List.cons_append, List.nil_append, Option.map_some, Option.map_none, Option.bind_some, if_true, if_false, Bool.false_eq_true, List.replicate, List.set_cons_zero, List.set_cons_succ, blkE, dropE, wipeE, beq_self_eq_true, Bool.not_true, Bool.not_false, Bool.true_or, Bool.false_or, Bool.or_true, Bool.or_false, Bool.and_true, Bool.true_and, iv, q1, mod_pos (show (0 : Int) < (n : Int) by omega), q2, lvD, Nat.zero_add]
      rw [q3]
      simp only [if_true, q_op, Option.getD_some, List.map_append]
      rfl)
    have em : Ms.map lvD = (List.range n).map fun i => lvD ((Ls[i]?).getD [] ++ [(i + 1) % n]) := by
      rw [List.map_map]
      rfl
    rw [this, ← em]
  · obtain ⟨R, hR⟩ := fin Ls d3 (fun L hL => by
      have := (d4 L hL).length_le
      rw [List.length_range] at this
      exact ⟨by omega, fun x hx => List.mem_range.mp ((d4 L hL).subset hx)⟩)
    refine ⟨R, s3, callR [.v (.ref r), .v (.d (.int n)), .un, .un, .un, .un, .un] rfl rfl (pre ?_), d2⟩
    exact exs_if0 (ew _) (by rw [decide_eq_false (by omega)]; rfl) hR
end
end X
set_option Elab.async false
set_option linter.all false
set_option maxRecDepth 100000
set_option maxHeartbeats 4000000
/-! Pu7: equality of data; the walks of a law. -/
namespace X
open PySem Ar
/-! ### equality -/
structure Enc {α : Type} (e : α → D) (k : Nat) : Prop where
  eq : ∀ a b, PyData.eqv (e a) (e b) = true ↔ a = b
  lay : ∀ a, (e a).canLay0 = true
  dep : ∀ a, (e a).depth ≤ k
theorem encI : Enc iv 0 where
  eq := fun a b => by rw [eqv_iv, decide_eq_true_iff]
  lay := fun a => rfl
  dep := fun a => Nat.le_refl _
theorem encZ : Enc PyData.int 0 where
  eq := fun a b => by
    show (((a : Int) == (b : Int)) : Bool) = true ↔ _
    rw [beq_iff_eq]
  lay := fun a => rfl
  dep := fun a => Nat.le_refl _
theorem encB : Enc PyData.bool 0 where
  eq := fun a b => by
    show (a == b) = true ↔ _
    rw [beq_iff_eq]
  lay := fun a => rfl
  dep := fun a => Nat.le_refl _
section
variable {α β : Type} {e : α → D} {e' : β → D} {k k' : Nat}
theorem Enc.all (h : Enc e k) : ∀ l m : List α, PyData.eqvAll (l.map e) (m.map e) = true ↔ l = m
  | [], [] => ⟨fun _ => rfl, fun _ => rfl⟩
  | [], y :: m => ⟨fun z => (by cases z), fun z => by cases z⟩
  | x :: l, [] => ⟨fun z => (by cases z), fun z => by cases z⟩
  | x :: l, y :: m => by
    show (PyData.eqv (e x) (e y) && PyData.eqvAll (l.map e) (m.map e)) = true ↔ _
    rw [Bool.and_eq_true, h.eq, Enc.all h l m, List.cons.injEq]
theorem Enc.layAll (h : Enc e k) : ∀ l : List α, PyData.canLayAll0 (l.map e) = true
  | [] => rfl
  | x :: l => by
    show ((e x).canLay0 && PyData.canLayAll0 (l.map e)) = true
    rw [h.lay, Enc.layAll h l]
    rfl
theorem Enc.depAll (h : Enc e k) : ∀ l : List α, PyData.depthAll (l.map e) ≤ k
  | [] => Nat.zero_le _
  | x :: l => Nat.max_le.mpr ⟨h.dep x, Enc.depAll h l⟩
theorem Enc.tup (h : Enc e k) : Enc (fun l : List α => PyData.tuple (l.map e)) (k + 1) where
  eq := fun a b => h.all a b
  lay := fun a => h.layAll a
  dep := fun a => Nat.succ_le_succ (h.depAll a)
theorem Enc.lst (h : Enc e k) : Enc (fun l : List α => PyData.list (l.map e)) (k + 1) where
  eq := fun a b => h.all a b
  lay := fun a => h.layAll a
  dep := fun a => Nat.succ_le_succ (h.depAll a)
theorem Enc.up (h : Enc e k) {j : Nat} (hj : k ≤ j) : Enc e j := ⟨h.eq, h.lay, fun a => Nat.le_trans (h.dep a) hj⟩
theorem Enc.pair (h : Enc e k) (h' : Enc e' k) : Enc (fun p : α × β => PyData.tuple [e p.1, e' p.2]) (k + 1) where
  eq := fun a b => by
    show (PyData.eqv (e a.1) (e b.1) && (PyData.eqv (e' a.2) (e' b.2) && true)) = true ↔ _
    rw [Bool.and_eq_true, Bool.and_true, h.eq, h'.eq]
    exact ⟨fun z => Prod.ext z.1 z.2, fun z => by rw [z]; exact ⟨rfl, rfl⟩⟩
  lay := fun a => by
    show ((e a.1).canLay0 && ((e' a.2).canLay0 && true)) = true
    rw [h.lay, h'.lay]
    rfl
  dep := fun a => Nat.succ_le_succ (Nat.max_le.mpr ⟨h.dep _, Nat.max_le.mpr ⟨h'.dep _, Nat.zero_le _⟩⟩)
theorem shp_of {d : D} {k : Nat} (h1 : d.canLay0 = true) (h2 : d.depth ≤ k) (hk : k ≤ 64) : shp d = true := by
  unfold shp SeqAt.shaped
  rw [h1, decide_eq_true (Nat.le_trans h2 hk)]
  rfl
theorem Enc.shp (h : Enc e k) (hk : k ≤ 64) (a : α) : shp (e a) = true := shp_of (h.lay a) (h.dep a) hk
theorem Enc.eqv_dec [DecidableEq α] (h : Enc e k) (a b : α) : PyData.eqv (e a) (e b) = decide (a = b) := by
  rw [Bool.eq_iff_iff, h.eq, decide_eq_true_iff]
theorem Enc.cEq [DecidableEq α] (h : Enc e k) (hk : k ≤ 64) (a b : α) : evCmp .Eq (.d (e a)) (.d (e b)) = some (decide (a = b)) := by
  rw [q_eq, h.shp hk, h.shp hk, h.eqv_dec]
  rfl
theorem Enc.cNe [DecidableEq α] (h : Enc e k) (hk : k ≤ 64) (a b : α) : evCmp .NotEq (.d (e a)) (.d (e b)) = some (!decide (a = b)) := by
  rw [q_ne, h.shp hk, h.shp hk, h.eqv_dec]
  rfl
theorem Enc.cIn [DecidableEq α] (h : Enc e k) (hk : k + 1 ≤ 64) (a : α) (l : List α) : evIn (e a) (.list (l.map e)) = some (decide (a ∈ l)) := by
  show (if Ar.shp (e a) && Ar.shp (.list (l.map e)) then some ((l.map e).any fun z => PyData.eqv z (e a)) else none) = _
  rw [h.shp (by omega), h.lst.shp hk l, List.any_map]
  refine congrArg some ?_
  rw [Bool.eq_iff_iff, List.any_eq_true, decide_eq_true_iff]
  constructor
  · rintro ⟨x, hx, q⟩
    rw [← (h.eq x a).mp q]
    exact hx
  · intro q
    exact ⟨a, q, (h.eq a a).mpr rfl⟩
end
theorem encRow : Enc rowD 1 := encI.tup
theorem encTab : Enc tabD 2 := encRow.tup
theorem encTabs : Enc (fun l : List (List (List Nat)) => PyData.list (l.map tabD)) 3 := encTab.lst
theorem lay_of {α : Type} {e : α → D} : ∀ l : List α, (∀ x ∈ l, (e x).canLay0 = true) → PyData.canLayAll0 (l.map e) = true
  | [], _ => rfl
  | x :: l, h => by
    show ((e x).canLay0 && PyData.canLayAll0 (l.map e)) = true
    rw [h x List.mem_cons_self, lay_of l fun y hy => h y (List.mem_cons_of_mem _ hy)]
    rfl
theorem dep_of {α : Type} {e : α → D} {k : Nat} : ∀ l : List α, (∀ x ∈ l, (e x).depth ≤ k) → PyData.depthAll (l.map e) ≤ k
  | [], _ => Nat.zero_le _
  | x :: l, h => Nat.max_le.mpr ⟨h x List.mem_cons_self, dep_of l fun y hy => h y (List.mem_cons_of_mem _ hy)⟩
theorem eqv_nil : ∀ xs : List D, PyData.eqv (.list xs) (.list []) = xs.isEmpty
  | [] => rfl
  | _ :: _ => rfl
theorem ne_nil {α : Type} {e : α → D} {l : List α} (h1 : ∀ x ∈ l, (e x).canLay0 = true) (h2 : ∀ x ∈ l, (e x).depth ≤ 60) : evCmp .NotEq (.d (.list (l.map e))) (.d (.list [])) = some (!l.isEmpty) := by
  rw [q_ne, shp_of (d := .list (l.map e)) (k := 61) (lay_of l h1) (Nat.succ_le_succ (dep_of l h2)) (by omega), shp_of (d := .list []) (k := 1) rfl (Nat.le_refl _) (by omega), eqv_nil]
  cases l <;> rfl
theorem eq_nil {α : Type} {e : α → D} {l : List α} (h1 : ∀ x ∈ l, (e x).canLay0 = true) (h2 : ∀ x ∈ l, (e x).depth ≤ 60) : evCmp .Eq (.d (.list (l.map e))) (.d (.list [])) = some l.isEmpty := by
  rw [q_eq, shp_of (d := .list (l.map e)) (k := 61) (lay_of l h1) (Nat.succ_le_succ (dep_of l h2)) (by omega), shp_of (d := .list []) (k := 1) rfl (Nat.le_refl _) (by omega), eqv_nil]
  cases l <;> rfl
theorem isEmpty_filter {α : Type} (p : α → Bool) : ∀ l : List α, (l.filter p).isEmpty = !l.any p
  | [] => rfl
  | x :: l => by
    rw [List.filter_cons, List.any_cons]
    cases hp : p x with
    | true => rfl
    | false => exact isEmpty_filter p l
section
variable {G : Gd} {f : Ix}
def onto (n : Nat) (R : Nat → Nat → Bool) (r : List Nat) : List Nat := (List.range n).filter fun j => r.any fun i => R i j
def S_onto (P : F) : Prop := ∀ (n : Nat) R (r : List Nat) s, n ≤ 6 → (∀ x ∈ r, x < n) → P [.d (tabD (T n R)), .d (rowD r)] s = .ok (.d (rowD (onto n R r))) s
theorem p_onto : S_onto (callD G (x_law_onto f)) := by
  intro n R r s hn hr
  let I : Nat → Ar.Env → Sto → Prop := fun k ρ s1 => s1 = s ∧ ∃ w, ρ = [.v (.d (tabD (T n R))), .v (.d (rowD r)), .own (((List.range k).filter fun j => r.any fun i => R i j).map iv), w, .un]
  obtain ⟨ρ1, s1, l1, z1, w, z2⟩ := forO_rng (f := fun x ρ s => oOut (bindTg [3] false x ρ) fun ρ1 => exs G [.ifs (.cmp .NotEq (.comp (.int 1) [4] false 0 [.var 1] [.cmp .In (.var 3) (.idx (.var 0) (.var 4))] [4]) (.lst [])) [.append 2 (.var 3)] []] ρ1 s) (h := iv) (r := n) I (by
    rintro k hk ρ s1 ⟨rfl, w, rfl⟩
    have e1 := comp_pure (G := G) (elt := .int 1) (tg := [4]) (tt := false) (ik := 0) (its := [.var 1]) (ifs := [.cmp .In (.var 3) (.idx (.var 0) (.var 4))]) (own := [4]) (ρ := [.v (.d (tabD (T n R))), .v (.d (rowD r)), .own (((List.range k).filter fun j => r.any fun i => R i j).map iv), .v (.d (iv k)), .un]) (s := s1) (s1 := s1) (vs := [.d (rowD r)]) (l := r) (h := iv) (fun i => R i k) (fun _ => .int 1) (fun i => [.v (.d (tabD (T n R))), .v (.d (rowD r)), .un, .v (.d (iv k)), .v (.d (iv i))]) (by simp only [callD, exs, ex, ev, evL, evTs, q_bo, q_bx, q_no, q_op, q_uo, q_ux, q_on, q_or, q_ox, q_oo, q_tn, q_tb, q_ti, q_tl, q_tt, q_ab, q_ai, q_ad, q_add, q_sub, q_att, q_all, q_ass, q_mlk, q_mtk, q_lt, q_le, q_gt, q_ge, q_eqi, q_in, q_ni, q_is, q_isn, q_ofb, q_ixl, q_ixt, q_ixs, q_sll, q_slt, q_b0, q_b1, q_s0, q_s1, q_s2, q_s3, q_s4, q_s5, q_f1, q_f2, q_f3, q_f4, q_f5, q_f6, q_f7, q_f8, q_f9, q_fa, q_fb, q_fc, q_fd, q_fe, q_i0l, q_i0t, q_i1, q_i2, q_i3, q_i4, q_i5, q_t1, q_t2, q_ads0, q_ads, q_sv0, q_sv, List.map_cons, List.map_nil, List.length_cons, List.length_nil, List.getElem?_cons_zero, List.getElem?_cons_succ, List.cons_append, List.nil_append, Option.map_some, Option.map_none, Option.bind_some, if_true, if_false, Bool.false_eq_true, List.replicate, List.set_cons_zero, List.set_cons_succ, blkE, dropE, wipeE, beq_self_eq_true, Bool.not_true, Bool.not_false, Bool.true_or, Bool.false_or, Bool.or_true, Bool.or_false, Bool.and_true, Bool.true_and]) q_i0t (fun a _ => rfl) (fun i hi => by
      have hi' := hr i hi
      simp only [callD, exs, ex, ev, evL, evTs, q_bo, q_bx, q_no, q_op, q_uo, q_ux, q_on, q_or, q_ox, q_oo, q_tn, q_tb, q_ti, q_tl, q_tt, q_ab, q_ai, q_ad, q_add, q_sub, q_att, q_all, q_ass, q_mlk, q_mtk, q_lt, q_le, q_gt, q_ge, q_eqi, q_in, q_ni, q_is, q_isn, q_ofb, q_ixl, q_ixt, q_ixs, q_sll, q_slt, q_b0, q_b1, q_s0, q_s1, q_s2, q_s3, q_s4, q_s5, q_f1, q_f2, q_f3, q_f4, q_f5, q_f6, q_f7, q_f8, q_f9, q_fa, q_fb, q_fc, q_fd, q_fe, q_i0l, q_i0t, q_i1, q_i2, q_i3, q_i4, q_i5, q_t1, q_t2, q_ads0, q_ads, q_sv0, q_sv, List.map_cons, List.map_nil, List.length_cons, List.length_nil, List.getElem?_cons_zero, List.getElem?_cons_succ, List.cons_append, List.nil_append, Option.map_some, Option.map_none, Option.bind_some, if_true, if_false, Bool.false_eq_true, List.replicate, List.set_cons_zero, List.set_cons_succ, blkE, dropE, wipeE, beq_self_eq_true, Bool.not_true, Bool.not_false, Bool.true_or, Bool.false_or, Bool.or_true, Bool.or_false, Bool.and_true, Bool.true_and, iv, idx_row hi', in_rowR hk]
      cases R i k <;> rfl) (fun i _ _ => by simp only [callD, exs, ex, ev, evL, evTs, q_bo, q_bx, q_no, q_op, q_uo, q_ux, q_on, q_or, q_ox, q_oo, q_tn, q_tb, q_ti, q_tl, q_tt, q_ab, q_ai, q_ad, q_add, q_sub, q_att, q_all, q_ass, q_mlk, q_mtk, q_lt, q_le, q_gt, q_ge, q_eqi, q_in, q_ni, q_is, q_isn, q_ofb, q_ixl, q_ixt, q_ixs, q_sll, q_slt, q_b0, q_b1, q_s0, q_s1, q_s2, q_s3, q_s4, q_s5, q_f1, q_f2, q_f3, q_f4, q_f5, q_f6, q_f7, q_f8, q_f9, q_fa, q_fb, q_fc, q_fd, q_fe, q_i0l, q_i0t, q_i1, q_i2, q_i3, q_i4, q_i5, q_t1, q_t2, q_ads0, q_ads, q_sv0, q_sv, List.map_cons, List.map_nil, List.length_cons, List.length_nil, List.getElem?_cons_zero, List.getElem?_cons_succ, List.cons_append, List.nil_append, Option.map_some, Option.map_none, Option.bind_some, if_true, if_false, Bool.false_eq_true, List.replicate, List.set_cons_zero, List.set_cons_succ, blkE, dropE, wipeE, beq_self_eq_true, Bool.not_true, Bool.not_false, Bool.true_or, Bool.false_or, Bool.or_true, Bool.or_false, Bool.and_true, Bool.true_and])
    have e2 : ev G (.cmp .NotEq (.comp (.int 1) [4] false 0 [.var 1] [.cmp .In (.var 3) (.idx (.var 0) (.var 4))] [4]) (.lst [])) [.v (.d (tabD (T n R))), .v (.d (rowD r)), .own (((List.range k).filter fun j => r.any fun i => R i j).map iv), .v (.d (iv k)), .un] s1 = .ok (.d (.bool (r.any fun i => R i k))) s1 := by
      have e3 : ∀ ρ s, ev G (.lst []) ρ s = .ok (.d (.list [])) s := fun ρ s => by simp only [callD, exs, ex, ev, evL, evTs, q_bo, q_bx, q_no, q_op, q_uo, q_ux, q_on, q_or, q_ox, q_oo, q_tn, q_tb, q_ti, q_tl, q_tt, q_ab, q_ai, q_ad, q_add, q_sub, q_att, q_all, q_ass, q_mlk, q_mtk, q_lt, q_le, q_gt, q_ge, q_eqi, q_in, q_ni, q_is, q_isn, q_ofb, q_ixl, q_ixt, q_ixs, q_sll, q_slt, q_b0, q_b1, q_s0, q_s1, q_s2, q_s3, q_s4, q_s5, q_f1, q_f2, q_f3, q_f4, q_f5, q_f6, q_f7, q_f8, q_f9, q_fa, q_fb, q_fc, q_fd, q_fe, q_i0l, q_i0t, q_i1, q_i2, q_i3, q_i4, q_i5, q_t1, q_t2, q_ads0, q_ads, q_sv0, q_sv, List.map_cons, List.map_nil, List.length_cons, List.length_nil, List.getElem?_cons_zero, List.getElem?_cons_succ, List.cons_append, List.nil_append, Option.map_some, Option.map_none, Option.bind_some, if_true, if_false, Bool.false_eq_true, List.replicate, List.set_cons_zero, List.set_cons_succ, blkE, dropE, wipeE, beq_self_eq_true, Bool.not_true, Bool.not_false, Bool.true_or, Bool.false_or, Bool.or_true, Bool.or_false, Bool.and_true, Bool.true_and]
      rw [show ∀ (op : CmpOp) (a b : C) (ρ : Ar.Env) (s : Sto), ev G (.cmp op a b) ρ s = (ev G a ρ s).bind fun x s1 => (ev G b ρ s1).bind fun y s2 => Res.opt (ofB (evCmp op x y)) s2 from fun op a b ρ s => by simp only [ev]]
      rw [e1, q_bo, e3, q_bo, ne_nil (fun _ _ => rfl) (fun _ _ => Nat.zero_le _), isEmpty_filter, Bool.not_not]
      rfl
    rw [q_t1, q_oo]
    refine ⟨[.v (.d (tabD (T n R))), .v (.d (rowD r)), .own (((List.range (k + 1)).filter fun j => r.any fun i => R i j).map iv), .v (.d (iv k)), .un], s1, ?_, rfl, _, rfl⟩
    refine exs_if (s2 := s1) e2 rfl ?_ exs_e
    rw [List.range_succ, List.filter_append, List.map_append]
    cases hq : r.any fun i => R i k with
    | false => simp [exs, hq]
    | true =>
      refine exs_n (exApp rfl (by simp only [callD, exs, ex, ev, evL, evTs, q_bo, q_bx, q_no, q_op, q_uo, q_ux, q_on, q_or, q_ox, q_oo, q_tn, q_tb, q_ti, q_tl, q_tt, q_ab, q_ai, q_ad, q_add, q_sub, q_att, q_all, q_ass, q_mlk, q_mtk, q_lt, q_le, q_gt, q_ge, q_eqi, q_in, q_ni, q_is, q_isn, q_ofb, q_ixl, q_ixt, q_ixs, q_sll, q_slt, q_b0, q_b1, q_s0, q_s1, q_s2, q_s3, q_s4, q_s5, q_f1, q_f2, q_f3, q_f4, q_f5, q_f6, q_f7, q_f8, q_f9, q_fa, q_fb, q_fc, q_fd, q_fe, q_i0l, q_i0t, q_i1, q_i2, q_i3, q_i4, q_i5, q_t1, q_t2, q_ads0, q_ads, q_sv0, q_sv, List.map_cons, List.map_nil, List.length_cons, List.length_nil, List.getElem?_cons_zero, List.getElem?_cons_succ, List.cons_append, List.nil_append, Option.map_some, Option.map_none, Option.bind_some, if_true, if_false, Bool.false_eq_true, List.replicate, List.set_cons_zero, List.set_cons_succ, blkE, dropE, wipeE, beq_self_eq_true, Bool.not_true, Bool.not_false, Bool.true_or, Bool.false_or, Bool.or_true, Bool.or_false, Bool.and_true, Bool.true_and]; rfl) ?_) ?_
      · rw [List.length_map, sizeLine_eq]
        have := row_len (n := k) fun j => r.any fun i => R i j
        omega
      · rw [exs_e, show [k].filter (fun j => r.any fun i => R i j) = [k] from by simp [hq]]
        rfl) (ρ := [.v (.d (tabD (T n R))), .v (.d (rowD r)), .own [], .un, .un]) (s := s) ⟨rfl, .un, rfl⟩
  subst z1 z2
  refine callR [.v (.d (tabD (T n R))), .v (.d (rowD r)), .un, .un, .un] rfl rfl ?_
  refine exs_n (exOwn (vs := []) (ds := []) (s1 := s1) (by simp only [evL]) rfl) ?_
  refine exs_n ((ex_fors (vs := [.d (.int n)]) (s1 := s1) (by simp only [tabD, callD, exs, ex, ev, evL, evTs, q_bo, q_bx, q_no, q_op, q_uo, q_ux, q_on, q_or, q_ox, q_oo, q_tn, q_tb, q_ti, q_tl, q_tt, q_ab, q_ai, q_ad, q_add, q_sub, q_att, q_all, q_ass, q_mlk, q_mtk, q_lt, q_le, q_gt, q_ge, q_eqi, q_in, q_ni, q_is, q_isn, q_ofb, q_ixl, q_ixt, q_ixs, q_sll, q_slt, q_b0, q_b1, q_s0, q_s1, q_s2, q_s3, q_s4, q_s5, q_f1, q_f2, q_f3, q_f4, q_f5, q_f6, q_f7, q_f8, q_f9, q_fa, q_fb, q_fc, q_fd, q_fe, q_i0l, q_i0t, q_i1, q_i2, q_i3, q_i4, q_i5, q_t1, q_t2, q_ads0, q_ads, q_sv0, q_sv, List.map_cons, List.map_nil, List.length_cons, List.length_nil, List.getElem?_cons_zero, List.getElem?_cons_succ, List.cons_append, List.nil_append, Option.map_some, Option.map_none, Option.bind_some, if_true, if_false, Bool.false_eq_true, List.replicate, List.set_cons_zero, List.set_cons_succ, blkE, dropE, wipeE, beq_self_eq_true, Bool.not_true, Bool.not_false, Bool.true_or, Bool.false_or, Bool.or_true, Bool.or_false, Bool.and_true, Bool.true_and, List.length_map, T_len]) (i1_ok (by omega))).trans l1) ?_
  refine exs_n (exFrz rfl) ?_
  refine exs_r (exR ?_)
  simp only [callD, exs, ex, ev, evL, evTs, q_bo, q_bx, q_no, q_op, q_uo, q_ux, q_on, q_or, q_ox, q_oo, q_tn, q_tb, q_ti, q_tl, q_tt, q_ab, q_ai, q_ad, q_add, q_sub, q_att, q_all, q_ass, q_mlk, q_mtk, q_lt, q_le, q_gt, q_ge, q_eqi, q_in, q_ni, q_is, q_isn, q_ofb, q_ixl, q_ixt, q_ixs, q_sll, q_slt, q_b0, q_b1, q_s0, q_s1, q_s2, q_s3, q_s4, q_s5, q_f1, q_f2, q_f3, q_f4, q_f5, q_f6, q_f7, q_f8, q_f9, q_fa, q_fb, q_fc, q_fd, q_fe, q_i0l, q_i0t, q_i1, q_i2, q_i3, q_i4, q_i5, q_t1, q_t2, q_ads0, q_ads, q_sv0, q_sv, List.map_cons, List.map_nil, List.length_cons, List.length_nil, List.getElem?_cons_zero, List.getElem?_cons_succ, List.cons_append, List.nil_append, Option.map_some, Option.map_none, Option.bind_some, if_true, if_false, Bool.false_eq_true, List.replicate, List.set_cons_zero, List.set_cons_succ, blkE, dropE, wipeE, beq_self_eq_true, Bool.not_true, Bool.not_false, Bool.true_or, Bool.false_or, Bool.or_true, Bool.or_false, Bool.and_true, Bool.true_and]
  rfl
def S_step (P : F) : Prop := ∀ (n : Nat) R S s, n ≤ 6 → P [.d (tabD (T n R)), .d (tabD (T n S))] s = .ok (.d (tabD (T n (comp n R S)))) s
theorem row_any {n : Nat} {R S : Nat → Nat → Bool} (i : Nat) : onto n S (row n R i) = row n (comp n R S) i := by
  unfold onto row comp
  refine List.filter_congr fun j _ => ?_
  rw [Bool.eq_iff_iff, List.any_eq_true, List.any_eq_true]
  constructor
  · rintro ⟨h, h1, h2⟩
    obtain ⟨h3, h4⟩ := List.mem_filter.mp h1
    exact ⟨h, h3, by rw [h4, h2]; rfl⟩
  · rintro ⟨h, h1, h2⟩
    rw [Bool.and_eq_true] at h2
    exact ⟨h, List.mem_filter.mpr ⟨h1, h2.1⟩, h2.2⟩
theorem p_step (o : S_onto (G.fn f.law_onto)) : S_step (callD G (x_law_step f)) := by
  intro n R S s hn
  let I : Nat → Ar.Env → Sto → Prop := fun k ρ s1 => s1 = s ∧ ∃ w, ρ = [.v (.d (tabD (T n R))), .v (.d (tabD (T n S))), .v (.d (.tuple ((List.range k).map fun i => rowD (row n (comp n R S) i)))), w]
  obtain ⟨ρ1, s1, l1, z1, w, z2⟩ := forO_rng (f := fun x ρ s => oOut (bindTg [3] false x ρ) fun ρ1 => exs G [.set 2 (.bin .Add (.var 2) (.tup [.call f.law_onto [.var 1, .var 3]]))] ρ1 s) (h := fun i => rowD (row n R i)) (r := n) I (by
    rintro k hk ρ s1 ⟨rfl, w, rfl⟩
    have e1 := o n S (row n R k) s1 hn fun x hx => (mem_row.mp hx).1
    rw [row_any] at e1
    have e2 : lineB (((List.range k).map fun i => rowD (row n (comp n R S) i)).length + (0 + 1)) = true := by
      unfold lineB
      rw [List.length_map, List.length_range]
      exact decide_eq_true (by rw [sizeLine_eq]; omega)
    refine ⟨[.v (.d (tabD (T n R))), .v (.d (tabD (T n S))), .v (.d (.tuple ((List.range (k + 1)).map fun i => rowD (row n (comp n R S) i)))), .v (.d (rowD (row n R k)))], s1, ?_, rfl, _, rfl⟩
    rw [q_t1, q_oo]
    refine exs_n (exS (x := .d (.tuple ((List.range (k + 1)).map fun i => rowD (row n (comp n R S) i)))) (s1 := s1) ?_) exs_e
    rw [List.range_succ, List.map_append]
    simp only [callD, exs, ex, ev, evL, evTs, q_bo, q_bx, q_no, q_op, q_uo, q_ux, q_on, q_or, q_ox, q_oo, q_tn, q_tb, q_ti, q_tl, q_tt, q_ab, q_ai, q_ad, q_add, q_sub, q_att, q_all, q_ass, q_mlk, q_mtk, q_lt, q_le, q_gt, q_ge, q_eqi, q_in, q_ni, q_is, q_isn, q_ofb, q_ixl, q_ixt, q_ixs, q_sll, q_slt, q_b0, q_b1, q_s0, q_s1, q_s2, q_s3, q_s4, q_s5, q_f1, q_f2, q_f3, q_f4, q_f5, q_f6, q_f7, q_f8, q_f9, q_fa, q_fb, q_fc, q_fd, q_fe, q_i0l, q_i0t, q_i1, q_i2, q_i3, q_i4, q_i5, q_t1, q_t2, q_ads0, q_ads, q_sv0, q_sv, List.map_cons, List.map_nil, List.length_cons, List.length_nil, List.getElem?_cons_zero, List.getElem?_cons_succ, List.cons_append, List.nil_append, Option.map_some, Option.map_none, Option.bind_some, if_true, if_false, Bool.false_eq_true, List.replicate, List.set_cons_zero, List.set_cons_succ, blkE, dropE, wipeE, beq_self_eq_true, Bool.not_true, Bool.not_false, Bool.true_or, Bool.false_or, Bool.or_true, Bool.or_false, Bool.and_true, Bool.true_and, e1, e2]) (ρ := [.v (.d (tabD (T n R))), .v (.d (tabD (T n S))), .v (.d (.tuple [])), .un]) (s := s) ⟨rfl, .un, rfl⟩
  subst z1 z2
  refine callR [.v (.d (tabD (T n R))), .v (.d (tabD (T n S))), .un, .un] rfl rfl ?_
  refine exs_n (exS (x := .d (.tuple [])) (s1 := s1) (by simp only [callD, exs, ex, ev, evL, evTs, q_bo, q_bx, q_no, q_op, q_uo, q_ux, q_on, q_or, q_ox, q_oo, q_tn, q_tb, q_ti, q_tl, q_tt, q_ab, q_ai, q_ad, q_add, q_sub, q_att, q_all, q_ass, q_mlk, q_mtk, q_lt, q_le, q_gt, q_ge, q_eqi, q_in, q_ni, q_is, q_isn, q_ofb, q_ixl, q_ixt, q_ixs, q_sll, q_slt, q_b0, q_b1, q_s0, q_s1, q_s2, q_s3, q_s4, q_s5, q_f1, q_f2, q_f3, q_f4, q_f5, q_f6, q_f7, q_f8, q_f9, q_fa, q_fb, q_fc, q_fd, q_fe, q_i0l, q_i0t, q_i1, q_i2, q_i3, q_i4, q_i5, q_t1, q_t2, q_ads0, q_ads, q_sv0, q_sv, List.map_cons, List.map_nil, List.length_cons, List.length_nil, List.getElem?_cons_zero, List.getElem?_cons_succ, List.cons_append, List.nil_append, Option.map_some, Option.map_none, Option.bind_some, if_true, if_false, Bool.false_eq_true, List.replicate, List.set_cons_zero, List.set_cons_succ, blkE, dropE, wipeE, beq_self_eq_true, Bool.not_true, Bool.not_false, Bool.true_or, Bool.false_or, Bool.or_true, Bool.or_false, Bool.and_true, Bool.true_and])) ?_
  have e3 : evItems 0 [.d (tabD (T n R))] = some ((List.range n).map fun i => rowD (row n R i)) := by
    unfold tabD
    rw [q_i0t, T_rows]
    rfl
  refine exs_n ((ex_fors (vs := [.d (tabD (T n R))]) (s1 := s1) (by simp only [callD, exs, ex, ev, evL, evTs, q_bo, q_bx, q_no, q_op, q_uo, q_ux, q_on, q_or, q_ox, q_oo, q_tn, q_tb, q_ti, q_tl, q_tt, q_ab, q_ai, q_ad, q_add, q_sub, q_att, q_all, q_ass, q_mlk, q_mtk, q_lt, q_le, q_gt, q_ge, q_eqi, q_in, q_ni, q_is, q_isn, q_ofb, q_ixl, q_ixt, q_ixs, q_sll, q_slt, q_b0, q_b1, q_s0, q_s1, q_s2, q_s3, q_s4, q_s5, q_f1, q_f2, q_f3, q_f4, q_f5, q_f6, q_f7, q_f8, q_f9, q_fa, q_fb, q_fc, q_fd, q_fe, q_i0l, q_i0t, q_i1, q_i2, q_i3, q_i4, q_i5, q_t1, q_t2, q_ads0, q_ads, q_sv0, q_sv, List.map_cons, List.map_nil, List.length_cons, List.length_nil, List.getElem?_cons_zero, List.getElem?_cons_succ, List.cons_append, List.nil_append, Option.map_some, Option.map_none, Option.bind_some, if_true, if_false, Bool.false_eq_true, List.replicate, List.set_cons_zero, List.set_cons_succ, blkE, dropE, wipeE, beq_self_eq_true, Bool.not_true, Bool.not_false, Bool.true_or, Bool.false_or, Bool.or_true, Bool.or_false, Bool.and_true, Bool.true_and]) e3).trans l1) ?_
  refine exs_r (exR ?_)
  simp only [callD, exs, ex, ev, evL, evTs, q_bo, q_bx, q_no, q_op, q_uo, q_ux, q_on, q_or, q_ox, q_oo, q_tn, q_tb, q_ti, q_tl, q_tt, q_ab, q_ai, q_ad, q_add, q_sub, q_att, q_all, q_ass, q_mlk, q_mtk, q_lt, q_le, q_gt, q_ge, q_eqi, q_in, q_ni, q_is, q_isn, q_ofb, q_ixl, q_ixt, q_ixs, q_sll, q_slt, q_b0, q_b1, q_s0, q_s1, q_s2, q_s3, q_s4, q_s5, q_f1, q_f2, q_f3, q_f4, q_f5, q_f6, q_f7, q_f8, q_f9, q_fa, q_fb, q_fc, q_fd, q_fe, q_i0l, q_i0t, q_i1, q_i2, q_i3, q_i4, q_i5, q_t1, q_t2, q_ads0, q_ads, q_sv0, q_sv, List.map_cons, List.map_nil, List.length_cons, List.length_nil, List.getElem?_cons_zero, List.getElem?_cons_succ, List.cons_append, List.nil_append, Option.map_some, Option.map_none, Option.bind_some, if_true, if_false, Bool.false_eq_true, List.replicate, List.set_cons_zero, List.set_cons_succ, blkE, dropE, wipeE, beq_self_eq_true, Bool.not_true, Bool.not_false, Bool.true_or, Bool.false_or, Bool.or_true, Bool.or_false, Bool.and_true, Bool.true_and, tabD]
  rw [T_rows]
  rfl
theorem p_still : S_nothing (callD G (x_law_still f)) := p_nothing (f := f)
def S_walked (P : F) : Prop := ∀ (n : Nat) R (m : Nat) s, n ≤ 6 → m ≤ 1000 → P [.d (tabD (T n R)), .d (.int m)] s = .ok (.d (.list (Ts n R m))) s
theorem p_walked (z : S_nothing (G.fn f.law_still)) (t : S_step (G.fn f.law_step)) : S_walked (callD G (x_law_walked f)) := by
  intro n R m s hn hm
  let I : Nat → Ar.Env → Sto → Prop := fun k ρ s1 => s1 = s ∧ ∃ w, ρ = [.v (.d (tabD (T n R))), .v (.d (.int m)), .own (Ts n R k), w]
  obtain ⟨ρ1, s1, l1, z1, w, z2⟩ := forO_rng (f := fun x ρ s => oOut (bindTg [3] false x ρ) fun ρ1 => exs G [.append 2 (.call f.law_step [.var 0, .oidx 2 (.neg (.int 1))])] ρ1 s) (h := iv) (r := m) I (by
    rintro k hk ρ s1 ⟨rfl, w, rfl⟩
    refine ⟨[.v (.d (tabD (T n R))), .v (.d (.int m)), .own (Ts n R (k + 1)), .v (.d (iv k))], s1, ?_, rfl, _, rfl⟩
    have ta : ∀ s, G.fn f.law_step [.d (tabD (T n R)), .d (tabD (T n (pw n R k)))] s = .ok (.d (tabD (T n (pw n R (k + 1))))) s := fun s => t n _ _ s hn
    have lt : (Ts n R k).length < sizeLine := by rw [Ts_len, sizeLine_eq]; omega
    simp only [callD, exs, ex, ev, evL, evTs, q_bo, q_bx, q_no, q_op, q_uo, q_ux, q_on, q_or, q_ox, q_oo, q_tn, q_tb, q_ti, q_tl, q_tt, q_ab, q_ai, q_ad, q_add, q_sub, q_att, q_all, q_ass, q_mlk, q_mtk, q_lt, q_le, q_gt, q_ge, q_eqi, q_in, q_ni, q_is, q_isn, q_ofb, q_ixl, q_ixt, q_ixs, q_sll, q_slt, q_b0, q_b1, q_s0, q_s1, q_s2, q_s3, q_s4, q_s5, q_f1, q_f2, q_f3, q_f4, q_f5, q_f6, q_f7, q_f8, q_f9, q_fa, q_fb, q_fc, q_fd, q_fe, q_i0l, q_i0t, q_i1, q_i2, q_i3, q_i4, q_i5, q_t1, q_t2, q_ads0, q_ads, q_sv0, q_sv, List.map_cons, List.map_nil, List.length_cons, List.length_nil, List.getElem?_cons_zero, List.getElem?_cons_succ, List.cons_append, List.nil_append, Option.map_some, Option.map_none, Option.bind_some, if_true, if_false, Bool.false_eq_true, List.replicate, List.set_cons_zero, List.set_cons_succ, blkE, dropE, wipeE, beq_self_eq_true, Bool.not_true, Bool.not_false, Bool.true_or, Bool.false_or, Bool.or_true, Bool.or_false, Bool.and_true, Bool.true_and, Ts_last, ta, lt, Ts_succ]) (ρ := [.v (.d (tabD (T n R))), .v (.d (.int m)), .own (Ts n R 0), .un]) (s := s) ⟨rfl, .un, rfl⟩
  subst z1 z2
  refine callR [.v (.d (tabD (T n R))), .v (.d (.int m)), .un, .un] rfl rfl ?_
  have e3 : G.fn f.law_still [.d (.int n)] s1 = .ok (.d (tabD (T n (pw n R 0)))) s1 := z n s1 hn
  have e4 : ev G (.bf .len [.var 0]) [.v (.d (tabD (T n R))), .v (.d (.int m)), .un, .un] s1 = .ok (.d (.int n)) s1 := by
    simp only [tabD, callD, exs, ex, ev, evL, evTs, q_bo, q_bx, q_no, q_op, q_uo, q_ux, q_on, q_or, q_ox, q_oo, q_tn, q_tb, q_ti, q_tl, q_tt, q_ab, q_ai, q_ad, q_add, q_sub, q_att, q_all, q_ass, q_mlk, q_mtk, q_lt, q_le, q_gt, q_ge, q_eqi, q_in, q_ni, q_is, q_isn, q_ofb, q_ixl, q_ixt, q_ixs, q_sll, q_slt, q_b0, q_b1, q_s0, q_s1, q_s2, q_s3, q_s4, q_s5, q_f1, q_f2, q_f3, q_f4, q_f5, q_f6, q_f7, q_f8, q_f9, q_fa, q_fb, q_fc, q_fd, q_fe, q_i0l, q_i0t, q_i1, q_i2, q_i3, q_i4, q_i5, q_t1, q_t2, q_ads0, q_ads, q_sv0, q_sv, List.map_cons, List.map_nil, List.length_cons, List.length_nil, List.getElem?_cons_zero, List.getElem?_cons_succ, List.cons_append, List.nil_append, Option.map_some, Option.map_none, Option.bind_some, if_true, if_false, Bool.false_eq_true, List.replicate, List.set_cons_zero, List.set_cons_succ, blkE, dropE, wipeE, beq_self_eq_true, Bool.not_true, Bool.not_false, Bool.true_or, Bool.false_or, Bool.or_true, Bool.or_false, Bool.and_true, Bool.true_and, List.length_map, T_len]
  refine exs_n (exOwn (ds := Ts n R 0) (evL1 (evC (evL1 e4) e3)) rfl) ?_
  refine exs_n ((ex_fors (vs := [.d (.int m)]) (s1 := s1) (by simp only [callD, exs, ex, ev, evL, evTs, q_bo, q_bx, q_no, q_op, q_uo, q_ux, q_on, q_or, q_ox, q_oo, q_tn, q_tb, q_ti, q_tl, q_tt, q_ab, q_ai, q_ad, q_add, q_sub, q_att, q_all, q_ass, q_mlk, q_mtk, q_lt, q_le, q_gt, q_ge, q_eqi, q_in, q_ni, q_is, q_isn, q_ofb, q_ixl, q_ixt, q_ixs, q_sll, q_slt, q_b0, q_b1, q_s0, q_s1, q_s2, q_s3, q_s4, q_s5, q_f1, q_f2, q_f3, q_f4, q_f5, q_f6, q_f7, q_f8, q_f9, q_fa, q_fb, q_fc, q_fd, q_fe, q_i0l, q_i0t, q_i1, q_i2, q_i3, q_i4, q_i5, q_t1, q_t2, q_ads0, q_ads, q_sv0, q_sv, List.map_cons, List.map_nil, List.length_cons, List.length_nil, List.getElem?_cons_zero, List.getElem?_cons_succ, List.cons_append, List.nil_append, Option.map_some, Option.map_none, Option.bind_some, if_true, if_false, Bool.false_eq_true, List.replicate, List.set_cons_zero, List.set_cons_succ, blkE, dropE, wipeE, beq_self_eq_true, Bool.not_true, Bool.not_false, Bool.true_or, Bool.false_or, Bool.or_true, Bool.or_false, Bool.and_true, Bool.true_and]) (i1_ok (by omega))).trans l1) ?_
  refine exs_n (exFrz rfl) ?_
  refine exs_r (exR ?_)
  simp only [callD, exs, ex, ev, evL, evTs, q_bo, q_bx, q_no, q_op, q_uo, q_ux, q_on, q_or, q_ox, q_oo, q_tn, q_tb, q_ti, q_tl, q_tt, q_ab, q_ai, q_ad, q_add, q_sub, q_att, q_all, q_ass, q_mlk, q_mtk, q_lt, q_le, q_gt, q_ge, q_eqi, q_in, q_ni, q_is, q_isn, q_ofb, q_ixl, q_ixt, q_ixs, q_sll, q_slt, q_b0, q_b1, q_s0, q_s1, q_s2, q_s3, q_s4, q_s5, q_f1, q_f2, q_f3, q_f4, q_f5, q_f6, q_f7, q_f8, q_f9, q_fa, q_fb, q_fc, q_fd, q_fe, q_i0l, q_i0t, q_i1, q_i2, q_i3, q_i4, q_i5, q_t1, q_t2, q_ads0, q_ads, q_sv0, q_sv, List.map_cons, List.map_nil, List.length_cons, List.length_nil, List.getElem?_cons_zero, List.getElem?_cons_succ, List.cons_append, List.nil_append, Option.map_some, Option.map_none, Option.bind_some, if_true, if_false, Bool.false_eq_true, List.replicate, List.set_cons_zero, List.set_cons_succ, blkE, dropE, wipeE, beq_self_eq_true, Bool.not_true, Bool.not_false, Bool.true_or, Bool.false_or, Bool.or_true, Bool.or_false, Bool.and_true, Bool.true_and]
def S_far (d : Nat) (P : F) : Prop := ∀ (n : Nat) R (r : Nat) s, n ≤ 6 → r < 2 ^ d → P [.d (tabD (T n R)), .d (.int r)] s = .ok (.d (tabD (T n (pw n R r)))) s
theorem far_zero (z : S_nothing (G.fn f.law_still)) (n : Nat) (R : Nat → Nat → Bool) (s : Sto) (hn : n ≤ 6) : callD G (x_law_far f) [.d (tabD (T n R)), .d (.int (0 : Nat))] s = .ok (.d (tabD (T n (pw n R 0)))) s := by
  refine callR [.v (.d (tabD (T n R))), .v (.d (.int (0 : Nat))), .un, .un] rfl rfl ?_
  refine exs_ifr (t := true) (x := .d (.bool true)) (s1 := s) (by simp only [callD, exs, ex, ev, evL, evTs, q_bo, q_bx, q_no, q_op, q_uo, q_ux, q_on, q_or, q_ox, q_oo, q_tn, q_tb, q_ti, q_tl, q_tt, q_ab, q_ai, q_ad, q_add, q_sub, q_att, q_all, q_ass, q_mlk, q_mtk, q_lt, q_le, q_gt, q_ge, q_eqi, q_in, q_ni, q_is, q_isn, q_ofb, q_ixl, q_ixt, q_ixs, q_sll, q_slt, q_b0, q_b1, q_s0, q_s1, q_s2, q_s3, q_s4, q_s5, q_f1, q_f2, q_f3, q_f4, q_f5, q_f6, q_f7, q_f8, q_f9, q_fa, q_fb, q_fc, q_fd, q_fe, q_i0l, q_i0t, q_i1, q_i2, q_i3, q_i4, q_i5, q_t1, q_t2, q_ads0, q_ads, q_sv0, q_sv, List.map_cons, List.map_nil, List.length_cons, List.length_nil, List.getElem?_cons_zero, List.getElem?_cons_succ, List.cons_append, List.nil_append, Option.map_some, Option.map_none, Option.bind_some, if_true, if_false, Bool.false_eq_true, List.replicate, List.set_cons_zero, List.set_cons_succ, blkE, dropE, wipeE, beq_self_eq_true, Bool.not_true, Bool.not_false, Bool.true_or, Bool.false_or, Bool.or_true, Bool.or_false, Bool.and_true, Bool.true_and]; rfl) rfl ?_
  refine exs_r (exR ?_)
  have e3 : G.fn f.law_still [.d (.int n)] s = .ok (.d (tabD (T n (pw n R 0)))) s := z n s hn
  have e4 : ev G (.bf .len [.var 0]) [.v (.d (tabD (T n R))), .v (.d (.int (0 : Nat))), .un, .un] s = .ok (.d (.int n)) s := by
    simp only [tabD, callD, exs, ex, ev, evL, evTs, q_bo, q_bx, q_no, q_op, q_uo, q_ux, q_on, q_or, q_ox, q_oo, q_tn, q_tb, q_ti, q_tl, q_tt, q_ab, q_ai, q_ad, q_add, q_sub, q_att, q_all, q_ass, q_mlk, q_mtk, q_lt, q_le, q_gt, q_ge, q_eqi, q_in, q_ni, q_is, q_isn, q_ofb, q_ixl, q_ixt, q_ixs, q_sll, q_slt, q_b0, q_b1, q_s0, q_s1, q_s2, q_s3, q_s4, q_s5, q_f1, q_f2, q_f3, q_f4, q_f5, q_f6, q_f7, q_f8, q_f9, q_fa, q_fb, q_fc, q_fd, q_fe, q_i0l, q_i0t, q_i1, q_i2, q_i3, q_i4, q_i5, q_t1, q_t2, q_ads0, q_ads, q_sv0, q_sv, List.map_cons, List.map_nil, List.length_cons, List.length_nil, List.getElem?_cons_zero, List.getElem?_cons_succ, List.cons_append, List.nil_append, Option.map_some, Option.map_none, Option.bind_some, if_true, if_false, Bool.false_eq_true, List.replicate, List.set_cons_zero, List.set_cons_succ, blkE, dropE, wipeE, beq_self_eq_true, Bool.not_true, Bool.not_false, Bool.true_or, Bool.false_or, Bool.or_true, Bool.or_false, Bool.and_true, Bool.true_and, List.length_map, T_len]
  exact evC (evL1 e4) e3
theorem p_far0 (z : S_nothing (G.fn f.law_still)) : S_far 0 (callD G (x_law_far f)) := by
  intro n R r s hn hr
  have : r = 0 := by simpa using hr
  subst this
  exact far_zero z n R s hn
theorem p_far {d : Nat} (z : S_nothing (G.fn f.law_still)) (t : S_step (G.fn f.law_step)) (w : S_far d (G.fn f.law_far)) : S_far (d + 1) (callD G (x_law_far f)) := by
  intro n R r s hn hr
  by_cases h0 : r = 0
  · subst h0
    exact far_zero z n R s hn
  · have hd : r / 2 < 2 ^ d := by
      rw [Nat.pow_succ] at hr
      omega
    have e1 := w n R (r / 2) s hn hd
    have e2 := t n (pw n R (r / 2)) (pw n R (r / 2)) s hn
    rw [T_ext (pw_add n R (r / 2) (r / 2))] at e2
    have e3 := t n (pw n R (r / 2 + r / 2)) R s hn
    have e4 : T n (comp n (pw n R (r / 2 + r / 2)) R) = T n (pw n R (r / 2 + r / 2 + 1)) := by
      rw [← T_ext (pw_add n R (r / 2 + r / 2) 1)]
      exact T_ext ((Eqn.refl n _).comp (pw_one n R).symm)
    rw [e4] at e3
    have ed : (r : Int) / 2 = ((r / 2 : Nat) : Int) := by omega
    refine callR [.v (.d (tabD (T n R))), .v (.d (.int r)), .un, .un] rfl rfl ?_
    refine exs_if0 (x := .d (.bool false)) (s1 := s) (by
      have : decide ((r : Int) = 0) = false := decide_eq_false (by omega)
      simp only [callD, exs, ex, ev, evL, evTs, q_bo, q_bx, q_no, q_op, q_uo, q_ux, q_on, q_or, q_ox, q_oo, q_tn, q_tb, q_ti, q_tl, q_tt, q_ab, q_ai, q_ad, q_add, q_sub, q_att, q_all, q_ass, q_mlk, q_mtk, q_lt, q_le, q_gt, q_ge, q_eqi, q_in, q_ni, q_is, q_isn, q_ofb, q_ixl, q_ixt, q_ixs, q_sll, q_slt, q_b0, q_b1, q_s0, q_s1, q_s2, q_s3, q_s4, q_s5, q_f1, q_f2, q_f3, q_f4, q_f5, q_f6, q_f7, q_f8, q_f9, q_fa, q_fb, q_fc, q_fd, q_fe, q_i0l, q_i0t, q_i1, q_i2, q_i3, q_i4, q_i5, q_t1, q_t2, q_ads0, q_ads, q_sv0, q_sv, List.map_cons, List.map_nil, List.length_cons, List.length_nil, List.getElem?_cons_zero, List.getElem?_cons_succ, List.cons_append, List.nil_append, Option.map_some, Option.map_none, Option.bind_some, if_true, if_false, Bool.false_eq_true, List.replicate, List.set_cons_zero, List.set_cons_succ, blkE, dropE, wipeE, beq_self_eq_true, Bool.not_true, Bool.not_false, Bool.true_or, Bool.false_or, Bool.or_true, Bool.or_false, Bool.and_true, Bool.true_and, this]) rfl ?_
    refine exs_n (exS (x := .d (tabD (T n (pw n R (r / 2))))) (s1 := s) ?_) ?_
    · simp only [callD, exs, ex, ev, evL, evTs, q_bo, q_bx, q_no, q_op, q_uo, q_ux, q_on, q_or, q_ox, q_oo, q_tn, q_tb, q_ti, q_tl, q_tt, q_ab, q_ai, q_ad, q_add, q_sub, q_att, q_all, q_ass, q_mlk, q_mtk, q_lt, q_le, q_gt, q_ge, q_eqi, q_in, q_ni, q_is, q_isn, q_ofb, q_ixl, q_ixt, q_ixs, q_sll, q_slt, q_b0, q_b1, q_s0, q_s1, q_s2, q_s3, q_s4, q_s5, q_f1, q_f2, q_f3, q_f4, q_f5, q_f6, q_f7, q_f8, q_f9, q_fa, q_fb, q_fc, q_fd, q_fe, q_i0l, q_i0t, q_i1, q_i2, q_i3, q_i4, q_i5, q_t1, q_t2, q_ads0, q_ads, q_sv0, q_sv, List.map_cons, List.map_nil, List.length_cons, List.length_nil, List.getElem?_cons_zero, List.getElem?_cons_succ, List.cons_append, List.nil_append, Option.map_some, Option.map_none, Option.bind_some, if_true, if_false, Bool.false_eq_true, List.replicate, List.set_cons_zero, List.set_cons_succ, blkE, dropE, wipeE, beq_self_eq_true, Bool.not_true, Bool.not_false, Bool.true_or, Bool.false_or, Bool.or_true, Bool.or_false, Bool.and_true, Bool.true_and, div_small (show (0 : Int) < 2 by decide) (by decide), ed, e1]
    refine exs_n (exS (x := .d (tabD (T n (pw n R (r / 2 + r / 2))))) (s1 := s) ?_) ?_
    · simp only [callD, exs, ex, ev, evL, evTs, q_bo, q_bx, q_no, q_op, q_uo, q_ux, q_on, q_or, q_ox, q_oo, q_tn, q_tb, q_ti, q_tl, q_tt, q_ab, q_ai, q_ad, q_add, q_sub, q_att, q_all, q_ass, q_mlk, q_mtk, q_lt, q_le, q_gt, q_ge, q_eqi, q_in, q_ni, q_is, q_isn, q_ofb, q_ixl, q_ixt, q_ixs, q_sll, q_slt, q_b0, q_b1, q_s0, q_s1, q_s2, q_s3, q_s4, q_s5, q_f1, q_f2, q_f3, q_f4, q_f5, q_f6, q_f7, q_f8, q_f9, q_fa, q_fb, q_fc, q_fd, q_fe, q_i0l, q_i0t, q_i1, q_i2, q_i3, q_i4, q_i5, q_t1, q_t2, q_ads0, q_ads, q_sv0, q_sv, List.map_cons, List.map_nil, List.length_cons, List.length_nil, List.getElem?_cons_zero, List.getElem?_cons_succ, List.cons_append, List.nil_append, Option.map_some, Option.map_none, Option.bind_some, if_true, if_false, Bool.false_eq_true, List.replicate, List.set_cons_zero, List.set_cons_succ, blkE, dropE, wipeE, beq_self_eq_true, Bool.not_true, Bool.not_false, Bool.true_or, Bool.false_or, Bool.or_true, Bool.or_false, Bool.and_true, Bool.true_and, e2]
    refine exs_r (exR ?_)
    by_cases ho : r % 2 = 1
    · have e5 : decide ((r : Int) % 2 = 1) = true := decide_eq_true (by omega)
      have e6 : r / 2 + r / 2 + 1 = r := by omega
      rw [e6] at e3
      simp only [callD, exs, ex, ev, evL, evTs, q_bo, q_bx, q_no, q_op, q_uo, q_ux, q_on, q_or, q_ox, q_oo, q_tn, q_tb, q_ti, q_tl, q_tt, q_ab, q_ai, q_ad, q_add, q_sub, q_att, q_all, q_ass, q_mlk, q_mtk, q_lt, q_le, q_gt, q_ge, q_eqi, q_in, q_ni, q_is, q_isn, q_ofb, q_ixl, q_ixt, q_ixs, q_sll, q_slt, q_b0, q_b1, q_s0, q_s1, q_s2, q_s3, q_s4, q_s5, q_f1, q_f2, q_f3, q_f4, q_f5, q_f6, q_f7, q_f8, q_f9, q_fa, q_fb, q_fc, q_fd, q_fe, q_i0l, q_i0t, q_i1, q_i2, q_i3, q_i4, q_i5, q_t1, q_t2, q_ads0, q_ads, q_sv0, q_sv, List.map_cons, List.map_nil, List.length_cons, List.length_nil, List.getElem?_cons_zero, List.getElem?_cons_succ, List.cons_append, List.nil_append, Option.map_some, Option.map_none, Option.bind_some, if_true, if_false, Bool.false_eq_true, List.replicate, List.set_cons_zero, List.set_cons_succ, blkE, dropE, wipeE, beq_self_eq_true, Bool.not_true, Bool.not_false, Bool.true_or, Bool.false_or, Bool.or_true, Bool.or_false, Bool.and_true, Bool.true_and, mod_pos (show (0 : Int) < 2 by decide), e5, e3]
    · have e5 : decide ((r : Int) % 2 = 1) = false := decide_eq_false (by omega)
      have e6 : r / 2 + r / 2 = r := by omega
      simp only [callD, exs, ex, ev, evL, evTs, q_bo, q_bx, q_no, q_op, q_uo, q_ux, q_on, q_or, q_ox, q_oo, q_tn, q_tb, q_ti, q_tl, q_tt, q_ab, q_ai, q_ad, q_add, q_sub, q_att, q_all, q_ass, q_mlk, q_mtk, q_lt, q_le, q_gt, q_ge, q_eqi, q_in, q_ni, q_is, q_isn, q_ofb, q_ixl, q_ixt, q_ixs, q_sll, q_slt, q_b0, q_b1, q_s0, q_s1, q_s2, q_s3, q_s4, q_s5, q_f1, q_f2, q_f3, q_f4, q_f5, q_f6, q_f7, q_f8, q_f9, q_fa, q_fb, q_fc, q_fd, q_fe, q_i0l, q_i0t, q_i1, q_i2, q_i3, q_i4, q_i5, q_t1, q_t2, q_ads0, q_ads, q_sv0, q_sv, List.map_cons, List.map_nil, List.length_cons, List.length_nil, List.getElem?_cons_zero, List.getElem?_cons_succ, List.cons_append, List.nil_append, Option.map_some, Option.map_none, Option.bind_some, if_true, if_false, Bool.false_eq_true, List.replicate, List.set_cons_zero, List.set_cons_succ, blkE, dropE, wipeE, beq_self_eq_true, Bool.not_true, Bool.not_false, Bool.true_or, Bool.false_or, Bool.or_true, Bool.or_false, Bool.and_true, Bool.true_and, mod_pos (show (0 : Int) < 2 by decide), e5, e6]
def S_rounds (P : F) : Prop := ∀ (v : Nat) s, GV v s → ∃ (r : Nat) (s' : Sto), P [.ref v] s = .ok (.d (.int r)) s' ∧ r ≤ 1000000000000000000000000000000 ∧ GV v s'
theorem p_rounds (u : S_under (G.fn f.law_under)) (so : S_some (G.fn f.law_some)) : S_rounds (callD G (x_law_rounds f)) := by
  intro v s hg
  obtain ⟨a, s1, a1, a2, a3⟩ := u v 12 s hg (by omega) (by omega)
  obtain ⟨b, s2, b1, b2, b3⟩ := u v 50 s1 a3 (by omega) (by omega)
  obtain ⟨c, s3, c1, c2, c3⟩ := u v 1000 s2 b3 (by omega) (by omega)
  obtain ⟨d, s4, d1, d2, d3⟩ := u v 99 s3 c3 (by omega) (by omega)
  have a1 : G.fn f.law_under [.ref v, .d (.int 12)] s = .ok (.d (.int a)) s1 := a1
  have b1 : G.fn f.law_under [.ref v, .d (.int 50)] s1 = .ok (.d (.int b)) s2 := b1
  have c1 : G.fn f.law_under [.ref v, .d (.int 1000)] s2 = .ok (.d (.int c)) s3 := c1
  have d1 : G.fn f.law_under [.ref v, .d (.int 99)] s3 = .ok (.d (.int d)) s4 := d1
  obtain ⟨x, s5, x1, x2, x3⟩ := so v [.int a, .int b, .int (1000000000000000000000000000000 - c), .int (1000000000000000 + d)] s4 d3 (by simp) (by simp)
  have lb : lineB (0 + 1 + 1 + (0 + 1 + 1)) = true := by
    unfold lineB
    exact decide_eq_true (by rw [sizeLine_eq]; omega)
  have main : ∀ r : Nat, x = .int r → callD G (x_law_rounds f) [.ref v] s = .ok (.d (.int r)) s5 := fun r hr => by
    subst hr
    refine callR [.v (.ref v), .un] rfl rfl ?_
    refine exs_n (exS (x := .d (.list [.int a, .int b])) (s1 := s2) ?_) ?_
    · simp only [callD, exs, ex, ev, evL, evTs, q_bo, q_bx, q_no, q_op, q_uo, q_ux, q_on, q_or, q_ox, q_oo, q_tn, q_tb, q_ti, q_tl, q_tt, q_ab, q_ai, q_ad, q_add, q_sub, q_att, q_all, q_ass, q_mlk, q_mtk, q_lt, q_le, q_gt, q_ge, q_eqi, q_in, q_ni, q_is, q_isn, q_ofb, q_ixl, q_ixt, q_ixs, q_sll, q_slt, q_b0, q_b1, q_s0, q_s1, q_s2, q_s3, q_s4, q_s5, q_f1, q_f2, q_f3, q_f4, q_f5, q_f6, q_f7, q_f8, q_f9, q_fa, q_fb, q_fc, q_fd, q_fe, q_i0l, q_i0t, q_i1, q_i2, q_i3, q_i4, q_i5, q_t1, q_t2, q_ads0, q_ads, q_sv0, q_sv, List.map_cons, List.map_nil, List.length_cons, List.length_nil, List.getElem?_cons_zero, List.getElem?_cons_succ, List.cons_append, List.nil_append, Option.map_some, Option.map_none, Option.bind_some, if_true, if_false, Bool.false_eq_true, List.replicate, List.set_cons_zero, List.set_cons_succ, blkE, dropE, wipeE, beq_self_eq_true, Bool.not_true, Bool.not_false, Bool.true_or, Bool.false_or, Bool.or_true, Bool.or_false, Bool.and_true, Bool.true_and, a1, b1]
    refine exs_n (exS (x := .d (.list [.int a, .int b, .int (1000000000000000000000000000000 - c), .int (1000000000000000 + d)])) (s1 := s4) ?_) ?_
    · simp only [callD, exs, ex, ev, evL, evTs, q_bo, q_bx, q_no, q_op, q_uo, q_ux, q_on, q_or, q_ox, q_oo, q_tn, q_tb, q_ti, q_tl, q_tt, q_ab, q_ai, q_ad, q_add, q_sub, q_att, q_all, q_ass, q_mlk, q_mtk, q_lt, q_le, q_gt, q_ge, q_eqi, q_in, q_ni, q_is, q_isn, q_ofb, q_ixl, q_ixt, q_ixs, q_sll, q_slt, q_b0, q_b1, q_s0, q_s1, q_s2, q_s3, q_s4, q_s5, q_f1, q_f2, q_f3, q_f4, q_f5, q_f6, q_f7, q_f8, q_f9, q_fa, q_fb, q_fc, q_fd, q_fe, q_i0l, q_i0t, q_i1, q_i2, q_i3, q_i4, q_i5, q_t1, q_t2, q_ads0, q_ads, q_sv0, q_sv, List.map_cons, List.map_nil, List.length_cons, List.length_nil, List.getElem?_cons_zero, List.getElem?_cons_succ, List.cons_append, List.nil_append, Option.map_some, Option.map_none, Option.bind_some, if_true, if_false, Bool.false_eq_true, List.replicate, List.set_cons_zero, List.set_cons_succ, blkE, dropE, wipeE, beq_self_eq_true, Bool.not_true, Bool.not_false, Bool.true_or, Bool.false_or, Bool.or_true, Bool.or_false, Bool.and_true, Bool.true_and, pow_10_30, pow_10_15, c1, d1, lb]
    refine exs_r (exR ?_)
    simp only [callD, exs, ex, ev, evL, evTs, q_bo, q_bx, q_no, q_op, q_uo, q_ux, q_on, q_or, q_ox, q_oo, q_tn, q_tb, q_ti, q_tl, q_tt, q_ab, q_ai, q_ad, q_add, q_sub, q_att, q_all, q_ass, q_mlk, q_mtk, q_lt, q_le, q_gt, q_ge, q_eqi, q_in, q_ni, q_is, q_isn, q_ofb, q_ixl, q_ixt, q_ixs, q_sll, q_slt, q_b0, q_b1, q_s0, q_s1, q_s2, q_s3, q_s4, q_s5, q_f1, q_f2, q_f3, q_f4, q_f5, q_f6, q_f7, q_f8, q_f9, q_fa, q_fb, q_fc, q_fd, q_fe, q_i0l, q_i0t, q_i1, q_i2, q_i3, q_i4, q_i5, q_t1, q_t2, q_ads0, q_ads, q_sv0, q_sv, List.map_cons, List.map_nil, List.length_cons, List.length_nil, List.getElem?_cons_zero, List.getElem?_cons_succ, List.cons_append, List.nil_append, Option.map_some, Option.map_none, Option.bind_some, if_true, if_false, Bool.false_eq_true, List.replicate, List.set_cons_zero, List.set_cons_succ, blkE, dropE, wipeE, beq_self_eq_true, Bool.not_true, Bool.not_false, Bool.true_or, Bool.false_or, Bool.or_true, Bool.or_false, Bool.and_true, Bool.true_and, x1]
  simp only [List.mem_cons, List.not_mem_nil, or_false] at x2
  rcases x2 with p | p | p | p
  · exact ⟨a, s5, main a p, by omega, x3⟩
  · exact ⟨b, s5, main b p, by omega, x3⟩
  · exact ⟨1000000000000000000000000000000 - c, s5, main _ (by rw [p]; exact congrArg PyData.int (by omega)), by omega, x3⟩
  · exact ⟨1000000000000000 + d, s5, main _ (by rw [p]; exact congrArg PyData.int (by omega)), by omega, x3⟩
def S_truly (P : F) : Prop := ∀ (a b : Bool) s, P [.d (.bool a), .d (.bool b)] s = .ok (.d (.bool (decide (a = b)))) s
theorem p_truly : S_truly (callD G (x_law_truly f)) := by
  intro a b s
  have e := encB.cEq (by omega) a b
  simp only [x_law_truly, callD, exs, ex, ev, evL, evTs, q_bo, q_bx, q_no, q_op, q_uo, q_ux, q_on, q_or, q_ox, q_oo, q_tn, q_tb, q_ti, q_tl, q_tt, q_ab, q_ai, q_ad, q_add, q_sub, q_att, q_all, q_ass, q_mlk, q_mtk, q_lt, q_le, q_gt, q_ge, q_eqi, q_in, q_ni, q_is, q_isn, q_ofb, q_ixl, q_ixt, q_ixs, q_sll, q_slt, q_b0, q_b1, q_s0, q_s1, q_s2, q_s3, q_s4, q_s5, q_f1, q_f2, q_f3, q_f4, q_f5, q_f6, q_f7, q_f8, q_f9, q_fa, q_fb, q_fc, q_fd, q_fe, q_i0l, q_i0t, q_i1, q_i2, q_i3, q_i4, q_i5, q_t1, q_t2, q_ads0, q_ads, q_sv0, q_sv, List.map_cons, List.map_nil, List.length_cons, List.length_nil, List.getElem?_cons_zero, List.getElem?_cons_succ, List.cons_append, List.nil_append, Option.map_some, Option.map_none, Option.bind_some, if_true, if_false, Bool.false_eq_true, List.replicate, List.set_cons_zero, List.set_cons_succ, blkE, dropE, wipeE, beq_self_eq_true, Bool.not_true, Bool.not_false, Bool.true_or, Bool.false_or, Bool.or_true, Bool.or_false, Bool.and_true, Bool.true_and, e]
end
end X
set_option Elab.async false
set_option linter.all false
set_option maxRecDepth 100000
set_option maxHeartbeats 4000000
/-! Pu8: known tables; what is refused; courses looked at. -/
namespace X
open PySem Ar
def tb (k : List (List Nat)) (i j : Nat) : Bool := decide (j ∈ (k[i]?).getD [])
def k1 : List (List Nat) := [[1], [2], [0, 1]]
def k2 : List (List Nat) := [[1], [2], [0]]
def k3 : List (List Nat) := [[1], [0], [2]]
def k4 : List (List Nat) := [[1, 2], [3], [3], [0]]
def k5 : List (List Nat) := [[0, 1, 2], [0, 1, 2], [0, 1, 2]]
theorem k1T : k1 = T 3 (tb k1) := by decide
theorem k2T : k2 = T 3 (tb k2) := by decide
theorem k3T : k3 = T 3 (tb k3) := by decide
theorem k4T : k4 = T 4 (tb k4) := by decide
theorem k5T : k5 = T 3 (tb k5) := by decide
theorem pw_per {n a P : Nat} {R : Nat → Nat → Bool} (h : Eqn n (pw n R (a + P)) (pw n R a)) : ∀ k b, a ≤ b → Eqn n (pw n R (b + P * k)) (pw n R b)
  | 0, b, _ => Eqn.refl n _
  | k + 1, b, hb => by
    have e : b + P * (k + 1) = (b - a) + (a + P) + P * k := by rw [Nat.mul_succ]; omega
    have e2 : b = (b - a) + a := by omega
    have ih := pw_per h k (b - a + (a + P)) (by omega)
    rw [e]
    refine ih.trans ?_
    have z : Eqn n (pw n R ((b - a) + (a + P))) (pw n R ((b - a) + a)) := ((pw_add n R (b - a) (a + P)).symm.trans ((Eqn.refl n _).comp h)).trans (pw_add n R (b - a) a)
    rw [← e2] at z
    exact z
theorem Eqn_of_T {n : Nat} {R S : Nat → Nat → Bool} (h : T n R = T n S) : Eqn n R S := fun i j hi hj => by
  have h1 : (T n R)[i]? = (T n S)[i]? := by rw [h]
  rw [T_get hi, T_get hi] at h1
  have h2 := Option.some.inj h1
  rw [Bool.eq_iff_iff]
  constructor
  · intro q
    have : j ∈ (List.range n).filter (R i) := List.mem_filter.mpr ⟨List.mem_range.mpr hj, q⟩
    rw [h2] at this
    exact (List.mem_filter.mp this).2
  · intro q
    have : j ∈ (List.range n).filter (S i) := List.mem_filter.mpr ⟨List.mem_range.mpr hj, q⟩
    rw [← h2] at this
    exact (List.mem_filter.mp this).2
theorem cut_tail (r : List Nat) : cutD (r.map iv) (some 1) none = (r.map iv).drop 1 := by
  unfold cutD
  rw [show HT.sIx (r.map iv).length 0 (some 1) = min 1 (r.map iv).length from HT.sIx_nat _ _ 1, HT.sIx_none]
  rw [List.take_of_length_le (by rw [List.length_drop]; exact Nat.le_refl _)]
  by_cases hr : r = []
  · rw [hr]; rfl
  · rw [Nat.min_eq_left (by rw [List.length_map]; exact Nat.succ_le_of_lt (List.length_pos_iff.mpr hr))]
/-! ### courses -/
theorem Wk.path {n a x : Nat} {R : Nat → Nat → Bool} {w : List Nat} (h : Wk n R a x w) : ∃ (g : Nat → Nat) (r : Nat), w = (List.range (r + 1)).map g ∧ g 0 = a ∧ g r = x ∧ (∀ t, t ≤ r → g t < n) ∧ ∀ t, t < r → R (g t) (g (t + 1)) = true := by
  induction h with
  | one ha => exact ⟨fun _ => a, 0, rfl, rfl, rfl, fun _ _ => ha, fun t ht => by omega⟩
  | snoc h hR hy ih =>
    rename_i x y w
    obtain ⟨g, r, g1, g2, g3, g4, g5⟩ := ih
    refine ⟨fun t => if t ≤ r then g t else y, r + 1, ?_, ?_, ?_, fun t ht => ?_, fun t ht => ?_⟩
    · rw [List.range_succ (n := r + 1), List.map_append, g1]
      have : (List.range (r + 1)).map (fun t => if t ≤ r then g t else y) = (List.range (r + 1)).map g := List.map_congr_left fun t ht => if_pos (by have := List.mem_range.mp ht; omega)
      rw [this]
      simp
      omega
    · show (if 0 ≤ r then g 0 else y) = a
      rw [if_pos (Nat.zero_le _), g2]
    · show (if r + 1 ≤ r then g (r + 1) else y) = y
      rw [if_neg (by omega)]
    · show (if t ≤ r then g t else y) < n
      split
      · exact g4 t (by omega)
      · exact hy
    · show R (if t ≤ r then g t else y) (if t + 1 ≤ r then g (t + 1) else y) = true
      by_cases ht' : t < r
      · rw [if_pos (by omega), if_pos (by omega)]
        exact g5 t ht'
      · have : t = r := by omega
        subst this
        rw [if_pos (Nat.le_refl _), if_neg (by omega), g3]
        exact hR
theorem Wk.steps {n a x : Nat} {R : Nat → Nat → Bool} {w : List Nat} (h : Wk n R a x w) : ∀ p ∈ w.zip (w.drop 1), p.1 < n ∧ p.2 < n ∧ R p.1 p.2 = true := by
  obtain ⟨g, r, g1, g2, g3, g4, g5⟩ := h.path
  intro p hp
  obtain ⟨i, hi⟩ := List.mem_iff_getElem?.mp hp
  obtain ⟨h1, h2⟩ := List.getElem?_zip_eq_some.mp hi
  rw [List.getElem?_drop, g1, List.getElem?_map] at h2
  rw [g1, List.getElem?_map] at h1
  have hi1 : 1 + i < r + 1 := Decidable.byContradiction fun q => by
    rw [List.getElem?_eq_none (by rw [List.length_range]; omega)] at h2
    cases h2
  rw [List.getElem?_range hi1] at h2
  rw [List.getElem?_range (by omega)] at h1
  have h1 : some (g i) = some p.1 := h1
  have h2 : some (g (1 + i)) = some p.2 := h2
  rw [← Option.some.inj h1, ← Option.some.inj h2, Nat.add_comm 1 i]
  exact ⟨g4 i (by omega), g4 _ (by omega), g5 i (by omega)⟩
def encP : Enc (fun p : Nat × Nat => PyData.tuple [iv p.1, iv p.2]) 1 := encI.pair encI
section
variable {G : Gd} {f : Ix}
def goodC (n : Nat) (R : Nat → Nat → Bool) (a b r : Nat) (d : D) : Prop := (pw n R r a b = false ∧ d = .none) ∨ ∃ w, d = rowD w ∧ Wk n R a b w ∧ w.length = r + 1
def S_cright (P : F) : Prop := ∀ (n : Nat) R (a b r : Nat) d s, n ≤ 6 → a < n → b < n → r ≤ 90 → goodC n R a b r d → P [.d (tabD (T n R)), .d (.int a), .d (.int b), .d (.int r), .d d] s = .ok (.d (.bool true)) s
theorem p_cright (w : S_walked (G.fn f.law_walked)) : S_cright (callD G (x_law_course_right f)) := by
  intro n R a b r d s hn ha hb hr h
  refine callR [.v (.d (tabD (T n R))), .v (.d (.int a)), .v (.d (.int b)), .v (.d (.int r)), .v (.d d), .un, .un] rfl rfl ?_
  rcases h with ⟨h1, rfl⟩ | ⟨u, rfl, h1, h2⟩
  · refine exs_ifr (t := true) (x := .d (.bool true)) (s1 := s) (by simp only [callD, exs, ex, ev, evL, evTs, q_bo, q_bx, q_no, q_op, q_uo, q_ux, q_on, q_or, q_ox, q_oo, q_tn, q_tb, q_ti, q_tl, q_tt, q_ab, q_ai, q_ad, q_add, q_sub, q_att, q_all, q_ass, q_mlk, q_mtk, q_lt, q_le, q_gt, q_ge, q_eqi, q_in, q_ni, q_is, q_isn, q_ofb, q_ixl, q_ixt, q_ixs, q_sll, q_slt, q_b0, q_b1, q_s0, q_s1, q_s2, q_s3, q_s4, q_s5, q_f1, q_f2, q_f3, q_f4, q_f5, q_f6, q_f7, q_f8, q_f9, q_fa, q_fb, q_fc, q_fd, q_fe, q_i0l, q_i0t, q_i1, q_i2, q_i3, q_i4, q_i5, q_t1, q_t2, q_ads0, q_ads, q_sv0, q_sv, List.map_cons, List.map_nil, List.length_cons, List.length_nil, List.getElem?_cons_zero, List.getElem?_cons_succ, List.cons_append, List.nil_append, Option.map_some, Option.map_none, Option.bind_some, if_true, if_false, Bool.false_eq_true, List.replicate, List.set_cons_zero, List.set_cons_succ, blkE, dropE, wipeE, beq_self_eq_true, Bool.not_true, Bool.not_false, Bool.true_or, Bool.false_or, Bool.or_true, Bool.or_false, Bool.and_true, Bool.true_and] <;> rfl) rfl ?_
    refine exs_r (exR ?_)
    have e1 := w n R r s hn (by omega)
    simp only [callD, exs, ex, ev, evL, evTs, q_bo, q_bx, q_no, q_op, q_uo, q_ux, q_on, q_or, q_ox, q_oo, q_tn, q_tb, q_ti, q_tl, q_tt, q_ab, q_ai, q_ad, q_add, q_sub, q_att, q_all, q_ass, q_mlk, q_mtk, q_lt, q_le, q_gt, q_ge, q_eqi, q_in, q_ni, q_is, q_isn, q_ofb, q_ixl, q_ixt, q_ixs, q_sll, q_slt, q_b0, q_b1, q_s0, q_s1, q_s2, q_s3, q_s4, q_s5, q_f1, q_f2, q_f3, q_f4, q_f5, q_f6, q_f7, q_f8, q_f9, q_fa, q_fb, q_fc, q_fd, q_fe, q_i0l, q_i0t, q_i1, q_i2, q_i3, q_i4, q_i5, q_t1, q_t2, q_ads0, q_ads, q_sv0, q_sv, List.map_cons, List.map_nil, List.length_cons, List.length_nil, List.getElem?_cons_zero, List.getElem?_cons_succ, List.cons_append, List.nil_append, Option.map_some, Option.map_none, Option.bind_some, if_true, if_false, Bool.false_eq_true, List.replicate, List.set_cons_zero, List.set_cons_succ, blkE, dropE, wipeE, beq_self_eq_true, Bool.not_true, Bool.not_false, Bool.true_or, Bool.false_or, Bool.or_true, Bool.or_false, Bool.and_true, Bool.true_and, e1, Ts_last, idx_row ha, in_rowR hb, h1]
  · refine exs_if0 (x := .d (.bool false)) (s1 := s) (by simp only [callD, exs, ex, ev, evL, evTs, q_bo, q_bx, q_no, q_op, q_uo, q_ux, q_on, q_or, q_ox, q_oo, q_tn, q_tb, q_ti, q_tl, q_tt, q_ab, q_ai, q_ad, q_add, q_sub, q_att, q_all, q_ass, q_mlk, q_mtk, q_lt, q_le, q_gt, q_ge, q_eqi, q_in, q_ni, q_is, q_isn, q_ofb, q_ixl, q_ixt, q_ixs, q_sll, q_slt, q_b0, q_b1, q_s0, q_s1, q_s2, q_s3, q_s4, q_s5, q_f1, q_f2, q_f3, q_f4, q_f5, q_f6, q_f7, q_f8, q_f9, q_fa, q_fb, q_fc, q_fd, q_fe, q_i0l, q_i0t, q_i1, q_i2, q_i3, q_i4, q_i5, q_t1, q_t2, q_ads0, q_ads, q_sv0, q_sv, List.map_cons, List.map_nil, List.length_cons, List.length_nil, List.getElem?_cons_zero, List.getElem?_cons_succ, List.cons_append, List.nil_append, Option.map_some, Option.map_none, Option.bind_some, if_true, if_false, Bool.false_eq_true, List.replicate, List.set_cons_zero, List.set_cons_succ, blkE, dropE, wipeE, beq_self_eq_true, Bool.not_true, Bool.not_false, Bool.true_or, Bool.false_or, Bool.or_true, Bool.or_false, Bool.and_true, Bool.true_and] <;> rfl) rfl ?_
    obtain ⟨v1, e1⟩ := h1.head
    obtain ⟨v2, e2⟩ := h1.last
    have i0 : evIdx (.d (rowD u)) (.d (.int 0)) s = some (.d (iv a)) := by
      unfold rowD
      rw [q_ixt, e1]
      show (L2.atI (iv a :: v1.map iv) ((0 : Nat) : Int)).map _ = _
      rw [atI_nat]
      rfl
    have i1 : evIdx (.d (rowD u)) (.d (.int (-1))) s = some (.d (iv b)) := by
      unfold rowD
      rw [q_ixt, e2, List.map_append]
      show (L2.atI (v2.map iv ++ [iv b]) (-1)).map _ = _
      rw [atI_last]
      rfl
    have en : evCmp .NotEq (.d (.tuple [iv a, iv b])) (.d (.tuple [iv a, iv b])) = some false := by
      have := encP.cNe (by omega) (a, b) (a, b)
      rw [decide_eq_true rfl] at this
      exact this
    have el : evCmp .NotEq (.d (.int ((u.map iv).length : Nat))) (.d (.int ((r : Int) + 1))) = some false := by
      rw [List.length_map, h2]
      have := encZ.cNe (by omega) ((r + 1 : Nat) : Int) ((r : Int) + 1)
      rw [decide_eq_true (by omega)] at this
      exact this
    refine exs_if0 (x := .d (.bool false)) (s1 := s) ?_ rfl ?_
    · have l1 : evBf .len [.d (rowD u)] = some (.d (.int ((u.map iv).length : Nat))) := rfl
      have l2 : evIsi (.d (rowD u)) "tuple" = some true := rfl
      unfold iv at en i0 i1
      simp only [callD, exs, ex, ev, evL, evTs, q_bo, q_bx, q_no, q_op, q_uo, q_ux, q_on, q_or, q_ox, q_oo, q_tn, q_tb, q_ti, q_tl, q_tt, q_ab, q_ai, q_ad, q_add, q_sub, q_att, q_all, q_ass, q_mlk, q_mtk, q_lt, q_le, q_gt, q_ge, q_eqi, q_in, q_ni, q_is, q_isn, q_ofb, q_ixl, q_ixt, q_ixs, q_sll, q_slt, q_b0, q_b1, q_s0, q_s1, q_s2, q_s3, q_s4, q_s5, q_f1, q_f2, q_f3, q_f4, q_f5, q_f6, q_f7, q_f8, q_f9, q_fa, q_fb, q_fc, q_fd, q_fe, q_i0l, q_i0t, q_i1, q_i2, q_i3, q_i4, q_i5, q_t1, q_t2, q_ads0, q_ads, q_sv0, q_sv, List.map_cons, List.map_nil, List.length_cons, List.length_nil, List.getElem?_cons_zero, List.getElem?_cons_succ, List.cons_append, List.nil_append, Option.map_some, Option.map_none, Option.bind_some, if_true, if_false, Bool.false_eq_true, List.replicate, List.set_cons_zero, List.set_cons_succ, blkE, dropE, wipeE, beq_self_eq_true, Bool.not_true, Bool.not_false, Bool.true_or, Bool.false_or, Bool.or_true, Bool.or_false, Bool.and_true, Bool.true_and, l1, l2, i0, i1, el, en]
    · refine exs_r (exR ?_)
      have e1 := comp_pure (G := G) (elt := .int 1) (tg := [5, 6]) (tt := true) (ik := 3) (its := [.var 4, .slc (.var 4) [.int 1] []]) (ifs := [.or (.cmp .NotIn (.var 6) (.idx (.var 0) (.var 5))) (.one (.isi (.var 6) "bool"))]) (own := [5, 6]) (ρ := [.v (.d (tabD (T n R))), .v (.d (.int a)), .v (.d (.int b)), .v (.d (.int r)), .v (.d (rowD u)), .un, .un]) (s := s) (s1 := s) (vs := [.d (rowD u), .d (.tuple ((u.map iv).drop 1))]) (l := u.zip (u.drop 1)) (h := fun p => .tuple [iv p.1, iv p.2]) (fun _ => false) (fun _ => .int 1) (fun p => [.v (.d (tabD (T n R))), .v (.d (.int a)), .v (.d (.int b)), .v (.d (.int r)), .v (.d (rowD u)), .v (.d (iv p.1)), .v (.d (iv p.2))]) (by
        unfold rowD
        simp only [callD, exs, ex, ev, evL, evTs, q_bo, q_bx, q_no, q_op, q_uo, q_ux, q_on, q_or, q_ox, q_oo, q_tn, q_tb, q_ti, q_tl, q_tt, q_ab, q_ai, q_ad, q_add, q_sub, q_att, q_all, q_ass, q_mlk, q_mtk, q_lt, q_le, q_gt, q_ge, q_eqi, q_in, q_ni, q_is, q_isn, q_ofb, q_ixl, q_ixt, q_ixs, q_sll, q_slt, q_b0, q_b1, q_s0, q_s1, q_s2, q_s3, q_s4, q_s5, q_f1, q_f2, q_f3, q_f4, q_f5, q_f6, q_f7, q_f8, q_f9, q_fa, q_fb, q_fc, q_fd, q_fe, q_i0l, q_i0t, q_i1, q_i2, q_i3, q_i4, q_i5, q_t1, q_t2, q_ads0, q_ads, q_sv0, q_sv, List.map_cons, List.map_nil, List.length_cons, List.length_nil, List.getElem?_cons_zero, List.getElem?_cons_succ, List.cons_append, List.nil_append, Option.map_some, Option.map_none, Option.bind_some, if_true, if_false, Bool.false_eq_true, List.replicate, List.set_cons_zero, List.set_cons_succ, blkE, dropE, wipeE, beq_self_eq_true, Bool.not_true, Bool.not_false, Bool.true_or, Bool.false_or, Bool.or_true, Bool.or_false, Bool.and_true, Bool.true_and, cut_tail]) (by
        unfold rowD
        rw [q_i5, zip_tail]) (fun p hp => rfl) (fun p hp => by
        obtain ⟨p1, p2, p3⟩ := h1.steps p hp
        simp only [callD, exs, ex, ev, evL, evTs, q_bo, q_bx, q_no, q_op, q_uo, q_ux, q_on, q_or, q_ox, q_oo, q_tn, q_tb, q_ti, q_tl, q_tt, q_ab, q_ai, q_ad, q_add, q_sub, q_att, q_all, q_ass, q_mlk, q_mtk, q_lt, q_le, q_gt, q_ge, q_eqi, q_in, q_ni, q_is, q_isn, q_ofb, q_ixl, q_ixt, q_ixs, q_sll, q_slt, q_b0, q_b1, q_s0, q_s1, q_s2, q_s3, q_s4, q_s5, q_f1, q_f2, q_f3, q_f4, q_f5, q_f6, q_f7, q_f8, q_f9, q_fa, q_fb, q_fc, q_fd, q_fe, q_i0l, q_i0t, q_i1, q_i2, q_i3, q_i4, q_i5, q_t1, q_t2, q_ads0, q_ads, q_sv0, q_sv, List.map_cons, List.map_nil, List.length_cons, List.length_nil, List.getElem?_cons_zero, List.getElem?_cons_succ, List.cons_append, List.nil_append, Option.map_some, Option.map_none, Option.bind_some, if_true, if_false, Bool.false_eq_true, List.replicate, List.set_cons_zero, List.set_cons_succ, blkE, dropE, wipeE, beq_self_eq_true, Bool.not_true, Bool.not_false, Bool.true_or, Bool.false_or, Bool.or_true, Bool.or_false, Bool.and_true, Bool.true_and, iv, idx_row p1, in_rowR p2, p3]
        rfl) (fun p hp q => by cases q)
      rw [show ∀ (op : CmpOp) (a b : C) (ρ : Ar.Env) (s : Sto), ev G (.cmp op a b) ρ s = (ev G a ρ s).bind fun x s1 => (ev G b ρ s1).bind fun y s2 => Res.opt (ofB (evCmp op x y)) s2 from fun op a b ρ s => by simp only [ev]]
      rw [e1, q_bo, show ∀ ρ s, ev G (.lst []) ρ s = .ok (.d (.list [])) s from fun ρ s => by simp only [callD, exs, ex, ev, evL, evTs, q_bo, q_bx, q_no, q_op, q_uo, q_ux, q_on, q_or, q_ox, q_oo, q_tn, q_tb, q_ti, q_tl, q_tt, q_ab, q_ai, q_ad, q_add, q_sub, q_att, q_all, q_ass, q_mlk, q_mtk, q_lt, q_le, q_gt, q_ge, q_eqi, q_in, q_ni, q_is, q_isn, q_ofb, q_ixl, q_ixt, q_ixs, q_sll, q_slt, q_b0, q_b1, q_s0, q_s1, q_s2, q_s3, q_s4, q_s5, q_f1, q_f2, q_f3, q_f4, q_f5, q_f6, q_f7, q_f8, q_f9, q_fa, q_fb, q_fc, q_fd, q_fe, q_i0l, q_i0t, q_i1, q_i2, q_i3, q_i4, q_i5, q_t1, q_t2, q_ads0, q_ads, q_sv0, q_sv, List.map_cons, List.map_nil, List.length_cons, List.length_nil, List.getElem?_cons_zero, List.getElem?_cons_succ, List.cons_append, List.nil_append, Option.map_some, Option.map_none, Option.bind_some, if_true, if_false, Bool.false_eq_true, List.replicate, List.set_cons_zero, List.set_cons_succ, blkE, dropE, wipeE, beq_self_eq_true, Bool.not_true, Bool.not_false, Bool.true_or, Bool.false_or, Bool.or_true, Bool.or_false, Bool.and_true, Bool.true_and], q_bo, List.filter_eq_nil_iff.mpr fun _ _ => Bool.false_ne_true]
      rfl
/-! ### errors -/
theorem ev_err {body : C} {ρ : Ar.Env} {s s1 : Sto} {x r : Str} {f2 : Nat → List Vl → Sto → Res Vl} (h2 : G.fn2 = some f2) (e : ev ⟨G.fuel, f2, G.nm, none⟩ body (dropE ρ) s = .ex x s1) (hn : G.nm x = some r) : ev G (.err body) ρ s = .ok (.d (.str r)) s1 := by
  simp only [ev, h2, e, hn, Option.map_some, q_op]
theorem evCx {ρ : Ar.Env} {s s1 s2 : Sto} {g : Nat} {es : List C} {vs : List Vl} {x : Str} (h : evL G es ρ s = .ok vs s1) (r : G.fn g vs s1 = .ex x s2) : ev G (.call g es) ρ s = .ex x s2 := by simp only [ev, h, q_bo, r]
theorem str_ne2 (x : Str) (h : evCmp .NotEq (.d (.list [.str x, .str x])) (.d (.list [.str x, .str x])) = some false) (a b : C) (ρ : Ar.Env) (s : Sto) (ha : ev G a ρ s = .ok (.d (.list [.str x, .str x])) s) : ev G (.cmp .NotEq a (.bin .Mult (.lst [.str x]) (.int 2))) ρ s = .ok (.d (.bool false)) s := by
  have e : evBin .Mult (.d (.list [.str x])) (.d (.int 2)) = some (.d (.list [.str x, .str x])) := by
    rw [q_mlk, if_pos ⟨by omega, by omega, by rw [sizeLine_eq]; show 1 * 2 ≤ 16777216; omega⟩]
    rfl
  simp only [callD, exs, ex, ev, evL, evTs, q_bo, q_bx, q_no, q_op, q_uo, q_ux, q_on, q_or, q_ox, q_oo, q_tn, q_tb, q_ti, q_tl, q_tt, q_ab, q_ai, q_ad, q_add, q_sub, q_att, q_all, q_ass, q_mlk, q_mtk, q_lt, q_le, q_gt, q_ge, q_eqi, q_in, q_ni, q_is, q_isn, q_ofb, q_ixl, q_ixt, q_ixs, q_sll, q_slt, q_b0, q_b1, q_s0, q_s1, q_s2, q_s3, q_s4, q_s5, q_f1, q_f2, q_f3, q_f4, q_f5, q_f6, q_f7, q_f8, q_f9, q_fa, q_fb, q_fc, q_fd, q_fe, q_i0l, q_i0t, q_i1, q_i2, q_i3, q_i4, q_i5, q_t1, q_t2, q_ads0, q_ads, q_sv0, q_sv, List.map_cons, List.map_nil, List.length_cons, List.length_nil, List.getElem?_cons_zero, List.getElem?_cons_succ, List.cons_append, List.nil_append, Option.map_some, Option.map_none, Option.bind_some, if_true, if_false, Bool.false_eq_true, List.replicate, List.set_cons_zero, List.set_cons_succ, blkE, dropE, wipeE, beq_self_eq_true, Bool.not_true, Bool.not_false, Bool.true_or, Bool.false_or, Bool.or_true, Bool.or_false, Bool.and_true, Bool.true_and, ha, e, h]
def S_refused (P : F) : Prop := ∀ (n : Nat) R s, 1 ≤ n → n ≤ 6 → P [.d (tabD (T n R))] s = .ok (.d (.bool true)) s
def badR (d : D) : Prop := oddD d = true ∨ ∃ i : Int, d = .int i ∧ (i < 0 ∨ 1000000000000000000000000000000 < i)
theorem p_refused {f2 : Nat → List Vl → Sto → Res Vl} (h2 : G.fn2 = some f2) (nr : G.nm "InvalidRounds" = some ("rounds value" : Str)) (np : G.nm "InvalidPerson" = some ("person value" : Str)) (nt : G.nm "InvalidTable" = some ("table value" : Str))
    (a1 : S_afterX (f2 f.after)) (a2 : S_afterT (f2 f.after)) (c1 : S_canR (f2 f.can)) (c2 : S_canP (f2 f.can)) (d1 : S_courseP (f2 f.course)) (d2 : S_courseR (f2 f.course)) : S_refused (callD G (x_law_refused f)) := by
  intro n R s hn1 hn6
  let I : Ar.Env → Sto → Prop := fun ρ s1 => s1 = s ∧ ∃ u w, ρ = [.v (.d (tabD (T n R))), .v (.d (.int n)), u, w]
  obtain ⟨ρ1, s1, l1, z1, u1, w1, z2⟩ := forO_all (f := fun x ρ s => oOut (bindTg [2] false x ρ) fun ρ1 => exs G [.setOwn 3 [.err (.call f.after [.var 0, .var 2])], .append 3 (.err (.call f.can [.var 0, .int 0, .int 0, .var 2])), .frz 3, .ifs (.cmp .NotEq (.var 3) (.bin .Mult (.lst [.str "rounds value"]) (.int 2))) [.ret (.bl false)] []] ρ1 s) I (xs := [.int (-1), .bool true, .none, .int 1000000000000000000000000000001, .str "1"]) (ρ := [.v (.d (tabD (T n R))), .v (.d (.int n)), .un, .un]) (s := s) (by
    rintro x hx ρ s1 ⟨rfl, u, w, rfl⟩
    have hb : badR x := by
      simp only [List.mem_cons, List.not_mem_nil, or_false] at hx
      rcases hx with rfl | rfl | rfl | rfl | rfl
      · exact .inr ⟨_, rfl, by omega⟩
      · exact .inl rfl
      · exact .inl rfl
      · exact .inr ⟨_, rfl, by omega⟩
      · exact .inl rfl
    rw [q_t1, q_oo]
    refine ⟨[.v (.d (tabD (T n R))), .v (.d (.int n)), .v (.d x), .v (.d (.list [.str "rounds value", .str "rounds value"]))], s1, ?_, rfl, _, _, rfl⟩
    have b1 := a1 n R x s1 hn1 hn6 hb
    have b2 := c1 n R 0 0 x s1 hn1 hn6 (by omega) (by omega) hb
    refine exs_n (exOwn (ds := [.str "rounds value"]) (s1 := s1) (evL1 (ev_err h2 (evCx (vs := [.d (tabD (T n R)), .d x]) (s1 := s1) (by simp only [dropE, callD, exs, ex, ev, evL, evTs, q_bo, q_bx, q_no, q_op, q_uo, q_ux, q_on, q_or, q_ox, q_oo, q_tn, q_tb, q_ti, q_tl, q_tt, q_ab, q_ai, q_ad, q_add, q_sub, q_att, q_all, q_ass, q_mlk, q_mtk, q_lt, q_le, q_gt, q_ge, q_eqi, q_in, q_ni, q_is, q_isn, q_ofb, q_ixl, q_ixt, q_ixs, q_sll, q_slt, q_b0, q_b1, q_s0, q_s1, q_s2, q_s3, q_s4, q_s5, q_f1, q_f2, q_f3, q_f4, q_f5, q_f6, q_f7, q_f8, q_f9, q_fa, q_fb, q_fc, q_fd, q_fe, q_i0l, q_i0t, q_i1, q_i2, q_i3, q_i4, q_i5, q_t1, q_t2, q_ads0, q_ads, q_sv0, q_sv, List.map_cons, List.map_nil, List.length_cons, List.length_nil, List.getElem?_cons_zero, List.getElem?_cons_succ, List.cons_append, List.nil_append, Option.map_some, Option.map_none, Option.bind_some, if_true, if_false, Bool.false_eq_true, List.replicate, List.set_cons_zero, List.set_cons_succ, blkE, dropE, wipeE, beq_self_eq_true, Bool.not_true, Bool.not_false, Bool.true_or, Bool.false_or, Bool.or_true, Bool.or_false, Bool.and_true, Bool.true_and] <;> rfl) b1) nr)) rfl) ?_
    refine exs_n (exApp (xs := [.str "rounds value"]) (s1 := s1) rfl (ev_err h2 (evCx (vs := [.d (tabD (T n R)), .d (.int (0 : Nat)), .d (.int (0 : Nat)), .d x]) (s1 := s1) (by simp only [dropE, callD, exs, ex, ev, evL, evTs, q_bo, q_bx, q_no, q_op, q_uo, q_ux, q_on, q_or, q_ox, q_oo, q_tn, q_tb, q_ti, q_tl, q_tt, q_ab, q_ai, q_ad, q_add, q_sub, q_att, q_all, q_ass, q_mlk, q_mtk, q_lt, q_le, q_gt, q_ge, q_eqi, q_in, q_ni, q_is, q_isn, q_ofb, q_ixl, q_ixt, q_ixs, q_sll, q_slt, q_b0, q_b1, q_s0, q_s1, q_s2, q_s3, q_s4, q_s5, q_f1, q_f2, q_f3, q_f4, q_f5, q_f6, q_f7, q_f8, q_f9, q_fa, q_fb, q_fc, q_fd, q_fe, q_i0l, q_i0t, q_i1, q_i2, q_i3, q_i4, q_i5, q_t1, q_t2, q_ads0, q_ads, q_sv0, q_sv, List.map_cons, List.map_nil, List.length_cons, List.length_nil, List.getElem?_cons_zero, List.getElem?_cons_succ, List.cons_append, List.nil_append, Option.map_some, Option.map_none, Option.bind_some, if_true, if_false, Bool.false_eq_true, List.replicate, List.set_cons_zero, List.set_cons_succ, blkE, dropE, wipeE, beq_self_eq_true, Bool.not_true, Bool.not_false, Bool.true_or, Bool.false_or, Bool.or_true, Bool.or_false, Bool.and_true, Bool.true_and] <;> rfl) b2) nr) (by rw [sizeLine_eq]; decide)) ?_
    refine exs_n (exFrz rfl) ?_
    refine exs_if0 (str_ne2 "rounds value" (by decide +kernel) _ (.int 0) _ _ (by simp only [callD, exs, ex, ev, evL, evTs, q_bo, q_bx, q_no, q_op, q_uo, q_ux, q_on, q_or, q_ox, q_oo, q_tn, q_tb, q_ti, q_tl, q_tt, q_ab, q_ai, q_ad, q_add, q_sub, q_att, q_all, q_ass, q_mlk, q_mtk, q_lt, q_le, q_gt, q_ge, q_eqi, q_in, q_ni, q_is, q_isn, q_ofb, q_ixl, q_ixt, q_ixs, q_sll, q_slt, q_b0, q_b1, q_s0, q_s1, q_s2, q_s3, q_s4, q_s5, q_f1, q_f2, q_f3, q_f4, q_f5, q_f6, q_f7, q_f8, q_f9, q_fa, q_fb, q_fc, q_fd, q_fe, q_i0l, q_i0t, q_i1, q_i2, q_i3, q_i4, q_i5, q_t1, q_t2, q_ads0, q_ads, q_sv0, q_sv, List.map_cons, List.map_nil, List.length_cons, List.length_nil, List.getElem?_cons_zero, List.getElem?_cons_succ, List.cons_append, List.nil_append, Option.map_some, Option.map_none, Option.bind_some, if_true, if_false, Bool.false_eq_true, List.replicate, List.set_cons_zero, List.set_cons_succ, blkE, dropE, wipeE, beq_self_eq_true, Bool.not_true, Bool.not_false, Bool.true_or, Bool.false_or, Bool.or_true, Bool.or_false, Bool.and_true, Bool.true_and] <;> rfl)) rfl ?_
    exact exs_e) ⟨rfl, .un, .un, rfl⟩
  obtain ⟨ρ3, s3, l3, z3, u3, w3, z4⟩ := forO_all (f := fun x ρ s => oOut (bindTg [2] false x ρ) fun ρ1 => exs G [.setOwn 3 [.err (.call f.can [.var 0, .var 2, .non, .non])], .append 3 (.err (.call f.course [.var 0, .int 0, .var 2, .non])), .frz 3, .ifs (.cmp .NotEq (.var 3) (.bin .Mult (.lst [.str "person value"]) (.int 2))) [.ret (.bl false)] []] ρ1 s) I (xs := [.int (-1), .int n, .bool true, .none]) (ρ := [.v (.d (tabD (T n R))), .v (.d (.int n)), u1, w1]) (s := s) (by
    rintro x hx ρ s1 ⟨rfl, u, w, rfl⟩
    have hb : badP n x := by
      simp only [List.mem_cons, List.not_mem_nil, or_false] at hx
      rcases hx with rfl | rfl | rfl | rfl
      · exact .inr ⟨_, rfl, by omega⟩
      · exact .inr ⟨_, rfl, by omega⟩
      · exact .inl rfl
      · exact .inl rfl
    rw [q_t1, q_oo]
    refine ⟨[.v (.d (tabD (T n R))), .v (.d (.int n)), .v (.d x), .v (.d (.list [.str "person value", .str "person value"]))], s1, ?_, rfl, _, _, rfl⟩
    have b1 := c2 n R x .none .none s1 hn1 hn6 (.inl hb)
    have b2 := d1 n R (.int (0 : Nat)) x .none s1 hn1 hn6 (.inr ⟨⟨0, by omega, rfl⟩, hb⟩)
    refine exs_n (exOwn (ds := [.str "person value"]) (s1 := s1) (evL1 (ev_err h2 (evCx (vs := [.d (tabD (T n R)), .d x, .d .none, .d .none]) (s1 := s1) (by simp only [dropE, callD, exs, ex, ev, evL, evTs, q_bo, q_bx, q_no, q_op, q_uo, q_ux, q_on, q_or, q_ox, q_oo, q_tn, q_tb, q_ti, q_tl, q_tt, q_ab, q_ai, q_ad, q_add, q_sub, q_att, q_all, q_ass, q_mlk, q_mtk, q_lt, q_le, q_gt, q_ge, q_eqi, q_in, q_ni, q_is, q_isn, q_ofb, q_ixl, q_ixt, q_ixs, q_sll, q_slt, q_b0, q_b1, q_s0, q_s1, q_s2, q_s3, q_s4, q_s5, q_f1, q_f2, q_f3, q_f4, q_f5, q_f6, q_f7, q_f8, q_f9, q_fa, q_fb, q_fc, q_fd, q_fe, q_i0l, q_i0t, q_i1, q_i2, q_i3, q_i4, q_i5, q_t1, q_t2, q_ads0, q_ads, q_sv0, q_sv, List.map_cons, List.map_nil, List.length_cons, List.length_nil, List.getElem?_cons_zero, List.getElem?_cons_succ, List.cons_append, List.nil_append, Option.map_some, Option.map_none, Option.bind_some, if_true, if_false, Bool.false_eq_true, List.replicate, List.set_cons_zero, List.set_cons_succ, blkE, dropE, wipeE, beq_self_eq_true, Bool.not_true, Bool.not_false, Bool.true_or, Bool.false_or, Bool.or_true, Bool.or_false, Bool.and_true, Bool.true_and] <;> rfl) b1) np)) rfl) ?_
    refine exs_n (exApp (xs := [.str "person value"]) (s1 := s1) rfl (ev_err h2 (evCx (vs := [.d (tabD (T n R)), .d (.int (0 : Nat)), .d x, .d .none]) (s1 := s1) (by simp only [dropE, callD, exs, ex, ev, evL, evTs, q_bo, q_bx, q_no, q_op, q_uo, q_ux, q_on, q_or, q_ox, q_oo, q_tn, q_tb, q_ti, q_tl, q_tt, q_ab, q_ai, q_ad, q_add, q_sub, q_att, q_all, q_ass, q_mlk, q_mtk, q_lt, q_le, q_gt, q_ge, q_eqi, q_in, q_ni, q_is, q_isn, q_ofb, q_ixl, q_ixt, q_ixs, q_sll, q_slt, q_b0, q_b1, q_s0, q_s1, q_s2, q_s3, q_s4, q_s5, q_f1, q_f2, q_f3, q_f4, q_f5, q_f6, q_f7, q_f8, q_f9, q_fa, q_fb, q_fc, q_fd, q_fe, q_i0l, q_i0t, q_i1, q_i2, q_i3, q_i4, q_i5, q_t1, q_t2, q_ads0, q_ads, q_sv0, q_sv, List.map_cons, List.map_nil, List.length_cons, List.length_nil, List.getElem?_cons_zero, List.getElem?_cons_succ, List.cons_append, List.nil_append, Option.map_some, Option.map_none, Option.bind_some, if_true, if_false, Bool.false_eq_true, List.replicate, List.set_cons_zero, List.set_cons_succ, blkE, dropE, wipeE, beq_self_eq_true, Bool.not_true, Bool.not_false, Bool.true_or, Bool.false_or, Bool.or_true, Bool.or_false, Bool.and_true, Bool.true_and] <;> rfl) b2) np) (by rw [sizeLine_eq]; decide)) ?_
    refine exs_n (exFrz rfl) ?_
    refine exs_if0 (str_ne2 "person value" (by decide +kernel) _ (.int 0) _ _ (by simp only [callD, exs, ex, ev, evL, evTs, q_bo, q_bx, q_no, q_op, q_uo, q_ux, q_on, q_or, q_ox, q_oo, q_tn, q_tb, q_ti, q_tl, q_tt, q_ab, q_ai, q_ad, q_add, q_sub, q_att, q_all, q_ass, q_mlk, q_mtk, q_lt, q_le, q_gt, q_ge, q_eqi, q_in, q_ni, q_is, q_isn, q_ofb, q_ixl, q_ixt, q_ixs, q_sll, q_slt, q_b0, q_b1, q_s0, q_s1, q_s2, q_s3, q_s4, q_s5, q_f1, q_f2, q_f3, q_f4, q_f5, q_f6, q_f7, q_f8, q_f9, q_fa, q_fb, q_fc, q_fd, q_fe, q_i0l, q_i0t, q_i1, q_i2, q_i3, q_i4, q_i5, q_t1, q_t2, q_ads0, q_ads, q_sv0, q_sv, List.map_cons, List.map_nil, List.length_cons, List.length_nil, List.getElem?_cons_zero, List.getElem?_cons_succ, List.cons_append, List.nil_append, Option.map_some, Option.map_none, Option.bind_some, if_true, if_false, Bool.false_eq_true, List.replicate, List.set_cons_zero, List.set_cons_succ, blkE, dropE, wipeE, beq_self_eq_true, Bool.not_true, Bool.not_false, Bool.true_or, Bool.false_or, Bool.or_true, Bool.or_false, Bool.and_true, Bool.true_and] <;> rfl)) rfl ?_
    exact exs_e) ⟨rfl, u1, w1, rfl⟩
  subst z1 z2 z3 z4
  refine callR [.v (.d (tabD (T n R))), .un, .un, .un] rfl rfl ?_
  refine exs_n (exS (x := .d (.int n)) (s1 := s3) (by simp only [tabD, callD, exs, ex, ev, evL, evTs, q_bo, q_bx, q_no, q_op, q_uo, q_ux, q_on, q_or, q_ox, q_oo, q_tn, q_tb, q_ti, q_tl, q_tt, q_ab, q_ai, q_ad, q_add, q_sub, q_att, q_all, q_ass, q_mlk, q_mtk, q_lt, q_le, q_gt, q_ge, q_eqi, q_in, q_ni, q_is, q_isn, q_ofb, q_ixl, q_ixt, q_ixs, q_sll, q_slt, q_b0, q_b1, q_s0, q_s1, q_s2, q_s3, q_s4, q_s5, q_f1, q_f2, q_f3, q_f4, q_f5, q_f6, q_f7, q_f8, q_f9, q_fa, q_fb, q_fc, q_fd, q_fe, q_i0l, q_i0t, q_i1, q_i2, q_i3, q_i4, q_i5, q_t1, q_t2, q_ads0, q_ads, q_sv0, q_sv, List.map_cons, List.map_nil, List.length_cons, List.length_nil, List.getElem?_cons_zero, List.getElem?_cons_succ, List.cons_append, List.nil_append, Option.map_some, Option.map_none, Option.bind_some, if_true, if_false, Bool.false_eq_true, List.replicate, List.set_cons_zero, List.set_cons_succ, blkE, dropE, wipeE, beq_self_eq_true, Bool.not_true, Bool.not_false, Bool.true_or, Bool.false_or, Bool.or_true, Bool.or_false, Bool.and_true, Bool.true_and, List.length_map, T_len])) ?_
  refine exs_n ((ex_fors (vs := [.d (.list [.int (-1), .bool true, .none, .int 1000000000000000000000000000001, .str "1"])]) (s1 := s3) (by simp only [callD, exs, ex, ev, evL, evTs, q_bo, q_bx, q_no, q_op, q_uo, q_ux, q_on, q_or, q_ox, q_oo, q_tn, q_tb, q_ti, q_tl, q_tt, q_ab, q_ai, q_ad, q_add, q_sub, q_att, q_all, q_ass, q_mlk, q_mtk, q_lt, q_le, q_gt, q_ge, q_eqi, q_in, q_ni, q_is, q_isn, q_ofb, q_ixl, q_ixt, q_ixs, q_sll, q_slt, q_b0, q_b1, q_s0, q_s1, q_s2, q_s3, q_s4, q_s5, q_f1, q_f2, q_f3, q_f4, q_f5, q_f6, q_f7, q_f8, q_f9, q_fa, q_fb, q_fc, q_fd, q_fe, q_i0l, q_i0t, q_i1, q_i2, q_i3, q_i4, q_i5, q_t1, q_t2, q_ads0, q_ads, q_sv0, q_sv, List.map_cons, List.map_nil, List.length_cons, List.length_nil, List.getElem?_cons_zero, List.getElem?_cons_succ, List.cons_append, List.nil_append, Option.map_some, Option.map_none, Option.bind_some, if_true, if_false, Bool.false_eq_true, List.replicate, List.set_cons_zero, List.set_cons_succ, blkE, dropE, wipeE, beq_self_eq_true, Bool.not_true, Bool.not_false, Bool.true_or, Bool.false_or, Bool.or_true, Bool.or_false, Bool.and_true, Bool.true_and, pow_10_30]; rfl) rfl).trans l1) ?_
  refine exs_n ((ex_fors (vs := [.d (.list [.int (-1), .int n, .bool true, .none])]) (s1 := s3) (by simp only [callD, exs, ex, ev, evL, evTs, q_bo, q_bx, q_no, q_op, q_uo, q_ux, q_on, q_or, q_ox, q_oo, q_tn, q_tb, q_ti, q_tl, q_tt, q_ab, q_ai, q_ad, q_add, q_sub, q_att, q_all, q_ass, q_mlk, q_mtk, q_lt, q_le, q_gt, q_ge, q_eqi, q_in, q_ni, q_is, q_isn, q_ofb, q_ixl, q_ixt, q_ixs, q_sll, q_slt, q_b0, q_b1, q_s0, q_s1, q_s2, q_s3, q_s4, q_s5, q_f1, q_f2, q_f3, q_f4, q_f5, q_f6, q_f7, q_f8, q_f9, q_fa, q_fb, q_fc, q_fd, q_fe, q_i0l, q_i0t, q_i1, q_i2, q_i3, q_i4, q_i5, q_t1, q_t2, q_ads0, q_ads, q_sv0, q_sv, List.map_cons, List.map_nil, List.length_cons, List.length_nil, List.getElem?_cons_zero, List.getElem?_cons_succ, List.cons_append, List.nil_append, Option.map_some, Option.map_none, Option.bind_some, if_true, if_false, Bool.false_eq_true, List.replicate, List.set_cons_zero, List.set_cons_succ, blkE, dropE, wipeE, beq_self_eq_true, Bool.not_true, Bool.not_false, Bool.true_or, Bool.false_or, Bool.or_true, Bool.or_false, Bool.and_true, Bool.true_and] <;> rfl) rfl).trans l3) ?_
  have b3 := d2 n R 0 0 (.int 91) s3 hn1 hn6 (by omega) (by omega) (.inr ⟨91, rfl, by omega⟩)
  have b4 := a2 n R 5 .none s3 hn1 hn6
  have s3e : ∀ (x y : Slot), ev G (.err (.call f.course [.var 0, .int 0, .int 0, .int 91])) [.v (.d (tabD (T n R))), .v (.d (.int n)), x, y] s3 = .ok (.d (.str "rounds value")) s3 := fun x y => ev_err h2 (evCx (vs := [.d (tabD (T n R)), .d (.int (0 : Nat)), .d (.int (0 : Nat)), .d (.int 91)]) (s1 := s3) (by simp only [dropE, callD, exs, ex, ev, evL, evTs, q_bo, q_bx, q_no, q_op, q_uo, q_ux, q_on, q_or, q_ox, q_oo, q_tn, q_tb, q_ti, q_tl, q_tt, q_ab, q_ai, q_ad, q_add, q_sub, q_att, q_all, q_ass, q_mlk, q_mtk, q_lt, q_le, q_gt, q_ge, q_eqi, q_in, q_ni, q_is, q_isn, q_ofb, q_ixl, q_ixt, q_ixs, q_sll, q_slt, q_b0, q_b1, q_s0, q_s1, q_s2, q_s3, q_s4, q_s5, q_f1, q_f2, q_f3, q_f4, q_f5, q_f6, q_f7, q_f8, q_f9, q_fa, q_fb, q_fc, q_fd, q_fe, q_i0l, q_i0t, q_i1, q_i2, q_i3, q_i4, q_i5, q_t1, q_t2, q_ads0, q_ads, q_sv0, q_sv, List.map_cons, List.map_nil, List.length_cons, List.length_nil, List.getElem?_cons_zero, List.getElem?_cons_succ, List.cons_append, List.nil_append, Option.map_some, Option.map_none, Option.bind_some, if_true, if_false, Bool.false_eq_true, List.replicate, List.set_cons_zero, List.set_cons_succ, blkE, dropE, wipeE, beq_self_eq_true, Bool.not_true, Bool.not_false, Bool.true_or, Bool.false_or, Bool.or_true, Bool.or_false, Bool.and_true, Bool.true_and] <;> rfl) b3) nr
  have s4e : ∀ (x y : Slot), ev G (.err (.call f.after [.bin .Add (.var 0) (.tup [.int 5]), .non])) [.v (.d (tabD (T n R))), .v (.d (.int n)), x, y] s3 = .ok (.d (.str "table value")) s3 := fun x y => by
    have lb : lineB (((T n R).map rowD).length + (0 + 1)) = true := by
      unfold lineB
      rw [List.length_map, T_len]
      exact decide_eq_true (by rw [sizeLine_eq]; omega)
    exact ev_err h2 (evCx (vs := [.d (.tuple ((T n R).map rowD ++ [.int 5])), .d .none]) (s1 := s3) (by simp only [dropE, tabD, callD, exs, ex, ev, evL, evTs, q_bo, q_bx, q_no, q_op, q_uo, q_ux, q_on, q_or, q_ox, q_oo, q_tn, q_tb, q_ti, q_tl, q_tt, q_ab, q_ai, q_ad, q_add, q_sub, q_att, q_all, q_ass, q_mlk, q_mtk, q_lt, q_le, q_gt, q_ge, q_eqi, q_in, q_ni, q_is, q_isn, q_ofb, q_ixl, q_ixt, q_ixs, q_sll, q_slt, q_b0, q_b1, q_s0, q_s1, q_s2, q_s3, q_s4, q_s5, q_f1, q_f2, q_f3, q_f4, q_f5, q_f6, q_f7, q_f8, q_f9, q_fa, q_fb, q_fc, q_fd, q_fe, q_i0l, q_i0t, q_i1, q_i2, q_i3, q_i4, q_i5, q_t1, q_t2, q_ads0, q_ads, q_sv0, q_sv, List.map_cons, List.map_nil, List.length_cons, List.length_nil, List.getElem?_cons_zero, List.getElem?_cons_succ, List.cons_append, List.nil_append, Option.map_some, Option.map_none, Option.bind_some, if_true, if_false, Bool.false_eq_true, List.replicate, List.set_cons_zero, List.set_cons_succ, blkE, dropE, wipeE, beq_self_eq_true, Bool.not_true, Bool.not_false, Bool.true_or, Bool.false_or, Bool.or_true, Bool.or_false, Bool.and_true, Bool.true_and, lb] <;> rfl) b4) nt
  have q1 : evCmp .NotEq (.d (.str "rounds value")) (.d (.str "rounds value")) = some false := by decide +kernel
  have q2 : evCmp .Eq (.d (.str "table value")) (.d (.str "table value")) = some true := by decide +kernel
  have cmpE : ∀ (op : CmpOp) (a b : C) (ρ : Ar.Env) (s : Sto), ev G (.cmp op a b) ρ s = (ev G a ρ s).bind fun x s1 => (ev G b ρ s1).bind fun y s2 => Res.opt (ofB (evCmp op x y)) s2 := fun op a b ρ s => by simp only [ev]
  have strE : ∀ (x : Str) (ρ : Ar.Env) (s : Sto), ev G (.str x) ρ s = .ok (.d (.str x)) s := fun x ρ s => by simp only [ev]
  refine exs_if0 (x := .d (.bool false)) (s1 := s3) ?_ rfl ?_
  · rw [cmpE, s3e, q_bo, strE, q_bo, q1]
    rfl
  refine exs_r (exR ?_)
  rw [cmpE, s4e, q_bo, strE, q_bo, q2]
  rfl
def S_known (P : F) : Prop := ∀ s, P [] s = .ok (.d (.list [tabD k1, tabD k2, tabD k3, tabD k4, tabD k5])) s
theorem p_known : S_known (callD G (x_law_known f)) := by
  intro s
  have e : evBin .Mult (.d (.tuple [.tuple [.int 0, .int 1, .int 2]])) (.d (.int 3)) = some (.d (tabD k5)) := by
    rw [q_mtk, if_pos ⟨by simp, by omega, by omega, by simp⟩]
    rfl
  refine callR [.un, .un, .un] rfl rfl ?_
  have e1 : ex G (.setTup [0, 1, 2] (.tup [.tup [.tup [.int 1], .tup [.int 2], .tup [.int 0, .int 1]], .tup [.tup [.int 1], .tup [.int 2], .tup [.int 0]], .tup [.tup [.int 1], .tup [.int 0], .tup [.int 2]]])) [.un, .un, .un] s = .next [.v (.d (tabD k1)), .v (.d (tabD k2)), .v (.d (tabD k3))] s := by
    simp only [ex, callD, exs, ex, ev, evL, evTs, q_bo, q_bx, q_no, q_op, q_uo, q_ux, q_on, q_or, q_ox, q_oo, q_tn, q_tb, q_ti, q_tl, q_tt, q_ab, q_ai, q_ad, q_add, q_sub, q_att, q_all, q_ass, q_mlk, q_mtk, q_lt, q_le, q_gt, q_ge, q_eqi, q_in, q_ni, q_is, q_isn, q_ofb, q_ixl, q_ixt, q_ixs, q_sll, q_slt, q_b0, q_b1, q_s0, q_s1, q_s2, q_s3, q_s4, q_s5, q_f1, q_f2, q_f3, q_f4, q_f5, q_f6, q_f7, q_f8, q_f9, q_fa, q_fb, q_fc, q_fd, q_fe, q_i0l, q_i0t, q_i1, q_i2, q_i3, q_i4, q_i5, q_t1, q_t2, q_ads0, q_ads, q_sv0, q_sv, List.map_cons, List.map_nil, List.length_cons, List.length_nil, List.getElem?_cons_zero, List.getElem?_cons_succ, List.cons_append, List.nil_append, Option.map_some, Option.map_none, Option.bind_some, if_true, if_false, Bool.false_eq_true, List.replicate, List.set_cons_zero, List.set_cons_succ, blkE, dropE, wipeE, beq_self_eq_true, Bool.not_true, Bool.not_false, Bool.true_or, Bool.false_or, Bool.or_true, Bool.or_false, Bool.and_true, Bool.true_and]
    rfl
  refine exs_n e1 ?_
  refine exs_r (exR ?_)
  simp only [callD, exs, ex, ev, evL, evTs, q_bo, q_bx, q_no, q_op, q_uo, q_ux, q_on, q_or, q_ox, q_oo, q_tn, q_tb, q_ti, q_tl, q_tt, q_ab, q_ai, q_ad, q_add, q_sub, q_att, q_all, q_ass, q_mlk, q_mtk, q_lt, q_le, q_gt, q_ge, q_eqi, q_in, q_ni, q_is, q_isn, q_ofb, q_ixl, q_ixt, q_ixs, q_sll, q_slt, q_b0, q_b1, q_s0, q_s1, q_s2, q_s3, q_s4, q_s5, q_f1, q_f2, q_f3, q_f4, q_f5, q_f6, q_f7, q_f8, q_f9, q_fa, q_fb, q_fc, q_fd, q_fe, q_i0l, q_i0t, q_i1, q_i2, q_i3, q_i4, q_i5, q_t1, q_t2, q_ads0, q_ads, q_sv0, q_sv, List.map_cons, List.map_nil, List.length_cons, List.length_nil, List.getElem?_cons_zero, List.getElem?_cons_succ, List.cons_append, List.nil_append, Option.map_some, Option.map_none, Option.bind_some, if_true, if_false, Bool.false_eq_true, List.replicate, List.set_cons_zero, List.set_cons_succ, blkE, dropE, wipeE, beq_self_eq_true, Bool.not_true, Bool.not_false, Bool.true_or, Bool.false_or, Bool.or_true, Bool.or_false, Bool.and_true, Bool.true_and, e]
  rfl
end
end X
set_option Elab.async false
set_option linter.all false
set_option maxRecDepth 100000
set_option maxHeartbeats 4000000
/-! Pu9: steps by what is asked of the end; the law k02. -/
namespace X
open PySem Ar
def Nx (I : Ar.Env → Sto → Prop) (o : Out) : Prop := ∃ ρ' s', o = .next ρ' s' ∧ I ρ' s'
def Rt (v : Vl) (o : Out) : Prop := ∃ s', o = .ret v s'
section
variable {G : Gd} {ρ : Ar.Env} {s s1 s2 : Sto} {P : Out → Prop}
theorem nP {b : List Ar.S} {c : Ar.S} {ρ1 : Ar.Env} (h : ex G c ρ s = .next ρ1 s1) (r : P (exs G b ρ1 s1)) : P (exs G (c :: b) ρ s) := by
  rw [exs_n h rfl]
  exact r
theorem ifP0 {c : C} {x : Vl} {A b : List Ar.S} (h : ev G c ρ s = .ok x s1) (ht : truth x = some false) (r : P (exs G b ρ s1)) : P (exs G (.ifs c A [] :: b) ρ s) := by
  rw [exs_if0 h ht rfl]
  exact r
theorem forP {tg : List Nat} {tt : Bool} {ik : Nat} {its : List C} {body b : List Ar.S} {vs : List Vl} {r : Nat} {h : Nat → D} (I : Nat → Ar.Env → Sto → Prop) (h1 : evL G its ρ s = .ok vs s1) (h2 : evItems ik vs = some ((List.range r).map h)) (i0 : I 0 ρ s1) (step : ∀ k, k < r → ∀ ρ s, I k ρ s → ∃ ρ1, bindTg tg tt (h k) ρ = some ρ1 ∧ Nx (I (k + 1)) (exs G body ρ1 s)) (go : ∀ ρ' s', I r ρ' s' → P (exs G b ρ' s')) : P (exs G (.fors tg tt ik its body :: b) ρ s) := by
  obtain ⟨ρ', s', l1, i1⟩ := forO_rng (f := fun x ρ s => oOut (bindTg tg tt x ρ) fun ρ1 => exs G body ρ1 s) (h := h) (r := r) I (fun k hk ρ s hi => by
    obtain ⟨ρ1, e1, ρ', s', e2, e3⟩ := step k hk ρ s hi
    refine ⟨ρ', s', ?_, e3⟩
    show oOut (bindTg tg tt (h k) ρ) (fun ρ1 => exs G body ρ1 s) = _
    rw [e1, q_oo]
    exact e2) i0
  exact nP ((ex_fors h1 h2).trans l1) (go ρ' s' i1)
theorem rP {b : List Ar.S} {c : C} {x : Vl} (h : ev G c ρ s = .ok x s1) : Rt x (exs G (.ret c :: b) ρ s) := ⟨s1, exs_r (exR h)⟩
theorem eP {I : Ar.Env → Sto → Prop} (h : I ρ s) : Nx I (exs G [] ρ s) := ⟨ρ, s, exs_e, h⟩
theorem callP {d : Df} {vs : List Vl} {v : Vl} (ρ0 : Ar.Env) (h : vs.length = d.ps) (hρ : vs.map Slot.v ++ List.replicate (d.ns - vs.length) .un = ρ0) (e : Rt v (exs G d.body ρ0 s)) : ∃ s', callD G d vs s = .ok v s' := by
  obtain ⟨s', e⟩ := e
  exact ⟨s', callR ρ0 h hρ e⟩
theorem ev_cmp (op : CmpOp) (a b : C) (ρ : Ar.Env) (s : Sto) : ev G (.cmp op a b) ρ s = (ev G a ρ s).bind fun x s1 => (ev G b ρ s1).bind fun y s2 => Res.opt (ofB (evCmp op x y)) s2 := by simp only [ev]
theorem cmpP {op : CmpOp} {a b : C} {x y : Vl} {t : Bool} (h1 : ev G a ρ s = .ok x s1) (h2 : ev G b ρ s1 = .ok y s2) (h3 : evCmp op x y = some t) : ev G (.cmp op a b) ρ s = .ok (.d (.bool t)) s2 := by
  rw [ev_cmp, h1, q_bo, h2, q_bo, h3]
  rfl
theorem orP0 {a b : C} {x : Vl} (h1 : ev G a ρ s = .ok (.d (.bool false)) s1) (h2 : ev G b ρ s1 = .ok x s2) : ev G (.or a b) ρ s = .ok x s2 := by
  simp only [ev, h1, q_bo, q_ab, q_op, h2, Bool.false_eq_true, if_false]
theorem oneP {a : C} {o : Res Vl} (h : ev G a ρ s = o) : ev G (.one a) ρ s = o := by simp only [ev, h]
theorem notP {a : C} {x : Vl} {t : Bool} (h : ev G a ρ s = .ok x s1) (ht : truth x = some t) : ev G (.not a) ρ s = .ok (.d (.bool (!t))) s1 := by
  simp only [ev, h, q_bo, ht, Option.map_some, q_op]
theorem tupP {es : List C} {vs : List Vl} {ds : List D} (h : evL G es ρ s = .ok vs s1) (ha : allD vs = some ds) : ev G (.tup es) ρ s = .ok (.d (.tuple ds)) s1 := by
  simp only [ev, h, q_bo, ha, Option.map_some, q_op]
theorem lstP {es : List C} {vs : List Vl} {ds : List D} (h : evL G es ρ s = .ok vs s1) (ha : allD vs = some ds) : ev G (.lst es) ρ s = .ok (.d (.list ds)) s1 := by
  simp only [ev, h, q_bo, ha, Option.map_some, q_op]
theorem varP {i : Nat} {x : Vl} (h : ρ[i]? = some (.v x)) : ev G (.var i) ρ s = .ok x s := by simp only [ev, h]
theorem intP (i : Int) : ev G (.int i) ρ s = .ok (.d (.int i)) s := by simp only [ev]
theorem evL0 : evL G [] ρ s = .ok [] s := by simp only [evL]
theorem lenTab {n : Nat} {R : Nat → Nat → Bool} {c : C} (h : ev G c ρ s = .ok (.d (tabD (T n R))) s1) : ev G (.bf .len [c]) ρ s = .ok (.d (.int n)) s1 := by
  have : evBf .len [.d (tabD (T n R))] = some (.d (.int n)) := by
    unfold tabD
    rw [q_f2, List.length_map, T_len]
  simp only [ev, evL, h, q_bo, this, q_op]
/-- how often a law draws -/
theorem turns_ok (a b : Nat) (ns : List Int) (ha : a < 100) (hb : b < 100) (hρ : ρ[0]? = some (.v (.scr ns))) : ∃ m : Nat, m < 100 ∧ evL G [.bf .max2 [.int a, .bf .min2 [.int b, .bf .len [.var 0]]]] ρ s = .ok [.d (.int m)] s := by
  have e1 : ev G (.bf .len [.var 0]) ρ s = .ok (.d (.int ns.length)) s := by
    simp only [ev, evL, hρ, q_bo, q_f3, q_op]
  refine ⟨if (if ns.length < b then ns.length else b) > a then (if ns.length < b then ns.length else b) else a, ?_, ?_⟩
  · repeat' split
    all_goals omega
  · refine evL1 ?_
    have e2 : ev G (.bf .min2 [.int b, .bf .len [.var 0]]) ρ s = .ok (.d (.int (if ns.length < b then ns.length else b : Nat))) s := by
      have e3 := evLc (intP (G := G) (ρ := ρ) (s := s) b) (evL1 e1)
      have : (if (ns.length : Int) < (b : Int) then (ns.length : Int) else (b : Int)) = ((if ns.length < b then ns.length else b : Nat) : Int) := by
        repeat' split
        all_goals omega
      simp only [ev, e3, q_bo, q_fa, this, q_op]
    have e4 := evLc (intP (G := G) (ρ := ρ) (s := s) a) (evL1 e2)
    generalize (if ns.length < b then ns.length else b : Nat) = z at e4 ⊢
    have : (if (z : Int) > (a : Int) then (z : Int) else (a : Int)) = ((if z > a then z else a : Nat) : Int) := by
      repeat' split
      all_goals omega
    simp only [ev, e4, q_bo, q_f9, this, q_op]
end
section
variable {G : Gd} {f : Ix}
theorem Ts_eq (n : Nat) (R : Nat → Nat → Bool) (k : Nat) : PyData.list (Ts n R k) = PyData.list (((List.range (k + 1)).map fun j => T n (pw n R j)).map tabD) := by
  unfold Ts
  rw [List.map_map]
  rfl
theorem R_far : 1000000000000000000000000000000 < 2 ^ 100 := by decide
theorem p_law2 (vat : S_vat (G.fn f.law_vat)) (und : S_under (G.fn f.law_under)) (dt : S_dtab (G.fn f.law_table)) (wk : S_walked (G.fn f.law_walked)) (af : S_after (G.fn f.after)) (rr : S_rounds (G.fn f.law_rounds)) (fr : S_far 100 (G.fn f.law_far)) (cn : S_can (G.fn f.can)) (tr : S_truly (G.fn f.law_truly)) (so : S_some (G.fn f.law_some)) (cr : S_cright (G.fn f.law_course_right)) (co : S_course (G.fn f.course)) (rf : S_refused (G.fn f.law_refused)) (kn : S_known (G.fn f.law_known)) (ns : List Int) (s : Sto) : ∃ s', callD G (x_law2 f) [.scr ns] s = .ok (.d (.bool true)) s' := by
  refine callP [.v (.scr ns), .un, .un, .un, .un, .un, .un, .un, .un, .un, .un, .un, .un, .un, .un, .un] rfl rfl ?_
  obtain ⟨m, m1, m2⟩ := turns_ok (G := G) (ρ := [.v (.scr ns), .un, .un, .un, .un, .un, .un, .un, .un, .un, .un, .un, .un, .un, .un, .un]) (s := s) 5 11 ns (by omega) (by omega) rfl
  refine forP (r := m) (h := iv) (fun _ ρ _ => ∃ a1 a2 a3 a4 a5 a6 a7 a8 a9 a10, ρ = [.v (.scr ns), a1, a2, a3, a4, a5, a6, a7, a8, a9, a10, .un, .un, .un, .un, .un]) m2 (i1_ok (by omega)) ⟨_, _, _, _, _, _, _, _, _, _, rfl⟩ ?_ ?_
  · rintro k hk ρ s ⟨a1, a2, a3, a4, a5, a6, a7, a8, a9, a10, rfl⟩
    refine ⟨_, rfl, ?_⟩
    obtain ⟨s1, v1, v2⟩ := vat ns k s (by omega)
    generalize s.length = r at v1 v2
    refine nP (exS (x := .ref r) (s1 := s1) (by simp only [callD, exs, ex, ev, evL, evTs, q_bo, q_bx, q_no, q_op, q_uo, q_ux, q_on, q_or, q_ox, q_oo, q_tn, q_tb, q_ti, q_tl, q_tt, q_ab, q_ai, q_ad, q_add, q_sub, q_att, q_all, q_ass, q_mlk, q_mtk, q_lt, q_le, q_gt, q_ge, q_eqi, q_in, q_ni, q_is, q_isn, q_ofb, q_ixl, q_ixt, q_ixs, q_sll, q_slt, q_b0, q_b1, q_s0, q_s1, q_s2, q_s3, q_s4, q_s5, q_f1, q_f2, q_f3, q_f4, q_f5, q_f6, q_f7, q_f8, q_f9, q_fa, q_fb, q_fc, q_fd, q_fe, q_i0l, q_i0t, q_i1, q_i2, q_i3, q_i4, q_i5, q_t1, q_t2, q_ads0, q_ads, q_sv0, q_sv, List.map_cons, List.map_nil, List.length_cons, List.length_nil, List.getElem?_cons_zero, List.getElem?_cons_succ, List.cons_append, List.nil_append, Option.map_some, Option.map_none, Option.bind_some, if_true, if_false, Bool.false_eq_true, List.replicate, List.set_cons_zero, List.set_cons_succ, blkE, dropE, wipeE, beq_self_eq_true, Bool.not_true, Bool.not_false, Bool.true_or, Bool.false_or, Bool.or_true, Bool.or_false, Bool.and_true, Bool.true_and]; exact v1)) ?_
    obtain ⟨j, s2, u1, u2, u3⟩ := und r 6 s1 v2 (by omega) (by omega)
    have u1 : G.fn f.law_under [.ref r, .d (.int 6)] s1 = .ok (.d (.int j)) s2 := u1
    obtain ⟨R, s3, t1, t2⟩ := dt r (1 + j) s2 u3 (by omega) (by omega)
    have t1 : G.fn f.law_table [.ref r, .d (.int (1 + (j : Int)))] s2 = .ok (.d (tabD (T (1 + j) R))) s3 := by
      rw [show (1 : Int) + (j : Int) = ((1 + j : Nat) : Int) by omega]
      exact t1
    generalize hn : 1 + j = n at t1 t2
    have hn1 : 1 ≤ n := by omega
    have hn6 : n ≤ 6 := by omega
    refine nP (exS (x := .d (tabD (T n R))) (s1 := s3) (by simp only [callD, exs, ex, ev, evL, evTs, q_bo, q_bx, q_no, q_op, q_uo, q_ux, q_on, q_or, q_ox, q_oo, q_tn, q_tb, q_ti, q_tl, q_tt, q_ab, q_ai, q_ad, q_add, q_sub, q_att, q_all, q_ass, q_mlk, q_mtk, q_lt, q_le, q_gt, q_ge, q_eqi, q_in, q_ni, q_is, q_isn, q_ofb, q_ixl, q_ixt, q_ixs, q_sll, q_slt, q_b0, q_b1, q_s0, q_s1, q_s2, q_s3, q_s4, q_s5, q_f1, q_f2, q_f3, q_f4, q_f5, q_f6, q_f7, q_f8, q_f9, q_fa, q_fb, q_fc, q_fd, q_fe, q_i0l, q_i0t, q_i1, q_i2, q_i3, q_i4, q_i5, q_t1, q_t2, q_ads0, q_ads, q_sv0, q_sv, List.map_cons, List.map_nil, List.length_cons, List.length_nil, List.getElem?_cons_zero, List.getElem?_cons_succ, List.cons_append, List.nil_append, Option.map_some, Option.map_none, Option.bind_some, if_true, if_false, Bool.false_eq_true, List.replicate, List.set_cons_zero, List.set_cons_succ, blkE, dropE, wipeE, beq_self_eq_true, Bool.not_true, Bool.not_false, Bool.true_or, Bool.false_or, Bool.or_true, Bool.or_false, Bool.and_true, Bool.true_and, u1]; exact t1)) ?_
    refine nP (exS (x := .d (.list (Ts n R 30))) (s1 := s3) (by simp only [callD, exs, ex, ev, evL, evTs, q_bo, q_bx, q_no, q_op, q_uo, q_ux, q_on, q_or, q_ox, q_oo, q_tn, q_tb, q_ti, q_tl, q_tt, q_ab, q_ai, q_ad, q_add, q_sub, q_att, q_all, q_ass, q_mlk, q_mtk, q_lt, q_le, q_gt, q_ge, q_eqi, q_in, q_ni, q_is, q_isn, q_ofb, q_ixl, q_ixt, q_ixs, q_sll, q_slt, q_b0, q_b1, q_s0, q_s1, q_s2, q_s3, q_s4, q_s5, q_f1, q_f2, q_f3, q_f4, q_f5, q_f6, q_f7, q_f8, q_f9, q_fa, q_fb, q_fc, q_fd, q_fe, q_i0l, q_i0t, q_i1, q_i2, q_i3, q_i4, q_i5, q_t1, q_t2, q_ads0, q_ads, q_sv0, q_sv, List.map_cons, List.map_nil, List.length_cons, List.length_nil, List.getElem?_cons_zero, List.getElem?_cons_succ, List.cons_append, List.nil_append, Option.map_some, Option.map_none, Option.bind_some, if_true, if_false, Bool.false_eq_true, List.replicate, List.set_cons_zero, List.set_cons_succ, blkE, dropE, wipeE, beq_self_eq_true, Bool.not_true, Bool.not_false, Bool.true_or, Bool.false_or, Bool.or_true, Bool.or_false, Bool.and_true, Bool.true_and]; exact wk n R 30 s3 hn6 (by omega))) ?_
    have e1 := comp_all (G := G) (elt := .call f.after [.var 3, .var 6]) (tg := [6]) (tt := false) (ik := 1) (its := [.int 31]) (own := [6]) (ρ := [.v (.scr ns), .v (.d (iv k)), .v (.ref r), .v (.d (tabD (T n R))), .v (.d (.list (Ts n R 30))), a5, a6, a7, a8, a9, a10, .un, .un, .un, .un, .un]) (s := s3) (s1 := s3) (vs := [.d (.int (31 : Nat))]) (l := List.range 31) (h := iv) (fun j => tabD (T n (pw n R j))) (fun j => (blkE [.v (.scr ns), .v (.d (iv k)), .v (.ref r), .v (.d (tabD (T n R))), .v (.d (.list (Ts n R 30))), a5, a6, a7, a8, a9, a10, .un, .un, .un, .un, .un] [6]).set 6 (.v (.d (iv j)))) (by simp only [callD, exs, ex, ev, evL, evTs, q_bo, q_bx, q_no, q_op, q_uo, q_ux, q_on, q_or, q_ox, q_oo, q_tn, q_tb, q_ti, q_tl, q_tt, q_ab, q_ai, q_ad, q_add, q_sub, q_att, q_all, q_ass, q_mlk, q_mtk, q_lt, q_le, q_gt, q_ge, q_eqi, q_in, q_ni, q_is, q_isn, q_ofb, q_ixl, q_ixt, q_ixs, q_sll, q_slt, q_b0, q_b1, q_s0, q_s1, q_s2, q_s3, q_s4, q_s5, q_f1, q_f2, q_f3, q_f4, q_f5, q_f6, q_f7, q_f8, q_f9, q_fa, q_fb, q_fc, q_fd, q_fe, q_i0l, q_i0t, q_i1, q_i2, q_i3, q_i4, q_i5, q_t1, q_t2, q_ads0, q_ads, q_sv0, q_sv, List.map_cons, List.map_nil, List.length_cons, List.length_nil, List.getElem?_cons_zero, List.getElem?_cons_succ, List.cons_append, List.nil_append, Option.map_some, Option.map_none, Option.bind_some, if_true, if_false, Bool.false_eq_true, List.replicate, List.set_cons_zero, List.set_cons_succ, blkE, dropE, wipeE, beq_self_eq_true, Bool.not_true, Bool.not_false, Bool.true_or, Bool.false_or, Bool.or_true, Bool.or_false, Bool.and_true, Bool.true_and]; rfl) (i1_ok (by omega)) (fun j _ => rfl) (fun j hj => by
      have := af n R j s3 hn1 hn6 (by have := List.mem_range.mp hj; omega)
      simp only [callD, exs, ex, ev, evL, evTs, q_bo, q_bx, q_no, q_op, q_uo, q_ux, q_on, q_or, q_ox, q_oo, q_tn, q_tb, q_ti, q_tl, q_tt, q_ab, q_ai, q_ad, q_add, q_sub, q_att, q_all, q_ass, q_mlk, q_mtk, q_lt, q_le, q_gt, q_ge, q_eqi, q_in, q_ni, q_is, q_isn, q_ofb, q_ixl, q_ixt, q_ixs, q_sll, q_slt, q_b0, q_b1, q_s0, q_s1, q_s2, q_s3, q_s4, q_s5, q_f1, q_f2, q_f3, q_f4, q_f5, q_f6, q_f7, q_f8, q_f9, q_fa, q_fb, q_fc, q_fd, q_fe, q_i0l, q_i0t, q_i1, q_i2, q_i3, q_i4, q_i5, q_t1, q_t2, q_ads0, q_ads, q_sv0, q_sv, List.map_cons, List.map_nil, List.length_cons, List.length_nil, List.getElem?_cons_zero, List.getElem?_cons_succ, List.cons_append, List.nil_append, Option.map_some, Option.map_none, Option.bind_some, if_true, if_false, Bool.false_eq_true, List.replicate, List.set_cons_zero, List.set_cons_succ, blkE, dropE, wipeE, beq_self_eq_true, Bool.not_true, Bool.not_false, Bool.true_or, Bool.false_or, Bool.or_true, Bool.or_false, Bool.and_true, Bool.true_and, iv, this])
    refine ifP0 (cmpP e1 (varP rfl) (t := false) ?_) rfl ?_
    · show evCmp .NotEq (.d (.list (Ts n R 30))) (.d (.list (Ts n R 30))) = _
      rw [Ts_eq, encTabs.cNe (by omega), decide_eq_true rfl]
      rfl
    refine forP (r := 6) (h := iv) (fun _ ρ s => GV r s ∧ ∃ a5 a6 a7 a8 a9 a10, ρ = [.v (.scr ns), .v (.d (iv k)), .v (.ref r), .v (.d (tabD (T n R))), .v (.d (.list (Ts n R 30))), a5, a6, a7, a8, a9, a10, .un, .un, .un, .un, .un]) (vs := [.d (.int (6 : Nat))]) (by simp only [callD, exs, ex, ev, evL, evTs, q_bo, q_bx, q_no, q_op, q_uo, q_ux, q_on, q_or, q_ox, q_oo, q_tn, q_tb, q_ti, q_tl, q_tt, q_ab, q_ai, q_ad, q_add, q_sub, q_att, q_all, q_ass, q_mlk, q_mtk, q_lt, q_le, q_gt, q_ge, q_eqi, q_in, q_ni, q_is, q_isn, q_ofb, q_ixl, q_ixt, q_ixs, q_sll, q_slt, q_b0, q_b1, q_s0, q_s1, q_s2, q_s3, q_s4, q_s5, q_f1, q_f2, q_f3, q_f4, q_f5, q_f6, q_f7, q_f8, q_f9, q_fa, q_fb, q_fc, q_fd, q_fe, q_i0l, q_i0t, q_i1, q_i2, q_i3, q_i4, q_i5, q_t1, q_t2, q_ads0, q_ads, q_sv0, q_sv, List.map_cons, List.map_nil, List.length_cons, List.length_nil, List.getElem?_cons_zero, List.getElem?_cons_succ, List.cons_append, List.nil_append, Option.map_some, Option.map_none, Option.bind_some, if_true, if_false, Bool.false_eq_true, List.replicate, List.set_cons_zero, List.set_cons_succ, blkE, dropE, wipeE, beq_self_eq_true, Bool.not_true, Bool.not_false, Bool.true_or, Bool.false_or, Bool.or_true, Bool.or_false, Bool.and_true, Bool.true_and]; rfl) (i1_ok (by omega)) ⟨t2, _, _, _, _, _, _, rfl⟩ ?_ ?_
    · rintro i hi ρ s ⟨g0, b5, b6, b7, b8, b9, b10, rfl⟩
      refine ⟨_, rfl, ?_⟩
      obtain ⟨x, s4, x1, x2, x3⟩ := rr r s g0
      obtain ⟨y, s5, y1, y2, y3⟩ := und r n s4 x3 hn1 (by omega)
      obtain ⟨z, s6, z1, z2, z3⟩ := und r n s5 y3 hn1 (by omega)
      have lt : evBf .len [.d (tabD (T n R))] = some (.d (.int n)) := by
        unfold tabD
        rw [q_f2, List.length_map, T_len]
      refine nP (exPar (vs := [.d (.int x), .d (.int y), .d (.int z)]) (s1 := s6) (by simp only [callD, exs, ex, ev, evL, evTs, q_bo, q_bx, q_no, q_op, q_uo, q_ux, q_on, q_or, q_ox, q_oo, q_tn, q_tb, q_ti, q_tl, q_tt, q_ab, q_ai, q_ad, q_add, q_sub, q_att, q_all, q_ass, q_mlk, q_mtk, q_lt, q_le, q_gt, q_ge, q_eqi, q_in, q_ni, q_is, q_isn, q_ofb, q_ixl, q_ixt, q_ixs, q_sll, q_slt, q_b0, q_b1, q_s0, q_s1, q_s2, q_s3, q_s4, q_s5, q_f1, q_f2, q_f3, q_f4, q_f5, q_f6, q_f7, q_f8, q_f9, q_fa, q_fb, q_fc, q_fd, q_fe, q_i0l, q_i0t, q_i1, q_i2, q_i3, q_i4, q_i5, q_t1, q_t2, q_ads0, q_ads, q_sv0, q_sv, List.map_cons, List.map_nil, List.length_cons, List.length_nil, List.getElem?_cons_zero, List.getElem?_cons_succ, List.cons_append, List.nil_append, Option.map_some, Option.map_none, Option.bind_some, if_true, if_false, Bool.false_eq_true, List.replicate, List.set_cons_zero, List.set_cons_succ, blkE, dropE, wipeE, beq_self_eq_true, Bool.not_true, Bool.not_false, Bool.true_or, Bool.false_or, Bool.or_true, Bool.or_false, Bool.and_true, Bool.true_and, x1, lt, y1, z1]) rfl) ?_
      have f1 := fr n R x s6 hn6 (by have := R_far; omega)
      refine nP (exS (x := .d (tabD (T n (pw n R x)))) (s1 := s6) (by simp only [callD, exs, ex, ev, evL, evTs, q_bo, q_bx, q_no, q_op, q_uo, q_ux, q_on, q_or, q_ox, q_oo, q_tn, q_tb, q_ti, q_tl, q_tt, q_ab, q_ai, q_ad, q_add, q_sub, q_att, q_all, q_ass, q_mlk, q_mtk, q_lt, q_le, q_gt, q_ge, q_eqi, q_in, q_ni, q_is, q_isn, q_ofb, q_ixl, q_ixt, q_ixs, q_sll, q_slt, q_b0, q_b1, q_s0, q_s1, q_s2, q_s3, q_s4, q_s5, q_f1, q_f2, q_f3, q_f4, q_f5, q_f6, q_f7, q_f8, q_f9, q_fa, q_fb, q_fc, q_fd, q_fe, q_i0l, q_i0t, q_i1, q_i2, q_i3, q_i4, q_i5, q_t1, q_t2, q_ads0, q_ads, q_sv0, q_sv, List.map_cons, List.map_nil, List.length_cons, List.length_nil, List.getElem?_cons_zero, List.getElem?_cons_succ, List.cons_append, List.nil_append, Option.map_some, Option.map_none, Option.bind_some, if_true, if_false, Bool.false_eq_true, List.replicate, List.set_cons_zero, List.set_cons_succ, blkE, dropE, wipeE, beq_self_eq_true, Bool.not_true, Bool.not_false, Bool.true_or, Bool.false_or, Bool.or_true, Bool.or_false, Bool.and_true, Bool.true_and, f1])) ?_
      have f2 := af n R x s6 hn1 hn6 x2
      have f3 := cn n R y z x s6 hn1 hn6 y2 z2 x2
      have f4 := tr (pw n R x y z) (pw n R x y z) s6
      rw [decide_eq_true rfl] at f4
      have f5 := encTab.cNe (by omega) (T n (pw n R x)) (T n (pw n R x))
      rw [decide_eq_true rfl] at f5
      refine ifP0 (x := .d (.bool false)) (s1 := s6) (by simp only [callD, exs, ex, ev, evL, evTs, q_bo, q_bx, q_no, q_op, q_uo, q_ux, q_on, q_or, q_ox, q_oo, q_tn, q_tb, q_ti, q_tl, q_tt, q_ab, q_ai, q_ad, q_add, q_sub, q_att, q_all, q_ass, q_mlk, q_mtk, q_lt, q_le, q_gt, q_ge, q_eqi, q_in, q_ni, q_is, q_isn, q_ofb, q_ixl, q_ixt, q_ixs, q_sll, q_slt, q_b0, q_b1, q_s0, q_s1, q_s2, q_s3, q_s4, q_s5, q_f1, q_f2, q_f3, q_f4, q_f5, q_f6, q_f7, q_f8, q_f9, q_fa, q_fb, q_fc, q_fd, q_fe, q_i0l, q_i0t, q_i1, q_i2, q_i3, q_i4, q_i5, q_t1, q_t2, q_ads0, q_ads, q_sv0, q_sv, List.map_cons, List.map_nil, List.length_cons, List.length_nil, List.getElem?_cons_zero, List.getElem?_cons_succ, List.cons_append, List.nil_append, Option.map_some, Option.map_none, Option.bind_some, if_true, if_false, Bool.false_eq_true, List.replicate, List.set_cons_zero, List.set_cons_succ, blkE, dropE, wipeE, beq_self_eq_true, Bool.not_true, Bool.not_false, Bool.true_or, Bool.false_or, Bool.or_true, Bool.or_false, Bool.and_true, Bool.true_and, f2, f5, f3, idx_row y2, in_rowR z2, f4]) rfl ?_
      obtain ⟨c, s7, c1, c2, c3⟩ := und r 9 s6 z3 (by omega) (by omega)
      obtain ⟨d, s8, d1, d2, d3⟩ := und r 91 s7 c3 (by omega) (by omega)
      have c1 : G.fn f.law_under [.ref r, .d (.int 9)] s6 = .ok (.d (.int c)) s7 := c1
      have d1 : G.fn f.law_under [.ref r, .d (.int 91)] s7 = .ok (.d (.int d)) s8 := d1
      obtain ⟨w, s9, w1, w2, w3⟩ := so r [.int c, .int d] s8 d3 (by simp) (by simp)
      obtain ⟨q, q1, q2⟩ : ∃ q : Nat, w = .int q ∧ q ≤ 90 := by
        simp only [List.mem_cons, List.not_mem_nil, or_false] at w2
        rcases w2 with p | p
        · exact ⟨c, p, by omega⟩
        · exact ⟨d, p, by omega⟩
      subst q1
      refine nP (exS (x := .d (.int q)) (s1 := s9) (by simp only [callD, exs, ex, ev, evL, evTs, q_bo, q_bx, q_no, q_op, q_uo, q_ux, q_on, q_or, q_ox, q_oo, q_tn, q_tb, q_ti, q_tl, q_tt, q_ab, q_ai, q_ad, q_add, q_sub, q_att, q_all, q_ass, q_mlk, q_mtk, q_lt, q_le, q_gt, q_ge, q_eqi, q_in, q_ni, q_is, q_isn, q_ofb, q_ixl, q_ixt, q_ixs, q_sll, q_slt, q_b0, q_b1, q_s0, q_s1, q_s2, q_s3, q_s4, q_s5, q_f1, q_f2, q_f3, q_f4, q_f5, q_f6, q_f7, q_f8, q_f9, q_fa, q_fb, q_fc, q_fd, q_fe, q_i0l, q_i0t, q_i1, q_i2, q_i3, q_i4, q_i5, q_t1, q_t2, q_ads0, q_ads, q_sv0, q_sv, List.map_cons, List.map_nil, List.length_cons, List.length_nil, List.getElem?_cons_zero, List.getElem?_cons_succ, List.cons_append, List.nil_append, Option.map_some, Option.map_none, Option.bind_some, if_true, if_false, Bool.false_eq_true, List.replicate, List.set_cons_zero, List.set_cons_succ, blkE, dropE, wipeE, beq_self_eq_true, Bool.not_true, Bool.not_false, Bool.true_or, Bool.false_or, Bool.or_true, Bool.or_false, Bool.and_true, Bool.true_and, c1, d1, w1])) ?_
      obtain ⟨cd, g1, g2⟩ := co n R y z q s9 hn1 hn6 y2 z2 q2
      have g3 := cr n R y z q cd s9 hn6 y2 z2 q2 g2
      refine ifP0 (x := .d (.bool false)) (s1 := s9) (by simp only [callD, exs, ex, ev, evL, evTs, q_bo, q_bx, q_no, q_op, q_uo, q_ux, q_on, q_or, q_ox, q_oo, q_tn, q_tb, q_ti, q_tl, q_tt, q_ab, q_ai, q_ad, q_add, q_sub, q_att, q_all, q_ass, q_mlk, q_mtk, q_lt, q_le, q_gt, q_ge, q_eqi, q_in, q_ni, q_is, q_isn, q_ofb, q_ixl, q_ixt, q_ixs, q_sll, q_slt, q_b0, q_b1, q_s0, q_s1, q_s2, q_s3, q_s4, q_s5, q_f1, q_f2, q_f3, q_f4, q_f5, q_f6, q_f7, q_f8, q_f9, q_fa, q_fb, q_fc, q_fd, q_fe, q_i0l, q_i0t, q_i1, q_i2, q_i3, q_i4, q_i5, q_t1, q_t2, q_ads0, q_ads, q_sv0, q_sv, List.map_cons, List.map_nil, List.length_cons, List.length_nil, List.getElem?_cons_zero, List.getElem?_cons_succ, List.cons_append, List.nil_append, Option.map_some, Option.map_none, Option.bind_some, if_true, if_false, Bool.false_eq_true, List.replicate, List.set_cons_zero, List.set_cons_succ, blkE, dropE, wipeE, beq_self_eq_true, Bool.not_true, Bool.not_false, Bool.true_or, Bool.false_or, Bool.or_true, Bool.or_false, Bool.and_true, Bool.true_and, g1, g3]) rfl ?_
      exact eP ⟨w3, _, _, _, _, _, _, rfl⟩
    · rintro ρ s ⟨g0, b5, b6, b7, b8, b9, b10, rfl⟩
      have g4 := rf n R s hn1 hn6
      refine ifP0 (x := .d (.bool false)) (s1 := s) (by simp only [callD, exs, ex, ev, evL, evTs, q_bo, q_bx, q_no, q_op, q_uo, q_ux, q_on, q_or, q_ox, q_oo, q_tn, q_tb, q_ti, q_tl, q_tt, q_ab, q_ai, q_ad, q_add, q_sub, q_att, q_all, q_ass, q_mlk, q_mtk, q_lt, q_le, q_gt, q_ge, q_eqi, q_in, q_ni, q_is, q_isn, q_ofb, q_ixl, q_ixt, q_ixs, q_sll, q_slt, q_b0, q_b1, q_s0, q_s1, q_s2, q_s3, q_s4, q_s5, q_f1, q_f2, q_f3, q_f4, q_f5, q_f6, q_f7, q_f8, q_f9, q_fa, q_fb, q_fc, q_fd, q_fe, q_i0l, q_i0t, q_i1, q_i2, q_i3, q_i4, q_i5, q_t1, q_t2, q_ads0, q_ads, q_sv0, q_sv, List.map_cons, List.map_nil, List.length_cons, List.length_nil, List.getElem?_cons_zero, List.getElem?_cons_succ, List.cons_append, List.nil_append, Option.map_some, Option.map_none, Option.bind_some, if_true, if_false, Bool.false_eq_true, List.replicate, List.set_cons_zero, List.set_cons_succ, blkE, dropE, wipeE, beq_self_eq_true, Bool.not_true, Bool.not_false, Bool.true_or, Bool.false_or, Bool.or_true, Bool.or_false, Bool.and_true, Bool.true_and, g4]) rfl ?_
      exact eP ⟨_, _, _, _, _, _, _, _, _, _, rfl⟩
  · rintro ρ s ⟨a1, a2, a3, a4, a5, a6, a7, a8, a9, a10, rfl⟩
    have e0 : ex G (.setTup [11, 12, 13, 14, 15] (.call f.law_known [])) [.v (.scr ns), a1, a2, a3, a4, a5, a6, a7, a8, a9, a10, .un, .un, .un, .un, .un] s = .next [.v (.scr ns), a1, a2, a3, a4, a5, a6, a7, a8, a9, a10, .v (.d (tabD k1)), .v (.d (tabD k2)), .v (.d (tabD k3)), .v (.d (tabD k4)), .v (.d (tabD k5))] s := by
      have := kn s
      simp only [ex, callD, exs, ex, ev, evL, evTs, q_bo, q_bx, q_no, q_op, q_uo, q_ux, q_on, q_or, q_ox, q_oo, q_tn, q_tb, q_ti, q_tl, q_tt, q_ab, q_ai, q_ad, q_add, q_sub, q_att, q_all, q_ass, q_mlk, q_mtk, q_lt, q_le, q_gt, q_ge, q_eqi, q_in, q_ni, q_is, q_isn, q_ofb, q_ixl, q_ixt, q_ixs, q_sll, q_slt, q_b0, q_b1, q_s0, q_s1, q_s2, q_s3, q_s4, q_s5, q_f1, q_f2, q_f3, q_f4, q_f5, q_f6, q_f7, q_f8, q_f9, q_fa, q_fb, q_fc, q_fd, q_fe, q_i0l, q_i0t, q_i1, q_i2, q_i3, q_i4, q_i5, q_t1, q_t2, q_ads0, q_ads, q_sv0, q_sv, List.map_cons, List.map_nil, List.length_cons, List.length_nil, List.getElem?_cons_zero, List.getElem?_cons_succ, List.cons_append, List.nil_append, Option.map_some, Option.map_none, Option.bind_some, if_true, if_false, Bool.false_eq_true, List.replicate, List.set_cons_zero, List.set_cons_succ, blkE, dropE, wipeE, beq_self_eq_true, Bool.not_true, Bool.not_false, Bool.true_or, Bool.false_or, Bool.or_true, Bool.or_false, Bool.and_true, Bool.true_and, this]
      rfl
    refine nP e0 ?_
    have n1 : 1 ≤ 3 := by omega
    have n6 : 3 ≤ 6 := by omega
    have A1 : ∀ (r : Nat) (t : List (List Nat)), r ≤ 1000000000000000000000000000000 → T 3 (pw 3 (tb k1) r) = t → G.fn f.after [.d (tabD k1), .d (.int r)] s = .ok (.d (tabD t)) s := fun r t hr ht => by
      rw [← ht, ← af 3 (tb k1) r s n1 n6 hr, ← k1T]
    have A2 : ∀ (r : Nat) (t : List (List Nat)), r ≤ 1000000000000000000000000000000 → T 3 (pw 3 (tb k2) r) = t → G.fn f.after [.d (tabD k2), .d (.int r)] s = .ok (.d (tabD t)) s := fun r t hr ht => by
      rw [← ht, ← af 3 (tb k2) r s n1 n6 hr, ← k2T]
    have C1 : ∀ (a b r : Nat) (t : Bool), a < 3 → b < 3 → r ≤ 1000000000000000000000000000000 → pw 3 (tb k1) r a b = t → G.fn f.can [.d (tabD k1), .d (.int a), .d (.int b), .d (.int r)] s = .ok (.d (.bool t)) s := fun a b r t ha hb hr ht => by
      rw [← ht, ← cn 3 (tb k1) a b r s n1 n6 ha hb hr, ← k1T]
    have C2 : ∀ (a b r : Nat) (t : Bool), a < 3 → b < 3 → r ≤ 1000000000000000000000000000000 → pw 3 (tb k2) r a b = t → G.fn f.can [.d (tabD k2), .d (.int a), .d (.int b), .d (.int r)] s = .ok (.d (.bool t)) s := fun a b r t ha hb hr ht => by
      rw [← ht, ← cn 3 (tb k2) a b r s n1 n6 ha hb hr, ← k2T]
    have p1 : T 3 (pw 3 (tb k2) 1000000000000000000000000000000) = k2 := by
      have := pw_per (n := 3) (a := 0) (P := 3) (R := tb k2) (Eqn_of_T (by decide)) 333333333333333333333333333333 1 (by omega)
      rw [show 1000000000000000000000000000000 = 1 + 3 * 333333333333333333333333333333 from rfl, T_ext this]
      decide
    have p2 : pw 3 (tb k1) 1000000000000000000000000000000 0 0 = true := by
      have := pw_per (n := 3) (a := 5) (P := 1) (R := tb k1) (Eqn_of_T (by decide)) 999999999999999999999999999995 5 (by omega)
      rw [show 1000000000000000000000000000000 = 5 + 1 * 999999999999999999999999999995 from rfl, this 0 0 (by omega) (by omega)]
      decide
    have b1 := A1 2 [[2], [0, 1], [1, 2]] (by omega) (by decide)
    have b2 := A2 1000000000000000000000000000000 k2 (by omega) p1
    have b3 := A1 0 [[0], [1], [2]] (by omega) (by decide)
    have q1 : evCmp .NotEq (.d (tabD [[2], [0, 1], [1, 2]])) (.d (tabD [[2], [0, 1], [1, 2]])) = some false := by
      rw [encTab.cNe (by omega), decide_eq_true rfl]; rfl
    have q2 : evCmp .NotEq (.d (tabD k2)) (.d (tabD k2)) = some false := by
      rw [encTab.cNe (by omega), decide_eq_true rfl]; rfl
    have q3 : evCmp .NotEq (.d (tabD [[0], [1], [2]])) (.d (tabD [[0], [1], [2]])) = some false := by
      rw [encTab.cNe (by omega), decide_eq_true rfl]; rfl
    refine ifP0 (orP0 (cmpP (evC (vs := [.d (tabD k1), .d (.int (2 : Nat))]) (s1 := s) (by simp only [callD, exs, ex, ev, evL, evTs, q_bo, q_bx, q_no, q_op, q_uo, q_ux, q_on, q_or, q_ox, q_oo, q_tn, q_tb, q_ti, q_tl, q_tt, q_ab, q_ai, q_ad, q_add, q_sub, q_att, q_all, q_ass, q_mlk, q_mtk, q_lt, q_le, q_gt, q_ge, q_eqi, q_in, q_ni, q_is, q_isn, q_ofb, q_ixl, q_ixt, q_ixs, q_sll, q_slt, q_b0, q_b1, q_s0, q_s1, q_s2, q_s3, q_s4, q_s5, q_f1, q_f2, q_f3, q_f4, q_f5, q_f6, q_f7, q_f8, q_f9, q_fa, q_fb, q_fc, q_fd, q_fe, q_i0l, q_i0t, q_i1, q_i2, q_i3, q_i4, q_i5, q_t1, q_t2, q_ads0, q_ads, q_sv0, q_sv, List.map_cons, List.map_nil, List.length_cons, List.length_nil, List.getElem?_cons_zero, List.getElem?_cons_succ, List.cons_append, List.nil_append, Option.map_some, Option.map_none, Option.bind_some, if_true, if_false, Bool.false_eq_true, List.replicate, List.set_cons_zero, List.set_cons_succ, blkE, dropE, wipeE, beq_self_eq_true, Bool.not_true, Bool.not_false, Bool.true_or, Bool.false_or, Bool.or_true, Bool.or_false, Bool.and_true, Bool.true_and]; rfl) b1) (y := .d (tabD [[2], [0, 1], [1, 2]])) (s2 := s) (by simp only [callD, exs, ex, ev, evL, evTs, q_bo, q_bx, q_no, q_op, q_uo, q_ux, q_on, q_or, q_ox, q_oo, q_tn, q_tb, q_ti, q_tl, q_tt, q_ab, q_ai, q_ad, q_add, q_sub, q_att, q_all, q_ass, q_mlk, q_mtk, q_lt, q_le, q_gt, q_ge, q_eqi, q_in, q_ni, q_is, q_isn, q_ofb, q_ixl, q_ixt, q_ixs, q_sll, q_slt, q_b0, q_b1, q_s0, q_s1, q_s2, q_s3, q_s4, q_s5, q_f1, q_f2, q_f3, q_f4, q_f5, q_f6, q_f7, q_f8, q_f9, q_fa, q_fb, q_fc, q_fd, q_fe, q_i0l, q_i0t, q_i1, q_i2, q_i3, q_i4, q_i5, q_t1, q_t2, q_ads0, q_ads, q_sv0, q_sv, List.map_cons, List.map_nil, List.length_cons, List.length_nil, List.getElem?_cons_zero, List.getElem?_cons_succ, List.cons_append, List.nil_append, Option.map_some, Option.map_none, Option.bind_some, if_true, if_false, Bool.false_eq_true, List.replicate, List.set_cons_zero, List.set_cons_succ, blkE, dropE, wipeE, beq_self_eq_true, Bool.not_true, Bool.not_false, Bool.true_or, Bool.false_or, Bool.or_true, Bool.or_false, Bool.and_true, Bool.true_and]; rfl) q1) (orP0 (cmpP (evC (vs := [.d (tabD k2), .d (.int (1000000000000000000000000000000 : Nat))]) (s1 := s) (by simp only [callD, exs, ex, ev, evL, evTs, q_bo, q_bx, q_no, q_op, q_uo, q_ux, q_on, q_or, q_ox, q_oo, q_tn, q_tb, q_ti, q_tl, q_tt, q_ab, q_ai, q_ad, q_add, q_sub, q_att, q_all, q_ass, q_mlk, q_mtk, q_lt, q_le, q_gt, q_ge, q_eqi, q_in, q_ni, q_is, q_isn, q_ofb, q_ixl, q_ixt, q_ixs, q_sll, q_slt, q_b0, q_b1, q_s0, q_s1, q_s2, q_s3, q_s4, q_s5, q_f1, q_f2, q_f3, q_f4, q_f5, q_f6, q_f7, q_f8, q_f9, q_fa, q_fb, q_fc, q_fd, q_fe, q_i0l, q_i0t, q_i1, q_i2, q_i3, q_i4, q_i5, q_t1, q_t2, q_ads0, q_ads, q_sv0, q_sv, List.map_cons, List.map_nil, List.length_cons, List.length_nil, List.getElem?_cons_zero, List.getElem?_cons_succ, List.cons_append, List.nil_append, Option.map_some, Option.map_none, Option.bind_some, if_true, if_false, Bool.false_eq_true, List.replicate, List.set_cons_zero, List.set_cons_succ, blkE, dropE, wipeE, beq_self_eq_true, Bool.not_true, Bool.not_false, Bool.true_or, Bool.false_or, Bool.or_true, Bool.or_false, Bool.and_true, Bool.true_and, pow_10_30]; rfl) b2) (varP rfl) q2) (oneP (cmpP (evC (vs := [.d (tabD k1), .d (.int (0 : Nat))]) (s1 := s) (by simp only [callD, exs, ex, ev, evL, evTs, q_bo, q_bx, q_no, q_op, q_uo, q_ux, q_on, q_or, q_ox, q_oo, q_tn, q_tb, q_ti, q_tl, q_tt, q_ab, q_ai, q_ad, q_add, q_sub, q_att, q_all, q_ass, q_mlk, q_mtk, q_lt, q_le, q_gt, q_ge, q_eqi, q_in, q_ni, q_is, q_isn, q_ofb, q_ixl, q_ixt, q_ixs, q_sll, q_slt, q_b0, q_b1, q_s0, q_s1, q_s2, q_s3, q_s4, q_s5, q_f1, q_f2, q_f3, q_f4, q_f5, q_f6, q_f7, q_f8, q_f9, q_fa, q_fb, q_fc, q_fd, q_fe, q_i0l, q_i0t, q_i1, q_i2, q_i3, q_i4, q_i5, q_t1, q_t2, q_ads0, q_ads, q_sv0, q_sv, List.map_cons, List.map_nil, List.length_cons, List.length_nil, List.getElem?_cons_zero, List.getElem?_cons_succ, List.cons_append, List.nil_append, Option.map_some, Option.map_none, Option.bind_some, if_true, if_false, Bool.false_eq_true, List.replicate, List.set_cons_zero, List.set_cons_succ, blkE, dropE, wipeE, beq_self_eq_true, Bool.not_true, Bool.not_false, Bool.true_or, Bool.false_or, Bool.or_true, Bool.or_false, Bool.and_true, Bool.true_and]; rfl) b3) (y := .d (tabD [[0], [1], [2]])) (s2 := s) (by simp only [callD, exs, ex, ev, evL, evTs, q_bo, q_bx, q_no, q_op, q_uo, q_ux, q_on, q_or, q_ox, q_oo, q_tn, q_tb, q_ti, q_tl, q_tt, q_ab, q_ai, q_ad, q_add, q_sub, q_att, q_all, q_ass, q_mlk, q_mtk, q_lt, q_le, q_gt, q_ge, q_eqi, q_in, q_ni, q_is, q_isn, q_ofb, q_ixl, q_ixt, q_ixs, q_sll, q_slt, q_b0, q_b1, q_s0, q_s1, q_s2, q_s3, q_s4, q_s5, q_f1, q_f2, q_f3, q_f4, q_f5, q_f6, q_f7, q_f8, q_f9, q_fa, q_fb, q_fc, q_fd, q_fe, q_i0l, q_i0t, q_i1, q_i2, q_i3, q_i4, q_i5, q_t1, q_t2, q_ads0, q_ads, q_sv0, q_sv, List.map_cons, List.map_nil, List.length_cons, List.length_nil, List.getElem?_cons_zero, List.getElem?_cons_succ, List.cons_append, List.nil_append, Option.map_some, Option.map_none, Option.bind_some, if_true, if_false, Bool.false_eq_true, List.replicate, List.set_cons_zero, List.set_cons_succ, blkE, dropE, wipeE, beq_self_eq_true, Bool.not_true, Bool.not_false, Bool.true_or, Bool.false_or, Bool.or_true, Bool.or_false, Bool.and_true, Bool.true_and]; rfl) q3)))) rfl ?_
    have cc : ev G (.comp (.call f.can [.var 11, .int 0, .int 0, .var 6]) [6] false 0 [.lst [.int 0, .int 1, .int 2, .int 3, .int 4, .int 5, .bin .Pow (.int 10) (.int 30)]] [] [6]) [.v (.scr ns), a1, a2, a3, a4, a5, a6, a7, a8, a9, a10, .v (.d (tabD k1)), .v (.d (tabD k2)), .v (.d (tabD k3)), .v (.d (tabD k4)), .v (.d (tabD k5))] s = .ok (.d (.list (([0, 1, 2, 3, 4, 5, 1000000000000000000000000000000] : List Nat).map fun r => .bool (pw 3 (tb k1) r 0 0)))) s := by
      refine comp_all (l := ([0, 1, 2, 3, 4, 5, 1000000000000000000000000000000] : List Nat)) (h := iv) (vs := [.d (.list (([0, 1, 2, 3, 4, 5, 1000000000000000000000000000000] : List Nat).map iv))]) (fun r => .bool (pw 3 (tb k1) r 0 0)) (fun j => (blkE [.v (.scr ns), a1, a2, a3, a4, a5, a6, a7, a8, a9, a10, .v (.d (tabD k1)), .v (.d (tabD k2)), .v (.d (tabD k3)), .v (.d (tabD k4)), .v (.d (tabD k5))] [6]).set 6 (.v (.d (iv j)))) (s1 := s) (by simp only [callD, exs, ex, ev, evL, evTs, q_bo, q_bx, q_no, q_op, q_uo, q_ux, q_on, q_or, q_ox, q_oo, q_tn, q_tb, q_ti, q_tl, q_tt, q_ab, q_ai, q_ad, q_add, q_sub, q_att, q_all, q_ass, q_mlk, q_mtk, q_lt, q_le, q_gt, q_ge, q_eqi, q_in, q_ni, q_is, q_isn, q_ofb, q_ixl, q_ixt, q_ixs, q_sll, q_slt, q_b0, q_b1, q_s0, q_s1, q_s2, q_s3, q_s4, q_s5, q_f1, q_f2, q_f3, q_f4, q_f5, q_f6, q_f7, q_f8, q_f9, q_fa, q_fb, q_fc, q_fd, q_fe, q_i0l, q_i0t, q_i1, q_i2, q_i3, q_i4, q_i5, q_t1, q_t2, q_ads0, q_ads, q_sv0, q_sv, List.map_cons, List.map_nil, List.length_cons, List.length_nil, List.getElem?_cons_zero, List.getElem?_cons_succ, List.cons_append, List.nil_append, Option.map_some, Option.map_none, Option.bind_some, if_true, if_false, Bool.false_eq_true, List.replicate, List.set_cons_zero, List.set_cons_succ, blkE, dropE, wipeE, beq_self_eq_true, Bool.not_true, Bool.not_false, Bool.true_or, Bool.false_or, Bool.or_true, Bool.or_false, Bool.and_true, Bool.true_and, pow_10_30]; rfl) q_i0l (fun _ _ => rfl) (fun r hr => ?_)
      have hr' : r ≤ 1000000000000000000000000000000 := by
        simp only [List.mem_cons, List.not_mem_nil, or_false] at hr
        omega
      refine evC (vs := [.d (tabD k1), .d (.int (0 : Nat)), .d (.int (0 : Nat)), .d (.int r)]) (s1 := s) (by simp only [callD, exs, ex, ev, evL, evTs, q_bo, q_bx, q_no, q_op, q_uo, q_ux, q_on, q_or, q_ox, q_oo, q_tn, q_tb, q_ti, q_tl, q_tt, q_ab, q_ai, q_ad, q_add, q_sub, q_att, q_all, q_ass, q_mlk, q_mtk, q_lt, q_le, q_gt, q_ge, q_eqi, q_in, q_ni, q_is, q_isn, q_ofb, q_ixl, q_ixt, q_ixs, q_sll, q_slt, q_b0, q_b1, q_s0, q_s1, q_s2, q_s3, q_s4, q_s5, q_f1, q_f2, q_f3, q_f4, q_f5, q_f6, q_f7, q_f8, q_f9, q_fa, q_fb, q_fc, q_fd, q_fe, q_i0l, q_i0t, q_i1, q_i2, q_i3, q_i4, q_i5, q_t1, q_t2, q_ads0, q_ads, q_sv0, q_sv, List.map_cons, List.map_nil, List.length_cons, List.length_nil, List.getElem?_cons_zero, List.getElem?_cons_succ, List.cons_append, List.nil_append, Option.map_some, Option.map_none, Option.bind_some, if_true, if_false, Bool.false_eq_true, List.replicate, List.set_cons_zero, List.set_cons_succ, blkE, dropE, wipeE, beq_self_eq_true, Bool.not_true, Bool.not_false, Bool.true_or, Bool.false_or, Bool.or_true, Bool.or_false, Bool.and_true, Bool.true_and, iv]; rfl) (C1 0 0 r _ (by omega) (by omega) hr' rfl)
    have cl : (([0, 1, 2, 3, 4, 5, 1000000000000000000000000000000] : List Nat).map fun r => PyData.bool (pw 3 (tb k1) r 0 0)) = [.bool true, .bool false, .bool false, .bool true, .bool false, .bool true, .bool true] := by
      simp only [List.map_cons, List.map_nil, p2]
      rfl
    rw [cl] at cc
    refine ifP0 (cmpP cc (y := .d (.list [.bool true, .bool false, .bool false, .bool true, .bool false, .bool true, .bool true])) (s2 := s) (by simp only [callD, exs, ex, ev, evL, evTs, q_bo, q_bx, q_no, q_op, q_uo, q_ux, q_on, q_or, q_ox, q_oo, q_tn, q_tb, q_ti, q_tl, q_tt, q_ab, q_ai, q_ad, q_add, q_sub, q_att, q_all, q_ass, q_mlk, q_mtk, q_lt, q_le, q_gt, q_ge, q_eqi, q_in, q_ni, q_is, q_isn, q_ofb, q_ixl, q_ixt, q_ixs, q_sll, q_slt, q_b0, q_b1, q_s0, q_s1, q_s2, q_s3, q_s4, q_s5, q_f1, q_f2, q_f3, q_f4, q_f5, q_f6, q_f7, q_f8, q_f9, q_fa, q_fb, q_fc, q_fd, q_fe, q_i0l, q_i0t, q_i1, q_i2, q_i3, q_i4, q_i5, q_t1, q_t2, q_ads0, q_ads, q_sv0, q_sv, List.map_cons, List.map_nil, List.length_cons, List.length_nil, List.getElem?_cons_zero, List.getElem?_cons_succ, List.cons_append, List.nil_append, Option.map_some, Option.map_none, Option.bind_some, if_true, if_false, Bool.false_eq_true, List.replicate, List.set_cons_zero, List.set_cons_succ, blkE, dropE, wipeE, beq_self_eq_true, Bool.not_true, Bool.not_false, Bool.true_or, Bool.false_or, Bool.or_true, Bool.or_false, Bool.and_true, Bool.true_and]) (t := false) (by decide +kernel)) rfl ?_
    have h1 := C2 0 2 2 true (by omega) (by omega) (by omega) (by decide)
    have h2 := C2 2 0 2 false (by omega) (by omega) (by omega) (by decide)
    refine ifP0 (orP0 (cmpP (t := false) (evC (vs := [.d (tabD k2), .d (.int (0 : Nat)), .d (.int (2 : Nat)), .d (.int (2 : Nat))]) (s1 := s) (by simp only [callD, exs, ex, ev, evL, evTs, q_bo, q_bx, q_no, q_op, q_uo, q_ux, q_on, q_or, q_ox, q_oo, q_tn, q_tb, q_ti, q_tl, q_tt, q_ab, q_ai, q_ad, q_add, q_sub, q_att, q_all, q_ass, q_mlk, q_mtk, q_lt, q_le, q_gt, q_ge, q_eqi, q_in, q_ni, q_is, q_isn, q_ofb, q_ixl, q_ixt, q_ixs, q_sll, q_slt, q_b0, q_b1, q_s0, q_s1, q_s2, q_s3, q_s4, q_s5, q_f1, q_f2, q_f3, q_f4, q_f5, q_f6, q_f7, q_f8, q_f9, q_fa, q_fb, q_fc, q_fd, q_fe, q_i0l, q_i0t, q_i1, q_i2, q_i3, q_i4, q_i5, q_t1, q_t2, q_ads0, q_ads, q_sv0, q_sv, List.map_cons, List.map_nil, List.length_cons, List.length_nil, List.getElem?_cons_zero, List.getElem?_cons_succ, List.cons_append, List.nil_append, Option.map_some, Option.map_none, Option.bind_some, if_true, if_false, Bool.false_eq_true, List.replicate, List.set_cons_zero, List.set_cons_succ, blkE, dropE, wipeE, beq_self_eq_true, Bool.not_true, Bool.not_false, Bool.true_or, Bool.false_or, Bool.or_true, Bool.or_false, Bool.and_true, Bool.true_and]; rfl) h1) (y := .d (.bool true)) (s2 := s) (by simp only [callD, exs, ex, ev, evL, evTs, q_bo, q_bx, q_no, q_op, q_uo, q_ux, q_on, q_or, q_ox, q_oo, q_tn, q_tb, q_ti, q_tl, q_tt, q_ab, q_ai, q_ad, q_add, q_sub, q_att, q_all, q_ass, q_mlk, q_mtk, q_lt, q_le, q_gt, q_ge, q_eqi, q_in, q_ni, q_is, q_isn, q_ofb, q_ixl, q_ixt, q_ixs, q_sll, q_slt, q_b0, q_b1, q_s0, q_s1, q_s2, q_s3, q_s4, q_s5, q_f1, q_f2, q_f3, q_f4, q_f5, q_f6, q_f7, q_f8, q_f9, q_fa, q_fb, q_fc, q_fd, q_fe, q_i0l, q_i0t, q_i1, q_i2, q_i3, q_i4, q_i5, q_t1, q_t2, q_ads0, q_ads, q_sv0, q_sv, List.map_cons, List.map_nil, List.length_cons, List.length_nil, List.getElem?_cons_zero, List.getElem?_cons_succ, List.cons_append, List.nil_append, Option.map_some, Option.map_none, Option.bind_some, if_true, if_false, Bool.false_eq_true, List.replicate, List.set_cons_zero, List.set_cons_succ, blkE, dropE, wipeE, beq_self_eq_true, Bool.not_true, Bool.not_false, Bool.true_or, Bool.false_or, Bool.or_true, Bool.or_false, Bool.and_true, Bool.true_and]) rfl) (oneP (cmpP (t := false) (evC (vs := [.d (tabD k2), .d (.int (2 : Nat)), .d (.int (0 : Nat)), .d (.int (2 : Nat))]) (s1 := s) (by simp only [callD, exs, ex, ev, evL, evTs, q_bo, q_bx, q_no, q_op, q_uo, q_ux, q_on, q_or, q_ox, q_oo, q_tn, q_tb, q_ti, q_tl, q_tt, q_ab, q_ai, q_ad, q_add, q_sub, q_att, q_all, q_ass, q_mlk, q_mtk, q_lt, q_le, q_gt, q_ge, q_eqi, q_in, q_ni, q_is, q_isn, q_ofb, q_ixl, q_ixt, q_ixs, q_sll, q_slt, q_b0, q_b1, q_s0, q_s1, q_s2, q_s3, q_s4, q_s5, q_f1, q_f2, q_f3, q_f4, q_f5, q_f6, q_f7, q_f8, q_f9, q_fa, q_fb, q_fc, q_fd, q_fe, q_i0l, q_i0t, q_i1, q_i2, q_i3, q_i4, q_i5, q_t1, q_t2, q_ads0, q_ads, q_sv0, q_sv, List.map_cons, List.map_nil, List.length_cons, List.length_nil, List.getElem?_cons_zero, List.getElem?_cons_succ, List.cons_append, List.nil_append, Option.map_some, Option.map_none, Option.bind_some, if_true, if_false, Bool.false_eq_true, List.replicate, List.set_cons_zero, List.set_cons_succ, blkE, dropE, wipeE, beq_self_eq_true, Bool.not_true, Bool.not_false, Bool.true_or, Bool.false_or, Bool.or_true, Bool.or_false, Bool.and_true, Bool.true_and]; rfl) h2) (y := .d (.bool false)) (s2 := s) (by simp only [callD, exs, ex, ev, evL, evTs, q_bo, q_bx, q_no, q_op, q_uo, q_ux, q_on, q_or, q_ox, q_oo, q_tn, q_tb, q_ti, q_tl, q_tt, q_ab, q_ai, q_ad, q_add, q_sub, q_att, q_all, q_ass, q_mlk, q_mtk, q_lt, q_le, q_gt, q_ge, q_eqi, q_in, q_ni, q_is, q_isn, q_ofb, q_ixl, q_ixt, q_ixs, q_sll, q_slt, q_b0, q_b1, q_s0, q_s1, q_s2, q_s3, q_s4, q_s5, q_f1, q_f2, q_f3, q_f4, q_f5, q_f6, q_f7, q_f8, q_f9, q_fa, q_fb, q_fc, q_fd, q_fe, q_i0l, q_i0t, q_i1, q_i2, q_i3, q_i4, q_i5, q_t1, q_t2, q_ads0, q_ads, q_sv0, q_sv, List.map_cons, List.map_nil, List.length_cons, List.length_nil, List.getElem?_cons_zero, List.getElem?_cons_succ, List.cons_append, List.nil_append, Option.map_some, Option.map_none, Option.bind_some, if_true, if_false, Bool.false_eq_true, List.replicate, List.set_cons_zero, List.set_cons_succ, blkE, dropE, wipeE, beq_self_eq_true, Bool.not_true, Bool.not_false, Bool.true_or, Bool.false_or, Bool.or_true, Bool.or_false, Bool.and_true, Bool.true_and]) rfl))) rfl ?_
    have g1 : G.fn f.course [.d (tabD k1), .d (.int (0 : Nat)), .d (.int (2 : Nat)), .d (.int (4 : Nat))] s = .ok (.d (rowD [0, 1, 2, 1, 2])) s := by
      obtain ⟨d, h1, h2⟩ := co 3 (tb k1) 0 2 4 s n1 n6 (by omega) (by omega) (by omega)
      rw [← k1T] at h1
      rcases h2 with ⟨h2, _⟩ | ⟨w, rfl, h2, h3⟩
      · exact absurd h2 (by decide)
      · obtain ⟨g, r, w1, w2, w3, w4, w5⟩ := h2.path
        rw [w1, List.length_map, List.length_range] at h3
        have : r = 4 := by omega
        subst this
        rw [h1, w1]
        have t0 := w5 0 (by omega)
        have t1 := w5 1 (by omega)
        have t2 := w5 2 (by omega)
        have t3 := w5 3 (by omega)
        have key : ∀ a b c : Fin 3, tb k1 0 a = true → tb k1 a b = true → tb k1 b c = true → tb k1 c 2 = true → a = 1 ∧ b = 2 ∧ c = 1 := by decide
        rw [w2] at t0
        rw [w3] at t3
        obtain ⟨z1, z2, z3⟩ := key ⟨g 1, w4 1 (by omega)⟩ ⟨g 2, w4 2 (by omega)⟩ ⟨g 3, w4 3 (by omega)⟩ t0 t1 t2 t3
        have z1 : g 1 = 1 := congrArg Fin.val z1
        have z2 : g 2 = 2 := congrArg Fin.val z2
        have z3 : g 3 = 1 := congrArg Fin.val z3
        show Res.ok (Vl.d (rowD [g 0, g 1, g 2, g 3, g 4])) s = _
        rw [w2, z1, z2, z3, w3]
    have g2 : G.fn f.course [.d (tabD k1), .d (.int (0 : Nat)), .d (.int (0 : Nat)), .d (.int (1 : Nat))] s = .ok (.d .none) s := by
      obtain ⟨d, h1, h2⟩ := co 3 (tb k1) 0 0 1 s n1 n6 (by omega) (by omega) (by omega)
      rw [← k1T] at h1
      rcases h2 with ⟨_, rfl⟩ | ⟨w, rfl, h2, h3⟩
      · exact h1
      · obtain ⟨g, r, w1, w2, w3, w4, w5⟩ := h2.path
        rw [w1, List.length_map, List.length_range] at h3
        have : r = 1 := by omega
        subst this
        have t0 := w5 0 (by omega)
        rw [w2, show (0 : Nat) + 1 = 1 from rfl, w3] at t0
        exact absurd t0 (by decide)
    have g3 : G.fn f.course [.d (tabD k2), .d (.int (1 : Nat)), .d (.int (1 : Nat)), .d (.int (0 : Nat))] s = .ok (.d (rowD [1])) s := by
      obtain ⟨d, h1, h2⟩ := co 3 (tb k2) 1 1 0 s n1 n6 (by omega) (by omega) (by omega)
      rw [← k2T] at h1
      rcases h2 with ⟨h2, _⟩ | ⟨w, rfl, h2, h3⟩
      · exact absurd h2 (by decide)
      · obtain ⟨g, r, w1, w2, w3, w4, w5⟩ := h2.path
        rw [w1, List.length_map, List.length_range] at h3
        have : r = 0 := by omega
        subst this
        rw [h1, w1]
        show Res.ok (Vl.d (rowD [g 0])) s = _
        rw [w2]
    refine rP (s1 := s) (cmpP (s1 := s) (t := true) (lstP (s1 := s) (vs := [.d (rowD [0, 1, 2, 1, 2]), .d .none, .d (rowD [1])]) (evLc (evC (vs := [.d (tabD k1), .d (.int (0 : Nat)), .d (.int (2 : Nat)), .d (.int (4 : Nat))]) (s1 := s) (by simp only [callD, exs, ex, ev, evL, evTs, q_bo, q_bx, q_no, q_op, q_uo, q_ux, q_on, q_or, q_ox, q_oo, q_tn, q_tb, q_ti, q_tl, q_tt, q_ab, q_ai, q_ad, q_add, q_sub, q_att, q_all, q_ass, q_mlk, q_mtk, q_lt, q_le, q_gt, q_ge, q_eqi, q_in, q_ni, q_is, q_isn, q_ofb, q_ixl, q_ixt, q_ixs, q_sll, q_slt, q_b0, q_b1, q_s0, q_s1, q_s2, q_s3, q_s4, q_s5, q_f1, q_f2, q_f3, q_f4, q_f5, q_f6, q_f7, q_f8, q_f9, q_fa, q_fb, q_fc, q_fd, q_fe, q_i0l, q_i0t, q_i1, q_i2, q_i3, q_i4, q_i5, q_t1, q_t2, q_ads0, q_ads, q_sv0, q_sv, List.map_cons, List.map_nil, List.length_cons, List.length_nil, List.getElem?_cons_zero, List.getElem?_cons_succ, List.cons_append, List.nil_append, Option.map_some, Option.map_none, Option.bind_some, if_true, if_false, Bool.false_eq_true, List.replicate, List.set_cons_zero, List.set_cons_succ, blkE, dropE, wipeE, beq_self_eq_true, Bool.not_true, Bool.not_false, Bool.true_or, Bool.false_or, Bool.or_true, Bool.or_false, Bool.and_true, Bool.true_and]; rfl) g1) (evLc (evC (vs := [.d (tabD k1), .d (.int (0 : Nat)), .d (.int (0 : Nat)), .d (.int (1 : Nat))]) (s1 := s) (by simp only [callD, exs, ex, ev, evL, evTs, q_bo, q_bx, q_no, q_op, q_uo, q_ux, q_on, q_or, q_ox, q_oo, q_tn, q_tb, q_ti, q_tl, q_tt, q_ab, q_ai, q_ad, q_add, q_sub, q_att, q_all, q_ass, q_mlk, q_mtk, q_lt, q_le, q_gt, q_ge, q_eqi, q_in, q_ni, q_is, q_isn, q_ofb, q_ixl, q_ixt, q_ixs, q_sll, q_slt, q_b0, q_b1, q_s0, q_s1, q_s2, q_s3, q_s4, q_s5, q_f1, q_f2, q_f3, q_f4, q_f5, q_f6, q_f7, q_f8, q_f9, q_fa, q_fb, q_fc, q_fd, q_fe, q_i0l, q_i0t, q_i1, q_i2, q_i3, q_i4, q_i5, q_t1, q_t2, q_ads0, q_ads, q_sv0, q_sv, List.map_cons, List.map_nil, List.length_cons, List.length_nil, List.getElem?_cons_zero, List.getElem?_cons_succ, List.cons_append, List.nil_append, Option.map_some, Option.map_none, Option.bind_some, if_true, if_false, Bool.false_eq_true, List.replicate, List.set_cons_zero, List.set_cons_succ, blkE, dropE, wipeE, beq_self_eq_true, Bool.not_true, Bool.not_false, Bool.true_or, Bool.false_or, Bool.or_true, Bool.or_false, Bool.and_true, Bool.true_and]; rfl) g2) (evL1 (evC (vs := [.d (tabD k2), .d (.int (1 : Nat)), .d (.int (1 : Nat)), .d (.int (0 : Nat))]) (s1 := s) (by simp only [callD, exs, ex, ev, evL, evTs, q_bo, q_bx, q_no, q_op, q_uo, q_ux, q_on, q_or, q_ox, q_oo, q_tn, q_tb, q_ti, q_tl, q_tt, q_ab, q_ai, q_ad, q_add, q_sub, q_att, q_all, q_ass, q_mlk, q_mtk, q_lt, q_le, q_gt, q_ge, q_eqi, q_in, q_ni, q_is, q_isn, q_ofb, q_ixl, q_ixt, q_ixs, q_sll, q_slt, q_b0, q_b1, q_s0, q_s1, q_s2, q_s3, q_s4, q_s5, q_f1, q_f2, q_f3, q_f4, q_f5, q_f6, q_f7, q_f8, q_f9, q_fa, q_fb, q_fc, q_fd, q_fe, q_i0l, q_i0t, q_i1, q_i2, q_i3, q_i4, q_i5, q_t1, q_t2, q_ads0, q_ads, q_sv0, q_sv, List.map_cons, List.map_nil, List.length_cons, List.length_nil, List.getElem?_cons_zero, List.getElem?_cons_succ, List.cons_append, List.nil_append, Option.map_some, Option.map_none, Option.bind_some, if_true, if_false, Bool.false_eq_true, List.replicate, List.set_cons_zero, List.set_cons_succ, blkE, dropE, wipeE, beq_self_eq_true, Bool.not_true, Bool.not_false, Bool.true_or, Bool.false_or, Bool.or_true, Bool.or_false, Bool.and_true, Bool.true_and]; rfl) g3)))) rfl) (y := .d (.list [rowD [0, 1, 2, 1, 2], .none, rowD [1]])) (s2 := s) (by simp only [callD, exs, ex, ev, evL, evTs, q_bo, q_bx, q_no, q_op, q_uo, q_ux, q_on, q_or, q_ox, q_oo, q_tn, q_tb, q_ti, q_tl, q_tt, q_ab, q_ai, q_ad, q_add, q_sub, q_att, q_all, q_ass, q_mlk, q_mtk, q_lt, q_le, q_gt, q_ge, q_eqi, q_in, q_ni, q_is, q_isn, q_ofb, q_ixl, q_ixt, q_ixs, q_sll, q_slt, q_b0, q_b1, q_s0, q_s1, q_s2, q_s3, q_s4, q_s5, q_f1, q_f2, q_f3, q_f4, q_f5, q_f6, q_f7, q_f8, q_f9, q_fa, q_fb, q_fc, q_fd, q_fe, q_i0l, q_i0t, q_i1, q_i2, q_i3, q_i4, q_i5, q_t1, q_t2, q_ads0, q_ads, q_sv0, q_sv, List.map_cons, List.map_nil, List.length_cons, List.length_nil, List.getElem?_cons_zero, List.getElem?_cons_succ, List.cons_append, List.nil_append, Option.map_some, Option.map_none, Option.bind_some, if_true, if_false, Bool.false_eq_true, List.replicate, List.set_cons_zero, List.set_cons_succ, blkE, dropE, wipeE, beq_self_eq_true, Bool.not_true, Bool.not_false, Bool.true_or, Bool.false_or, Bool.or_true, Bool.or_false, Bool.and_true, Bool.true_and]; rfl) (by decide +kernel))
end
end X
set_option Elab.async false
set_option linter.all false
set_option maxRecDepth 100000
set_option maxHeartbeats 4000000
/-! Pu10: powers until they come round. -/
namespace X
open PySem Ar
/-- the first power that comes again is the one for m rounds; it is the one for a -/
structure CR (n : Nat) (R : Nat → Nat → Bool) (m a : Nat) : Prop where
  lt : a < m
  le : m ≤ 52
  eq : T n (pw n R m) = T n (pw n R a)
  ne : ∀ j, j < m → ∀ i, i < j → T n (pw n R i) ≠ T n (pw n R j)
theorem CR.uniq {n : Nat} {R : Nat → Nat → Bool} {m a m' a' : Nat} (h : CR n R m a) (h' : CR n R m' a') : m = m' ∧ a = a' := by
  have e : m = m' := by
    by_cases h1 : m < m'
    · exact absurd h.eq.symm (h'.ne m h1 a h.lt)
    · by_cases h2 : m' < m
      · exact absurd h'.eq.symm (h.ne m' h2 a' h'.lt)
      · omega
  subst e
  have e2 : T n (pw n R a) = T n (pw n R a') := h.eq.symm.trans h'.eq
  refine ⟨rfl, ?_⟩
  by_cases h1 : a < a'
  · exact absurd e2 (h.ne a' h'.lt a h1)
  · by_cases h2 : a' < a
    · exact absurd e2.symm (h.ne a h.lt a' h2)
    · omega
theorem CR.red {n : Nat} {R : Nat → Nat → Bool} {m a : Nat} (h : CR n R m a) (k : Nat) (hk : a ≤ k) : Eqn n (pw n R k) (pw n R (a + (k - a) % (m - a))) := by
  have hl := h.lt
  have e : Eqn n (pw n R (a + (m - a))) (pw n R a) := by
    rw [show a + (m - a) = m by omega]
    exact Eqn_of_T h.eq
  have := pw_per e ((k - a) / (m - a)) (a + (k - a) % (m - a)) (by omega)
  have q := Nat.mod_add_div (k - a) (m - a)
  rwa [show a + (k - a) % (m - a) + (m - a) * ((k - a) / (m - a)) = k by omega] at this
theorem CR.le40 {n : Nat} {R : Nat → Nat → Bool} {m a : Nat} (h : CR n R m a) (hn : n ≤ 6) : a ≤ 40 := by
  obtain ⟨P, hP, hper⟩ := comes_round R hn
  refine Decidable.byContradiction fun q => ?_
  have e := T_ext (hper 40 (Nat.le_refl _))
  have hP0 : 0 < P := by omega
  have h1 : m ≤ 40 + P := Decidable.byContradiction fun z => h.ne (40 + P) (by omega) 40 (by omega) e.symm
  have hl := h.lt
  have e2 := T_ext (h.red (40 + P) (by omega))
  have h2 : (40 + P - a) % (m - a) < m - a := Nat.mod_lt _ (by omega)
  exact h.ne (a + (40 + P - a) % (m - a)) (by omega) 40 (by omega) (e.symm.trans e2)
theorem pw_succ' (n : Nat) (R : Nat → Nat → Bool) (k : Nat) : Eqn n (comp n (pw n R k) R) (pw n R (k + 1)) := ((Eqn.refl n _).comp (pw_one n R).symm).trans (pw_add n R k 1)
theorem Enc.cIndex {α : Type} {e : α → D} {k : Nat} (h : Enc e k) (hk : k + 1 ≤ 64) (a : α) (l : List α) (j : Nat) (hj : l[j]? = some a) (hf : ∀ i, i < j → l[i]? ≠ some a) : evMt .index (.d (.list (l.map e))) [.d (e a)] = some (.d (.int j)) := by
  show (if Ar.shp (.list (l.map e)) && Ar.shp (e a) then ((l.map e).findIdx? fun z => PyData.eqv z (e a)).map (fun k => Vl.d (.int (k : Int))) else none) = _
  have e1 : (l.map e).findIdx? (fun z => PyData.eqv z (e a)) = some j := by
    obtain ⟨h1, h2⟩ := List.getElem?_eq_some_iff.mp hj
    refine List.findIdx?_eq_some_iff_getElem.mpr ⟨by rw [List.length_map]; exact h1, ?_, fun i hi => ?_⟩
    · rw [List.getElem_map, h2]
      exact (h.eq a a).mpr rfl
    · rw [List.getElem_map]
      intro q
      refine hf i hi ?_
      rw [List.getElem?_eq_getElem (by omega), (h.eq _ _).mp q]
  rw [h.lst.shp hk l, h.shp (by omega), e1]
  rfl
section
variable {G : Gd} {f : Ix}
def tl (n : Nat) (R : Nat → Nat → Bool) (k : Nat) : List (List (List Nat)) := (List.range (k + 1)).map fun j => T n (pw n R j)
theorem Ts_tl (n : Nat) (R : Nat → Nat → Bool) (k : Nat) : Ts n R k = (tl n R k).map tabD := by
  unfold Ts tl
  rw [List.map_map]
  rfl
theorem tl_get {n : Nat} {R : Nat → Nat → Bool} {k j : Nat} (h : j ≤ k) : (tl n R k)[j]? = some (T n (pw n R j)) := by
  unfold tl
  rw [List.getElem?_map, List.getElem?_range (by omega)]
  rfl
theorem mem_tl {n : Nat} {R : Nat → Nat → Bool} {k : Nat} {t : List (List Nat)} : t ∈ tl n R k ↔ ∃ j, j ≤ k ∧ T n (pw n R j) = t := by
  unfold tl
  rw [List.mem_map]
  exact ⟨fun ⟨j, h1, h2⟩ => ⟨j, by have := List.mem_range.mp h1; omega, h2⟩, fun ⟨j, h1, h2⟩ => ⟨j, List.mem_range.mpr (by omega), h2⟩⟩
theorem in_tl {n : Nat} {R : Nat → Nat → Bool} {k : Nat} (t : List (List Nat)) : evIn (tabD t) (.list (Ts n R k)) = some (decide (t ∈ tl n R k)) := by
  rw [Ts_tl, encTab.cIn (by omega) t (tl n R k)]
  congr
def S_powers (P : F) : Prop := ∀ (n : Nat) R s, n ≤ 6 → ∃ m a, CR n R m a ∧ P [.d (tabD (T n R))] s = .ok (.d (.tuple [.list (Ts n R (m - 1)), .int (a : Nat)])) s
theorem powers_loop (t : S_times (G.fn f.times)) (n : Nat) (R : Nat → Nat → Bool) (hn : n ≤ 6) (s : Sto) : ∀ (fuel k : Nat) (w : Slot), 52 < fuel + k → (∀ j, j ≤ k → ∀ i, i < j → T n (pw n R i) ≠ T n (pw n R j)) →
    ∃ m a, CR n R m a ∧ whileO (fun ρ s => (ev G (.bl true) ρ s).bind fun x s1 => Res.opt (truth x) s1) (fun ρ s => exs G [.set 2 (.call f.times [.idx (.var 1) (.neg (.int 1)), .var 0]), .ifs (.cmp .In (.var 2) (.var 1)) [.ret (.tup [.var 1, .meth .index (.var 1) [.var 2]])] [], .set 1 (.bin .Add (.var 1) (.lst [.var 2]))] ρ s) fuel [.v (.d (tabD (T n R))), .v (.d (.list (Ts n R k))), w] s = .ret (.d (.tuple [.list (Ts n R (m - 1)), .int (a : Nat)])) s := by
  obtain ⟨P, hP, hper⟩ := comes_round R hn
  have small : ∀ k, (∀ j, j ≤ k → ∀ i, i < j → T n (pw n R i) ≠ T n (pw n R j)) → k < 52 := fun k hd => Decidable.byContradiction fun q => hd (40 + P) (by omega) 40 (by omega) (T_ext (hper 40 (Nat.le_refl _))).symm
  intro fuel
  induction fuel with
  | zero =>
    intro k w h1 h2
    have := small k h2
    omega
  | succ fuel ih =>
    intro k w h1 h2
    have hk := small k h2
    have tt : ∀ s, G.fn f.times [.d (tabD (T n (pw n R k))), .d (tabD (T n R))] s = .ok (.d (tabD (T n (pw n R (k + 1))))) s := fun s => by
      rw [t n _ _ s hn, T_ext (pw_succ' n R k)]
    have e1 : ex G (.set 2 (.call f.times [.idx (.var 1) (.neg (.int 1)), .var 0])) [.v (.d (tabD (T n R))), .v (.d (.list (Ts n R k))), w] s = .next [.v (.d (tabD (T n R))), .v (.d (.list (Ts n R k))), .v (.d (tabD (T n (pw n R (k + 1)))))] s := exS (by simp only [callD, exs, ex, ev, evL, evTs, q_bo, q_bx, q_no, q_op, q_uo, q_ux, q_on, q_or, q_ox, q_oo, q_tn, q_tb, q_ti, q_tl, q_tt, q_ab, q_ai, q_ad, q_add, q_sub, q_att, q_all, q_ass, q_mlk, q_mtk, q_lt, q_le, q_gt, q_ge, q_eqi, q_in, q_ni, q_is, q_isn, q_ofb, q_ixl, q_ixt, q_ixs, q_sll, q_slt, q_b0, q_b1, q_s0, q_s1, q_s2, q_s3, q_s4, q_s5, q_f1, q_f2, q_f3, q_f4, q_f5, q_f6, q_f7, q_f8, q_f9, q_fa, q_fb, q_fc, q_fd, q_fe, q_i0l, q_i0t, q_i1, q_i2, q_i3, q_i4, q_i5, q_t1, q_t2, q_ads0, q_ads, q_sv0, q_sv, List.map_cons, List.map_nil, List.length_cons, List.length_nil, List.getElem?_cons_zero, List.getElem?_cons_succ, List.cons_append, List.nil_append, Option.map_some, Option.map_none, Option.bind_some, if_true, if_false, Bool.false_eq_true, List.replicate, List.set_cons_zero, List.set_cons_succ, blkE, dropE, wipeE, beq_self_eq_true, Bool.not_true, Bool.not_false, Bool.true_or, Bool.false_or, Bool.or_true, Bool.or_false, Bool.and_true, Bool.true_and, Ts_last, tt])
    have e2 : ev G (.cmp .In (.var 2) (.var 1)) [.v (.d (tabD (T n R))), .v (.d (.list (Ts n R k))), .v (.d (tabD (T n (pw n R (k + 1)))))] s = .ok (.d (.bool (decide (T n (pw n R (k + 1)) ∈ tl n R k)))) s := cmpP (varP rfl) (varP rfl) (in_tl _)
    unfold whileO
    simp only [ev, q_bo, q_tb, q_op, q_uo, if_true]
    by_cases hm : T n (pw n R (k + 1)) ∈ tl n R k
    · obtain ⟨a, a1, a2⟩ := mem_tl.mp hm
      refine ⟨k + 1, a, ⟨by omega, by omega, a2.symm, fun j hj => h2 j (by omega)⟩, ?_⟩
      have e3 : exs G [.ifs (.cmp .In (.var 2) (.var 1)) [.ret (.tup [.var 1, .meth .index (.var 1) [.var 2]])] [], .set 1 (.bin .Add (.var 1) (.lst [.var 2]))] [.v (.d (tabD (T n R))), .v (.d (.list (Ts n R k))), .v (.d (tabD (T n (pw n R (k + 1)))))] s = .ret (.d (.tuple [.list (Ts n R k), .int (a : Nat)])) s := by
        refine exs_ifr e2 rfl ?_
        rw [decide_eq_true hm]
        refine exs_r (exR ?_)
        have e4 : evMt .index (.d (.list (Ts n R k))) [.d (tabD (T n (pw n R (k + 1))))] = some (.d (.int (a : Nat))) := by
          rw [Ts_tl]
          refine encTab.cIndex (by omega) _ _ a (by rw [tl_get a1, a2]) fun i hi q => ?_
          rw [tl_get (by omega)] at q
          exact h2 a a1 i hi ((Option.some.inj q).trans a2.symm)
        have e5 : mtOk .index (.d (.list (Ts n R k))) = some () := rfl
        simp only [callD, exs, ex, ev, evL, evTs, q_bo, q_bx, q_no, q_op, q_uo, q_ux, q_on, q_or, q_ox, q_oo, q_tn, q_tb, q_ti, q_tl, q_tt, q_ab, q_ai, q_ad, q_add, q_sub, q_att, q_all, q_ass, q_mlk, q_mtk, q_lt, q_le, q_gt, q_ge, q_eqi, q_in, q_ni, q_is, q_isn, q_ofb, q_ixl, q_ixt, q_ixs, q_sll, q_slt, q_b0, q_b1, q_s0, q_s1, q_s2, q_s3, q_s4, q_s5, q_f1, q_f2, q_f3, q_f4, q_f5, q_f6, q_f7, q_f8, q_f9, q_fa, q_fb, q_fc, q_fd, q_fe, q_i0l, q_i0t, q_i1, q_i2, q_i3, q_i4, q_i5, q_t1, q_t2, q_ads0, q_ads, q_sv0, q_sv, List.map_cons, List.map_nil, List.length_cons, List.length_nil, List.getElem?_cons_zero, List.getElem?_cons_succ, List.cons_append, List.nil_append, Option.map_some, Option.map_none, Option.bind_some, if_true, if_false, Bool.false_eq_true, List.replicate, List.set_cons_zero, List.set_cons_succ, blkE, dropE, wipeE, beq_self_eq_true, Bool.not_true, Bool.not_false, Bool.true_or, Bool.false_or, Bool.or_true, Bool.or_false, Bool.and_true, Bool.true_and, e4, e5]
      rw [exs_n e1 e3]
      rfl
    · have e3 : exs G [.ifs (.cmp .In (.var 2) (.var 1)) [.ret (.tup [.var 1, .meth .index (.var 1) [.var 2]])] [], .set 1 (.bin .Add (.var 1) (.lst [.var 2]))] [.v (.d (tabD (T n R))), .v (.d (.list (Ts n R k))), .v (.d (tabD (T n (pw n R (k + 1)))))] s = .next [.v (.d (tabD (T n R))), .v (.d (.list (Ts n R (k + 1)))), .v (.d (tabD (T n (pw n R (k + 1)))))] s := by
        refine exs_if0 e2 (by rw [decide_eq_false hm]; rfl) ?_
        refine exs_n (exS (x := .d (.list (Ts n R (k + 1)))) (s1 := s) ?_) exs_e
        have lb : lineB ((Ts n R k).length + (0 + 1)) = true := by
          unfold lineB
          rw [Ts_len]
          exact decide_eq_true (by rw [sizeLine_eq]; omega)
        simp only [callD, exs, ex, ev, evL, evTs, q_bo, q_bx, q_no, q_op, q_uo, q_ux, q_on, q_or, q_ox, q_oo, q_tn, q_tb, q_ti, q_tl, q_tt, q_ab, q_ai, q_ad, q_add, q_sub, q_att, q_all, q_ass, q_mlk, q_mtk, q_lt, q_le, q_gt, q_ge, q_eqi, q_in, q_ni, q_is, q_isn, q_ofb, q_ixl, q_ixt, q_ixs, q_sll, q_slt, q_b0, q_b1, q_s0, q_s1, q_s2, q_s3, q_s4, q_s5, q_f1, q_f2, q_f3, q_f4, q_f5, q_f6, q_f7, q_f8, q_f9, q_fa, q_fb, q_fc, q_fd, q_fe, q_i0l, q_i0t, q_i1, q_i2, q_i3, q_i4, q_i5, q_t1, q_t2, q_ads0, q_ads, q_sv0, q_sv, List.map_cons, List.map_nil, List.length_cons, List.length_nil, List.getElem?_cons_zero, List.getElem?_cons_succ, List.cons_append, List.nil_append, Option.map_some, Option.map_none, Option.bind_some, if_true, if_false, Bool.false_eq_true, List.replicate, List.set_cons_zero, List.set_cons_succ, blkE, dropE, wipeE, beq_self_eq_true, Bool.not_true, Bool.not_false, Bool.true_or, Bool.false_or, Bool.or_true, Bool.or_false, Bool.and_true, Bool.true_and, lb, Ts_succ]
      obtain ⟨m, a, i1, i2⟩ := ih (k + 1) (.v (.d (tabD (T n (pw n R (k + 1)))))) (by omega) (fun j hj i hi q => by
        by_cases hjk : j ≤ k
        · exact h2 j hjk i hi q
        · have : j = k + 1 := by omega
          subst this
          exact hm (mem_tl.mpr ⟨i, by omega, q⟩))
      refine ⟨m, a, i1, ?_⟩
      rw [exs_n e1 e3]
      exact i2
theorem p_powers (t : S_times (G.fn f.times)) (z : S_nothing (G.fn f.nothing_done)) (hf : 111 ≤ G.fuel) : S_powers (callD G (x_powers f)) := by
  intro n R s hn
  obtain ⟨m, a, h1, h2⟩ := powers_loop (f := f) t n R hn s G.fuel 0 .un (by omega) (fun j hj i hi => by omega)
  refine ⟨m, a, h1, ?_⟩
  refine callR [.v (.d (tabD (T n R))), .un, .un] rfl rfl ?_
  have e3 : G.fn f.nothing_done [.d (.int n)] s = .ok (.d (tabD (T n (pw n R 0)))) s := z n s hn
  refine exs_n (exS (x := .d (.list (Ts n R 0))) (lstP (evL1 (evC (evL1 (lenTab (varP rfl))) e3)) rfl)) ?_
  refine exs_r ?_
  simp only [ex]
  exact h2
/-! ### when they come round -/
def S_tableL (P : F) : Prop := ∀ (xs : List D) s, P [.d (.list xs)] s = .ok (.d (.bool false)) s
theorem p_tableL : S_tableL (callD G (x_is_table f)) := by
  intro xs s
  simp [x_is_table, callD, exs, ex, ev, evL, evTs, q_bo, q_bx, q_no, q_op, q_uo, q_ux, q_on, q_or, q_ox, q_oo, q_tn, q_tb, q_ti, q_tl, q_tt, q_ab, q_ai, q_ad, q_add, q_sub, q_att, q_all, q_ass, q_mlk, q_mtk, q_lt, q_le, q_gt, q_ge, q_eqi, q_in, q_ni, q_is, q_isn, q_ofb, q_ixl, q_ixt, q_ixs, q_sll, q_slt, q_b0, q_b1, q_s0, q_s1, q_s2, q_s3, q_s4, q_s5, q_f1, q_f2, q_f3, q_f4, q_f5, q_f6, q_f7, q_f8, q_f9, q_fa, q_fb, q_fc, q_fd, q_fe, q_i0l, q_i0t, q_i1, q_i2, q_i3, q_i4, q_i5, q_t1, q_t2, q_ads0, q_ads, q_sv0, q_sv, List.map_cons, List.map_nil, List.length_cons, List.length_nil, List.getElem?_cons_zero, List.getElem?_cons_succ, List.cons_append, List.nil_append, Option.map_some, Option.map_none, Option.bind_some, if_true, if_false, Bool.false_eq_true, List.replicate, List.set_cons_zero, List.set_cons_succ, blkE, dropE, wipeE, beq_self_eq_true, Bool.not_true, Bool.not_false, Bool.true_or, Bool.false_or, Bool.or_true, Bool.or_false, Bool.and_true, Bool.true_and]
def S_ntabL (P : F) : Prop := ∀ (xs : List D) s, P [.d (.list xs)] s = .ex "InvalidTable" s
theorem p_ntabL (w : S_tableL (G.fn f.is_table)) : S_ntabL (callD G (x_need_table f)) := by
  intro xs s
  simp only [x_need_table, callD, exs, ex, ev, evL, evTs, q_bo, q_bx, q_no, q_op, q_uo, q_ux, q_on, q_or, q_ox, q_oo, q_tn, q_tb, q_ti, q_tl, q_tt, q_ab, q_ai, q_ad, q_add, q_sub, q_att, q_all, q_ass, q_mlk, q_mtk, q_lt, q_le, q_gt, q_ge, q_eqi, q_in, q_ni, q_is, q_isn, q_ofb, q_ixl, q_ixt, q_ixs, q_sll, q_slt, q_b0, q_b1, q_s0, q_s1, q_s2, q_s3, q_s4, q_s5, q_f1, q_f2, q_f3, q_f4, q_f5, q_f6, q_f7, q_f8, q_f9, q_fa, q_fb, q_fc, q_fd, q_fe, q_i0l, q_i0t, q_i1, q_i2, q_i3, q_i4, q_i5, q_t1, q_t2, q_ads0, q_ads, q_sv0, q_sv, List.map_cons, List.map_nil, List.length_cons, List.length_nil, List.getElem?_cons_zero, List.getElem?_cons_succ, List.cons_append, List.nil_append, Option.map_some, Option.map_none, Option.bind_some, if_true, if_false, Bool.false_eq_true, List.replicate, List.set_cons_zero, List.set_cons_succ, blkE, dropE, wipeE, beq_self_eq_true, Bool.not_true, Bool.not_false, Bool.true_or, Bool.false_or, Bool.or_true, Bool.or_false, Bool.and_true, Bool.true_and, w xs s]
def S_coming (P : F) : Prop := ∀ (n : Nat) R s, 1 ≤ n → n ≤ 6 → ∃ m a, CR n R m a ∧ P [.d (tabD (T n R))] s = .ok (.d (.tuple [.int (a : Nat), .int (m - a : Nat)])) s
def exTup {i j : Nat} {c : C} {ρ : Ar.Env} {s s1 : Sto} {x y : D} (h : ev G c ρ s = .ok (.d (.tuple [x, y])) s1) : ex G (.setTup [i, j] c) ρ s = .next ((ρ.set i (.v (.d x))).set j (.v (.d y))) s1 := by
  simp only [ex, h, q_uo, q_ad, Option.bind_some, q_t2, q_oo]
theorem p_coming (w : S_ntab (G.fn f.need_table)) (p : S_powers (G.fn f.powers)) : S_coming (callD G (x_coming_round f)) := by
  intro n R s h1 h2
  obtain ⟨m, a, c1, c2⟩ := p n R s h2
  refine ⟨m, a, c1, ?_⟩
  have hl := c1.lt
  refine callR [.v (.d (tabD (T n R))), .un, .un] rfl rfl ?_
  refine exs_n (exE (evC (evL1 (varP rfl)) (w n R s h1 h2))) ?_
  refine exs_n (exTup (evC (evL1 (varP rfl)) c2)) ?_
  refine exs_r (exR ?_)
  have e : ((((Ts n R (m - 1)).length : Nat) : Int) - (a : Int)) = ((m - a : Nat) : Int) := by
    rw [Ts_len]
    omega
  simp only [callD, exs, ex, ev, evL, evTs, q_bo, q_bx, q_no, q_op, q_uo, q_ux, q_on, q_or, q_ox, q_oo, q_tn, q_tb, q_ti, q_tl, q_tt, q_ab, q_ai, q_ad, q_add, q_sub, q_att, q_all, q_ass, q_mlk, q_mtk, q_lt, q_le, q_gt, q_ge, q_eqi, q_in, q_ni, q_is, q_isn, q_ofb, q_ixl, q_ixt, q_ixs, q_sll, q_slt, q_b0, q_b1, q_s0, q_s1, q_s2, q_s3, q_s4, q_s5, q_f1, q_f2, q_f3, q_f4, q_f5, q_f6, q_f7, q_f8, q_f9, q_fa, q_fb, q_fc, q_fd, q_fe, q_i0l, q_i0t, q_i1, q_i2, q_i3, q_i4, q_i5, q_t1, q_t2, q_ads0, q_ads, q_sv0, q_sv, List.map_cons, List.map_nil, List.length_cons, List.length_nil, List.getElem?_cons_zero, List.getElem?_cons_succ, List.cons_append, List.nil_append, Option.map_some, Option.map_none, Option.bind_some, if_true, if_false, Bool.false_eq_true, List.replicate, List.set_cons_zero, List.set_cons_succ, blkE, dropE, wipeE, beq_self_eq_true, Bool.not_true, Bool.not_false, Bool.true_or, Bool.false_or, Bool.or_true, Bool.or_false, Bool.and_true, Bool.true_and, e]
def S_comingL (P : F) : Prop := ∀ (xs : List D) s, P [.d (.list xs)] s = .ex "InvalidTable" s
theorem p_comingL (w : S_ntabL (G.fn f.need_table)) : S_comingL (callD G (x_coming_round f)) := by
  intro xs s
  simp only [x_coming_round, callD, exs, ex, ev, evL, evTs, q_bo, q_bx, q_no, q_op, q_uo, q_ux, q_on, q_or, q_ox, q_oo, q_tn, q_tb, q_ti, q_tl, q_tt, q_ab, q_ai, q_ad, q_add, q_sub, q_att, q_all, q_ass, q_mlk, q_mtk, q_lt, q_le, q_gt, q_ge, q_eqi, q_in, q_ni, q_is, q_isn, q_ofb, q_ixl, q_ixt, q_ixs, q_sll, q_slt, q_b0, q_b1, q_s0, q_s1, q_s2, q_s3, q_s4, q_s5, q_f1, q_f2, q_f3, q_f4, q_f5, q_f6, q_f7, q_f8, q_f9, q_fa, q_fb, q_fc, q_fd, q_fe, q_i0l, q_i0t, q_i1, q_i2, q_i3, q_i4, q_i5, q_t1, q_t2, q_ads0, q_ads, q_sv0, q_sv, List.map_cons, List.map_nil, List.length_cons, List.length_nil, List.getElem?_cons_zero, List.getElem?_cons_succ, List.cons_append, List.nil_append, Option.map_some, Option.map_none, Option.bind_some, if_true, if_false, Bool.false_eq_true, List.replicate, List.set_cons_zero, List.set_cons_succ, blkE, dropE, wipeE, beq_self_eq_true, Bool.not_true, Bool.not_false, Bool.true_or, Bool.false_or, Bool.or_true, Bool.or_false, Bool.and_true, Bool.true_and, w xs s]
def S_ixof (P : F) : Prop := ∀ (xs : List D) (a r : Nat) s, a < xs.length → xs.length ≤ 100000 → P [.d (.list xs), .d (.int a), .d (.int r)] s = .ok (.d (.int (if r < xs.length then r else a + (r - a) % (xs.length - a) : Nat))) s
theorem p_ixof : S_ixof (callD G (x_index_of f)) := by
  intro xs a r s h1 h2
  by_cases hr : r < xs.length
  · have e : decide ((r : Int) < (xs.length : Int)) = true := decide_eq_true (by omega)
    rw [if_pos hr]
    simp only [x_index_of, callD, exs, ex, ev, evL, evTs, q_bo, q_bx, q_no, q_op, q_uo, q_ux, q_on, q_or, q_ox, q_oo, q_tn, q_tb, q_ti, q_tl, q_tt, q_ab, q_ai, q_ad, q_add, q_sub, q_att, q_all, q_ass, q_mlk, q_mtk, q_lt, q_le, q_gt, q_ge, q_eqi, q_in, q_ni, q_is, q_isn, q_ofb, q_ixl, q_ixt, q_ixs, q_sll, q_slt, q_b0, q_b1, q_s0, q_s1, q_s2, q_s3, q_s4, q_s5, q_f1, q_f2, q_f3, q_f4, q_f5, q_f6, q_f7, q_f8, q_f9, q_fa, q_fb, q_fc, q_fd, q_fe, q_i0l, q_i0t, q_i1, q_i2, q_i3, q_i4, q_i5, q_t1, q_t2, q_ads0, q_ads, q_sv0, q_sv, List.map_cons, List.map_nil, List.length_cons, List.length_nil, List.getElem?_cons_zero, List.getElem?_cons_succ, List.cons_append, List.nil_append, Option.map_some, Option.map_none, Option.bind_some, if_true, if_false, Bool.false_eq_true, List.replicate, List.set_cons_zero, List.set_cons_succ, blkE, dropE, wipeE, beq_self_eq_true, Bool.not_true, Bool.not_false, Bool.true_or, Bool.false_or, Bool.or_true, Bool.or_false, Bool.and_true, Bool.true_and, e]
  · have e : decide ((r : Int) < (xs.length : Int)) = false := decide_eq_false (by omega)
    have e2 : (a : Int) + ((r : Int) - (a : Int)) % ((xs.length : Int) - (a : Int)) = ((a + (r - a) % (xs.length - a) : Nat) : Int) := by
      rw [Int.natCast_add, Int.natCast_emod, Int.natCast_sub (by omega), Int.natCast_sub (by omega)]
    rw [if_neg hr]
    simp only [x_index_of, callD, exs, ex, ev, evL, evTs, q_bo, q_bx, q_no, q_op, q_uo, q_ux, q_on, q_or, q_ox, q_oo, q_tn, q_tb, q_ti, q_tl, q_tt, q_ab, q_ai, q_ad, q_add, q_sub, q_att, q_all, q_ass, q_mlk, q_mtk, q_lt, q_le, q_gt, q_ge, q_eqi, q_in, q_ni, q_is, q_isn, q_ofb, q_ixl, q_ixt, q_ixs, q_sll, q_slt, q_b0, q_b1, q_s0, q_s1, q_s2, q_s3, q_s4, q_s5, q_f1, q_f2, q_f3, q_f4, q_f5, q_f6, q_f7, q_f8, q_f9, q_fa, q_fb, q_fc, q_fd, q_fe, q_i0l, q_i0t, q_i1, q_i2, q_i3, q_i4, q_i5, q_t1, q_t2, q_ads0, q_ads, q_sv0, q_sv, List.map_cons, List.map_nil, List.length_cons, List.length_nil, List.getElem?_cons_zero, List.getElem?_cons_succ, List.cons_append, List.nil_append, Option.map_some, Option.map_none, Option.bind_some, if_true, if_false, Bool.false_eq_true, List.replicate, List.set_cons_zero, List.set_cons_succ, blkE, dropE, wipeE, beq_self_eq_true, Bool.not_true, Bool.not_false, Bool.true_or, Bool.false_or, Bool.or_true, Bool.or_false, Bool.and_true, Bool.true_and, e, mod_pos (show (0 : Int) < (xs.length : Int) - (a : Int) by omega), e2]
/-! ### a power told by its tables -/
def mulT (n : Nat) (A B : List (List Nat)) : List (List Nat) := (List.range n).map fun i => (List.range n).filter fun j => ((A[i]?).getD []).any fun h => decide (j ∈ (B[h]?).getD [])
theorem mulT_T (n : Nat) (R S : Nat → Nat → Bool) : mulT n (T n R) (T n S) = T n (comp n R S) := by
  unfold mulT
  conv => rhs; unfold T
  refine List.map_congr_left fun i hi => List.filter_congr fun j hj => ?_
  have hi := List.mem_range.mp hi
  have hj := List.mem_range.mp hj
  rw [T_get hi, Option.getD_some, Bool.eq_iff_iff, List.any_eq_true, comp_iff]
  constructor
  · rintro ⟨h, h1, h2⟩
    obtain ⟨h3, h4⟩ := mem_row.mp h1
    rw [T_get h3, Option.getD_some] at h2
    exact ⟨h, h3, h4, (mem_row.mp (of_decide_eq_true h2)).2⟩
  · rintro ⟨h, h1, h2, h3⟩
    refine ⟨h, mem_row.mpr ⟨h1, h2⟩, ?_⟩
    rw [T_get h1, Option.getD_some]
    exact decide_eq_true (mem_row.mpr ⟨hj, h3⟩)
def pchk (n : Nat) (A : List (List Nat)) : List (List (List Nat)) → List (List Nat) → Bool
  | [], _ => true
  | y :: L, x => decide (y = mulT n A x) && pchk n A L y
theorem pchk_ok {n : Nat} {R : Nat → Nat → Bool} : ∀ (L : List (List (List Nat))) (x : List (List Nat)) (k : Nat), x = T n (pw n R k) → pchk n (T n R) L x = true → ∀ i, i < L.length → L[i]? = some (T n (pw n R (k + 1 + i)))
  | [], _, _, _, _, i, hi => by simp at hi
  | y :: L, x, k, hx, h, i, hi => by
    unfold pchk at h
    rw [Bool.and_eq_true, decide_eq_true_iff] at h
    have hy : y = T n (pw n R (k + 1)) := by
      rw [h.1, hx, mulT_T]
      rfl
    cases i with
    | zero => rw [hy]; rfl
    | succ i =>
      rw [List.getElem?_cons_succ, pchk_ok L y (k + 1) hy h.2 i (by simpa using hi)]
      rw [show k + 1 + 1 + i = k + 1 + (i + 1) by omega]
def crB (n : Nat) (A : List (List Nat)) (L : List (List (List Nat))) (m a : Nat) : Bool := decide (A = T n (tb A)) && pchk n A L (T n idR) && decide (L.length = m) && decide (a < m) && decide (m ≤ 52) && decide ((T n idR :: L)[m]? = (T n idR :: L)[a]?) && decide ((T n idR :: L).take m).Nodup
theorem all_pw {n : Nat} {A : List (List Nat)} {L : List (List (List Nat))} (hA : A = T n (tb A)) (h : pchk n A L (T n idR) = true) (i : Nat) (hi : i ≤ L.length) : (T n idR :: L)[i]? = some (T n (pw n (tb A) i)) := by
  cases i with
  | zero => rfl
  | succ i =>
    rw [hA] at h
    have := pchk_ok L (T n idR) 0 rfl h i (by omega)
    rw [List.getElem?_cons_succ, this]
    rw [show 0 + 1 + i = i + 1 by omega]
theorem CR_of {n : Nat} {A : List (List Nat)} {L : List (List (List Nat))} {m a : Nat} (h : crB n A L m a = true) : CR n (tb A) m a := by
  unfold crB at h
  simp only [Bool.and_eq_true, decide_eq_true_eq] at h
  obtain ⟨⟨⟨⟨⟨⟨h1, h2⟩, h3⟩, h4⟩, h5⟩, h6⟩, h7⟩ := h
  have g := all_pw h1 h2
  refine ⟨h4, h5, ?_, fun j hj i hi q => ?_⟩
  · rw [g m (by omega), g a (by omega)] at h6
    exact Option.some.inj h6
  · have lt : ((T n idR :: L).take m).length = m := by rw [List.length_take, List.length_cons]; omega
    have e1 : ((T n idR :: L).take m)[i]? = some (T n (pw n (tb A) i)) := by rw [List.getElem?_take_of_lt (by omega)]; exact g i (by omega)
    have e2 : ((T n idR :: L).take m)[j]? = some (T n (pw n (tb A) j)) := by rw [List.getElem?_take_of_lt (by omega)]; exact g j (by omega)
    rw [← q] at e2
    have := (List.getElem?_inj (by omega) h7).mp (e1.trans e2.symm)
    omega
theorem pick0 {l : Nat} (p : Nat → Bool) (t0 : Nat) (h1 : ∀ t, t < t0 → p t = false) (h2 : p t0 = true) : ∀ c, t0 < c → ((List.range c).filter p)[0]? = some t0
  | 0, h => by omega
  | c + 1, h => by
    rw [List.range_succ, List.filter_append]
    by_cases e : t0 = c
    · subst e
      rw [List.filter_eq_nil_iff.mpr fun x hx => by rw [h1 x (List.mem_range.mp hx)]; exact Bool.false_ne_true]
      simp [h2]
    · have ih := pick0 (l := l) p t0 h1 h2 c (by omega)
      rw [List.getElem?_append_left (List.getElem?_eq_some_iff.mp ih).1]
      exact ih
end
end X
set_option Elab.async false
set_option linter.all false
set_option maxRecDepth 100000
set_option maxHeartbeats 4000000
/-! Pu11: rows that come round, shortened; calendars. -/
namespace X
open PySem Ar
/-! ### periods -/
def PerF {α : Type} (f : Nat → α) (K p : Nat) : Prop := ∀ k, K ≤ k → f (k + p) = f k
section
variable {α : Type} {f : Nat → α} {K p q : Nat}
theorem PerF.mul (h : PerF f K p) : ∀ t k, K ≤ k → f (k + p * t) = f k
  | 0, k, _ => rfl
  | t + 1, k, hk => by
    rw [Nat.mul_succ, ← Nat.add_assoc, h _ (by omega)]
    exact PerF.mul h t k hk
theorem PerF.red (h : PerF f K p) {k : Nat} (hk : K ≤ k) : f k = f (K + (k - K) % p) := by
  have := h.mul ((k - K) / p) (K + (k - K) % p) (by omega)
  have e := Nat.mod_add_div (k - K) p
  rw [← this, show K + (k - K) % p + p * ((k - K) / p) = k by omega]
theorem PerF.sub (h : PerF f K p) (g : PerF f K q) (hl : p ≤ q) : PerF f K (q - p) := fun k hk => by
  rw [← h (k + (q - p)) (by omega), show k + (q - p) + p = k + q by omega]
  exact g k hk
theorem PerF.mod (h : PerF f K p) : ∀ q, PerF f K q → PerF f K (q % p) := fun q g => by
  intro k hk
  have e := Nat.mod_add_div q p
  have := h.mul (q / p) (k + q % p) (by omega)
  rw [← this, show k + q % p + p * (q / p) = k + q by omega]
  exact g k hk
theorem PerF.up (h : PerF f K p) {K' : Nat} (hk : K ≤ K') : PerF f K' p := fun k h' => h k (by omega)
/-- a period from somewhere on is one from where the row comes round -/
theorem PerF.down {a z : Nat} (hz : PerF f a z) (z0 : 0 < z) (g : PerF f K q) : PerF f a q := fun k hk => by
  have hm : K ≤ z * K := Nat.le_mul_of_pos_left K z0
  have h1 := hz.mul K k hk
  have h2 := hz.mul K (k + q) (by omega)
  rw [← h1, ← h2, show k + q + z * K = k + z * K + q by omega]
  exact g _ (by omega)
theorem least_of {P : Nat → Prop} (h : ∃ n, P n) : ∃ n, P n ∧ ∀ m, P m → n ≤ m := by
  obtain ⟨n, hn⟩ := h
  induction n using Nat.strongRecOn with
  | ind n ih =>
    by_cases q : ∃ m, m < n ∧ P m
    · obtain ⟨m, h1, h2⟩ := q
      exact ih m h1 h2
    · exact ⟨n, hn, fun m hm => Decidable.byContradiction fun z => q ⟨m, by omega, hm⟩⟩
/-- shortest: start and period -/
structure SH (f : Nat → α) (s p : Nat) : Prop where
  pos : 0 < p
  per : PerF f s p
  min : ∀ q K, 0 < q → PerF f K q → p ≤ q
  st : s = 0 ∨ f (s - 1 + p) ≠ f (s - 1)
theorem SH.st_le {s : Nat} (h : SH f s p) (g : PerF f K p) : s ≤ K := Decidable.byContradiction fun q => by
  rcases h.st with e | e
  · omega
  · exact e (g _ (by omega))
theorem SH.uniq {s s' p' : Nat} (h : SH f s p) (h' : SH f s' p') : s = s' ∧ p = p' := by
  have e : p = p' := Nat.le_antisymm (h.min _ _ h'.pos h'.per) (h'.min _ _ h.pos h.per)
  subst e
  exact ⟨Nat.le_antisymm (h.st_le h'.per) (h'.st_le h.per), rfl⟩
theorem SH_of {s : Nat} (h0 : 0 < p) (h : PerF f s p) (hm : ∀ q, q < p → 0 < q → ∃ k, s ≤ k ∧ f (k + q) ≠ f k) (hs : s = 0 ∨ f (s - 1 + p) ≠ f (s - 1)) : SH f s p where
  pos := h0
  per := h
  min := fun q K hq g => Decidable.byContradiction fun z => by
    obtain ⟨k, k1, k2⟩ := hm q (by omega) hq
    exact k2 ((h.down h0 g) k k1)
  st := hs
/-- the least period at a divides all of them -/
theorem least_per {a z : Nat} (z0 : 0 < z) (hz : PerF f a z) : ∃ p, 0 < p ∧ PerF f a p ∧ z % p = 0 ∧ ∀ q K, 0 < q → PerF f K q → p ≤ q := by
  obtain ⟨p, ⟨p0, p1⟩, p2⟩ := least_of (P := fun p => 0 < p ∧ PerF f a p) ⟨z, z0, hz⟩
  refine ⟨p, p0, p1, ?_, fun q K hq g => p2 q ⟨hq, hz.down z0 g⟩⟩
  refine Decidable.byContradiction fun q => ?_
  have := p2 (z % p) ⟨Nat.pos_of_ne_zero q, p1.mod z hz⟩
  have := Nat.mod_lt z p0
  omega
/-- a divisor that the row keeps is a period -/
theorem per_of_row {a z d : Nat} (d0 : 0 < d) (hz : PerF f a z) (hd : z % d = 0) (h : ∀ t, t < z → f (a + t) = f (a + t % d)) (z0 : 0 < z) : PerF f a d := by
  have key : ∀ t, f (a + t) = f (a + t % d) := fun t => by
    have e := hz.red (k := a + t) (by omega)
    rw [show a + t - a = t by omega] at e
    rw [e, h (t % z) (Nat.mod_lt _ z0)]
    have : t % z % d = t % d := Nat.mod_mod_of_dvd t (Nat.dvd_of_mod_eq_zero hd)
    rw [this]
  intro k hk
  have e1 := key (k - a)
  have e2 := key (k - a + d)
  rw [show a + (k - a) = k by omega] at e1
  rw [show a + (k - a + d) = k + d by omega, Nat.add_mod_right] at e2
  rw [e1, e2]
theorem row_of_per {a d : Nat} (h : PerF f a d) (t : Nat) : f (a + t) = f (a + t % d) := by
  have e := h.red (k := a + t) (by omega)
  rwa [show a + t - a = t by omega] at e
end
section
variable {G : Gd} {f : Ix} {ρ : Ar.Env} {s s1 s2 : Sto}
theorem bfP {b : Bf} {c : C} {x y : Vl} (h : ev G c ρ s = .ok x s1) (hb : evBf b [x] = some y) : ev G (.bf b [c]) ρ s = .ok y s1 := by
  simp only [ev, evL, h, q_bo, hb, q_op]
theorem idxP {a i : C} {x y z : Vl} (h1 : ev G a ρ s = .ok x s1) (h2 : ev G i ρ s1 = .ok y s2) (h3 : evIdx x y s2 = some z) : ev G (.idx a i) ρ s = .ok z s2 := by
  simp only [ev, h1, q_bo, h2, h3, q_op]
theorem binP {op : Operator} {a b : C} {x y z : Vl} (h1 : ev G a ρ s = .ok x s1) (h2 : ev G b ρ s1 = .ok y s2) (h3 : evBin op x y = some z) : ev G (.bin op a b) ρ s = .ok z s2 := by
  simp only [ev, h1, q_bo, h2, h3, q_op]
theorem ts1P {c : C} {x : Vl} {b : Bool} (h : ev G c ρ s = .ok x s1) (ht : truth x = some b) : evTs G [c] ρ s = .ok b s1 := by
  simp only [evTs, h, q_bo, ht, q_op]
  cases b <;> rfl
theorem rng2_ok {i j : Nat} (h1 : i ≤ j) (h2 : j ≤ 1000000) : evItems 1 [.d (.int i), .d (.int j)] = some ((List.range (j - i)).map fun t => .int ((i : Int) + (t : Int))) := by
  rw [q_i2, okI_small (by omega), okI_small (by omega), decide_eq_true (show (j : Int) - (i : Int) ≤ 16777216 by omega)]
  unfold rngD
  rw [show ((j : Int) - (i : Int)).toNat = j - i by omega]
  rfl
theorem at_map {α : Type} {e : α → D} {len k : Nat} {g : Nat → α} (h : k < len) : L2.atI ((List.range len).map fun t => e (g t)) (k : Int) = some (e (g k)) := by
  rw [atI_nat, List.getElem?_map, List.getElem?_range h]
  rfl
theorem idx_map {α : Type} {e : α → D} {len k : Nat} {g : Nat → α} (h : k < len) (s : Sto) : evIdx (.d (.list ((List.range len).map fun t => e (g t)))) (.d (.int k)) s = some (.d (e (g k))) := by
  rw [q_ixl]
  show (L2.atI _ _).map _ = _
  rw [at_map h]
  rfl
theorem all_dec {α : Type} (p : α → Bool) : ∀ l : List α, (l.map p).all id = l.all p
  | [] => rfl
  | x :: l => by rw [List.map_cons, List.all_cons, List.all_cons, all_dec p l]; rfl
def S_short (P : F) : Prop := ∀ (α : Type) [DecidableEq α] (e : α → D) (k : Nat) (g : Nat → α) (len a : Nat) s, Enc e k → k ≤ 60 → a < len → len ≤ 1000 → PerF g a (len - a) → ∃ st p : Nat, SH g st p ∧ P [.d (.list ((List.range len).map fun t => e (g t))), .d (.int a)] s = .ok (.d (.tuple [.int st, .int p])) s
theorem short_loop {α : Type} [DecidableEq α] {e : α → D} {k : Nat} (he : Enc e k) (hk : k ≤ 60) {g : Nat → α} {len a p : Nat} (hl : a < len) (hlen : len ≤ 1000) (hp : 0 < p) (hp2 : p ≤ len - a) (hz : PerF g a (len - a)) (ix : S_ixof (G.fn f.index_of)) (s : Sto) (x2 x3 x4 : Slot) : ∀ (fuel st : Nat), st < fuel → st ≤ a → PerF g st p →
    ∃ st', PerF g st' p ∧ (st' = 0 ∨ g (st' - 1 + p) ≠ g (st' - 1)) ∧ whileO (fun ρ s => (ev G (.and (.cmp .Gt (.var 6) (.int 0)) (.one (.cmp .Eq (.idx (.var 0) (.bin .Sub (.var 6) (.int 1))) (.idx (.var 0) (.call f.index_of [.var 0, .var 1, .bin .Add (.bin .Sub (.var 6) (.int 1)) (.var 5)]))))) ρ s).bind fun x s1 => Res.opt (truth x) s1) (fun ρ s => exs G [.set 6 (.bin .Sub (.var 6) (.int 1))] ρ s) fuel
      [.v (.d (.list ((List.range len).map fun t => e (g t)))), .v (.d (.int a)), x2, x3, x4, .v (.d (.int p)), .v (.d (.int st)), .un, .un] s = .next [.v (.d (.list ((List.range len).map fun t => e (g t)))), .v (.d (.int a)), x2, x3, x4, .v (.d (.int p)), .v (.d (.int (st' : Nat))), .un, .un] s
  | 0, st, h, _, _ => by omega
  | fuel + 1, st, h, hsa, hper => by
    unfold whileO
    by_cases h0 : st = 0
    · subst h0
      refine ⟨0, hper, .inl rfl, ?_⟩
      simp only [callD, exs, ex, ev, evL, evTs, q_bo, q_bx, q_no, q_op, q_uo, q_ux, q_on, q_or, q_ox, q_oo, q_tn, q_tb, q_ti, q_tl, q_tt, q_ab, q_ai, q_ad, q_add, q_sub, q_att, q_all, q_ass, q_mlk, q_mtk, q_lt, q_le, q_gt, q_ge, q_eqi, q_in, q_ni, q_is, q_isn, q_ofb, q_ixl, q_ixt, q_ixs, q_sll, q_slt, q_b0, q_b1, q_s0, q_s1, q_s2, q_s3, q_s4, q_s5, q_f1, q_f2, q_f3, q_f4, q_f5, q_f6, q_f7, q_f8, q_f9, q_fa, q_fb, q_fc, q_fd, q_fe, q_i0l, q_i0t, q_i1, q_i2, q_i3, q_i4, q_i5, q_t1, q_t2, q_ads0, q_ads, q_sv0, q_sv, List.map_cons, List.map_nil, List.length_cons, List.length_nil, List.getElem?_cons_zero, List.getElem?_cons_succ, List.cons_append, List.nil_append, Option.map_some, Option.map_none, Option.bind_some, if_true, if_false, Bool.false_eq_true, List.replicate, List.set_cons_zero, List.set_cons_succ, blkE, dropE, wipeE, beq_self_eq_true, Bool.not_true, Bool.not_false, Bool.true_or, Bool.false_or, Bool.or_true, Bool.or_false, Bool.and_true, Bool.true_and]
      rfl
    · have e1 : decide ((0 : Int) < (st : Int)) = true := decide_eq_true (by omega)
      have e2 : (st : Int) - 1 = ((st - 1 : Nat) : Int) := by omega
      have e3 : ((st - 1 : Nat) : Int) + (p : Int) = ((st - 1 + p : Nat) : Int) := by omega
      have e4 := ix ((List.range len).map fun t => e (g t)) a (st - 1 + p) s (by rw [List.length_map, List.length_range]; exact hl) (by rw [List.length_map, List.length_range]; omega)
      have i1 := idx_map (e := e) (g := g) (len := len) (k := st - 1) (by omega)
      have e5 : ∃ j, j < len ∧ g j = g (st - 1 + p) ∧ (if st - 1 + p < ((List.range len).map fun t => e (g t)).length then st - 1 + p else a + (st - 1 + p - a) % (((List.range len).map fun t => e (g t)).length - a)) = j := by
        rw [List.length_map, List.length_range]
        by_cases hq : st - 1 + p < len
        · exact ⟨_, hq, rfl, if_pos hq⟩
        · refine ⟨a + (st - 1 + p - a) % (len - a), ?_, (hz.red (by omega)).symm, if_neg hq⟩
          have := Nat.mod_lt (st - 1 + p - a) (show 0 < len - a by omega)
          omega
      obtain ⟨j, j1, j2, j3⟩ := e5
      rw [j3] at e4
      have i2 := idx_map (e := e) (g := g) (len := len) (k := j) j1
      have e6 := he.cEq (by omega) (g (st - 1)) (g j)
      simp only [callD, exs, ex, ev, evL, evTs, q_bo, q_bx, q_no, q_op, q_uo, q_ux, q_on, q_or, q_ox, q_oo, q_tn, q_tb, q_ti, q_tl, q_tt, q_ab, q_ai, q_ad, q_add, q_sub, q_att, q_all, q_ass, q_mlk, q_mtk, q_lt, q_le, q_gt, q_ge, q_eqi, q_in, q_ni, q_is, q_isn, q_ofb, q_ixl, q_ixt, q_ixs, q_sll, q_slt, q_b0, q_b1, q_s0, q_s1, q_s2, q_s3, q_s4, q_s5, q_f1, q_f2, q_f3, q_f4, q_f5, q_f6, q_f7, q_f8, q_f9, q_fa, q_fb, q_fc, q_fd, q_fe, q_i0l, q_i0t, q_i1, q_i2, q_i3, q_i4, q_i5, q_t1, q_t2, q_ads0, q_ads, q_sv0, q_sv, List.map_cons, List.map_nil, List.length_cons, List.length_nil, List.getElem?_cons_zero, List.getElem?_cons_succ, List.cons_append, List.nil_append, Option.map_some, Option.map_none, Option.bind_some, if_true, if_false, Bool.false_eq_true, List.replicate, List.set_cons_zero, List.set_cons_succ, blkE, dropE, wipeE, beq_self_eq_true, Bool.not_true, Bool.not_false, Bool.true_or, Bool.false_or, Bool.or_true, Bool.or_false, Bool.and_true, Bool.true_and, e1, e2, e3, e4, i1, i2, e6]
      by_cases hg : g (st - 1) = g j
      · rw [decide_eq_true hg]
        obtain ⟨st', s1, s2, s3⟩ := short_loop he hk hl hlen hp hp2 hz ix s x2 x3 x4 fuel (st - 1) (by omega) (by omega) (fun k hk => by
          by_cases hks : k = st - 1
          · rw [hks, hg, ← j2]
          · exact hper k (by omega))
        refine ⟨st', s1, s2, ?_⟩
        simp only [if_true]
        exact s3
      · rw [decide_eq_false hg]
        refine ⟨st, hper, .inr fun q => hg ?_, ?_⟩
        · rw [j2, q]
        · simp only [Bool.false_eq_true, if_false]
theorem p_short (ix : S_ixof (G.fn f.index_of)) (hf : 10000 ≤ G.fuel) : S_short (callD G (x_shortened f)) := by
  intro α dα e k g len a s he hk hl hlen hz
  have z0 : 0 < len - a := by omega
  obtain ⟨p, p0, p1, p2, p3⟩ := least_per z0 hz
  have pz : p ≤ len - a := p3 _ _ z0 hz
  obtain ⟨st, t1, t2, t3⟩ := short_loop he hk hl hlen p0 pz hz ix s (.v (.d (.int (len - a : Nat)))) (.v (.d (.list (((List.range (len - a)).filter fun t => decide ((len - a) % (1 + t) = 0)).map fun (t : Nat) => .int (1 + (t : Int)))))) (.v (.d (.list ((((List.range (len - a)).filter fun t => decide ((len - a) % (1 + t) = 0)).filter fun t => (List.range (len - a)).all fun u => decide (g (a + u) = g (a + u % (1 + t)))).map fun (t : Nat) => .int (1 + (t : Int)))))) G.fuel a (by omega) (Nat.le_refl _) p1
  refine ⟨st, p, ⟨p0, t1, p3, t2⟩, ?_⟩
  refine callR [.v (.d (.list ((List.range len).map fun t => e (g t)))), .v (.d (.int a)), .un, .un, .un, .un, .un, .un, .un] rfl rfl ?_
  have e0 : ((((List.range len).map fun t => e (g t)).length : Nat) : Int) - (a : Int) = ((len - a : Nat) : Int) := by
    rw [List.length_map, List.length_range]
    omega
  refine exs_n (exS (x := .d (.int (len - a : Nat))) (s1 := s) (by simp only [callD, exs, ex, ev, evL, evTs, q_bo, q_bx, q_no, q_op, q_uo, q_ux, q_on, q_or, q_ox, q_oo, q_tn, q_tb, q_ti, q_tl, q_tt, q_ab, q_ai, q_ad, q_add, q_sub, q_att, q_all, q_ass, q_mlk, q_mtk, q_lt, q_le, q_gt, q_ge, q_eqi, q_in, q_ni, q_is, q_isn, q_ofb, q_ixl, q_ixt, q_ixs, q_sll, q_slt, q_b0, q_b1, q_s0, q_s1, q_s2, q_s3, q_s4, q_s5, q_f1, q_f2, q_f3, q_f4, q_f5, q_f6, q_f7, q_f8, q_f9, q_fa, q_fb, q_fc, q_fd, q_fe, q_i0l, q_i0t, q_i1, q_i2, q_i3, q_i4, q_i5, q_t1, q_t2, q_ads0, q_ads, q_sv0, q_sv, List.map_cons, List.map_nil, List.length_cons, List.length_nil, List.getElem?_cons_zero, List.getElem?_cons_succ, List.cons_append, List.nil_append, Option.map_some, Option.map_none, Option.bind_some, if_true, if_false, Bool.false_eq_true, List.replicate, List.set_cons_zero, List.set_cons_succ, blkE, dropE, wipeE, beq_self_eq_true, Bool.not_true, Bool.not_false, Bool.true_or, Bool.false_or, Bool.or_true, Bool.or_false, Bool.and_true, Bool.true_and, e0])) ?_
  generalize hzz : len - a = z at *
  have e1 := comp_pure (G := G) (elt := .var 7) (tg := [7]) (tt := false) (ik := 1) (its := [.int 1, .bin .Add (.var 2) (.int 1)]) (ifs := [.cmp .Eq (.bin .Mod (.var 2) (.var 7)) (.int 0)]) (own := [7]) (ρ := [.v (.d (.list ((List.range len).map fun t => e (g t)))), .v (.d (.int a)), .v (.d (.int z)), .un, .un, .un, .un, .un, .un]) (s := s) (s1 := s) (vs := [.d (.int (1 : Nat)), .d (.int (z + 1 : Nat))]) (l := List.range z) (h := fun t => .int (((1 : Nat) : Int) + (t : Int))) (fun t => decide (z % (1 + t) = 0)) (fun t => .int (1 + (t : Int))) (fun t => [.v (.d (.list ((List.range len).map fun t => e (g t)))), .v (.d (.int a)), .v (.d (.int z)), .un, .un, .un, .un, .v (.d (.int (1 + (t : Int)))), .un]) (by simp only [callD, exs, ex, ev, evL, evTs, q_bo, q_bx, q_no, q_op, q_uo, q_ux, q_on, q_or, q_ox, q_oo, q_tn, q_tb, q_ti, q_tl, q_tt, q_ab, q_ai, q_ad, q_add, q_sub, q_att, q_all, q_ass, q_mlk, q_mtk, q_lt, q_le, q_gt, q_ge, q_eqi, q_in, q_ni, q_is, q_isn, q_ofb, q_ixl, q_ixt, q_ixs, q_sll, q_slt, q_b0, q_b1, q_s0, q_s1, q_s2, q_s3, q_s4, q_s5, q_f1, q_f2, q_f3, q_f4, q_f5, q_f6, q_f7, q_f8, q_f9, q_fa, q_fb, q_fc, q_fd, q_fe, q_i0l, q_i0t, q_i1, q_i2, q_i3, q_i4, q_i5, q_t1, q_t2, q_ads0, q_ads, q_sv0, q_sv, List.map_cons, List.map_nil, List.length_cons, List.length_nil, List.getElem?_cons_zero, List.getElem?_cons_succ, List.cons_append, List.nil_append, Option.map_some, Option.map_none, Option.bind_some, if_true, if_false, Bool.false_eq_true, List.replicate, List.set_cons_zero, List.set_cons_succ, blkE, dropE, wipeE, beq_self_eq_true, Bool.not_true, Bool.not_false, Bool.true_or, Bool.false_or, Bool.or_true, Bool.or_false, Bool.and_true, Bool.true_and]; rfl) (rng2_ok (i := 1) (j := z + 1) (by omega) (by omega)) (fun t _ => rfl) (fun t ht => by
    have q : decide ((z : Int) % (1 + (t : Int)) = 0) = decide (z % (1 + t) = 0) := by
      rw [decide_eq_decide, show (1 : Int) + (t : Int) = ((1 + t : Nat) : Int) by omega, ← Int.natCast_emod]
      omega
    simp only [callD, exs, ex, ev, evL, evTs, q_bo, q_bx, q_no, q_op, q_uo, q_ux, q_on, q_or, q_ox, q_oo, q_tn, q_tb, q_ti, q_tl, q_tt, q_ab, q_ai, q_ad, q_add, q_sub, q_att, q_all, q_ass, q_mlk, q_mtk, q_lt, q_le, q_gt, q_ge, q_eqi, q_in, q_ni, q_is, q_isn, q_ofb, q_ixl, q_ixt, q_ixs, q_sll, q_slt, q_b0, q_b1, q_s0, q_s1, q_s2, q_s3, q_s4, q_s5, q_f1, q_f2, q_f3, q_f4, q_f5, q_f6, q_f7, q_f8, q_f9, q_fa, q_fb, q_fc, q_fd, q_fe, q_i0l, q_i0t, q_i1, q_i2, q_i3, q_i4, q_i5, q_t1, q_t2, q_ads0, q_ads, q_sv0, q_sv, List.map_cons, List.map_nil, List.length_cons, List.length_nil, List.getElem?_cons_zero, List.getElem?_cons_succ, List.cons_append, List.nil_append, Option.map_some, Option.map_none, Option.bind_some, if_true, if_false, Bool.false_eq_true, List.replicate, List.set_cons_zero, List.set_cons_succ, blkE, dropE, wipeE, beq_self_eq_true, Bool.not_true, Bool.not_false, Bool.true_or, Bool.false_or, Bool.or_true, Bool.or_false, Bool.and_true, Bool.true_and, mod_pos (show (0 : Int) < 1 + (t : Int) by omega), q]
    cases decide (z % (1 + t) = 0) <;> rfl) (fun t _ _ => by simp only [callD, exs, ex, ev, evL, evTs, q_bo, q_bx, q_no, q_op, q_uo, q_ux, q_on, q_or, q_ox, q_oo, q_tn, q_tb, q_ti, q_tl, q_tt, q_ab, q_ai, q_ad, q_add, q_sub, q_att, q_all, q_ass, q_mlk, q_mtk, q_lt, q_le, q_gt, q_ge, q_eqi, q_in, q_ni, q_is, q_isn, q_ofb, q_ixl, q_ixt, q_ixs, q_sll, q_slt, q_b0, q_b1, q_s0, q_s1, q_s2, q_s3, q_s4, q_s5, q_f1, q_f2, q_f3, q_f4, q_f5, q_f6, q_f7, q_f8, q_f9, q_fa, q_fb, q_fc, q_fd, q_fe, q_i0l, q_i0t, q_i1, q_i2, q_i3, q_i4, q_i5, q_t1, q_t2, q_ads0, q_ads, q_sv0, q_sv, List.map_cons, List.map_nil, List.length_cons, List.length_nil, List.getElem?_cons_zero, List.getElem?_cons_succ, List.cons_append, List.nil_append, Option.map_some, Option.map_none, Option.bind_some, if_true, if_false, Bool.false_eq_true, List.replicate, List.set_cons_zero, List.set_cons_succ, blkE, dropE, wipeE, beq_self_eq_true, Bool.not_true, Bool.not_false, Bool.true_or, Bool.false_or, Bool.or_true, Bool.or_false, Bool.and_true, Bool.true_and])
  refine exs_n (exS e1) ?_
  have e2 := comp_pure (G := G) (elt := .var 7) (tg := [7]) (tt := false) (ik := 0) (its := [.var 3]) (ifs := [.bf .all [.comp (.cmp .Eq (.idx (.var 0) (.bin .Add (.var 1) (.var 8))) (.idx (.var 0) (.bin .Add (.var 1) (.bin .Mod (.var 8) (.var 7))))) [8] false 1 [.var 2] [] [8]]]) (own := [7]) (ρ := [.v (.d (.list ((List.range len).map fun t => e (g t)))), .v (.d (.int a)), .v (.d (.int z)), .v (.d (.list (((List.range z).filter fun t => decide (z % (1 + t) = 0)).map fun (t : Nat) => .int (1 + (t : Int))))), .un, .un, .un, .un, .un]) (s := s) (s1 := s) (vs := [.d (.list (((List.range z).filter fun t => decide (z % (1 + t) = 0)).map fun (t : Nat) => .int (1 + (t : Int))))]) (l := (List.range z).filter fun t => decide (z % (1 + t) = 0)) (h := fun t => .int (1 + (t : Int))) (fun t => (List.range z).all fun u => decide (g (a + u) = g (a + u % (1 + t)))) (fun t => .int (1 + (t : Int))) (fun t => [.v (.d (.list ((List.range len).map fun t => e (g t)))), .v (.d (.int a)), .v (.d (.int z)), .v (.d (.list (((List.range z).filter fun t => decide (z % (1 + t) = 0)).map fun (t : Nat) => .int (1 + (t : Int))))), .un, .un, .un, .v (.d (.int (1 + (t : Int)))), .un]) (by simp only [callD, exs, ex, ev, evL, evTs, q_bo, q_bx, q_no, q_op, q_uo, q_ux, q_on, q_or, q_ox, q_oo, q_tn, q_tb, q_ti, q_tl, q_tt, q_ab, q_ai, q_ad, q_add, q_sub, q_att, q_all, q_ass, q_mlk, q_mtk, q_lt, q_le, q_gt, q_ge, q_eqi, q_in, q_ni, q_is, q_isn, q_ofb, q_ixl, q_ixt, q_ixs, q_sll, q_slt, q_b0, q_b1, q_s0, q_s1, q_s2, q_s3, q_s4, q_s5, q_f1, q_f2, q_f3, q_f4, q_f5, q_f6, q_f7, q_f8, q_f9, q_fa, q_fb, q_fc, q_fd, q_fe, q_i0l, q_i0t, q_i1, q_i2, q_i3, q_i4, q_i5, q_t1, q_t2, q_ads0, q_ads, q_sv0, q_sv, List.map_cons, List.map_nil, List.length_cons, List.length_nil, List.getElem?_cons_zero, List.getElem?_cons_succ, List.cons_append, List.nil_append, Option.map_some, Option.map_none, Option.bind_some, if_true, if_false, Bool.false_eq_true, List.replicate, List.set_cons_zero, List.set_cons_succ, blkE, dropE, wipeE, beq_self_eq_true, Bool.not_true, Bool.not_false, Bool.true_or, Bool.false_or, Bool.or_true, Bool.or_false, Bool.and_true, Bool.true_and]) q_i0l (fun t _ => rfl) (fun t ht => by
    have ht := List.mem_range.mp (List.mem_filter.mp ht).1
    refine ts1P (x := .d (.bool ((List.range z).all fun u => decide (g (a + u) = g (a + u % (1 + t)))))) (bfP (comp_all (l := List.range z) (h := iv) (vs := [.d (.int z)]) (s1 := s) (fun u => .bool (decide (g (a + u) = g (a + u % (1 + t))))) (fun u => [.v (.d (.list ((List.range len).map fun t => e (g t)))), .v (.d (.int a)), .v (.d (.int z)), .v (.d (.list (((List.range z).filter fun t => decide (z % (1 + t) = 0)).map fun (t : Nat) => .int (1 + (t : Int))))), .un, .un, .un, .v (.d (.int (1 + (t : Int)))), .v (.d (iv u))]) (by simp only [callD, exs, ex, ev, evL, evTs, q_bo, q_bx, q_no, q_op, q_uo, q_ux, q_on, q_or, q_ox, q_oo, q_tn, q_tb, q_ti, q_tl, q_tt, q_ab, q_ai, q_ad, q_add, q_sub, q_att, q_all, q_ass, q_mlk, q_mtk, q_lt, q_le, q_gt, q_ge, q_eqi, q_in, q_ni, q_is, q_isn, q_ofb, q_ixl, q_ixt, q_ixs, q_sll, q_slt, q_b0, q_b1, q_s0, q_s1, q_s2, q_s3, q_s4, q_s5, q_f1, q_f2, q_f3, q_f4, q_f5, q_f6, q_f7, q_f8, q_f9, q_fa, q_fb, q_fc, q_fd, q_fe, q_i0l, q_i0t, q_i1, q_i2, q_i3, q_i4, q_i5, q_t1, q_t2, q_ads0, q_ads, q_sv0, q_sv, List.map_cons, List.map_nil, List.length_cons, List.length_nil, List.getElem?_cons_zero, List.getElem?_cons_succ, List.cons_append, List.nil_append, Option.map_some, Option.map_none, Option.bind_some, if_true, if_false, Bool.false_eq_true, List.replicate, List.set_cons_zero, List.set_cons_succ, blkE, dropE, wipeE, beq_self_eq_true, Bool.not_true, Bool.not_false, Bool.true_or, Bool.false_or, Bool.or_true, Bool.or_false, Bool.and_true, Bool.true_and]) (i1_ok (by omega)) (fun u _ => rfl) (fun u hu => ?_)) ?_) rfl
    · have hu := List.mem_range.mp hu
      have w1 : (a : Int) + (u : Int) = ((a + u : Nat) : Int) := by omega
      have w2 : (a : Int) + (u : Int) % (1 + (t : Int)) = ((a + u % (1 + t) : Nat) : Int) := by
        rw [show (1 : Int) + (t : Int) = ((1 + t : Nat) : Int) by omega, ← Int.natCast_emod, ← Int.natCast_add]
      have w3 : u % (1 + t) < 1 + t := Nat.mod_lt _ (by omega)
      have w4 := idx_map (e := e) (g := g) (len := len) (k := a + u) (by omega)
      have w5 := idx_map (e := e) (g := g) (len := len) (k := a + u % (1 + t)) (by omega)
      have w6 := he.cEq (by omega) (g (a + u)) (g (a + u % (1 + t)))
      simp only [callD, exs, ex, ev, evL, evTs, q_bo, q_bx, q_no, q_op, q_uo, q_ux, q_on, q_or, q_ox, q_oo, q_tn, q_tb, q_ti, q_tl, q_tt, q_ab, q_ai, q_ad, q_add, q_sub, q_att, q_all, q_ass, q_mlk, q_mtk, q_lt, q_le, q_gt, q_ge, q_eqi, q_in, q_ni, q_is, q_isn, q_ofb, q_ixl, q_ixt, q_ixs, q_sll, q_slt, q_b0, q_b1, q_s0, q_s1, q_s2, q_s3, q_s4, q_s5, q_f1, q_f2, q_f3, q_f4, q_f5, q_f6, q_f7, q_f8, q_f9, q_fa, q_fb, q_fc, q_fd, q_fe, q_i0l, q_i0t, q_i1, q_i2, q_i3, q_i4, q_i5, q_t1, q_t2, q_ads0, q_ads, q_sv0, q_sv, List.map_cons, List.map_nil, List.length_cons, List.length_nil, List.getElem?_cons_zero, List.getElem?_cons_succ, List.cons_append, List.nil_append, Option.map_some, Option.map_none, Option.bind_some, if_true, if_false, Bool.false_eq_true, List.replicate, List.set_cons_zero, List.set_cons_succ, blkE, dropE, wipeE, beq_self_eq_true, Bool.not_true, Bool.not_false, Bool.true_or, Bool.false_or, Bool.or_true, Bool.or_false, Bool.and_true, Bool.true_and, iv, mod_pos (show (0 : Int) < 1 + (t : Int) by omega), w1, w2, w4, w5, w6]
    · rw [q_fc, allBool_map]
      show some (Vl.d (.bool (List.all _ id))) = _
      rw [all_dec]) (fun t _ _ => by simp only [callD, exs, ex, ev, evL, evTs, q_bo, q_bx, q_no, q_op, q_uo, q_ux, q_on, q_or, q_ox, q_oo, q_tn, q_tb, q_ti, q_tl, q_tt, q_ab, q_ai, q_ad, q_add, q_sub, q_att, q_all, q_ass, q_mlk, q_mtk, q_lt, q_le, q_gt, q_ge, q_eqi, q_in, q_ni, q_is, q_isn, q_ofb, q_ixl, q_ixt, q_ixs, q_sll, q_slt, q_b0, q_b1, q_s0, q_s1, q_s2, q_s3, q_s4, q_s5, q_f1, q_f2, q_f3, q_f4, q_f5, q_f6, q_f7, q_f8, q_f9, q_fa, q_fb, q_fc, q_fd, q_fe, q_i0l, q_i0t, q_i1, q_i2, q_i3, q_i4, q_i5, q_t1, q_t2, q_ads0, q_ads, q_sv0, q_sv, List.map_cons, List.map_nil, List.length_cons, List.length_nil, List.getElem?_cons_zero, List.getElem?_cons_succ, List.cons_append, List.nil_append, Option.map_some, Option.map_none, Option.bind_some, if_true, if_false, Bool.false_eq_true, List.replicate, List.set_cons_zero, List.set_cons_succ, blkE, dropE, wipeE, beq_self_eq_true, Bool.not_true, Bool.not_false, Bool.true_or, Bool.false_or, Bool.or_true, Bool.or_false, Bool.and_true, Bool.true_and])
  refine exs_n (exS e2) ?_
  have e3 : L2.atI ((((List.range z).filter fun t => decide (z % (1 + t) = 0)).filter fun t => (List.range z).all fun u => decide (g (a + u) = g (a + u % (1 + t)))).map fun (t : Nat) => PyData.int (1 + (t : Int))) 0 = some (.int p) := by
    refine (atI_nat _ 0).trans ?_
    rw [List.filter_filter, List.getElem?_map]
    have pk := pick0 (l := 0) (fun t => ((List.range z).all fun u => decide (g (a + u) = g (a + u % (1 + t)))) && decide (z % (1 + t) = 0)) (p - 1) (fun t ht => by
      rw [Bool.and_eq_false_iff]
      by_cases hd : z % (1 + t) = 0
      · left
        cases q : (List.range z).all fun u => decide (g (a + u) = g (a + u % (1 + t))) with
        | false => rfl
        | true =>
          rw [List.all_eq_true] at q
          have := p3 (1 + t) a (by omega) (per_of_row (by omega) hz hd (fun u hu => of_decide_eq_true (q u (List.mem_range.mpr hu))) z0)
          omega
      · exact .inr (decide_eq_false hd)) (by
      rw [Bool.and_eq_true, show 1 + (p - 1) = p by omega]
      exact ⟨List.all_eq_true.mpr fun u _ => decide_eq_true (row_of_per p1 u), decide_eq_true p2⟩) z (by omega)
    rw [pk]
    show some (PyData.int (1 + ((p - 1 : Nat) : Int))) = _
    rw [show (1 : Int) + ((p - 1 : Nat) : Int) = (p : Int) by omega]
  refine exs_n (exPar (vs := [.d (.int p), .d (.int a)]) (s1 := s) (by simp only [callD, exs, ex, ev, evL, evTs, q_bo, q_bx, q_no, q_op, q_uo, q_ux, q_on, q_or, q_ox, q_oo, q_tn, q_tb, q_ti, q_tl, q_tt, q_ab, q_ai, q_ad, q_add, q_sub, q_att, q_all, q_ass, q_mlk, q_mtk, q_lt, q_le, q_gt, q_ge, q_eqi, q_in, q_ni, q_is, q_isn, q_ofb, q_ixl, q_ixt, q_ixs, q_sll, q_slt, q_b0, q_b1, q_s0, q_s1, q_s2, q_s3, q_s4, q_s5, q_f1, q_f2, q_f3, q_f4, q_f5, q_f6, q_f7, q_f8, q_f9, q_fa, q_fb, q_fc, q_fd, q_fe, q_i0l, q_i0t, q_i1, q_i2, q_i3, q_i4, q_i5, q_t1, q_t2, q_ads0, q_ads, q_sv0, q_sv, List.map_cons, List.map_nil, List.length_cons, List.length_nil, List.getElem?_cons_zero, List.getElem?_cons_succ, List.cons_append, List.nil_append, Option.map_some, Option.map_none, Option.bind_some, if_true, if_false, Bool.false_eq_true, List.replicate, List.set_cons_zero, List.set_cons_succ, blkE, dropE, wipeE, beq_self_eq_true, Bool.not_true, Bool.not_false, Bool.true_or, Bool.false_or, Bool.or_true, Bool.or_false, Bool.and_true, Bool.true_and, e3]) rfl) ?_
  refine exs_n (c := .whil _ _) (by simp only [ex]; exact t3) ?_
  refine exs_r (exR ?_)
  simp only [callD, exs, ex, ev, evL, evTs, q_bo, q_bx, q_no, q_op, q_uo, q_ux, q_on, q_or, q_ox, q_oo, q_tn, q_tb, q_ti, q_tl, q_tt, q_ab, q_ai, q_ad, q_add, q_sub, q_att, q_all, q_ass, q_mlk, q_mtk, q_lt, q_le, q_gt, q_ge, q_eqi, q_in, q_ni, q_is, q_isn, q_ofb, q_ixl, q_ixt, q_ixs, q_sll, q_slt, q_b0, q_b1, q_s0, q_s1, q_s2, q_s3, q_s4, q_s5, q_f1, q_f2, q_f3, q_f4, q_f5, q_f6, q_f7, q_f8, q_f9, q_fa, q_fb, q_fc, q_fd, q_fe, q_i0l, q_i0t, q_i1, q_i2, q_i3, q_i4, q_i5, q_t1, q_t2, q_ads0, q_ads, q_sv0, q_sv, List.map_cons, List.map_nil, List.length_cons, List.length_nil, List.getElem?_cons_zero, List.getElem?_cons_succ, List.cons_append, List.nil_append, Option.map_some, Option.map_none, Option.bind_some, if_true, if_false, Bool.false_eq_true, List.replicate, List.set_cons_zero, List.set_cons_succ, blkE, dropE, wipeE, beq_self_eq_true, Bool.not_true, Bool.not_false, Bool.true_or, Bool.false_or, Bool.or_true, Bool.or_false, Bool.and_true, Bool.true_and]
end
end X
set_option Elab.async false
set_option linter.all false
set_option maxRecDepth 100000
set_option maxHeartbeats 4000000
/-! Pu12: calendars. -/
namespace X
open PySem Ar
def farL (tr : Nat → Bool) (s p : Nat) : List Int := ((List.range p).filter fun t => tr (s + t)).map fun (t : Nat) => (((s + t) % p : Nat) : Int)
def calD (tr : Nat → Bool) (s p : Nat) : D := .tuple [.tuple (((List.range s).filter tr).map iv), .int s, .int p, .tuple ((isort (farL tr s p)).map .int)]
/-- it depends on the power alone -/
def Dep {α : Type} (n : Nat) (R : Nat → Nat → Bool) (g : Nat → α) : Prop := ∀ k k', Eqn n (pw n R k) (pw n R k') → g k = g k'
section
variable {α : Type} {n : Nat} {R : Nat → Nat → Bool} {g : Nat → α} {m a st p : Nat}
theorem Dep.per (h : Dep n R g) (c : CR n R m a) : PerF g a (m - a) := fun k hk => by
  have hl := c.lt
  have e1 := h _ _ (c.red (k + (m - a)) (by omega))
  have e2 := h _ _ (c.red k hk)
  rw [e1, e2]
  refine congrArg g (congrArg _ ?_)
  rw [show k + (m - a) - a = (k - a) + (m - a) by omega, Nat.add_mod_right]
theorem Dep.bounds' (h : Dep n R g) (hn : n ≤ 6) (s : SH g st p) : st ≤ 40 ∧ p ≤ 12 := by
  obtain ⟨P, hP, hper⟩ := comes_round R hn
  have hq : PerF g 40 P := fun k hk => h _ _ (hper k hk)
  have h1 : p ≤ P := s.min P 40 (by omega) hq
  exact ⟨s.st_le (hq.down (by omega) s.per), by omega⟩
theorem per_of_CR (h : Dep n R g) (c : CR n R m a) (hs : st ≤ a) (hk : ∀ k, k < m → st ≤ k → g (k + p) = g k) : PerF g st p := fun k hk' => by
  by_cases hm : k < m
  · exact hk k hm hk'
  · have hl := c.lt
    have hp := h.per c
    have e1 := hp.red (k := k) (by omega)
    have lt : (k - a) % (m - a) < m - a := Nat.mod_lt _ (by omega)
    have e2 := hp.mul ((k - a) / (m - a)) (a + (k - a) % (m - a) + p) (by omega)
    have e3 := Nat.mod_add_div (k - a) (m - a)
    rw [show a + (k - a) % (m - a) + p + (m - a) * ((k - a) / (m - a)) = k + p by omega] at e2
    rw [e1, e2]
    exact hk _ (by omega) (by omega)
end
section
variable {G : Gd} {f : Ix}
def S_goes (P : F) : Prop := ∀ (α : Type) [DecidableEq α] (e : α → D) (k : Nat) (g : Nat → α) (q : Nat) s, Enc e k → k ≤ 60 → 1 ≤ q → q ≤ 30 → P [.d (.list ((List.range 120).map fun t => e (g t))), .d (.int q)] s = .ok (.d (.bool ((List.range (80 - q)).all fun t => decide (g (40 + t) = g (40 + t + q))))) s
theorem p_goes : S_goes (callD G (x_law_goes f)) := by
  intro α dα e k g q s he hk h1 h2
  refine callR [.v (.d (.list ((List.range 120).map fun t => e (g t)))), .v (.d (.int q)), .un] rfl rfl ?_
  have e1 := comp_pure (G := G) (elt := .var 2) (tg := [2]) (tt := false) (ik := 1) (its := [.int 40, .bin .Sub (.int 120) (.var 1)]) (ifs := [.cmp .NotEq (.idx (.var 0) (.var 2)) (.idx (.var 0) (.bin .Add (.var 2) (.var 1)))]) (own := [2]) (ρ := [.v (.d (.list ((List.range 120).map fun t => e (g t)))), .v (.d (.int q)), .un]) (s := s) (s1 := s) (vs := [.d (.int (40 : Nat)), .d (.int (120 - q : Nat))]) (l := List.range (120 - q - 40)) (h := fun t => .int (((40 : Nat) : Int) + (t : Int))) (fun t => !decide (g (40 + t) = g (40 + t + q))) (fun t => .int (((40 : Nat) : Int) + (t : Int))) (fun t => [.v (.d (.list ((List.range 120).map fun t => e (g t)))), .v (.d (.int q)), .v (.d (.int (((40 : Nat) : Int) + (t : Int))))]) (by
    have : (120 : Int) - (q : Int) = ((120 - q : Nat) : Int) := by omega
    simp only [callD, exs, ex, ev, evL, evTs, q_bo, q_bx, q_no, q_op, q_uo, q_ux, q_on, q_or, q_ox, q_oo, q_tn, q_tb, q_ti, q_tl, q_tt, q_ab, q_ai, q_ad, q_add, q_sub, q_att, q_all, q_ass, q_mlk, q_mtk, q_lt, q_le, q_gt, q_ge, q_eqi, q_in, q_ni, q_is, q_isn, q_ofb, q_ixl, q_ixt, q_ixs, q_sll, q_slt, q_b0, q_b1, q_s0, q_s1, q_s2, q_s3, q_s4, q_s5, q_f1, q_f2, q_f3, q_f4, q_f5, q_f6, q_f7, q_f8, q_f9, q_fa, q_fb, q_fc, q_fd, q_fe, q_i0l, q_i0t, q_i1, q_i2, q_i3, q_i4, q_i5, q_t1, q_t2, q_ads0, q_ads, q_sv0, q_sv, List.map_cons, List.map_nil, List.length_cons, List.length_nil, List.getElem?_cons_zero, List.getElem?_cons_succ, List.cons_append, List.nil_append, Option.map_some, Option.map_none, Option.bind_some, if_true, if_false, Bool.false_eq_true, List.replicate, List.set_cons_zero, List.set_cons_succ, blkE, dropE, wipeE, beq_self_eq_true, Bool.not_true, Bool.not_false, Bool.true_or, Bool.false_or, Bool.or_true, Bool.or_false, Bool.and_true, Bool.true_and, this]
    rfl) (rng2_ok (by omega) (by omega)) (fun t _ => rfl) (fun t ht => by
    have ht := List.mem_range.mp ht
    have w1 : ((40 : Nat) : Int) + (t : Int) = ((40 + t : Nat) : Int) := by omega
    have w2 : ((40 + t : Nat) : Int) + (q : Int) = ((40 + t + q : Nat) : Int) := by omega
    have w4 := idx_map (e := e) (g := g) (len := 120) (k := 40 + t) (by omega)
    have w5 := idx_map (e := e) (g := g) (len := 120) (k := 40 + t + q) (by omega)
    have w6 := he.cNe (by omega) (g (40 + t)) (g (40 + t + q))
    simp only [callD, exs, ex, ev, evL, evTs, q_bo, q_bx, q_no, q_op, q_uo, q_ux, q_on, q_or, q_ox, q_oo, q_tn, q_tb, q_ti, q_tl, q_tt, q_ab, q_ai, q_ad, q_add, q_sub, q_att, q_all, q_ass, q_mlk, q_mtk, q_lt, q_le, q_gt, q_ge, q_eqi, q_in, q_ni, q_is, q_isn, q_ofb, q_ixl, q_ixt, q_ixs, q_sll, q_slt, q_b0, q_b1, q_s0, q_s1, q_s2, q_s3, q_s4, q_s5, q_f1, q_f2, q_f3, q_f4, q_f5, q_f6, q_f7, q_f8, q_f9, q_fa, q_fb, q_fc, q_fd, q_fe, q_i0l, q_i0t, q_i1, q_i2, q_i3, q_i4, q_i5, q_t1, q_t2, q_ads0, q_ads, q_sv0, q_sv, List.map_cons, List.map_nil, List.length_cons, List.length_nil, List.getElem?_cons_zero, List.getElem?_cons_succ, List.cons_append, List.nil_append, Option.map_some, Option.map_none, Option.bind_some, if_true, if_false, Bool.false_eq_true, List.replicate, List.set_cons_zero, List.set_cons_succ, blkE, dropE, wipeE, beq_self_eq_true, Bool.not_true, Bool.not_false, Bool.true_or, Bool.false_or, Bool.or_true, Bool.or_false, Bool.and_true, Bool.true_and, w1, w2, w4, w5, w6]
    cases decide (g (40 + t) = g (40 + t + q)) <;> rfl) (fun t _ _ => by simp only [callD, exs, ex, ev, evL, evTs, q_bo, q_bx, q_no, q_op, q_uo, q_ux, q_on, q_or, q_ox, q_oo, q_tn, q_tb, q_ti, q_tl, q_tt, q_ab, q_ai, q_ad, q_add, q_sub, q_att, q_all, q_ass, q_mlk, q_mtk, q_lt, q_le, q_gt, q_ge, q_eqi, q_in, q_ni, q_is, q_isn, q_ofb, q_ixl, q_ixt, q_ixs, q_sll, q_slt, q_b0, q_b1, q_s0, q_s1, q_s2, q_s3, q_s4, q_s5, q_f1, q_f2, q_f3, q_f4, q_f5, q_f6, q_f7, q_f8, q_f9, q_fa, q_fb, q_fc, q_fd, q_fe, q_i0l, q_i0t, q_i1, q_i2, q_i3, q_i4, q_i5, q_t1, q_t2, q_ads0, q_ads, q_sv0, q_sv, List.map_cons, List.map_nil, List.length_cons, List.length_nil, List.getElem?_cons_zero, List.getElem?_cons_succ, List.cons_append, List.nil_append, Option.map_some, Option.map_none, Option.bind_some, if_true, if_false, Bool.false_eq_true, List.replicate, List.set_cons_zero, List.set_cons_succ, blkE, dropE, wipeE, beq_self_eq_true, Bool.not_true, Bool.not_false, Bool.true_or, Bool.false_or, Bool.or_true, Bool.or_false, Bool.and_true, Bool.true_and])
  refine exs_r (exR (cmpP e1 (y := .d (.list [])) (s2 := s) (by simp only [callD, exs, ex, ev, evL, evTs, q_bo, q_bx, q_no, q_op, q_uo, q_ux, q_on, q_or, q_ox, q_oo, q_tn, q_tb, q_ti, q_tl, q_tt, q_ab, q_ai, q_ad, q_add, q_sub, q_att, q_all, q_ass, q_mlk, q_mtk, q_lt, q_le, q_gt, q_ge, q_eqi, q_in, q_ni, q_is, q_isn, q_ofb, q_ixl, q_ixt, q_ixs, q_sll, q_slt, q_b0, q_b1, q_s0, q_s1, q_s2, q_s3, q_s4, q_s5, q_f1, q_f2, q_f3, q_f4, q_f5, q_f6, q_f7, q_f8, q_f9, q_fa, q_fb, q_fc, q_fd, q_fe, q_i0l, q_i0t, q_i1, q_i2, q_i3, q_i4, q_i5, q_t1, q_t2, q_ads0, q_ads, q_sv0, q_sv, List.map_cons, List.map_nil, List.length_cons, List.length_nil, List.getElem?_cons_zero, List.getElem?_cons_succ, List.cons_append, List.nil_append, Option.map_some, Option.map_none, Option.bind_some, if_true, if_false, Bool.false_eq_true, List.replicate, List.set_cons_zero, List.set_cons_succ, blkE, dropE, wipeE, beq_self_eq_true, Bool.not_true, Bool.not_false, Bool.true_or, Bool.false_or, Bool.or_true, Bool.or_false, Bool.and_true, Bool.true_and]) ?_))
  rw [eq_nil (fun _ _ => rfl) (fun _ _ => Nat.zero_le _), isEmpty_filter]
  refine congrArg some ?_
  rw [show 120 - q - 40 = 80 - q by omega, List.all_eq_not_any_not]
theorem last_of {q : Nat → Bool} {c s : Nat} (hc : s ≤ c) (h0 : 0 < s) (h1 : q (s - 1) = true) (h2 : ∀ t, s ≤ t → q t = false) : (List.range c).filter q = (List.range (s - 1)).filter q ++ [s - 1] := by
  induction c with
  | zero => omega
  | succ c ih =>
    by_cases e : s = c + 1
    · subst e
      rw [List.range_succ, List.filter_append]
      refine congrArg _ ?_
      have : q c = true := h1
      simp [this]
    · rw [List.range_succ, List.filter_append, ih (by omega)]
      have : q c = false := h2 c (by omega)
      simp [this]
def S_lcal (P : F) : Prop := ∀ (α : Type) [DecidableEq α] (e : α → D) (k : Nat) (g : Nat → α) (tr : α → Bool) (st p : Nat) s, Enc e k → k ≤ 60 → (∀ x, truth (.d (e x)) = some (tr x)) → SH g st p → st ≤ 40 → p ≤ 12 → P [.d (.list ((List.range 120).map fun t => e (g t)))] s = .ok (.d (calD (fun t => tr (g t)) st p)) s
theorem p_lcal (go : S_goes (G.fn f.law_goes)) : S_lcal (callD G (x_law_calendar f)) := by
  intro α dα e k g tr st p s he hk htr hsh h40 h12
  have p0 := hsh.pos
  have p40 : PerF g 40 p := hsh.per.up h40
  refine callR [.v (.d (.list ((List.range 120).map fun t => e (g t)))), .un, .un, .un, .un, .un, .un, .un] rfl rfl ?_
  -- the period
  have e1 := comp_pure (G := G) (elt := .var 7) (tg := [7]) (tt := false) (ik := 1) (its := [.int 1, .int 31]) (ifs := [.call f.law_goes [.var 0, .var 7]]) (own := [7]) (ρ := [.v (.d (.list ((List.range 120).map fun t => e (g t)))), .un, .un, .un, .un, .un, .un, .un]) (s := s) (s1 := s) (vs := [.d (.int (1 : Nat)), .d (.int (31 : Nat))]) (l := List.range 30) (h := fun t => .int (((1 : Nat) : Int) + (t : Int))) (fun t => (List.range (80 - (1 + t))).all fun u => decide (g (40 + u) = g (40 + u + (1 + t)))) (fun t => .int (((1 : Nat) : Int) + (t : Int))) (fun t => [.v (.d (.list ((List.range 120).map fun t => e (g t)))), .un, .un, .un, .un, .un, .un, .v (.d (.int (((1 : Nat) : Int) + (t : Int))))]) (by simp only [callD, exs, ex, ev, evL, evTs, q_bo, q_bx, q_no, q_op, q_uo, q_ux, q_on, q_or, q_ox, q_oo, q_tn, q_tb, q_ti, q_tl, q_tt, q_ab, q_ai, q_ad, q_add, q_sub, q_att, q_all, q_ass, q_mlk, q_mtk, q_lt, q_le, q_gt, q_ge, q_eqi, q_in, q_ni, q_is, q_isn, q_ofb, q_ixl, q_ixt, q_ixs, q_sll, q_slt, q_b0, q_b1, q_s0, q_s1, q_s2, q_s3, q_s4, q_s5, q_f1, q_f2, q_f3, q_f4, q_f5, q_f6, q_f7, q_f8, q_f9, q_fa, q_fb, q_fc, q_fd, q_fe, q_i0l, q_i0t, q_i1, q_i2, q_i3, q_i4, q_i5, q_t1, q_t2, q_ads0, q_ads, q_sv0, q_sv, List.map_cons, List.map_nil, List.length_cons, List.length_nil, List.getElem?_cons_zero, List.getElem?_cons_succ, List.cons_append, List.nil_append, Option.map_some, Option.map_none, Option.bind_some, if_true, if_false, Bool.false_eq_true, List.replicate, List.set_cons_zero, List.set_cons_succ, blkE, dropE, wipeE, beq_self_eq_true, Bool.not_true, Bool.not_false, Bool.true_or, Bool.false_or, Bool.or_true, Bool.or_false, Bool.and_true, Bool.true_and]; rfl) (rng2_ok (by omega) (by omega)) (fun t _ => rfl) (fun t ht => by
    have ht := List.mem_range.mp ht
    have w := go α e k g (1 + t) s he hk (by omega) (by omega)
    rw [show (((1 + t : Nat)) : Int) = ((1 : Nat) : Int) + (t : Int) by omega] at w
    exact ts1P (x := .d (.bool _)) (evC (vs := [.d (.list ((List.range 120).map fun t => e (g t))), .d (.int (((1 : Nat) : Int) + (t : Int)))]) (s1 := s) (by simp only [callD, exs, ex, ev, evL, evTs, q_bo, q_bx, q_no, q_op, q_uo, q_ux, q_on, q_or, q_ox, q_oo, q_tn, q_tb, q_ti, q_tl, q_tt, q_ab, q_ai, q_ad, q_add, q_sub, q_att, q_all, q_ass, q_mlk, q_mtk, q_lt, q_le, q_gt, q_ge, q_eqi, q_in, q_ni, q_is, q_isn, q_ofb, q_ixl, q_ixt, q_ixs, q_sll, q_slt, q_b0, q_b1, q_s0, q_s1, q_s2, q_s3, q_s4, q_s5, q_f1, q_f2, q_f3, q_f4, q_f5, q_f6, q_f7, q_f8, q_f9, q_fa, q_fb, q_fc, q_fd, q_fe, q_i0l, q_i0t, q_i1, q_i2, q_i3, q_i4, q_i5, q_t1, q_t2, q_ads0, q_ads, q_sv0, q_sv, List.map_cons, List.map_nil, List.length_cons, List.length_nil, List.getElem?_cons_zero, List.getElem?_cons_succ, List.cons_append, List.nil_append, Option.map_some, Option.map_none, Option.bind_some, if_true, if_false, Bool.false_eq_true, List.replicate, List.set_cons_zero, List.set_cons_succ, blkE, dropE, wipeE, beq_self_eq_true, Bool.not_true, Bool.not_false, Bool.true_or, Bool.false_or, Bool.or_true, Bool.or_false, Bool.and_true, Bool.true_and]) w) rfl) (fun t _ _ => by simp only [callD, exs, ex, ev, evL, evTs, q_bo, q_bx, q_no, q_op, q_uo, q_ux, q_on, q_or, q_ox, q_oo, q_tn, q_tb, q_ti, q_tl, q_tt, q_ab, q_ai, q_ad, q_add, q_sub, q_att, q_all, q_ass, q_mlk, q_mtk, q_lt, q_le, q_gt, q_ge, q_eqi, q_in, q_ni, q_is, q_isn, q_ofb, q_ixl, q_ixt, q_ixs, q_sll, q_slt, q_b0, q_b1, q_s0, q_s1, q_s2, q_s3, q_s4, q_s5, q_f1, q_f2, q_f3, q_f4, q_f5, q_f6, q_f7, q_f8, q_f9, q_fa, q_fb, q_fc, q_fd, q_fe, q_i0l, q_i0t, q_i1, q_i2, q_i3, q_i4, q_i5, q_t1, q_t2, q_ads0, q_ads, q_sv0, q_sv, List.map_cons, List.map_nil, List.length_cons, List.length_nil, List.getElem?_cons_zero, List.getElem?_cons_succ, List.cons_append, List.nil_append, Option.map_some, Option.map_none, Option.bind_some, if_true, if_false, Bool.false_eq_true, List.replicate, List.set_cons_zero, List.set_cons_succ, blkE, dropE, wipeE, beq_self_eq_true, Bool.not_true, Bool.not_false, Bool.true_or, Bool.false_or, Bool.or_true, Bool.or_false, Bool.and_true, Bool.true_and])
  have pk := pick0 (l := 0) (fun t => (List.range (80 - (1 + t))).all fun u => decide (g (40 + u) = g (40 + u + (1 + t)))) (p - 1) (fun t ht => by
    cases q : (List.range (80 - (1 + t))).all fun u => decide (g (40 + u) = g (40 + u + (1 + t))) with
    | false => rfl
    | true =>
      rw [List.all_eq_true] at q
      have hq : PerF g 40 (1 + t) := fun k hk => by
        have e1 := p40.red hk
        have lt : (k - 40) % p < p := Nat.mod_lt _ p0
        have e2 := p40.mul ((k - 40) / p) (40 + (k - 40) % p + (1 + t)) (by omega)
        have e3 := Nat.mod_add_div (k - 40) p
        rw [show 40 + (k - 40) % p + (1 + t) + p * ((k - 40) / p) = k + (1 + t) by omega] at e2
        rw [e1, e2]
        exact (of_decide_eq_true (q _ (List.mem_range.mpr (by omega)))).symm
      have := hsh.min (1 + t) 40 (by omega) hq
      omega) (by
    rw [show 1 + (p - 1) = p by omega]
    exact List.all_eq_true.mpr fun u _ => decide_eq_true (p40 (40 + u) (by omega)).symm) 30 (by omega)
  refine exs_n (exS (x := .d (.int p)) (s1 := s) (idxP e1 (intP _) ?_)) ?_
  · rw [q_ixl]
    show (L2.atI _ ((0 : Nat) : Int)).map _ = _
    rw [atI_nat, List.getElem?_map, pk]
    show some (Vl.d (PyData.int (((1 : Nat) : Int) + ((p - 1 : Nat) : Int)))) = _
    rw [show ((1 : Nat) : Int) + ((p - 1 : Nat) : Int) = (p : Int) by omega]
  -- late
  have e2 := comp_pure (G := G) (elt := .var 6) (tg := [6]) (tt := false) (ik := 1) (its := [.int 60]) (ifs := [.cmp .NotEq (.idx (.var 0) (.var 6)) (.idx (.var 0) (.bin .Add (.var 6) (.var 1)))]) (own := [6]) (ρ := [.v (.d (.list ((List.range 120).map fun t => e (g t)))), .v (.d (.int p)), .un, .un, .un, .un, .un, .un]) (s := s) (s1 := s) (vs := [.d (.int (60 : Nat))]) (l := List.range 60) (h := iv) (fun t => !decide (g t = g (t + p))) iv (fun t => [.v (.d (.list ((List.range 120).map fun t => e (g t)))), .v (.d (.int p)), .un, .un, .un, .un, .v (.d (iv t)), .un]) (by simp only [callD, exs, ex, ev, evL, evTs, q_bo, q_bx, q_no, q_op, q_uo, q_ux, q_on, q_or, q_ox, q_oo, q_tn, q_tb, q_ti, q_tl, q_tt, q_ab, q_ai, q_ad, q_add, q_sub, q_att, q_all, q_ass, q_mlk, q_mtk, q_lt, q_le, q_gt, q_ge, q_eqi, q_in, q_ni, q_is, q_isn, q_ofb, q_ixl, q_ixt, q_ixs, q_sll, q_slt, q_b0, q_b1, q_s0, q_s1, q_s2, q_s3, q_s4, q_s5, q_f1, q_f2, q_f3, q_f4, q_f5, q_f6, q_f7, q_f8, q_f9, q_fa, q_fb, q_fc, q_fd, q_fe, q_i0l, q_i0t, q_i1, q_i2, q_i3, q_i4, q_i5, q_t1, q_t2, q_ads0, q_ads, q_sv0, q_sv, List.map_cons, List.map_nil, List.length_cons, List.length_nil, List.getElem?_cons_zero, List.getElem?_cons_succ, List.cons_append, List.nil_append, Option.map_some, Option.map_none, Option.bind_some, if_true, if_false, Bool.false_eq_true, List.replicate, List.set_cons_zero, List.set_cons_succ, blkE, dropE, wipeE, beq_self_eq_true, Bool.not_true, Bool.not_false, Bool.true_or, Bool.false_or, Bool.or_true, Bool.or_false, Bool.and_true, Bool.true_and]; rfl) (i1_ok (by omega)) (fun t _ => rfl) (fun t ht => by
    have ht := List.mem_range.mp ht
    have w2 : (t : Int) + (p : Int) = ((t + p : Nat) : Int) := by omega
    have w4 := idx_map (e := e) (g := g) (len := 120) (k := t) (by omega)
    have w5 := idx_map (e := e) (g := g) (len := 120) (k := t + p) (by omega)
    have w6 := he.cNe (by omega) (g t) (g (t + p))
    simp only [callD, exs, ex, ev, evL, evTs, q_bo, q_bx, q_no, q_op, q_uo, q_ux, q_on, q_or, q_ox, q_oo, q_tn, q_tb, q_ti, q_tl, q_tt, q_ab, q_ai, q_ad, q_add, q_sub, q_att, q_all, q_ass, q_mlk, q_mtk, q_lt, q_le, q_gt, q_ge, q_eqi, q_in, q_ni, q_is, q_isn, q_ofb, q_ixl, q_ixt, q_ixs, q_sll, q_slt, q_b0, q_b1, q_s0, q_s1, q_s2, q_s3, q_s4, q_s5, q_f1, q_f2, q_f3, q_f4, q_f5, q_f6, q_f7, q_f8, q_f9, q_fa, q_fb, q_fc, q_fd, q_fe, q_i0l, q_i0t, q_i1, q_i2, q_i3, q_i4, q_i5, q_t1, q_t2, q_ads0, q_ads, q_sv0, q_sv, List.map_cons, List.map_nil, List.length_cons, List.length_nil, List.getElem?_cons_zero, List.getElem?_cons_succ, List.cons_append, List.nil_append, Option.map_some, Option.map_none, Option.bind_some, if_true, if_false, Bool.false_eq_true, List.replicate, List.set_cons_zero, List.set_cons_succ, blkE, dropE, wipeE, beq_self_eq_true, Bool.not_true, Bool.not_false, Bool.true_or, Bool.false_or, Bool.or_true, Bool.or_false, Bool.and_true, Bool.true_and, iv, w2, w4, w5, w6]
    cases decide (g t = g (t + p)) <;> rfl) (fun t _ _ => by simp only [callD, exs, ex, ev, evL, evTs, q_bo, q_bx, q_no, q_op, q_uo, q_ux, q_on, q_or, q_ox, q_oo, q_tn, q_tb, q_ti, q_tl, q_tt, q_ab, q_ai, q_ad, q_add, q_sub, q_att, q_all, q_ass, q_mlk, q_mtk, q_lt, q_le, q_gt, q_ge, q_eqi, q_in, q_ni, q_is, q_isn, q_ofb, q_ixl, q_ixt, q_ixs, q_sll, q_slt, q_b0, q_b1, q_s0, q_s1, q_s2, q_s3, q_s4, q_s5, q_f1, q_f2, q_f3, q_f4, q_f5, q_f6, q_f7, q_f8, q_f9, q_fa, q_fb, q_fc, q_fd, q_fe, q_i0l, q_i0t, q_i1, q_i2, q_i3, q_i4, q_i5, q_t1, q_t2, q_ads0, q_ads, q_sv0, q_sv, List.map_cons, List.map_nil, List.length_cons, List.length_nil, List.getElem?_cons_zero, List.getElem?_cons_succ, List.cons_append, List.nil_append, Option.map_some, Option.map_none, Option.bind_some, if_true, if_false, Bool.false_eq_true, List.replicate, List.set_cons_zero, List.set_cons_succ, blkE, dropE, wipeE, beq_self_eq_true, Bool.not_true, Bool.not_false, Bool.true_or, Bool.false_or, Bool.or_true, Bool.or_false, Bool.and_true, Bool.true_and])
  refine exs_n (exS e2) ?_
  have e3 : ev G (.ite (.cmp .NotEq (.var 2) (.lst [])) (.bin .Add (.idx (.var 2) (.neg (.int 1))) (.int 1)) (.int 0)) [.v (.d (.list ((List.range 120).map fun t => e (g t)))), .v (.d (.int p)), .v (.d (.list (((List.range 60).filter fun t => !decide (g t = g (t + p))).map iv))), .un, .un, .un, .un, .un] s = .ok (.d (.int st)) s := by
    have ne := ne_nil (e := iv) (l := (List.range 60).filter fun t => !decide (g t = g (t + p))) (fun _ _ => rfl) (fun _ _ => Nat.zero_le _)
    by_cases h0 : st = 0
    · have em : (List.range 60).filter (fun t => !decide (g t = g (t + p))) = [] := List.filter_eq_nil_iff.mpr fun t _ => by
        rw [decide_eq_true (hsh.per t (by omega)).symm]
        exact Bool.false_ne_true
      rw [em] at ne ⊢
      simp only [callD, exs, ex, ev, evL, evTs, q_bo, q_bx, q_no, q_op, q_uo, q_ux, q_on, q_or, q_ox, q_oo, q_tn, q_tb, q_ti, q_tl, q_tt, q_ab, q_ai, q_ad, q_add, q_sub, q_att, q_all, q_ass, q_mlk, q_mtk, q_lt, q_le, q_gt, q_ge, q_eqi, q_in, q_ni, q_is, q_isn, q_ofb, q_ixl, q_ixt, q_ixs, q_sll, q_slt, q_b0, q_b1, q_s0, q_s1, q_s2, q_s3, q_s4, q_s5, q_f1, q_f2, q_f3, q_f4, q_f5, q_f6, q_f7, q_f8, q_f9, q_fa, q_fb, q_fc, q_fd, q_fe, q_i0l, q_i0t, q_i1, q_i2, q_i3, q_i4, q_i5, q_t1, q_t2, q_ads0, q_ads, q_sv0, q_sv, List.map_cons, List.map_nil, List.length_cons, List.length_nil, List.getElem?_cons_zero, List.getElem?_cons_succ, List.cons_append, List.nil_append, Option.map_some, Option.map_none, Option.bind_some, if_true, if_false, Bool.false_eq_true, List.replicate, List.set_cons_zero, List.set_cons_succ, blkE, dropE, wipeE, beq_self_eq_true, Bool.not_true, Bool.not_false, Bool.true_or, Bool.false_or, Bool.or_true, Bool.or_false, Bool.and_true, Bool.true_and, ne]
      rw [h0]
      rfl
    · have em : (List.range 60).filter (fun t => !decide (g t = g (t + p))) = (List.range (st - 1)).filter (fun t => !decide (g t = g (t + p))) ++ [st - 1] := last_of (by omega) (by omega) (by
        rw [decide_eq_false fun q => ?_]
        · rfl
        · rcases hsh.st with z | z
          · exact h0 z
          · exact z q.symm) (fun t ht => by rw [decide_eq_true (hsh.per t ht).symm]; rfl)
      rw [em] at ne ⊢
      have em2 : ((List.range (st - 1)).filter (fun t => !decide (g t = g (t + p))) ++ [st - 1]).isEmpty = false := by simp
      rw [em2] at ne
      have al : L2.atI (((List.range (st - 1)).filter (fun t => !decide (g t = g (t + p))) ++ [st - 1]).map iv) (-1) = some (iv (st - 1)) := by
        rw [List.map_append]
        exact atI_last _ _
      have es : ((st - 1 : Nat) : Int) + 1 = (st : Int) := by omega
      simp only [callD, exs, ex, ev, evL, evTs, q_bo, q_bx, q_no, q_op, q_uo, q_ux, q_on, q_or, q_ox, q_oo, q_tn, q_tb, q_ti, q_tl, q_tt, q_ab, q_ai, q_ad, q_add, q_sub, q_att, q_all, q_ass, q_mlk, q_mtk, q_lt, q_le, q_gt, q_ge, q_eqi, q_in, q_ni, q_is, q_isn, q_ofb, q_ixl, q_ixt, q_ixs, q_sll, q_slt, q_b0, q_b1, q_s0, q_s1, q_s2, q_s3, q_s4, q_s5, q_f1, q_f2, q_f3, q_f4, q_f5, q_f6, q_f7, q_f8, q_f9, q_fa, q_fb, q_fc, q_fd, q_fe, q_i0l, q_i0t, q_i1, q_i2, q_i3, q_i4, q_i5, q_t1, q_t2, q_ads0, q_ads, q_sv0, q_sv, List.map_cons, List.map_nil, List.length_cons, List.length_nil, List.getElem?_cons_zero, List.getElem?_cons_succ, List.cons_append, List.nil_append, Option.map_some, Option.map_none, Option.bind_some, if_true, if_false, Bool.false_eq_true, List.replicate, List.set_cons_zero, List.set_cons_succ, blkE, dropE, wipeE, beq_self_eq_true, Bool.not_true, Bool.not_false, Bool.true_or, Bool.false_or, Bool.or_true, Bool.or_false, Bool.and_true, Bool.true_and, ne, al, iv, es]
  refine exs_n (exS e3) ?_
  -- few, far
  have e4 := comp_pure (G := G) (elt := .var 6) (tg := [6]) (tt := false) (ik := 1) (its := [.var 3]) (ifs := [.idx (.var 0) (.var 6)]) (own := [6]) (ρ := [.v (.d (.list ((List.range 120).map fun t => e (g t)))), .v (.d (.int p)), .v (.d (.list (((List.range 60).filter fun t => !decide (g t = g (t + p))).map iv))), .v (.d (.int st)), .un, .un, .un, .un]) (s := s) (s1 := s) (vs := [.d (.int st)]) (l := List.range st) (h := iv) (fun t => tr (g t)) iv (fun t => [.v (.d (.list ((List.range 120).map fun t => e (g t)))), .v (.d (.int p)), .v (.d (.list (((List.range 60).filter fun t => !decide (g t = g (t + p))).map iv))), .v (.d (.int st)), .un, .un, .v (.d (iv t)), .un]) (by simp only [callD, exs, ex, ev, evL, evTs, q_bo, q_bx, q_no, q_op, q_uo, q_ux, q_on, q_or, q_ox, q_oo, q_tn, q_tb, q_ti, q_tl, q_tt, q_ab, q_ai, q_ad, q_add, q_sub, q_att, q_all, q_ass, q_mlk, q_mtk, q_lt, q_le, q_gt, q_ge, q_eqi, q_in, q_ni, q_is, q_isn, q_ofb, q_ixl, q_ixt, q_ixs, q_sll, q_slt, q_b0, q_b1, q_s0, q_s1, q_s2, q_s3, q_s4, q_s5, q_f1, q_f2, q_f3, q_f4, q_f5, q_f6, q_f7, q_f8, q_f9, q_fa, q_fb, q_fc, q_fd, q_fe, q_i0l, q_i0t, q_i1, q_i2, q_i3, q_i4, q_i5, q_t1, q_t2, q_ads0, q_ads, q_sv0, q_sv, List.map_cons, List.map_nil, List.length_cons, List.length_nil, List.getElem?_cons_zero, List.getElem?_cons_succ, List.cons_append, List.nil_append, Option.map_some, Option.map_none, Option.bind_some, if_true, if_false, Bool.false_eq_true, List.replicate, List.set_cons_zero, List.set_cons_succ, blkE, dropE, wipeE, beq_self_eq_true, Bool.not_true, Bool.not_false, Bool.true_or, Bool.false_or, Bool.or_true, Bool.or_false, Bool.and_true, Bool.true_and]) (i1_ok (by omega)) (fun t _ => rfl) (fun t ht => by
    have ht := List.mem_range.mp ht
    exact ts1P (idxP (varP rfl) (varP rfl) (idx_map (e := e) (g := g) (len := 120) (k := t) (by omega) s)) (htr _)) (fun t _ _ => by simp only [callD, exs, ex, ev, evL, evTs, q_bo, q_bx, q_no, q_op, q_uo, q_ux, q_on, q_or, q_ox, q_oo, q_tn, q_tb, q_ti, q_tl, q_tt, q_ab, q_ai, q_ad, q_add, q_sub, q_att, q_all, q_ass, q_mlk, q_mtk, q_lt, q_le, q_gt, q_ge, q_eqi, q_in, q_ni, q_is, q_isn, q_ofb, q_ixl, q_ixt, q_ixs, q_sll, q_slt, q_b0, q_b1, q_s0, q_s1, q_s2, q_s3, q_s4, q_s5, q_f1, q_f2, q_f3, q_f4, q_f5, q_f6, q_f7, q_f8, q_f9, q_fa, q_fb, q_fc, q_fd, q_fe, q_i0l, q_i0t, q_i1, q_i2, q_i3, q_i4, q_i5, q_t1, q_t2, q_ads0, q_ads, q_sv0, q_sv, List.map_cons, List.map_nil, List.length_cons, List.length_nil, List.getElem?_cons_zero, List.getElem?_cons_succ, List.cons_append, List.nil_append, Option.map_some, Option.map_none, Option.bind_some, if_true, if_false, Bool.false_eq_true, List.replicate, List.set_cons_zero, List.set_cons_succ, blkE, dropE, wipeE, beq_self_eq_true, Bool.not_true, Bool.not_false, Bool.true_or, Bool.false_or, Bool.or_true, Bool.or_false, Bool.and_true, Bool.true_and])
  refine exs_n (exS (bfP e4 q_f4)) ?_
  have e5 := comp_pure (G := G) (elt := .bin .Mod (.var 6) (.var 1)) (tg := [6]) (tt := false) (ik := 1) (its := [.var 3, .bin .Add (.var 3) (.var 1)]) (ifs := [.idx (.var 0) (.var 6)]) (own := [6]) (ρ := [.v (.d (.list ((List.range 120).map fun t => e (g t)))), .v (.d (.int p)), .v (.d (.list (((List.range 60).filter fun t => !decide (g t = g (t + p))).map iv))), .v (.d (.int st)), .v (.d (.tuple (((List.range st).filter fun t => tr (g t)).map iv))), .un, .un, .un]) (s := s) (s1 := s) (vs := [.d (.int st), .d (.int (st + p : Nat))]) (l := List.range (st + p - st)) (h := fun t => .int ((st : Int) + (t : Int))) (fun t => tr (g (st + t))) (fun t => .int (((st + t) % p : Nat) : Int)) (fun t => [.v (.d (.list ((List.range 120).map fun t => e (g t)))), .v (.d (.int p)), .v (.d (.list (((List.range 60).filter fun t => !decide (g t = g (t + p))).map iv))), .v (.d (.int st)), .v (.d (.tuple (((List.range st).filter fun t => tr (g t)).map iv))), .un, .v (.d (.int ((st : Int) + (t : Int)))), .un]) (by simp only [callD, exs, ex, ev, evL, evTs, q_bo, q_bx, q_no, q_op, q_uo, q_ux, q_on, q_or, q_ox, q_oo, q_tn, q_tb, q_ti, q_tl, q_tt, q_ab, q_ai, q_ad, q_add, q_sub, q_att, q_all, q_ass, q_mlk, q_mtk, q_lt, q_le, q_gt, q_ge, q_eqi, q_in, q_ni, q_is, q_isn, q_ofb, q_ixl, q_ixt, q_ixs, q_sll, q_slt, q_b0, q_b1, q_s0, q_s1, q_s2, q_s3, q_s4, q_s5, q_f1, q_f2, q_f3, q_f4, q_f5, q_f6, q_f7, q_f8, q_f9, q_fa, q_fb, q_fc, q_fd, q_fe, q_i0l, q_i0t, q_i1, q_i2, q_i3, q_i4, q_i5, q_t1, q_t2, q_ads0, q_ads, q_sv0, q_sv, List.map_cons, List.map_nil, List.length_cons, List.length_nil, List.getElem?_cons_zero, List.getElem?_cons_succ, List.cons_append, List.nil_append, Option.map_some, Option.map_none, Option.bind_some, if_true, if_false, Bool.false_eq_true, List.replicate, List.set_cons_zero, List.set_cons_succ, blkE, dropE, wipeE, beq_self_eq_true, Bool.not_true, Bool.not_false, Bool.true_or, Bool.false_or, Bool.or_true, Bool.or_false, Bool.and_true, Bool.true_and]; rfl) (rng2_ok (by omega) (by omega)) (fun t _ => rfl) (fun t ht => by
    have ht := List.mem_range.mp ht
    have w := idx_map (e := e) (g := g) (len := 120) (k := st + t) (by omega) s
    rw [show ((st + t : Nat) : Int) = (st : Int) + (t : Int) by omega] at w
    exact ts1P (idxP (varP rfl) (varP rfl) w) (htr _)) (fun t _ _ => by
    have w : ((st : Int) + (t : Int)) % (p : Int) = (((st + t) % p : Nat) : Int) := by
      rw [Int.natCast_emod, Int.natCast_add]
    simp only [callD, exs, ex, ev, evL, evTs, q_bo, q_bx, q_no, q_op, q_uo, q_ux, q_on, q_or, q_ox, q_oo, q_tn, q_tb, q_ti, q_tl, q_tt, q_ab, q_ai, q_ad, q_add, q_sub, q_att, q_all, q_ass, q_mlk, q_mtk, q_lt, q_le, q_gt, q_ge, q_eqi, q_in, q_ni, q_is, q_isn, q_ofb, q_ixl, q_ixt, q_ixs, q_sll, q_slt, q_b0, q_b1, q_s0, q_s1, q_s2, q_s3, q_s4, q_s5, q_f1, q_f2, q_f3, q_f4, q_f5, q_f6, q_f7, q_f8, q_f9, q_fa, q_fb, q_fc, q_fd, q_fe, q_i0l, q_i0t, q_i1, q_i2, q_i3, q_i4, q_i5, q_t1, q_t2, q_ads0, q_ads, q_sv0, q_sv, List.map_cons, List.map_nil, List.length_cons, List.length_nil, List.getElem?_cons_zero, List.getElem?_cons_succ, List.cons_append, List.nil_append, Option.map_some, Option.map_none, Option.bind_some, if_true, if_false, Bool.false_eq_true, List.replicate, List.set_cons_zero, List.set_cons_succ, blkE, dropE, wipeE, beq_self_eq_true, Bool.not_true, Bool.not_false, Bool.true_or, Bool.false_or, Bool.or_true, Bool.or_false, Bool.and_true, Bool.true_and, mod_pos (show (0 : Int) < (p : Int) by omega), w])
  rw [show st + p - st = p by omega] at e5
  refine exs_n (exS e5) ?_
  refine exs_r (exR ?_)
  have ai : allInt (((List.range p).filter fun t => tr (g (st + t))).map fun (t : Nat) => PyData.int (((st + t) % p : Nat) : Int)) = some (farL (fun t => tr (g t)) st p) := allInt_map (fun (t : Nat) => (((st + t) % p : Nat) : Int)) _
  have qs : evBf .sort [.d (.list (((List.range p).filter fun t => tr (g (st + t))).map fun (t : Nat) => PyData.int (((st + t) % p : Nat) : Int)))] = some (.d (.list ((isort (farL (fun t => tr (g t)) st p)).map .int))) := by
    show (allInt _).map _ = _
    rw [ai]
    rfl
  simp only [callD, exs, ex, ev, evL, evTs, q_bo, q_bx, q_no, q_op, q_uo, q_ux, q_on, q_or, q_ox, q_oo, q_tn, q_tb, q_ti, q_tl, q_tt, q_ab, q_ai, q_ad, q_add, q_sub, q_att, q_all, q_ass, q_mlk, q_mtk, q_lt, q_le, q_gt, q_ge, q_eqi, q_in, q_ni, q_is, q_isn, q_ofb, q_ixl, q_ixt, q_ixs, q_sll, q_slt, q_b0, q_b1, q_s0, q_s1, q_s2, q_s3, q_s4, q_s5, q_f1, q_f2, q_f3, q_f4, q_f5, q_f6, q_f7, q_f8, q_f9, q_fa, q_fb, q_fc, q_fd, q_fe, q_i0l, q_i0t, q_i1, q_i2, q_i3, q_i4, q_i5, q_t1, q_t2, q_ads0, q_ads, q_sv0, q_sv, List.map_cons, List.map_nil, List.length_cons, List.length_nil, List.getElem?_cons_zero, List.getElem?_cons_succ, List.cons_append, List.nil_append, Option.map_some, Option.map_none, Option.bind_some, if_true, if_false, Bool.false_eq_true, List.replicate, List.set_cons_zero, List.set_cons_succ, blkE, dropE, wipeE, beq_self_eq_true, Bool.not_true, Bool.not_false, Bool.true_or, Bool.false_or, Bool.or_true, Bool.or_false, Bool.and_true, Bool.true_and, qs]
  rfl
/-! ### the program's calendar -/
theorem dep_pw {n : Nat} (R : Nat → Nat → Bool) {i j : Nat} (hi : i < n) (hj : j < n) : Dep n R fun k => pw n R k i j := fun k k' h => h i j hi hj
theorem ixof_at {α : Type} {e : α → D} {g : Nat → α} {len a : Nat} (hl : a < len) (hlen : len ≤ 1000) (hz : PerF g a (len - a)) (ix : S_ixof (G.fn f.index_of)) (t : Nat) (s : Sto) : ∃ j : Nat, G.fn f.index_of [.d (.list ((List.range len).map fun t => e (g t))), .d (.int a), .d (.int t)] s = .ok (.d (.int j)) s ∧ evIdx (.d (.list ((List.range len).map fun t => e (g t)))) (.d (.int j)) s = some (.d (e (g t))) := by
  have e4 := ix ((List.range len).map fun t => e (g t)) a t s (by rw [List.length_map, List.length_range]; exact hl) (by rw [List.length_map, List.length_range]; omega)
  refine ⟨_, e4, ?_⟩
  rw [List.length_map, List.length_range]
  by_cases hq : t < len
  · rw [if_pos hq]
    exact idx_map hq s
  · rw [if_neg hq, hz.red (k := t) (by omega)]
    have := Nat.mod_lt (t - a) (show 0 < len - a by omega)
    exact idx_map (by omega) s
def S_calof (P : F) : Prop := ∀ (n : Nat) R (i j : Nat) s, n ≤ 6 → i < n → j < n → ∃ st p, SH (fun k => pw n R k i j) st p ∧ P [.d (tabD (T n R)), .d (.int i), .d (.int j)] s = .ok (.d (calD (fun k => pw n R k i j) st p)) s
theorem p_calof (pwr : S_powers (G.fn f.powers)) (sh : S_short (G.fn f.shortened)) (ix : S_ixof (G.fn f.index_of)) : S_calof (callD G (x_calendar_of f)) := by
  intro n R i j s hn hi hj
  obtain ⟨m, a, c, h1⟩ := pwr n R s hn
  have hl := c.lt
  have h52 := c.le
  have dp := dep_pw R hi hj
  have hz := dp.per c
  obtain ⟨st, p, h2, h3⟩ := sh Bool PyData.bool 0 (fun k => pw n R k i j) m a s encB (by omega) hl (by omega) hz
  obtain ⟨b1, b2⟩ := dp.bounds' hn h2
  have p0 := h2.pos
  have sa : st ≤ a := h2.st_le (hz.down (by omega) h2.per)
  refine ⟨st, p, h2, ?_⟩
  let L : List D := (List.range m).map fun t => PyData.bool (pw n R t i j)
  refine callR [.v (.d (tabD (T n R))), .v (.d (.int i)), .v (.d (.int j)), .un, .un, .un, .un, .un, .un, .un, .un, .un] rfl rfl ?_
  refine exs_n (exTup (evC (evL1 (varP rfl)) h1)) ?_
  have e1 := comp_all (G := G) (elt := .cmp .In (.var 2) (.idx (.var 10) (.var 1))) (tg := [10]) (tt := false) (ik := 0) (its := [.var 3]) (own := [10]) (ρ := [.v (.d (tabD (T n R))), .v (.d (.int i)), .v (.d (.int j)), .v (.d (.list (Ts n R (m - 1)))), .v (.d (.int a)), .un, .un, .un, .un, .un, .un, .un]) (s := s) (s1 := s) (vs := [.d (.list (Ts n R (m - 1)))]) (l := List.range m) (h := fun t => tabD (T n (pw n R t))) (fun t => .bool (pw n R t i j)) (fun t => [.v (.d (tabD (T n R))), .v (.d (.int i)), .v (.d (.int j)), .v (.d (.list (Ts n R (m - 1)))), .v (.d (.int a)), .un, .un, .un, .un, .un, .v (.d (tabD (T n (pw n R t)))), .un]) (by simp only [callD, exs, ex, ev, evL, evTs, q_bo, q_bx, q_no, q_op, q_uo, q_ux, q_on, q_or, q_ox, q_oo, q_tn, q_tb, q_ti, q_tl, q_tt, q_ab, q_ai, q_ad, q_add, q_sub, q_att, q_all, q_ass, q_mlk, q_mtk, q_lt, q_le, q_gt, q_ge, q_eqi, q_in, q_ni, q_is, q_isn, q_ofb, q_ixl, q_ixt, q_ixs, q_sll, q_slt, q_b0, q_b1, q_s0, q_s1, q_s2, q_s3, q_s4, q_s5, q_f1, q_f2, q_f3, q_f4, q_f5, q_f6, q_f7, q_f8, q_f9, q_fa, q_fb, q_fc, q_fd, q_fe, q_i0l, q_i0t, q_i1, q_i2, q_i3, q_i4, q_i5, q_t1, q_t2, q_ads0, q_ads, q_sv0, q_sv, List.map_cons, List.map_nil, List.length_cons, List.length_nil, List.getElem?_cons_zero, List.getElem?_cons_succ, List.cons_append, List.nil_append, Option.map_some, Option.map_none, Option.bind_some, if_true, if_false, Bool.false_eq_true, List.replicate, List.set_cons_zero, List.set_cons_succ, blkE, dropE, wipeE, beq_self_eq_true, Bool.not_true, Bool.not_false, Bool.true_or, Bool.false_or, Bool.or_true, Bool.or_false, Bool.and_true, Bool.true_and]) (by
    unfold Ts
    rw [q_i0l, show m - 1 + 1 = m by omega]) (fun t _ => rfl) (fun t _ => by
    simp only [callD, exs, ex, ev, evL, evTs, q_bo, q_bx, q_no, q_op, q_uo, q_ux, q_on, q_or, q_ox, q_oo, q_tn, q_tb, q_ti, q_tl, q_tt, q_ab, q_ai, q_ad, q_add, q_sub, q_att, q_all, q_ass, q_mlk, q_mtk, q_lt, q_le, q_gt, q_ge, q_eqi, q_in, q_ni, q_is, q_isn, q_ofb, q_ixl, q_ixt, q_ixs, q_sll, q_slt, q_b0, q_b1, q_s0, q_s1, q_s2, q_s3, q_s4, q_s5, q_f1, q_f2, q_f3, q_f4, q_f5, q_f6, q_f7, q_f8, q_f9, q_fa, q_fb, q_fc, q_fd, q_fe, q_i0l, q_i0t, q_i1, q_i2, q_i3, q_i4, q_i5, q_t1, q_t2, q_ads0, q_ads, q_sv0, q_sv, List.map_cons, List.map_nil, List.length_cons, List.length_nil, List.getElem?_cons_zero, List.getElem?_cons_succ, List.cons_append, List.nil_append, Option.map_some, Option.map_none, Option.bind_some, if_true, if_false, Bool.false_eq_true, List.replicate, List.set_cons_zero, List.set_cons_succ, blkE, dropE, wipeE, beq_self_eq_true, Bool.not_true, Bool.not_false, Bool.true_or, Bool.false_or, Bool.or_true, Bool.or_false, Bool.and_true, Bool.true_and, idx_row hi, in_rowR hj])
  refine exs_n (exS e1) ?_
  refine exs_n (exTup (evC (evLc (varP rfl) (evL1 (varP rfl))) h3)) ?_
  have e4 := comp_pure (G := G) (elt := .var 11) (tg := [11]) (tt := false) (ik := 1) (its := [.var 6]) (ifs := [.idx (.var 5) (.var 11)]) (own := [11]) (ρ := [.v (.d (tabD (T n R))), .v (.d (.int i)), .v (.d (.int j)), .v (.d (.list (Ts n R (m - 1)))), .v (.d (.int a)), .v (.d (.list L)), .v (.d (.int st)), .v (.d (.int p)), .un, .un, .un, .un]) (s := s) (s1 := s) (vs := [.d (.int st)]) (l := List.range st) (h := iv) (fun t => pw n R t i j) iv (fun t => [.v (.d (tabD (T n R))), .v (.d (.int i)), .v (.d (.int j)), .v (.d (.list (Ts n R (m - 1)))), .v (.d (.int a)), .v (.d (.list L)), .v (.d (.int st)), .v (.d (.int p)), .un, .un, .un, .v (.d (iv t))]) (by simp only [callD, exs, ex, ev, evL, evTs, q_bo, q_bx, q_no, q_op, q_uo, q_ux, q_on, q_or, q_ox, q_oo, q_tn, q_tb, q_ti, q_tl, q_tt, q_ab, q_ai, q_ad, q_add, q_sub, q_att, q_all, q_ass, q_mlk, q_mtk, q_lt, q_le, q_gt, q_ge, q_eqi, q_in, q_ni, q_is, q_isn, q_ofb, q_ixl, q_ixt, q_ixs, q_sll, q_slt, q_b0, q_b1, q_s0, q_s1, q_s2, q_s3, q_s4, q_s5, q_f1, q_f2, q_f3, q_f4, q_f5, q_f6, q_f7, q_f8, q_f9, q_fa, q_fb, q_fc, q_fd, q_fe, q_i0l, q_i0t, q_i1, q_i2, q_i3, q_i4, q_i5, q_t1, q_t2, q_ads0, q_ads, q_sv0, q_sv, List.map_cons, List.map_nil, List.length_cons, List.length_nil, List.getElem?_cons_zero, List.getElem?_cons_succ, List.cons_append, List.nil_append, Option.map_some, Option.map_none, Option.bind_some, if_true, if_false, Bool.false_eq_true, List.replicate, List.set_cons_zero, List.set_cons_succ, blkE, dropE, wipeE, beq_self_eq_true, Bool.not_true, Bool.not_false, Bool.true_or, Bool.false_or, Bool.or_true, Bool.or_false, Bool.and_true, Bool.true_and]) (i1_ok (by omega)) (fun t _ => rfl) (fun t ht => by
    have ht := List.mem_range.mp ht
    exact ts1P (idxP (varP rfl) (varP rfl) (idx_map (e := PyData.bool) (g := fun t => pw n R t i j) (len := m) (k := t) (by omega) s)) rfl) (fun t _ _ => by simp only [callD, exs, ex, ev, evL, evTs, q_bo, q_bx, q_no, q_op, q_uo, q_ux, q_on, q_or, q_ox, q_oo, q_tn, q_tb, q_ti, q_tl, q_tt, q_ab, q_ai, q_ad, q_add, q_sub, q_att, q_all, q_ass, q_mlk, q_mtk, q_lt, q_le, q_gt, q_ge, q_eqi, q_in, q_ni, q_is, q_isn, q_ofb, q_ixl, q_ixt, q_ixs, q_sll, q_slt, q_b0, q_b1, q_s0, q_s1, q_s2, q_s3, q_s4, q_s5, q_f1, q_f2, q_f3, q_f4, q_f5, q_f6, q_f7, q_f8, q_f9, q_fa, q_fb, q_fc, q_fd, q_fe, q_i0l, q_i0t, q_i1, q_i2, q_i3, q_i4, q_i5, q_t1, q_t2, q_ads0, q_ads, q_sv0, q_sv, List.map_cons, List.map_nil, List.length_cons, List.length_nil, List.getElem?_cons_zero, List.getElem?_cons_succ, List.cons_append, List.nil_append, Option.map_some, Option.map_none, Option.bind_some, if_true, if_false, Bool.false_eq_true, List.replicate, List.set_cons_zero, List.set_cons_succ, blkE, dropE, wipeE, beq_self_eq_true, Bool.not_true, Bool.not_false, Bool.true_or, Bool.false_or, Bool.or_true, Bool.or_false, Bool.and_true, Bool.true_and])
  refine exs_n (exS (bfP e4 q_f4)) ?_
  have e5 := comp_pure (G := G) (elt := .bin .Mod (.var 11) (.var 7)) (tg := [11]) (tt := false) (ik := 1) (its := [.var 6, .bin .Add (.var 6) (.var 7)]) (ifs := [.idx (.var 5) (.call f.index_of [.var 5, .var 4, .var 11])]) (own := [11]) (ρ := [.v (.d (tabD (T n R))), .v (.d (.int i)), .v (.d (.int j)), .v (.d (.list (Ts n R (m - 1)))), .v (.d (.int a)), .v (.d (.list L)), .v (.d (.int st)), .v (.d (.int p)), .v (.d (.tuple (((List.range st).filter fun t => pw n R t i j).map iv))), .un, .un, .un]) (s := s) (s1 := s) (vs := [.d (.int st), .d (.int (st + p : Nat))]) (l := List.range (st + p - st)) (h := fun t => .int ((st : Int) + (t : Int))) (fun t => pw n R (st + t) i j) (fun t => .int (((st + t) % p : Nat) : Int)) (fun t => [.v (.d (tabD (T n R))), .v (.d (.int i)), .v (.d (.int j)), .v (.d (.list (Ts n R (m - 1)))), .v (.d (.int a)), .v (.d (.list L)), .v (.d (.int st)), .v (.d (.int p)), .v (.d (.tuple (((List.range st).filter fun t => pw n R t i j).map iv))), .un, .un, .v (.d (.int ((st : Int) + (t : Int))))]) (by simp only [callD, exs, ex, ev, evL, evTs, q_bo, q_bx, q_no, q_op, q_uo, q_ux, q_on, q_or, q_ox, q_oo, q_tn, q_tb, q_ti, q_tl, q_tt, q_ab, q_ai, q_ad, q_add, q_sub, q_att, q_all, q_ass, q_mlk, q_mtk, q_lt, q_le, q_gt, q_ge, q_eqi, q_in, q_ni, q_is, q_isn, q_ofb, q_ixl, q_ixt, q_ixs, q_sll, q_slt, q_b0, q_b1, q_s0, q_s1, q_s2, q_s3, q_s4, q_s5, q_f1, q_f2, q_f3, q_f4, q_f5, q_f6, q_f7, q_f8, q_f9, q_fa, q_fb, q_fc, q_fd, q_fe, q_i0l, q_i0t, q_i1, q_i2, q_i3, q_i4, q_i5, q_t1, q_t2, q_ads0, q_ads, q_sv0, q_sv, List.map_cons, List.map_nil, List.length_cons, List.length_nil, List.getElem?_cons_zero, List.getElem?_cons_succ, List.cons_append, List.nil_append, Option.map_some, Option.map_none, Option.bind_some, if_true, if_false, Bool.false_eq_true, List.replicate, List.set_cons_zero, List.set_cons_succ, blkE, dropE, wipeE, beq_self_eq_true, Bool.not_true, Bool.not_false, Bool.true_or, Bool.false_or, Bool.or_true, Bool.or_false, Bool.and_true, Bool.true_and]; rfl) (rng2_ok (by omega) (by omega)) (fun t _ => rfl) (fun t ht => by
    obtain ⟨j', w1, w2⟩ := ixof_at (e := PyData.bool) (g := fun k => pw n R k i j) (G := G) (f := f) hl (by omega) hz ix (st + t) s
    rw [show ((st + t : Nat) : Int) = (st : Int) + (t : Int) by omega] at w1
    exact ts1P (idxP (varP rfl) (evC (evLc (varP rfl) (evLc (varP rfl) (evL1 (varP rfl)))) w1) w2) rfl) (fun t _ _ => by
    have w : ((st : Int) + (t : Int)) % (p : Int) = (((st + t) % p : Nat) : Int) := by
      rw [Int.natCast_emod, Int.natCast_add]
    simp only [callD, exs, ex, ev, evL, evTs, q_bo, q_bx, q_no, q_op, q_uo, q_ux, q_on, q_or, q_ox, q_oo, q_tn, q_tb, q_ti, q_tl, q_tt, q_ab, q_ai, q_ad, q_add, q_sub, q_att, q_all, q_ass, q_mlk, q_mtk, q_lt, q_le, q_gt, q_ge, q_eqi, q_in, q_ni, q_is, q_isn, q_ofb, q_ixl, q_ixt, q_ixs, q_sll, q_slt, q_b0, q_b1, q_s0, q_s1, q_s2, q_s3, q_s4, q_s5, q_f1, q_f2, q_f3, q_f4, q_f5, q_f6, q_f7, q_f8, q_f9, q_fa, q_fb, q_fc, q_fd, q_fe, q_i0l, q_i0t, q_i1, q_i2, q_i3, q_i4, q_i5, q_t1, q_t2, q_ads0, q_ads, q_sv0, q_sv, List.map_cons, List.map_nil, List.length_cons, List.length_nil, List.getElem?_cons_zero, List.getElem?_cons_succ, List.cons_append, List.nil_append, Option.map_some, Option.map_none, Option.bind_some, if_true, if_false, Bool.false_eq_true, List.replicate, List.set_cons_zero, List.set_cons_succ, blkE, dropE, wipeE, beq_self_eq_true, Bool.not_true, Bool.not_false, Bool.true_or, Bool.false_or, Bool.or_true, Bool.or_false, Bool.and_true, Bool.true_and, mod_pos (show (0 : Int) < (p : Int) by omega), w])
  rw [show st + p - st = p by omega] at e5
  refine exs_n (exS e5) ?_
  refine exs_r (exR ?_)
  have ai : allInt (((List.range p).filter fun t => pw n R (st + t) i j).map fun (t : Nat) => PyData.int (((st + t) % p : Nat) : Int)) = some (farL (fun k => pw n R k i j) st p) := allInt_map (fun (t : Nat) => (((st + t) % p : Nat) : Int)) _
  have qs : evBf .sort [.d (.list (((List.range p).filter fun t => pw n R (st + t) i j).map fun (t : Nat) => PyData.int (((st + t) % p : Nat) : Int)))] = some (.d (.list ((isort (farL (fun k => pw n R k i j) st p)).map .int))) := by
    show (allInt _).map _ = _
    rw [ai]
    rfl
  simp only [callD, exs, ex, ev, evL, evTs, q_bo, q_bx, q_no, q_op, q_uo, q_ux, q_on, q_or, q_ox, q_oo, q_tn, q_tb, q_ti, q_tl, q_tt, q_ab, q_ai, q_ad, q_add, q_sub, q_att, q_all, q_ass, q_mlk, q_mtk, q_lt, q_le, q_gt, q_ge, q_eqi, q_in, q_ni, q_is, q_isn, q_ofb, q_ixl, q_ixt, q_ixs, q_sll, q_slt, q_b0, q_b1, q_s0, q_s1, q_s2, q_s3, q_s4, q_s5, q_f1, q_f2, q_f3, q_f4, q_f5, q_f6, q_f7, q_f8, q_f9, q_fa, q_fb, q_fc, q_fd, q_fe, q_i0l, q_i0t, q_i1, q_i2, q_i3, q_i4, q_i5, q_t1, q_t2, q_ads0, q_ads, q_sv0, q_sv, List.map_cons, List.map_nil, List.length_cons, List.length_nil, List.getElem?_cons_zero, List.getElem?_cons_succ, List.cons_append, List.nil_append, Option.map_some, Option.map_none, Option.bind_some, if_true, if_false, Bool.false_eq_true, List.replicate, List.set_cons_zero, List.set_cons_succ, blkE, dropE, wipeE, beq_self_eq_true, Bool.not_true, Bool.not_false, Bool.true_or, Bool.false_or, Bool.or_true, Bool.or_false, Bool.and_true, Bool.true_and, qs]
  rfl
end
end X
set_option Elab.async false
set_option linter.all false
set_option maxRecDepth 100000
set_option maxHeartbeats 4000000
/-! Pu13: shares. -/
namespace X
open PySem Ar
/-- how many are reached -/
def cnt (n : Nat) (R : Nat → Nat → Bool) (i k : Nat) : Nat := (row n (pw n R k) i).length
theorem dep_cnt {n : Nat} (R : Nat → Nat → Bool) {i : Nat} (hi : i < n) : Dep n R (cnt n R i) := fun k k' h => by
  unfold cnt row
  refine congrArg _ (List.filter_congr fun j hj => h i j hi (List.mem_range.mp hj))
theorem cnt_le (n : Nat) (R : Nat → Nat → Bool) (i k : Nat) : cnt n R i k ≤ n := row_len _
theorem cut_head (xs : List D) (k : Nat) (h : k ≤ xs.length) : cutD xs none (some (k : Int)) = xs.take k := by
  unfold cutD
  rw [HT.sIx_none, HT.sIx_nat, Nat.min_eq_left h]
  rfl
theorem s_eqE (x : Str) (h : evCmp .NotEq (.d (.str x)) (.d (.str x)) = some false) {G : Gd} {a : C} {ρ : Ar.Env} {s s1 : Sto} (ha : ev G a ρ s = .ok (.d (.str x)) s1) : ev G (.cmp .NotEq a (.str x)) ρ s = .ok (.d (.bool false)) s1 := cmpP ha (by simp only [ev]) h
theorem tb_str : evCmp .NotEq (.d (.str "table value")) (.d (.str "table value")) = some false := by decide +kernel
theorem cut_mid (xs : List D) {a b : Nat} (h : a ≤ b) (hb : b ≤ xs.length) : cutD xs (some (a : Int)) (some (b : Int)) = (xs.drop a).take (b - a) := by
  unfold cutD
  rw [HT.sIx_nat, HT.sIx_nat, Nat.min_eq_left hb, Nat.min_eq_left (by omega)]
theorem map_take {α : Type} (g : Nat → α) {a len : Nat} (h : a ≤ len) : ((List.range len).map g).take a = (List.range a).map g := by
  rw [← List.map_take, List.take_range, Nat.min_eq_left h]
theorem map_mid {α : Type} (g : Nat → α) {a p len : Nat} (h : a + p ≤ len) : (((List.range len).map g).drop a).take p = (List.range p).map fun t => g (a + t) := by
  refine List.ext_getElem? fun i => ?_
  by_cases hi : i < p
  · rw [List.getElem?_take_of_lt hi, List.getElem?_drop, List.getElem?_map, List.getElem?_map, List.getElem?_range (by omega), List.getElem?_range hi]
    rfl
  · rw [List.getElem?_eq_none (by rw [List.length_take, List.length_drop, List.length_map, List.length_range]; omega), List.getElem?_eq_none (by rw [List.length_map, List.length_range]; omega)]
/-! ### loops that end with a return -/
theorem forO_ret {f : D → Ar.Env → Sto → Out} {h : Nat → D} {v : Vl} {sv : Sto} (I : Ar.Env → Sto → Prop) {r k0 : Nat} (hk : k0 < r) (step : ∀ k, k < k0 → ∀ ρ s, I ρ s → ∃ ρ' s', f (h k) ρ s = .next ρ' s' ∧ I ρ' s') (last : ∀ ρ s, I ρ s → f (h k0) ρ s = .ret v sv) {ρ : Ar.Env} {s : Sto} (i : I ρ s) : forO f ((List.range r).map h) ρ s = .ret v sv := by
  have key : ∀ m k ρ s, k + m = r → k ≤ k0 → I ρ s → forO f ((List.range' k m).map h) ρ s = .ret v sv := by
    intro m
    induction m with
    | zero => intro k ρ s e1 e2 i; omega
    | succ m ih =>
      intro k ρ s e1 e2 i
      rw [List.range'_succ, List.map_cons]
      show (f (h k) ρ s).bind _ = _
      by_cases e : k = k0
      · rw [e, last ρ s i]
        rfl
      · obtain ⟨ρ', s', q1, q2⟩ := step k (by omega) ρ s i
        rw [q1]
        exact ih (k + 1) ρ' s' (by omega) (by omega) q2
  rw [List.range_eq_range']
  exact key r 0 ρ s (by omega) (Nat.zero_le _) i
section
variable {G : Gd} {f : Ix}
def reD (g : Nat → Nat) (st p : Nat) : D := .tuple [.tuple ((List.range st).map fun t => iv (g t)), .tuple ((List.range p).map fun t => iv (g (st + t)))]
def S_reof (P : F) : Prop := ∀ (n : Nat) R (i : Nat) s, n ≤ 6 → i < n → ∃ st p, SH (cnt n R i) st p ∧ P [.d (tabD (T n R)), .d (.int i)] s = .ok (.d (reD (cnt n R i) st p)) s
theorem p_reof (pwr : S_powers (G.fn f.powers)) (sh : S_short (G.fn f.shortened)) (ix : S_ixof (G.fn f.index_of)) : S_reof (callD G (x_reached_of f)) := by
  intro n R i s hn hi
  obtain ⟨m, a, c, h1⟩ := pwr n R s hn
  have hl := c.lt
  have h52 := c.le
  have dp := dep_cnt R hi
  have hz := dp.per c
  obtain ⟨st, p, h2, h3⟩ := sh Nat iv 0 (cnt n R i) m a s encI (by omega) hl (by omega) hz
  obtain ⟨b1, b2⟩ := dp.bounds' hn h2
  have p0 := h2.pos
  have sa : st ≤ a := h2.st_le (hz.down (by omega) h2.per)
  refine ⟨st, p, h2, ?_⟩
  let L : List D := (List.range m).map fun t => iv (cnt n R i t)
  refine callR [.v (.d (tabD (T n R))), .v (.d (.int i)), .un, .un, .un, .un, .un, .un, .un, .un] rfl rfl ?_
  refine exs_n (exTup (evC (evL1 (varP rfl)) h1)) ?_
  have e1 := comp_all (G := G) (elt := .bf .len [.idx (.var 8) (.var 1)]) (tg := [8]) (tt := false) (ik := 0) (its := [.var 2]) (own := [8]) (ρ := [.v (.d (tabD (T n R))), .v (.d (.int i)), .v (.d (.list (Ts n R (m - 1)))), .v (.d (.int a)), .un, .un, .un, .un, .un, .un]) (s := s) (s1 := s) (vs := [.d (.list (Ts n R (m - 1)))]) (l := List.range m) (h := fun t => tabD (T n (pw n R t))) (fun t => iv (cnt n R i t)) (fun t => [.v (.d (tabD (T n R))), .v (.d (.int i)), .v (.d (.list (Ts n R (m - 1)))), .v (.d (.int a)), .un, .un, .un, .un, .v (.d (tabD (T n (pw n R t)))), .un]) (by simp only [callD, exs, ex, ev, evL, evTs, q_bo, q_bx, q_no, q_op, q_uo, q_ux, q_on, q_or, q_ox, q_oo, q_tn, q_tb, q_ti, q_tl, q_tt, q_ab, q_ai, q_ad, q_add, q_sub, q_att, q_all, q_ass, q_mlk, q_mtk, q_lt, q_le, q_gt, q_ge, q_eqi, q_in, q_ni, q_is, q_isn, q_ofb, q_ixl, q_ixt, q_ixs, q_sll, q_slt, q_b0, q_b1, q_s0, q_s1, q_s2, q_s3, q_s4, q_s5, q_f1, q_f2, q_f3, q_f4, q_f5, q_f6, q_f7, q_f8, q_f9, q_fa, q_fb, q_fc, q_fd, q_fe, q_i0l, q_i0t, q_i1, q_i2, q_i3, q_i4, q_i5, q_t1, q_t2, q_ads0, q_ads, q_sv0, q_sv, List.map_cons, List.map_nil, List.length_cons, List.length_nil, List.getElem?_cons_zero, List.getElem?_cons_succ, List.cons_append, List.nil_append, Option.map_some, Option.map_none, Option.bind_some, if_true, if_false, Bool.false_eq_true, List.replicate, List.set_cons_zero, List.set_cons_succ, blkE, dropE, wipeE, beq_self_eq_true, Bool.not_true, Bool.not_false, Bool.true_or, Bool.false_or, Bool.or_true, Bool.or_false, Bool.and_true, Bool.true_and]) (by
    unfold Ts
    rw [q_i0l, show m - 1 + 1 = m by omega]) (fun t _ => rfl) (fun t _ => by
    simp only [callD, exs, ex, ev, evL, evTs, q_bo, q_bx, q_no, q_op, q_uo, q_ux, q_on, q_or, q_ox, q_oo, q_tn, q_tb, q_ti, q_tl, q_tt, q_ab, q_ai, q_ad, q_add, q_sub, q_att, q_all, q_ass, q_mlk, q_mtk, q_lt, q_le, q_gt, q_ge, q_eqi, q_in, q_ni, q_is, q_isn, q_ofb, q_ixl, q_ixt, q_ixs, q_sll, q_slt, q_b0, q_b1, q_s0, q_s1, q_s2, q_s3, q_s4, q_s5, q_f1, q_f2, q_f3, q_f4, q_f5, q_f6, q_f7, q_f8, q_f9, q_fa, q_fb, q_fc, q_fd, q_fe, q_i0l, q_i0t, q_i1, q_i2, q_i3, q_i4, q_i5, q_t1, q_t2, q_ads0, q_ads, q_sv0, q_sv, List.map_cons, List.map_nil, List.length_cons, List.length_nil, List.getElem?_cons_zero, List.getElem?_cons_succ, List.cons_append, List.nil_append, Option.map_some, Option.map_none, Option.bind_some, if_true, if_false, Bool.false_eq_true, List.replicate, List.set_cons_zero, List.set_cons_succ, blkE, dropE, wipeE, beq_self_eq_true, Bool.not_true, Bool.not_false, Bool.true_or, Bool.false_or, Bool.or_true, Bool.or_false, Bool.and_true, Bool.true_and, idx_row hi, rowD, List.length_map]
    rfl)
  refine exs_n (exS e1) ?_
  refine exs_n (exTup (evC (evLc (varP rfl) (evL1 (varP rfl))) h3)) ?_
  have e5 := comp_all (G := G) (elt := .idx (.var 4) (.call f.index_of [.var 4, .var 3, .var 9])) (tg := [9]) (tt := false) (ik := 1) (its := [.var 5, .bin .Add (.var 5) (.var 6)]) (own := [9]) (ρ := [.v (.d (tabD (T n R))), .v (.d (.int i)), .v (.d (.list (Ts n R (m - 1)))), .v (.d (.int a)), .v (.d (.list L)), .v (.d (.int st)), .v (.d (.int p)), .un, .un, .un]) (s := s) (s1 := s) (vs := [.d (.int st), .d (.int (st + p : Nat))]) (l := List.range (st + p - st)) (h := fun t => .int ((st : Int) + (t : Int))) (fun t => iv (cnt n R i (st + t))) (fun t => [.v (.d (tabD (T n R))), .v (.d (.int i)), .v (.d (.list (Ts n R (m - 1)))), .v (.d (.int a)), .v (.d (.list L)), .v (.d (.int st)), .v (.d (.int p)), .un, .un, .v (.d (.int ((st : Int) + (t : Int))))]) (by simp only [callD, exs, ex, ev, evL, evTs, q_bo, q_bx, q_no, q_op, q_uo, q_ux, q_on, q_or, q_ox, q_oo, q_tn, q_tb, q_ti, q_tl, q_tt, q_ab, q_ai, q_ad, q_add, q_sub, q_att, q_all, q_ass, q_mlk, q_mtk, q_lt, q_le, q_gt, q_ge, q_eqi, q_in, q_ni, q_is, q_isn, q_ofb, q_ixl, q_ixt, q_ixs, q_sll, q_slt, q_b0, q_b1, q_s0, q_s1, q_s2, q_s3, q_s4, q_s5, q_f1, q_f2, q_f3, q_f4, q_f5, q_f6, q_f7, q_f8, q_f9, q_fa, q_fb, q_fc, q_fd, q_fe, q_i0l, q_i0t, q_i1, q_i2, q_i3, q_i4, q_i5, q_t1, q_t2, q_ads0, q_ads, q_sv0, q_sv, List.map_cons, List.map_nil, List.length_cons, List.length_nil, List.getElem?_cons_zero, List.getElem?_cons_succ, List.cons_append, List.nil_append, Option.map_some, Option.map_none, Option.bind_some, if_true, if_false, Bool.false_eq_true, List.replicate, List.set_cons_zero, List.set_cons_succ, blkE, dropE, wipeE, beq_self_eq_true, Bool.not_true, Bool.not_false, Bool.true_or, Bool.false_or, Bool.or_true, Bool.or_false, Bool.and_true, Bool.true_and]; rfl) (rng2_ok (by omega) (by omega)) (fun t _ => rfl) (fun t ht => by
    obtain ⟨j', w1, w2⟩ := ixof_at (e := iv) (g := cnt n R i) (G := G) (f := f) hl (by omega) hz ix (st + t) s
    rw [show ((st + t : Nat) : Int) = (st : Int) + (t : Int) by omega] at w1
    exact idxP (varP rfl) (evC (evLc (varP rfl) (evLc (varP rfl) (evL1 (varP rfl)))) w1) w2)
  rw [show st + p - st = p by omega] at e5
  refine exs_n (exS (bfP e5 q_f4)) ?_
  refine exs_r (exR ?_)
  have ct : cutD ((List.range m).map fun t => iv (cnt n R i t)) none (some (st : Int)) = (List.range st).map fun t => iv (cnt n R i t) := by
    rw [cut_head _ _ (by rw [List.length_map, List.length_range]; omega)]
    exact map_take _ (by omega)
  simp only [callD, exs, ex, ev, evL, evTs, q_bo, q_bx, q_no, q_op, q_uo, q_ux, q_on, q_or, q_ox, q_oo, q_tn, q_tb, q_ti, q_tl, q_tt, q_ab, q_ai, q_ad, q_add, q_sub, q_att, q_all, q_ass, q_mlk, q_mtk, q_lt, q_le, q_gt, q_ge, q_eqi, q_in, q_ni, q_is, q_isn, q_ofb, q_ixl, q_ixt, q_ixs, q_sll, q_slt, q_b0, q_b1, q_s0, q_s1, q_s2, q_s3, q_s4, q_s5, q_f1, q_f2, q_f3, q_f4, q_f5, q_f6, q_f7, q_f8, q_f9, q_fa, q_fb, q_fc, q_fd, q_fe, q_i0l, q_i0t, q_i1, q_i2, q_i3, q_i4, q_i5, q_t1, q_t2, q_ads0, q_ads, q_sv0, q_sv, List.map_cons, List.map_nil, List.length_cons, List.length_nil, List.getElem?_cons_zero, List.getElem?_cons_succ, List.cons_append, List.nil_append, Option.map_some, Option.map_none, Option.bind_some, if_true, if_false, Bool.false_eq_true, List.replicate, List.set_cons_zero, List.set_cons_succ, blkE, dropE, wipeE, beq_self_eq_true, Bool.not_true, Bool.not_false, Bool.true_or, Bool.false_or, Bool.or_true, Bool.or_false, Bool.and_true, Bool.true_and, ct]
  rfl
def S_reached (P : F) : Prop := ∀ (n : Nat) R (i : Nat) s, 1 ≤ n → n ≤ 6 → i < n → ∃ st p, SH (cnt n R i) st p ∧ P [.d (tabD (T n R)), .d (.int i)] s = .ok (.d (reD (cnt n R i) st p)) s
theorem p_reached (a : S_ntab (G.fn f.need_table)) (b : S_nper (G.fn f.need_person)) (c : S_reof (G.fn f.reached_of)) : S_reached (callD G (x_reached f)) := by
  intro n R i s h1 h2 h3
  have e1 := a n R s h1 h2
  have e2 := b i n s
  rw [if_pos ⟨by omega, by omega⟩] at e2
  obtain ⟨st, p, c1, c2⟩ := c n R i s h2 h3
  refine ⟨st, p, c1, ?_⟩
  refine callR [.v (.d (tabD (T n R))), .v (.d (.int i))] rfl rfl ?_
  refine exs_n (exE (evC (evL1 (varP rfl)) e1)) ?_
  refine exs_n (exE (evC (evLc (varP rfl) (evL1 (lenTab (varP rfl)))) e2)) ?_
  exact exs_r (exR (evC (evLc (varP rfl) (evL1 (varP rfl))) c2))
/-- an error at its first argument or second -/
def S_perX (P : F) : Prop := ∀ (n : Nat) R (d : D) s, 1 ≤ n → n ≤ 6 → badP n d → P [.d (tabD (T n R)), .d d] s = .ex "InvalidPerson" s
theorem nper_bad {P : F} (b : S_nper P) (b2 : S_nperO P) {n : Nat} {d : D} (h : badP n d) (s : Sto) : P [.d d, .d (.int n)] s = .ex "InvalidPerson" s := by
  rcases h with h | ⟨i, rfl, h⟩
  · exact b2 d _ s h
  · rw [b i _ s, if_neg (by omega)]
theorem lenT (n : Nat) (R : Nat → Nat → Bool) : evBf .len [.d (tabD (T n R))] = some (.d (.int n)) := by
  unfold tabD
  rw [q_f2, List.length_map, T_len]
theorem p_reachedX (a : S_ntab (G.fn f.need_table)) (b : S_nper (G.fn f.need_person)) (b2 : S_nperO (G.fn f.need_person)) : S_perX (callD G (x_reached f)) := by
  intro n R d s h1 h2 h3
  have e1 := a n R s h1 h2
  have e2 := nper_bad b b2 h3 s
  simp only [x_reached, callD, exs, ex, ev, evL, evTs, q_bo, q_bx, q_no, q_op, q_uo, q_ux, q_on, q_or, q_ox, q_oo, q_tn, q_tb, q_ti, q_tl, q_tt, q_ab, q_ai, q_ad, q_add, q_sub, q_att, q_all, q_ass, q_mlk, q_mtk, q_lt, q_le, q_gt, q_ge, q_eqi, q_in, q_ni, q_is, q_isn, q_ofb, q_ixl, q_ixt, q_ixs, q_sll, q_slt, q_b0, q_b1, q_s0, q_s1, q_s2, q_s3, q_s4, q_s5, q_f1, q_f2, q_f3, q_f4, q_f5, q_f6, q_f7, q_f8, q_f9, q_fa, q_fb, q_fc, q_fd, q_fe, q_i0l, q_i0t, q_i1, q_i2, q_i3, q_i4, q_i5, q_t1, q_t2, q_ads0, q_ads, q_sv0, q_sv, List.map_cons, List.map_nil, List.length_cons, List.length_nil, List.getElem?_cons_zero, List.getElem?_cons_succ, List.cons_append, List.nil_append, Option.map_some, Option.map_none, Option.bind_some, if_true, if_false, Bool.false_eq_true, List.replicate, List.set_cons_zero, List.set_cons_succ, blkE, dropE, wipeE, beq_self_eq_true, Bool.not_true, Bool.not_false, Bool.true_or, Bool.false_or, Bool.or_true, Bool.or_false, Bool.and_true, Bool.true_and, lenT, e1, e2]
theorem p_meanX (a : S_ntab (G.fn f.need_table)) (b : S_nper (G.fn f.need_person)) (b2 : S_nperO (G.fn f.need_person)) : S_perX (callD G (x_mean_share f)) := by
  intro n R d s h1 h2 h3
  have e1 := a n R s h1 h2
  have e2 := nper_bad b b2 h3 s
  simp only [x_mean_share, callD, exs, ex, ev, evL, evTs, q_bo, q_bx, q_no, q_op, q_uo, q_ux, q_on, q_or, q_ox, q_oo, q_tn, q_tb, q_ti, q_tl, q_tt, q_ab, q_ai, q_ad, q_add, q_sub, q_att, q_all, q_ass, q_mlk, q_mtk, q_lt, q_le, q_gt, q_ge, q_eqi, q_in, q_ni, q_is, q_isn, q_ofb, q_ixl, q_ixt, q_ixs, q_sll, q_slt, q_b0, q_b1, q_s0, q_s1, q_s2, q_s3, q_s4, q_s5, q_f1, q_f2, q_f3, q_f4, q_f5, q_f6, q_f7, q_f8, q_f9, q_fa, q_fb, q_fc, q_fd, q_fe, q_i0l, q_i0t, q_i1, q_i2, q_i3, q_i4, q_i5, q_t1, q_t2, q_ads0, q_ads, q_sv0, q_sv, List.map_cons, List.map_nil, List.length_cons, List.length_nil, List.getElem?_cons_zero, List.getElem?_cons_succ, List.cons_append, List.nil_append, Option.map_some, Option.map_none, Option.bind_some, if_true, if_false, Bool.false_eq_true, List.replicate, List.set_cons_zero, List.set_cons_succ, blkE, dropE, wipeE, beq_self_eq_true, Bool.not_true, Bool.not_false, Bool.true_or, Bool.false_or, Bool.or_true, Bool.or_false, Bool.and_true, Bool.true_and, lenT, e1, e2]
/-- what is no tuple is no table -/
def notTup : D → Bool
  | .tuple _ => false
  | .dict _ => false
  | _ => true
theorem isi_not {d : D} (h : notTup d = true) : evIsi (.d d) "tuple" = some false := by
  cases d <;> first | rfl | cases h
def S_tableN (P : F) : Prop := ∀ (d : D) s, notTup d = true → P [.d d] s = .ok (.d (.bool false)) s
theorem p_tableN : S_tableN (callD G (x_is_table f)) := by
  intro d s h
  have e := isi_not h
  simp only [x_is_table, callD, exs, ex, ev, evL, evTs, q_bo, q_bx, q_no, q_op, q_uo, q_ux, q_on, q_or, q_ox, q_oo, q_tn, q_tb, q_ti, q_tl, q_tt, q_ab, q_ai, q_ad, q_add, q_sub, q_att, q_all, q_ass, q_mlk, q_mtk, q_lt, q_le, q_gt, q_ge, q_eqi, q_in, q_ni, q_is, q_isn, q_ofb, q_ixl, q_ixt, q_ixs, q_sll, q_slt, q_b0, q_b1, q_s0, q_s1, q_s2, q_s3, q_s4, q_s5, q_f1, q_f2, q_f3, q_f4, q_f5, q_f6, q_f7, q_f8, q_f9, q_fa, q_fb, q_fc, q_fd, q_fe, q_i0l, q_i0t, q_i1, q_i2, q_i3, q_i4, q_i5, q_t1, q_t2, q_ads0, q_ads, q_sv0, q_sv, List.map_cons, List.map_nil, List.length_cons, List.length_nil, List.getElem?_cons_zero, List.getElem?_cons_succ, List.cons_append, List.nil_append, Option.map_some, Option.map_none, Option.bind_some, if_true, if_false, Bool.false_eq_true, List.replicate, List.set_cons_zero, List.set_cons_succ, blkE, dropE, wipeE, beq_self_eq_true, Bool.not_true, Bool.not_false, Bool.true_or, Bool.false_or, Bool.or_true, Bool.or_false, Bool.and_true, Bool.true_and, e]
def S_ntabN (P : F) : Prop := ∀ (d : D) s, notTup d = true → P [.d d] s = .ex "InvalidTable" s
theorem p_ntabN (w : S_tableN (G.fn f.is_table)) : S_ntabN (callD G (x_need_table f)) := by
  intro d s h
  simp only [x_need_table, callD, exs, ex, ev, evL, evTs, q_bo, q_bx, q_no, q_op, q_uo, q_ux, q_on, q_or, q_ox, q_oo, q_tn, q_tb, q_ti, q_tl, q_tt, q_ab, q_ai, q_ad, q_add, q_sub, q_att, q_all, q_ass, q_mlk, q_mtk, q_lt, q_le, q_gt, q_ge, q_eqi, q_in, q_ni, q_is, q_isn, q_ofb, q_ixl, q_ixt, q_ixs, q_sll, q_slt, q_b0, q_b1, q_s0, q_s1, q_s2, q_s3, q_s4, q_s5, q_f1, q_f2, q_f3, q_f4, q_f5, q_f6, q_f7, q_f8, q_f9, q_fa, q_fb, q_fc, q_fd, q_fe, q_i0l, q_i0t, q_i1, q_i2, q_i3, q_i4, q_i5, q_t1, q_t2, q_ads0, q_ads, q_sv0, q_sv, List.map_cons, List.map_nil, List.length_cons, List.length_nil, List.getElem?_cons_zero, List.getElem?_cons_succ, List.cons_append, List.nil_append, Option.map_some, Option.map_none, Option.bind_some, if_true, if_false, Bool.false_eq_true, List.replicate, List.set_cons_zero, List.set_cons_succ, blkE, dropE, wipeE, beq_self_eq_true, Bool.not_true, Bool.not_false, Bool.true_or, Bool.false_or, Bool.or_true, Bool.or_false, Bool.and_true, Bool.true_and, w d s h]
def S_tab2N (P : F) : Prop := ∀ (d e : D) s, notTup d = true → P [.d d, .d e] s = .ex "InvalidTable" s
theorem p_reachedN (w : S_ntabN (G.fn f.need_table)) : S_tab2N (callD G (x_reached f)) := by
  intro d e s h
  simp only [x_reached, callD, exs, ex, ev, evL, evTs, q_bo, q_bx, q_no, q_op, q_uo, q_ux, q_on, q_or, q_ox, q_oo, q_tn, q_tb, q_ti, q_tl, q_tt, q_ab, q_ai, q_ad, q_add, q_sub, q_att, q_all, q_ass, q_mlk, q_mtk, q_lt, q_le, q_gt, q_ge, q_eqi, q_in, q_ni, q_is, q_isn, q_ofb, q_ixl, q_ixt, q_ixs, q_sll, q_slt, q_b0, q_b1, q_s0, q_s1, q_s2, q_s3, q_s4, q_s5, q_f1, q_f2, q_f3, q_f4, q_f5, q_f6, q_f7, q_f8, q_f9, q_fa, q_fb, q_fc, q_fd, q_fe, q_i0l, q_i0t, q_i1, q_i2, q_i3, q_i4, q_i5, q_t1, q_t2, q_ads0, q_ads, q_sv0, q_sv, List.map_cons, List.map_nil, List.length_cons, List.length_nil, List.getElem?_cons_zero, List.getElem?_cons_succ, List.cons_append, List.nil_append, Option.map_some, Option.map_none, Option.bind_some, if_true, if_false, Bool.false_eq_true, List.replicate, List.set_cons_zero, List.set_cons_succ, blkE, dropE, wipeE, beq_self_eq_true, Bool.not_true, Bool.not_false, Bool.true_or, Bool.false_or, Bool.or_true, Bool.or_false, Bool.and_true, Bool.true_and, w d s h]
/-! ### common divisors -/
def S_shared (P : F) : Prop := ∀ (a b : Nat) s, b < 10000 → P [.d (.int a), .d (.int b)] s = .ok (.d (.int (Nat.gcd a b : Nat))) s
theorem shared_loop (s : Sto) : ∀ (fuel a b : Nat), b < fuel → whileO (fun ρ s => (ev G (.cmp .Gt (.var 1) (.int 0)) ρ s).bind fun x s1 => Res.opt (truth x) s1) (fun ρ s => exs G [.setPar [0, 1] [.var 1, .bin .Mod (.var 0) (.var 1)]] ρ s) fuel [.v (.d (.int a)), .v (.d (.int b))] s = .next [.v (.d (.int (Nat.gcd a b : Nat))), .v (.d (.int (0 : Nat)))] s
  | 0, a, b, h => by omega
  | fuel + 1, a, b, h => by
    unfold whileO
    by_cases h0 : b = 0
    · subst h0
      simp only [callD, exs, ex, ev, evL, evTs, q_bo, q_bx, q_no, q_op, q_uo, q_ux, q_on, q_or, q_ox, q_oo, q_tn, q_tb, q_ti, q_tl, q_tt, q_ab, q_ai, q_ad, q_add, q_sub, q_att, q_all, q_ass, q_mlk, q_mtk, q_lt, q_le, q_gt, q_ge, q_eqi, q_in, q_ni, q_is, q_isn, q_ofb, q_ixl, q_ixt, q_ixs, q_sll, q_slt, q_b0, q_b1, q_s0, q_s1, q_s2, q_s3, q_s4, q_s5, q_f1, q_f2, q_f3, q_f4, q_f5, q_f6, q_f7, q_f8, q_f9, q_fa, q_fb, q_fc, q_fd, q_fe, q_i0l, q_i0t, q_i1, q_i2, q_i3, q_i4, q_i5, q_t1, q_t2, q_ads0, q_ads, q_sv0, q_sv, List.map_cons, List.map_nil, List.length_cons, List.length_nil, List.getElem?_cons_zero, List.getElem?_cons_succ, List.cons_append, List.nil_append, Option.map_some, Option.map_none, Option.bind_some, if_true, if_false, Bool.false_eq_true, List.replicate, List.set_cons_zero, List.set_cons_succ, blkE, dropE, wipeE, beq_self_eq_true, Bool.not_true, Bool.not_false, Bool.true_or, Bool.false_or, Bool.or_true, Bool.or_false, Bool.and_true, Bool.true_and]
      rw [Nat.gcd_zero_right]
      rfl
    · have e1 : decide ((0 : Int) < (b : Int)) = true := decide_eq_true (by omega)
      have e2 : (a : Int) % (b : Int) = ((a % b : Nat) : Int) := (Int.natCast_emod a b).symm
      simp only [callD, exs, ex, ev, evL, evTs, q_bo, q_bx, q_no, q_op, q_uo, q_ux, q_on, q_or, q_ox, q_oo, q_tn, q_tb, q_ti, q_tl, q_tt, q_ab, q_ai, q_ad, q_add, q_sub, q_att, q_all, q_ass, q_mlk, q_mtk, q_lt, q_le, q_gt, q_ge, q_eqi, q_in, q_ni, q_is, q_isn, q_ofb, q_ixl, q_ixt, q_ixs, q_sll, q_slt, q_b0, q_b1, q_s0, q_s1, q_s2, q_s3, q_s4, q_s5, q_f1, q_f2, q_f3, q_f4, q_f5, q_f6, q_f7, q_f8, q_f9, q_fa, q_fb, q_fc, q_fd, q_fe, q_i0l, q_i0t, q_i1, q_i2, q_i3, q_i4, q_i5, q_t1, q_t2, q_ads0, q_ads, q_sv0, q_sv, List.map_cons, List.map_nil, List.length_cons, List.length_nil, List.getElem?_cons_zero, List.getElem?_cons_succ, List.cons_append, List.nil_append, Option.map_some, Option.map_none, Option.bind_some, if_true, if_false, Bool.false_eq_true, List.replicate, List.set_cons_zero, List.set_cons_succ, blkE, dropE, wipeE, beq_self_eq_true, Bool.not_true, Bool.not_false, Bool.true_or, Bool.false_or, Bool.or_true, Bool.or_false, Bool.and_true, Bool.true_and, e1, mod_pos (show (0 : Int) < (b : Int) by omega), e2]
      have lt : a % b < b := Nat.mod_lt _ (by omega)
      have e := shared_loop s fuel b (a % b) (by omega)
      have z : Nat.gcd b (a % b) = Nat.gcd a b := by
        rw [Nat.gcd_comm b (a % b), ← Nat.gcd_rec, Nat.gcd_comm]
      rw [z] at e
      exact e
theorem p_shared (hf : 10000 ≤ G.fuel) : S_shared (callD G (x_shared f)) := by
  intro a b s h
  refine callR [.v (.d (.int a)), .v (.d (.int b))] rfl rfl ?_
  refine exs_n (c := .whil _ _) (by simp only [ex]; exact shared_loop s G.fuel a b (by omega)) ?_
  refine exs_r (exR ?_)
  simp only [callD, exs, ex, ev, evL, evTs, q_bo, q_bx, q_no, q_op, q_uo, q_ux, q_on, q_or, q_ox, q_oo, q_tn, q_tb, q_ti, q_tl, q_tt, q_ab, q_ai, q_ad, q_add, q_sub, q_att, q_all, q_ass, q_mlk, q_mtk, q_lt, q_le, q_gt, q_ge, q_eqi, q_in, q_ni, q_is, q_isn, q_ofb, q_ixl, q_ixt, q_ixs, q_sll, q_slt, q_b0, q_b1, q_s0, q_s1, q_s2, q_s3, q_s4, q_s5, q_f1, q_f2, q_f3, q_f4, q_f5, q_f6, q_f7, q_f8, q_f9, q_fa, q_fb, q_fc, q_fd, q_fe, q_i0l, q_i0t, q_i1, q_i2, q_i3, q_i4, q_i5, q_t1, q_t2, q_ads0, q_ads, q_sv0, q_sv, List.map_cons, List.map_nil, List.length_cons, List.length_nil, List.getElem?_cons_zero, List.getElem?_cons_succ, List.cons_append, List.nil_append, Option.map_some, Option.map_none, Option.bind_some, if_true, if_false, Bool.false_eq_true, List.replicate, List.set_cons_zero, List.set_cons_succ, blkE, dropE, wipeE, beq_self_eq_true, Bool.not_true, Bool.not_false, Bool.true_or, Bool.false_or, Bool.or_true, Bool.or_false, Bool.and_true, Bool.true_and]
def S_lowest (P : F) : Prop := ∀ (a b : Nat) s, 1 ≤ b → b < 10000 → P [.d (.int a), .d (.int b)] s = .ok (.d (.tuple [.int (a / Nat.gcd b a : Nat), .int (b / Nat.gcd b a : Nat)])) s
theorem p_lowest : S_lowest (callD G (x_law_lowest f)) := by
  intro a b s h1 h2
  have g0 : 0 < Nat.gcd b a := Nat.gcd_pos_of_pos_left _ (by omega)
  have gb : Nat.gcd b a ≤ b := Nat.gcd_le_left _ (by omega)
  have da := Nat.gcd_dvd_right b a
  have db := Nat.gcd_dvd_left b a
  have main : exs G [.ifs (.and (.cmp .Eq (.bin .Mod (.var 0) (.var 2)) (.int 0)) (.one (.cmp .Eq (.bin .Mod (.var 1) (.var 2)) (.int 0)))) [.ret (.tup [.bin .FloorDiv (.var 0) (.var 2), .bin .FloorDiv (.var 1) (.var 2)])] []] [.v (.d (.int a)), .v (.d (.int b)), .v (.d (.int (Nat.gcd b a : Nat)))] s = .ret (.d (.tuple [.int (a / Nat.gcd b a : Nat), .int (b / Nat.gcd b a : Nat)])) s := by
    have c1 : (a : Int) % (Nat.gcd b a : Nat) = 0 := by rw [← Int.natCast_emod, Nat.mod_eq_zero_of_dvd da]; rfl
    have c2 : (b : Int) % (Nat.gcd b a : Nat) = 0 := by rw [← Int.natCast_emod, Nat.mod_eq_zero_of_dvd db]; rfl
    have c3 : (a : Int) / (Nat.gcd b a : Nat) = ((a / Nat.gcd b a : Nat) : Int) := (Int.natCast_ediv _ _).symm
    have c4 : (b : Int) / (Nat.gcd b a : Nat) = ((b / Nat.gcd b a : Nat) : Int) := (Int.natCast_ediv _ _).symm
    generalize Nat.gcd b a = d at *
    simp only [callD, exs, ex, ev, evL, evTs, q_bo, q_bx, q_no, q_op, q_uo, q_ux, q_on, q_or, q_ox, q_oo, q_tn, q_tb, q_ti, q_tl, q_tt, q_ab, q_ai, q_ad, q_add, q_sub, q_att, q_all, q_ass, q_mlk, q_mtk, q_lt, q_le, q_gt, q_ge, q_eqi, q_in, q_ni, q_is, q_isn, q_ofb, q_ixl, q_ixt, q_ixs, q_sll, q_slt, q_b0, q_b1, q_s0, q_s1, q_s2, q_s3, q_s4, q_s5, q_f1, q_f2, q_f3, q_f4, q_f5, q_f6, q_f7, q_f8, q_f9, q_fa, q_fb, q_fc, q_fd, q_fe, q_i0l, q_i0t, q_i1, q_i2, q_i3, q_i4, q_i5, q_t1, q_t2, q_ads0, q_ads, q_sv0, q_sv, List.map_cons, List.map_nil, List.length_cons, List.length_nil, List.getElem?_cons_zero, List.getElem?_cons_succ, List.cons_append, List.nil_append, Option.map_some, Option.map_none, Option.bind_some, if_true, if_false, Bool.false_eq_true, List.replicate, List.set_cons_zero, List.set_cons_succ, blkE, dropE, wipeE, beq_self_eq_true, Bool.not_true, Bool.not_false, Bool.true_or, Bool.false_or, Bool.or_true, Bool.or_false, Bool.and_true, Bool.true_and, mod_pos (show (0 : Int) < (d : Int) by omega), div_small (show (0 : Int) < (d : Int) by omega) (by omega), c1, c2, c3, c4, decide_true]
  refine callR [.v (.d (.int a)), .v (.d (.int b)), .un] rfl rfl ?_
  have dw : evItems 1 [.d (.int b), .d (.int 0), .d (.int (-1))] = some ((List.range b).map fun (k : Nat) => .int ((b : Int) - (k : Int))) := by
    rw [q_i3, okI_small (by omega), okI_small (by omega), decide_eq_true (show (b : Int) - 0 ≤ 16777216 by omega)]
    unfold dwnD
    rw [Int.sub_zero, Int.toNat_natCast]
    rfl
  refine exs_r (c := .fors _ _ _ _ _) ((ex_fors (vs := [.d (.int b), .d (.int 0), .d (.int (-1))]) (s1 := s) (by simp only [callD, exs, ex, ev, evL, evTs, q_bo, q_bx, q_no, q_op, q_uo, q_ux, q_on, q_or, q_ox, q_oo, q_tn, q_tb, q_ti, q_tl, q_tt, q_ab, q_ai, q_ad, q_add, q_sub, q_att, q_all, q_ass, q_mlk, q_mtk, q_lt, q_le, q_gt, q_ge, q_eqi, q_in, q_ni, q_is, q_isn, q_ofb, q_ixl, q_ixt, q_ixs, q_sll, q_slt, q_b0, q_b1, q_s0, q_s1, q_s2, q_s3, q_s4, q_s5, q_f1, q_f2, q_f3, q_f4, q_f5, q_f6, q_f7, q_f8, q_f9, q_fa, q_fb, q_fc, q_fd, q_fe, q_i0l, q_i0t, q_i1, q_i2, q_i3, q_i4, q_i5, q_t1, q_t2, q_ads0, q_ads, q_sv0, q_sv, List.map_cons, List.map_nil, List.length_cons, List.length_nil, List.getElem?_cons_zero, List.getElem?_cons_succ, List.cons_append, List.nil_append, Option.map_some, Option.map_none, Option.bind_some, if_true, if_false, Bool.false_eq_true, List.replicate, List.set_cons_zero, List.set_cons_succ, blkE, dropE, wipeE, beq_self_eq_true, Bool.not_true, Bool.not_false, Bool.true_or, Bool.false_or, Bool.or_true, Bool.or_false, Bool.and_true, Bool.true_and]) dw).trans ?_)
  refine forO_ret (fun ρ s1 => s1 = s ∧ ∃ w, ρ = [.v (.d (.int a)), .v (.d (.int b)), w]) (k0 := b - Nat.gcd b a) (by omega) ?_ ?_ ⟨rfl, _, rfl⟩
  · rintro k hk ρ s1 ⟨rfl, w, rfl⟩
    rw [q_t1, q_oo]
    refine ⟨[.v (.d (.int a)), .v (.d (.int b)), .v (.d (.int ((b : Int) - (k : Int))))], s1, ?_, rfl, _, rfl⟩
    obtain ⟨d, hd⟩ : ∃ d : Nat, d = b - k := ⟨_, rfl⟩
    have ed : (b : Int) - (k : Int) = (d : Int) := by omega
    have d0 : 0 < d := by omega
    have hn : ¬(a % d = 0 ∧ b % d = 0) := fun z => by
      have := Nat.le_of_dvd g0 (Nat.dvd_gcd (Nat.dvd_of_mod_eq_zero z.2) (Nat.dvd_of_mod_eq_zero z.1))
      omega
    have c1 : (a : Int) % (d : Int) = ((a % d : Nat) : Int) := (Int.natCast_emod _ _).symm
    have c2 : (b : Int) % (d : Int) = ((b % d : Nat) : Int) := (Int.natCast_emod _ _).symm
    rw [ed]
    by_cases q1 : a % d = 0
    · have q2 : ¬ b % d = 0 := fun z => hn ⟨q1, z⟩
      have q3 : decide (((a % d : Nat) : Int) = 0) = true := decide_eq_true (by omega)
      have q4 : decide (((b % d : Nat) : Int) = 0) = false := decide_eq_false (by omega)
      simp only [callD, exs, ex, ev, evL, evTs, q_bo, q_bx, q_no, q_op, q_uo, q_ux, q_on, q_or, q_ox, q_oo, q_tn, q_tb, q_ti, q_tl, q_tt, q_ab, q_ai, q_ad, q_add, q_sub, q_att, q_all, q_ass, q_mlk, q_mtk, q_lt, q_le, q_gt, q_ge, q_eqi, q_in, q_ni, q_is, q_isn, q_ofb, q_ixl, q_ixt, q_ixs, q_sll, q_slt, q_b0, q_b1, q_s0, q_s1, q_s2, q_s3, q_s4, q_s5, q_f1, q_f2, q_f3, q_f4, q_f5, q_f6, q_f7, q_f8, q_f9, q_fa, q_fb, q_fc, q_fd, q_fe, q_i0l, q_i0t, q_i1, q_i2, q_i3, q_i4, q_i5, q_t1, q_t2, q_ads0, q_ads, q_sv0, q_sv, List.map_cons, List.map_nil, List.length_cons, List.length_nil, List.getElem?_cons_zero, List.getElem?_cons_succ, List.cons_append, List.nil_append, Option.map_some, Option.map_none, Option.bind_some, if_true, if_false, Bool.false_eq_true, List.replicate, List.set_cons_zero, List.set_cons_succ, blkE, dropE, wipeE, beq_self_eq_true, Bool.not_true, Bool.not_false, Bool.true_or, Bool.false_or, Bool.or_true, Bool.or_false, Bool.and_true, Bool.true_and, mod_pos (show (0 : Int) < (d : Int) by omega), c1, c2, q3, q4]
    · have q3 : decide (((a % d : Nat) : Int) = 0) = false := decide_eq_false (by omega)
      simp only [callD, exs, ex, ev, evL, evTs, q_bo, q_bx, q_no, q_op, q_uo, q_ux, q_on, q_or, q_ox, q_oo, q_tn, q_tb, q_ti, q_tl, q_tt, q_ab, q_ai, q_ad, q_add, q_sub, q_att, q_all, q_ass, q_mlk, q_mtk, q_lt, q_le, q_gt, q_ge, q_eqi, q_in, q_ni, q_is, q_isn, q_ofb, q_ixl, q_ixt, q_ixs, q_sll, q_slt, q_b0, q_b1, q_s0, q_s1, q_s2, q_s3, q_s4, q_s5, q_f1, q_f2, q_f3, q_f4, q_f5, q_f6, q_f7, q_f8, q_f9, q_fa, q_fb, q_fc, q_fd, q_fe, q_i0l, q_i0t, q_i1, q_i2, q_i3, q_i4, q_i5, q_t1, q_t2, q_ads0, q_ads, q_sv0, q_sv, List.map_cons, List.map_nil, List.length_cons, List.length_nil, List.getElem?_cons_zero, List.getElem?_cons_succ, List.cons_append, List.nil_append, Option.map_some, Option.map_none, Option.bind_some, if_true, if_false, Bool.false_eq_true, List.replicate, List.set_cons_zero, List.set_cons_succ, blkE, dropE, wipeE, beq_self_eq_true, Bool.not_true, Bool.not_false, Bool.true_or, Bool.false_or, Bool.or_true, Bool.or_false, Bool.and_true, Bool.true_and, mod_pos (show (0 : Int) < (d : Int) by omega), c1, q3]
  · rintro ρ s1 ⟨rfl, w, rfl⟩
    rw [q_t1, q_oo, show (b : Int) - ((b - Nat.gcd b a : Nat) : Int) = (Nat.gcd b a : Nat) by omega]
    exact main
/-- the sum of a row told again and again -/
def sumC (g : Nat → Nat) (st p : Nat) : Nat := ((List.range p).map fun t => g (st + t)).sum
theorem sum_cast : ∀ l : List Nat, (l.map fun (k : Nat) => (k : Int)).sum = (l.sum : Nat)
  | [] => rfl
  | x :: l => by rw [List.map_cons, List.sum_cons, List.sum_cons, sum_cast l, Int.natCast_add]
theorem ev_sum (g : Nat → Nat) (st p : Nat) : evBf .sum [.d (.tuple ((List.range p).map fun t => iv (g (st + t))))] = some (.d (.int (sumC g st p : Nat))) := by
  show (allInt ((List.range p).map fun t => PyData.int ((g (st + t) : Nat) : Int))).map _ = _
  rw [allInt_map]
  show some _ = _
  unfold sumC
  rw [← sum_cast, List.map_map]
  rfl
def S_mean (P : F) : Prop := ∀ (n : Nat) R (i : Nat) s, 1 ≤ n → n ≤ 6 → i < n → ∃ st p, SH (cnt n R i) st p ∧ P [.d (tabD (T n R)), .d (.int i)] s = .ok (.d (.tuple [.int (sumC (cnt n R i) st p / Nat.gcd (p * n) (sumC (cnt n R i) st p) : Nat), .int (p * n / Nat.gcd (p * n) (sumC (cnt n R i) st p) : Nat)])) s
theorem sumC_le (n : Nat) (R : Nat → Nat → Bool) (i st p : Nat) : sumC (cnt n R i) st p ≤ p * n := by
  unfold sumC
  have : ∀ l : List Nat, (l.map fun t => cnt n R i (st + t)).sum ≤ l.length * n := fun l => by
    induction l with
    | nil => simp
    | cons x l ih =>
      rw [List.map_cons, List.sum_cons, List.length_cons, Nat.succ_mul]
      have := cnt_le n R i (st + x)
      omega
  have h := this (List.range p)
  rwa [List.length_range] at h
theorem p_mean (a : S_ntab (G.fn f.need_table)) (b : S_nper (G.fn f.need_person)) (c : S_reof (G.fn f.reached_of)) (sh : S_shared (G.fn f.shared)) : S_mean (callD G (x_mean_share f)) := by
  intro n R i s h1 h2 h3
  have e1 := a n R s h1 h2
  have e2 := b i n s
  rw [if_pos ⟨by omega, by omega⟩] at e2
  obtain ⟨st, p, c1, c2⟩ := c n R i s h2 h3
  have p0 := c1.pos
  obtain ⟨b1, b2⟩ := (dep_cnt R h3).bounds' h2 c1
  refine ⟨st, p, c1, ?_⟩
  have hs := sumC_le n R i st p
  have hq : p * n ≤ 12 * 6 := Nat.mul_le_mul b2 h2
  have hq1 : 1 * 1 ≤ p * n := Nat.mul_le_mul p0 h1
  refine callR [.v (.d (tabD (T n R))), .v (.d (.int i)), .un, .un, .un, .un] rfl rfl ?_
  refine exs_n (exE (evC (evL1 (varP rfl)) e1)) ?_
  refine exs_n (exE (evC (evLc (varP rfl) (evL1 (lenTab (varP rfl)))) e2)) ?_
  refine exs_n (exS (x := .d (.tuple ((List.range p).map fun t => iv (cnt n R i (st + t))))) (idxP (evC (evLc (varP rfl) (evL1 (varP rfl))) c2) (intP _) rfl)) ?_
  have e3 := ev_sum (cnt n R i) st p
  have e4 : evBf .len [.d (.tuple ((List.range p).map fun t => iv (cnt n R i (st + t))))] = some (.d (.int p)) := by
    rw [q_f2, List.length_map, List.length_range]
  have e5 : (p : Int) * (n : Int) = ((p * n : Nat) : Int) := (Int.natCast_mul _ _).symm
  refine exs_n (exPar (vs := [.d (.int (sumC (cnt n R i) st p : Nat)), .d (.int (p * n : Nat))]) (s1 := s) ?_ rfl) ?_
  · refine evLc (bfP (varP rfl) e3) (evL1 (binP (bfP (varP rfl) e4) (lenTab (varP rfl)) ?_))
    rw [mul_small (by omega) (by omega), e5]
  generalize sumC (cnt n R i) st p = top at *
  generalize p * n = below at *
  have g0 : 0 < Nat.gcd below top := Nat.gcd_pos_of_pos_left _ (by omega)
  have gb : Nat.gcd below top ≤ below := Nat.gcd_le_left _ (by omega)
  have e6 := sh below top s (by omega)
  refine exs_n (exS (x := .d (.int (Nat.gcd below top : Nat))) (evC (evLc (varP rfl) (evL1 (varP rfl))) e6)) ?_
  refine exs_r (exR ?_)
  have c3 : (top : Int) / (Nat.gcd below top : Nat) = ((top / Nat.gcd below top : Nat) : Int) := (Int.natCast_ediv _ _).symm
  have c4 : (below : Int) / (Nat.gcd below top : Nat) = ((below / Nat.gcd below top : Nat) : Int) := (Int.natCast_ediv _ _).symm
  simp only [callD, exs, ex, ev, evL, evTs, q_bo, q_bx, q_no, q_op, q_uo, q_ux, q_on, q_or, q_ox, q_oo, q_tn, q_tb, q_ti, q_tl, q_tt, q_ab, q_ai, q_ad, q_add, q_sub, q_att, q_all, q_ass, q_mlk, q_mtk, q_lt, q_le, q_gt, q_ge, q_eqi, q_in, q_ni, q_is, q_isn, q_ofb, q_ixl, q_ixt, q_ixs, q_sll, q_slt, q_b0, q_b1, q_s0, q_s1, q_s2, q_s3, q_s4, q_s5, q_f1, q_f2, q_f3, q_f4, q_f5, q_f6, q_f7, q_f8, q_f9, q_fa, q_fb, q_fc, q_fd, q_fe, q_i0l, q_i0t, q_i1, q_i2, q_i3, q_i4, q_i5, q_t1, q_t2, q_ads0, q_ads, q_sv0, q_sv, List.map_cons, List.map_nil, List.length_cons, List.length_nil, List.getElem?_cons_zero, List.getElem?_cons_succ, List.cons_append, List.nil_append, Option.map_some, Option.map_none, Option.bind_some, if_true, if_false, Bool.false_eq_true, List.replicate, List.set_cons_zero, List.set_cons_succ, blkE, dropE, wipeE, beq_self_eq_true, Bool.not_true, Bool.not_false, Bool.true_or, Bool.false_or, Bool.or_true, Bool.or_false, Bool.and_true, Bool.true_and, div_small (show (0 : Int) < (Nat.gcd below top : Nat) by omega) (show ((Nat.gcd below top : Nat) : Int) < 1073741824 by omega), c3, c4]
end
end X
set_option Elab.async false
set_option linter.all false
set_option maxRecDepth 100000
set_option maxHeartbeats 4000000
/-! PL8: the law k08. -/
namespace X
open PySem Ar
theorem k1C : CR 3 (tb k1) 6 5 := CR_of (A := k1) (L := [[[1], [2], [0, 1]], [[2], [0, 1], [1, 2]], [[0, 1], [1, 2], [0, 1, 2]], [[1, 2], [0, 1, 2], [0, 1, 2]], [[0, 1, 2], [0, 1, 2], [0, 1, 2]], [[0, 1, 2], [0, 1, 2], [0, 1, 2]]]) (by decide +kernel)
theorem k2C : CR 3 (tb k2) 3 0 := CR_of (A := k2) (L := [[[1], [2], [0]], [[2], [0], [1]], [[0], [1], [2]]]) (by decide +kernel)
theorem k3C : CR 3 (tb k3) 2 0 := CR_of (A := k3) (L := [[[1], [0], [2]], [[0], [1], [2]]]) (by decide +kernel)
theorem k4C : CR 4 (tb k4) 4 1 := CR_of (A := k4) (L := [[[1, 2], [3], [3], [0]], [[3], [0], [0], [1, 2]], [[0], [1, 2], [1, 2], [3]], [[1, 2], [3], [3], [0]]]) (by decide +kernel)
theorem k5C : CR 3 (tb k5) 2 1 := CR_of (A := k5) (L := [[[0, 1, 2], [0, 1, 2], [0, 1, 2]], [[0, 1, 2], [0, 1, 2], [0, 1, 2]]]) (by decide +kernel)
def kP : List (List Nat) := [[1], []]
theorem kPT : kP = T 2 (tb kP) := by decide
theorem kPC : CR 2 (tb kP) 3 2 := CR_of (A := kP) (L := [[[1], []], [[], []], [[], []]]) (by decide +kernel)
def kH : List (List Nat) := [[1, 2], [3], [3], [0], [0]]
theorem kHT : kH = T 5 (tb kH) := by decide
theorem kHC : CR 5 (tb kH) 4 1 := CR_of (A := kH) (L := [[[1, 2], [3], [3], [0], [0]], [[3], [0], [0], [1, 2], [1, 2]], [[0], [1, 2], [1, 2], [3], [3]], [[1, 2], [3], [3], [0], [0]]]) (by decide +kernel)
def kU : List (List Nat) := [[1], [0, 2], [3], [4], [2]]
theorem kUT : kU = T 5 (tb kU) := by decide
theorem kUC : CR 5 (tb kU) 12 6 := CR_of (A := kU) (L := [[[1], [0, 2], [3], [4], [2]], [[0, 2], [1, 3], [4], [2], [3]], [[1, 3], [0, 2, 4], [2], [3], [4]], [[0, 2, 4], [1, 2, 3], [3], [4], [2]], [[1, 2, 3], [0, 2, 3, 4], [4], [2], [3]], [[0, 2, 3, 4], [1, 2, 3, 4], [2], [3], [4]], [[1, 2, 3, 4], [0, 2, 3, 4], [3], [4], [2]], [[0, 2, 3, 4], [1, 2, 3, 4], [4], [2], [3]], [[1, 2, 3, 4], [0, 2, 3, 4], [2], [3], [4]], [[0, 2, 3, 4], [1, 2, 3, 4], [3], [4], [2]], [[1, 2, 3, 4], [0, 2, 3, 4], [4], [2], [3]], [[0, 2, 3, 4], [1, 2, 3, 4], [2], [3], [4]]]) (by decide +kernel)
def encPZ : Enc (fun p : Int × Int => PyData.tuple [.int p.1, .int p.2]) 1 := encZ.pair encZ
def encRR : Enc (fun p : List Nat × List Nat => PyData.tuple [rowD p.1, rowD p.2]) 2 := encRow.pair encRow
theorem reD_enc (g : Nat → Nat) (st p : Nat) : reD g st p = (fun p : List Nat × List Nat => PyData.tuple [rowD p.1, rowD p.2]) ((List.range st).map g, (List.range p).map fun t => g (st + t)) := by
  unfold reD rowD
  simp only [List.map_map]
  rfl
theorem reD_ne (g : Nat → Nat) (st p : Nat) : evCmp .NotEq (.d (reD g st p)) (.d (reD g st p)) = some false := by
  rw [reD_enc, encRR.cNe (by omega), decide_eq_true rfl]
  rfl
section
variable {G : Gd} {f : Ix}
theorem exTupN {is : List Nat} {c : C} {ρ ρ1 : Ar.Env} {s s1 : Sto} {x : D} (h : ev G c ρ s = .ok (.d x) s1) (hb : bindTg is true x ρ = some ρ1) : ex G (.setTup is c) ρ s = .next ρ1 s1 := by
  simp only [ex, h, q_uo, q_ad, Option.bind_some, hb, q_oo]
theorem p_law8 {f2 : Nat → List Vl → Sto → Res Vl} (h2 : G.fn2 = some f2) (np : G.nm "InvalidPerson" = some ("person value" : Str)) (nt : G.nm "InvalidTable" = some ("table value" : Str)) (vat : S_vat (G.fn f.law_vat)) (und : S_under (G.fn f.law_under)) (dt : S_dtab (G.fn f.law_table)) (wk : S_walked (G.fn f.law_walked)) (lc : S_lcal (G.fn f.law_calendar)) (re : S_reached (G.fn f.reached)) (me : S_mean (G.fn f.mean_share)) (lo : S_lowest (G.fn f.law_lowest)) (kn : S_known (G.fn f.law_known)) (reX : S_perX (f2 f.reached)) (meX : S_perX (f2 f.mean_share)) (reN : S_tab2N (f2 f.reached)) (ns : List Int) (s : Sto) : ∃ s', callD G (x_law8 f) [.scr ns] s = .ok (.d (.bool true)) s' := by
  refine callP [.v (.scr ns), .un, .un, .un, .un, .un, .un, .un, .un, .un, .un, .un, .un, .un, .un, .un, .un, .un, .un, .un, .un] rfl rfl ?_
  obtain ⟨m, m1, m2⟩ := turns_ok (G := G) (ρ := [.v (.scr ns), .un, .un, .un, .un, .un, .un, .un, .un, .un, .un, .un, .un, .un, .un, .un, .un, .un, .un, .un, .un]) (s := s) 5 11 ns (by omega) (by omega) rfl
  refine forP (r := m) (h := iv) (fun _ ρ _ => ∃ a1 a2 a3 a4 a5 a6 a7 a8 a9 a10 a11 a12 a13, ρ = [.v (.scr ns), a1, a2, a3, a4, a5, a6, a7, a8, a9, a10, a11, a12, a13, .un, .un, .un, .un, .un, .un, .un]) m2 (i1_ok (by omega)) ⟨_, _, _, _, _, _, _, _, _, _, _, _, _, rfl⟩ ?_ ?_
  · rintro k hk ρ s ⟨a1, a2, a3, a4, a5, a6, a7, a8, a9, a10, a11, a12, a13, rfl⟩
    refine ⟨_, rfl, ?_⟩
    obtain ⟨s1, v1, v2⟩ := vat ns k s (by omega)
    generalize s.length = r at v1 v2
    refine nP (exS (x := .ref r) (s1 := s1) (by simp only [callD, exs, ex, ev, evL, evTs, q_bo, q_bx, q_no, q_op, q_uo, q_ux, q_on, q_or, q_ox, q_oo, q_tn, q_tb, q_ti, q_tl, q_tt, q_ab, q_ai, q_ad, q_add, q_sub, q_att, q_all, q_ass, q_mlk, q_mtk, q_lt, q_le, q_gt, q_ge, q_eqi, q_in, q_ni, q_is, q_isn, q_ofb, q_ixl, q_ixt, q_ixs, q_sll, q_slt, q_b0, q_b1, q_s0, q_s1, q_s2, q_s3, q_s4, q_s5, q_f1, q_f2, q_f3, q_f4, q_f5, q_f6, q_f7, q_f8, q_f9, q_fa, q_fb, q_fc, q_fd, q_fe, q_i0l, q_i0t, q_i1, q_i2, q_i3, q_i4, q_i5, q_t1, q_t2, q_ads0, q_ads, q_sv0, q_sv, List.map_cons, List.map_nil, List.length_cons, List.length_nil, List.getElem?_cons_zero, List.getElem?_cons_succ, List.cons_append, List.nil_append, Option.map_some, Option.map_none, Option.bind_some, if_true, if_false, Bool.false_eq_true, List.replicate, List.set_cons_zero, List.set_cons_succ, blkE, dropE, wipeE, beq_self_eq_true, Bool.not_true, Bool.not_false, Bool.true_or, Bool.false_or, Bool.or_true, Bool.or_false, Bool.and_true, Bool.true_and]; exact v1)) ?_
    obtain ⟨j, s2, u1, u2, u3⟩ := und r 6 s1 v2 (by omega) (by omega)
    have u1 : G.fn f.law_under [.ref r, .d (.int 6)] s1 = .ok (.d (.int j)) s2 := u1
    obtain ⟨R, s3, t1, t2⟩ := dt r (1 + j) s2 u3 (by omega) (by omega)
    have t1 : G.fn f.law_table [.ref r, .d (.int (1 + (j : Int)))] s2 = .ok (.d (tabD (T (1 + j) R))) s3 := by
      rw [show (1 : Int) + (j : Int) = ((1 + j : Nat) : Int) by omega]
      exact t1
    generalize hn : 1 + j = n at t1 t2
    have hn1 : 1 ≤ n := by omega
    have hn6 : n ≤ 6 := by omega
    refine nP (exS (x := .d (tabD (T n R))) (s1 := s3) (by simp only [callD, exs, ex, ev, evL, evTs, q_bo, q_bx, q_no, q_op, q_uo, q_ux, q_on, q_or, q_ox, q_oo, q_tn, q_tb, q_ti, q_tl, q_tt, q_ab, q_ai, q_ad, q_add, q_sub, q_att, q_all, q_ass, q_mlk, q_mtk, q_lt, q_le, q_gt, q_ge, q_eqi, q_in, q_ni, q_is, q_isn, q_ofb, q_ixl, q_ixt, q_ixs, q_sll, q_slt, q_b0, q_b1, q_s0, q_s1, q_s2, q_s3, q_s4, q_s5, q_f1, q_f2, q_f3, q_f4, q_f5, q_f6, q_f7, q_f8, q_f9, q_fa, q_fb, q_fc, q_fd, q_fe, q_i0l, q_i0t, q_i1, q_i2, q_i3, q_i4, q_i5, q_t1, q_t2, q_ads0, q_ads, q_sv0, q_sv, List.map_cons, List.map_nil, List.length_cons, List.length_nil, List.getElem?_cons_zero, List.getElem?_cons_succ, List.cons_append, List.nil_append, Option.map_some, Option.map_none, Option.bind_some, if_true, if_false, Bool.false_eq_true, List.replicate, List.set_cons_zero, List.set_cons_succ, blkE, dropE, wipeE, beq_self_eq_true, Bool.not_true, Bool.not_false, Bool.true_or, Bool.false_or, Bool.or_true, Bool.or_false, Bool.and_true, Bool.true_and, u1]; exact t1)) ?_
    refine nP (exS (x := .d (.list (Ts n R 119))) (s1 := s3) (by simp only [callD, exs, ex, ev, evL, evTs, q_bo, q_bx, q_no, q_op, q_uo, q_ux, q_on, q_or, q_ox, q_oo, q_tn, q_tb, q_ti, q_tl, q_tt, q_ab, q_ai, q_ad, q_add, q_sub, q_att, q_all, q_ass, q_mlk, q_mtk, q_lt, q_le, q_gt, q_ge, q_eqi, q_in, q_ni, q_is, q_isn, q_ofb, q_ixl, q_ixt, q_ixs, q_sll, q_slt, q_b0, q_b1, q_s0, q_s1, q_s2, q_s3, q_s4, q_s5, q_f1, q_f2, q_f3, q_f4, q_f5, q_f6, q_f7, q_f8, q_f9, q_fa, q_fb, q_fc, q_fd, q_fe, q_i0l, q_i0t, q_i1, q_i2, q_i3, q_i4, q_i5, q_t1, q_t2, q_ads0, q_ads, q_sv0, q_sv, List.map_cons, List.map_nil, List.length_cons, List.length_nil, List.getElem?_cons_zero, List.getElem?_cons_succ, List.cons_append, List.nil_append, Option.map_some, Option.map_none, Option.bind_some, if_true, if_false, Bool.false_eq_true, List.replicate, List.set_cons_zero, List.set_cons_succ, blkE, dropE, wipeE, beq_self_eq_true, Bool.not_true, Bool.not_false, Bool.true_or, Bool.false_or, Bool.or_true, Bool.or_false, Bool.and_true, Bool.true_and]; exact wk n R 119 s3 hn6 (by omega))) ?_
    refine forP (r := n) (h := iv) (fun _ ρ s => ∃ a5 a6 a7 a8 a9 a10 a11, ρ = [.v (.scr ns), .v (.d (iv k)), .v (.ref r), .v (.d (tabD (T n R))), .v (.d (.list (Ts n R 119))), a5, a6, a7, a8, a9, a10, a11, a12, a13, .un, .un, .un, .un, .un, .un, .un]) (vs := [.d (.int n)]) (evL1 (lenTab (varP rfl))) (i1_ok (by omega)) ⟨_, _, _, _, _, _, _, rfl⟩ ?_ ?_
    · rintro i hi ρ s ⟨b5, b6, b7, b8, b9, b10, b11, rfl⟩
      refine ⟨_, rfl, ?_⟩
      obtain ⟨st, p, c1, c2⟩ := re n R i s hn1 hn6 hi
      obtain ⟨st', p', d1, d2⟩ := me n R i s hn1 hn6 hi
      obtain ⟨rfl, rfl⟩ := c1.uniq d1
      obtain ⟨h40, h12⟩ := (dep_cnt R hi).bounds' hn6 c1
      have p0 := c1.pos
      have e1 := comp_all (G := G) (elt := .bf .len [.idx (.var 20) (.var 5)]) (tg := [20]) (tt := false) (ik := 0) (its := [.var 4]) (own := [20]) (ρ := [.v (.scr ns), .v (.d (iv k)), .v (.ref r), .v (.d (tabD (T n R))), .v (.d (.list (Ts n R 119))), .v (.d (iv i)), b6, b7, b8, b9, b10, b11, a12, a13, .un, .un, .un, .un, .un, .un, .un]) (s := s) (s1 := s) (vs := [.d (.list (Ts n R 119))]) (l := List.range 120) (h := fun t => tabD (T n (pw n R t))) (fun t => iv (cnt n R i t)) (fun t => (blkE [.v (.scr ns), .v (.d (iv k)), .v (.ref r), .v (.d (tabD (T n R))), .v (.d (.list (Ts n R 119))), .v (.d (iv i)), b6, b7, b8, b9, b10, b11, a12, a13, .un, .un, .un, .un, .un, .un, .un] [20]).set 20 (.v (.d (tabD (T n (pw n R t)))))) (by simp only [callD, exs, ex, ev, evL, evTs, q_bo, q_bx, q_no, q_op, q_uo, q_ux, q_on, q_or, q_ox, q_oo, q_tn, q_tb, q_ti, q_tl, q_tt, q_ab, q_ai, q_ad, q_add, q_sub, q_att, q_all, q_ass, q_mlk, q_mtk, q_lt, q_le, q_gt, q_ge, q_eqi, q_in, q_ni, q_is, q_isn, q_ofb, q_ixl, q_ixt, q_ixs, q_sll, q_slt, q_b0, q_b1, q_s0, q_s1, q_s2, q_s3, q_s4, q_s5, q_f1, q_f2, q_f3, q_f4, q_f5, q_f6, q_f7, q_f8, q_f9, q_fa, q_fb, q_fc, q_fd, q_fe, q_i0l, q_i0t, q_i1, q_i2, q_i3, q_i4, q_i5, q_t1, q_t2, q_ads0, q_ads, q_sv0, q_sv, List.map_cons, List.map_nil, List.length_cons, List.length_nil, List.getElem?_cons_zero, List.getElem?_cons_succ, List.cons_append, List.nil_append, Option.map_some, Option.map_none, Option.bind_some, if_true, if_false, Bool.false_eq_true, List.replicate, List.set_cons_zero, List.set_cons_succ, blkE, dropE, wipeE, beq_self_eq_true, Bool.not_true, Bool.not_false, Bool.true_or, Bool.false_or, Bool.or_true, Bool.or_false, Bool.and_true, Bool.true_and]) (by unfold Ts; rw [q_i0l]) (fun t _ => rfl) (fun t _ => by
        simp only [callD, exs, ex, ev, evL, evTs, q_bo, q_bx, q_no, q_op, q_uo, q_ux, q_on, q_or, q_ox, q_oo, q_tn, q_tb, q_ti, q_tl, q_tt, q_ab, q_ai, q_ad, q_add, q_sub, q_att, q_all, q_ass, q_mlk, q_mtk, q_lt, q_le, q_gt, q_ge, q_eqi, q_in, q_ni, q_is, q_isn, q_ofb, q_ixl, q_ixt, q_ixs, q_sll, q_slt, q_b0, q_b1, q_s0, q_s1, q_s2, q_s3, q_s4, q_s5, q_f1, q_f2, q_f3, q_f4, q_f5, q_f6, q_f7, q_f8, q_f9, q_fa, q_fb, q_fc, q_fd, q_fe, q_i0l, q_i0t, q_i1, q_i2, q_i3, q_i4, q_i5, q_t1, q_t2, q_ads0, q_ads, q_sv0, q_sv, List.map_cons, List.map_nil, List.length_cons, List.length_nil, List.getElem?_cons_zero, List.getElem?_cons_succ, List.cons_append, List.nil_append, Option.map_some, Option.map_none, Option.bind_some, if_true, if_false, Bool.false_eq_true, List.replicate, List.set_cons_zero, List.set_cons_succ, blkE, dropE, wipeE, beq_self_eq_true, Bool.not_true, Bool.not_false, Bool.true_or, Bool.false_or, Bool.or_true, Bool.or_false, Bool.and_true, Bool.true_and, iv, idx_row hi, rowD, List.length_map]
        rfl)
      refine nP (exS e1) ?_
      have e2 := lc Nat iv 0 (cnt n R i) (fun x => ((x : Int) != 0)) st p s encI (by omega) (fun _ => rfl) c1 h40 h12
      refine nP (exTupN (evC (evL1 (varP rfl)) e2) rfl) ?_
      have ct : cutD ((List.range 120).map fun t => iv (cnt n R i t)) none (some (st : Int)) = (List.range st).map fun t => iv (cnt n R i t) := by
        rw [cut_head _ _ (by rw [List.length_map, List.length_range]; omega)]
        exact map_take _ (by omega)
      have cm : cutD ((List.range 120).map fun t => iv (cnt n R i t)) (some (st : Int)) (some ((st : Int) + (p : Int))) = (List.range p).map fun t => iv (cnt n R i (st + t)) := by
        rw [show (st : Int) + (p : Int) = ((st + p : Nat) : Int) by omega, cut_mid _ (by omega) (by rw [List.length_map, List.length_range]; omega), show st + p - st = p by omega]
        exact map_mid (fun t => iv (cnt n R i t)) (by omega)
      refine nP (exS (x := .d (reD (cnt n R i) st p)) (s1 := s) (by simp only [callD, exs, ex, ev, evL, evTs, q_bo, q_bx, q_no, q_op, q_uo, q_ux, q_on, q_or, q_ox, q_oo, q_tn, q_tb, q_ti, q_tl, q_tt, q_ab, q_ai, q_ad, q_add, q_sub, q_att, q_all, q_ass, q_mlk, q_mtk, q_lt, q_le, q_gt, q_ge, q_eqi, q_in, q_ni, q_is, q_isn, q_ofb, q_ixl, q_ixt, q_ixs, q_sll, q_slt, q_b0, q_b1, q_s0, q_s1, q_s2, q_s3, q_s4, q_s5, q_f1, q_f2, q_f3, q_f4, q_f5, q_f6, q_f7, q_f8, q_f9, q_fa, q_fb, q_fc, q_fd, q_fe, q_i0l, q_i0t, q_i1, q_i2, q_i3, q_i4, q_i5, q_t1, q_t2, q_ads0, q_ads, q_sv0, q_sv, List.map_cons, List.map_nil, List.length_cons, List.length_nil, List.getElem?_cons_zero, List.getElem?_cons_succ, List.cons_append, List.nil_append, Option.map_some, Option.map_none, Option.bind_some, if_true, if_false, Bool.false_eq_true, List.replicate, List.set_cons_zero, List.set_cons_succ, blkE, dropE, wipeE, beq_self_eq_true, Bool.not_true, Bool.not_false, Bool.true_or, Bool.false_or, Bool.or_true, Bool.or_false, Bool.and_true, Bool.true_and, ct, cm]; rfl)) ?_
      have q0 := reD_ne (cnt n R i) st p
      have q1 := ev_sum (cnt n R i) st p
      have hs := sumC_le n R i st p
      have hq : p * n ≤ 12 * 6 := Nat.mul_le_mul h12 hn6
      have hq1 : 1 * 1 ≤ p * n := Nat.mul_le_mul p0 hn1
      have q2 := lo (sumC (cnt n R i) st p) (p * n) s (by omega) (by omega)
      have q3 := encPZ.cNe (by omega) (((sumC (cnt n R i) st p / Nat.gcd (p * n) (sumC (cnt n R i) st p) : Nat) : Int), ((p * n / Nat.gcd (p * n) (sumC (cnt n R i) st p) : Nat) : Int)) (((sumC (cnt n R i) st p / Nat.gcd (p * n) (sumC (cnt n R i) st p) : Nat) : Int), ((p * n / Nat.gcd (p * n) (sumC (cnt n R i) st p) : Nat) : Int))
      rw [decide_eq_true rfl] at q3
      refine ifP0 (orP0 (cmpP (evC (evLc (varP rfl) (evL1 (varP rfl))) c2) (varP rfl) q0) (oneP (cmpP (evC (evLc (varP rfl) (evL1 (varP rfl))) d2) (evC (vs := [.d (.int (sumC (cnt n R i) st p : Nat)), .d (.int (p * n : Nat))]) (s1 := s) (evLc (bfP (idxP (varP rfl) (intP _) rfl) q1) (evL1 (binP (varP rfl) (lenTab (varP rfl)) ?_))) q2) q3))) rfl ?_
      · rw [mul_small (by omega) (by omega), (Int.natCast_mul _ _).symm]
      · exact eP ⟨_, _, _, _, _, _, _, rfl⟩
    · rintro ρ s ⟨b5, b6, b7, b8, b9, b10, b11, rfl⟩
      let I : Ar.Env → Sto → Prop := fun ρ s1 => s1 = s ∧ ∃ u w, ρ = [.v (.scr ns), .v (.d (iv k)), .v (.ref r), .v (.d (tabD (T n R))), .v (.d (.list (Ts n R 119))), b5, b6, b7, b8, b9, b10, b11, u, w, .un, .un, .un, .un, .un, .un, .un]
      obtain ⟨ρ3, s4, l3, z3, u3, w3, z4⟩ := forO_all (f := fun x ρ s => oOut (bindTg [12] false x ρ) fun ρ1 => exs G [.setOwn 13 [.err (.call f.reached [.var 3, .var 12])], .append 13 (.err (.call f.mean_share [.var 3, .var 12])), .frz 13, .ifs (.cmp .NotEq (.var 13) (.bin .Mult (.lst [.str "person value"]) (.int 2))) [.ret (.bl false)] []] ρ1 s) I (xs := [.int (-1), .int n, .bool true, .none]) (ρ := [.v (.scr ns), .v (.d (iv k)), .v (.ref r), .v (.d (tabD (T n R))), .v (.d (.list (Ts n R 119))), b5, b6, b7, b8, b9, b10, b11, a12, a13, .un, .un, .un, .un, .un, .un, .un]) (s := s) (by
        rintro x hx ρ s1 ⟨rfl, u, w, rfl⟩
        have hb : badP n x := by
          simp only [List.mem_cons, List.not_mem_nil, or_false] at hx
          rcases hx with rfl | rfl | rfl | rfl
          · exact .inr ⟨_, rfl, by omega⟩
          · exact .inr ⟨_, rfl, by omega⟩
          · exact .inl rfl
          · exact .inl rfl
        rw [q_t1, q_oo]
        refine ⟨[.v (.scr ns), .v (.d (iv k)), .v (.ref r), .v (.d (tabD (T n R))), .v (.d (.list (Ts n R 119))), b5, b6, b7, b8, b9, b10, b11, .v (.d x), .v (.d (.list [.str "person value", .str "person value"])), .un, .un, .un, .un, .un, .un, .un], s1, ?_, rfl, _, _, rfl⟩
        have x1 := reX n R x s1 hn1 hn6 hb
        have x2 := meX n R x s1 hn1 hn6 hb
        refine exs_n (exOwn (ds := [.str "person value"]) (s1 := s1) (evL1 (ev_err h2 (evCx (vs := [.d (tabD (T n R)), .d x]) (s1 := s1) (by simp only [dropE, callD, exs, ex, ev, evL, evTs, q_bo, q_bx, q_no, q_op, q_uo, q_ux, q_on, q_or, q_ox, q_oo, q_tn, q_tb, q_ti, q_tl, q_tt, q_ab, q_ai, q_ad, q_add, q_sub, q_att, q_all, q_ass, q_mlk, q_mtk, q_lt, q_le, q_gt, q_ge, q_eqi, q_in, q_ni, q_is, q_isn, q_ofb, q_ixl, q_ixt, q_ixs, q_sll, q_slt, q_b0, q_b1, q_s0, q_s1, q_s2, q_s3, q_s4, q_s5, q_f1, q_f2, q_f3, q_f4, q_f5, q_f6, q_f7, q_f8, q_f9, q_fa, q_fb, q_fc, q_fd, q_fe, q_i0l, q_i0t, q_i1, q_i2, q_i3, q_i4, q_i5, q_t1, q_t2, q_ads0, q_ads, q_sv0, q_sv, List.map_cons, List.map_nil, List.length_cons, List.length_nil, List.getElem?_cons_zero, List.getElem?_cons_succ, List.cons_append, List.nil_append, Option.map_some, Option.map_none, Option.bind_some, if_true, if_false, Bool.false_eq_true, List.replicate, List.set_cons_zero, List.set_cons_succ, blkE, dropE, wipeE, beq_self_eq_true, Bool.not_true, Bool.not_false, Bool.true_or, Bool.false_or, Bool.or_true, Bool.or_false, Bool.and_true, Bool.true_and] <;> rfl) x1) np)) rfl) ?_
        refine exs_n (exApp (xs := [.str "person value"]) (s1 := s1) rfl (ev_err h2 (evCx (vs := [.d (tabD (T n R)), .d x]) (s1 := s1) (by simp only [dropE, callD, exs, ex, ev, evL, evTs, q_bo, q_bx, q_no, q_op, q_uo, q_ux, q_on, q_or, q_ox, q_oo, q_tn, q_tb, q_ti, q_tl, q_tt, q_ab, q_ai, q_ad, q_add, q_sub, q_att, q_all, q_ass, q_mlk, q_mtk, q_lt, q_le, q_gt, q_ge, q_eqi, q_in, q_ni, q_is, q_isn, q_ofb, q_ixl, q_ixt, q_ixs, q_sll, q_slt, q_b0, q_b1, q_s0, q_s1, q_s2, q_s3, q_s4, q_s5, q_f1, q_f2, q_f3, q_f4, q_f5, q_f6, q_f7, q_f8, q_f9, q_fa, q_fb, q_fc, q_fd, q_fe, q_i0l, q_i0t, q_i1, q_i2, q_i3, q_i4, q_i5, q_t1, q_t2, q_ads0, q_ads, q_sv0, q_sv, List.map_cons, List.map_nil, List.length_cons, List.length_nil, List.getElem?_cons_zero, List.getElem?_cons_succ, List.cons_append, List.nil_append, Option.map_some, Option.map_none, Option.bind_some, if_true, if_false, Bool.false_eq_true, List.replicate, List.set_cons_zero, List.set_cons_succ, blkE, dropE, wipeE, beq_self_eq_true, Bool.not_true, Bool.not_false, Bool.true_or, Bool.false_or, Bool.or_true, Bool.or_false, Bool.and_true, Bool.true_and] <;> rfl) x2) np) (by rw [sizeLine_eq]; decide)) ?_
        refine exs_n (exFrz rfl) ?_
        refine exs_if0 (str_ne2 "person value" (by decide +kernel) _ (.int 0) _ _ (by simp only [callD, exs, ex, ev, evL, evTs, q_bo, q_bx, q_no, q_op, q_uo, q_ux, q_on, q_or, q_ox, q_oo, q_tn, q_tb, q_ti, q_tl, q_tt, q_ab, q_ai, q_ad, q_add, q_sub, q_att, q_all, q_ass, q_mlk, q_mtk, q_lt, q_le, q_gt, q_ge, q_eqi, q_in, q_ni, q_is, q_isn, q_ofb, q_ixl, q_ixt, q_ixs, q_sll, q_slt, q_b0, q_b1, q_s0, q_s1, q_s2, q_s3, q_s4, q_s5, q_f1, q_f2, q_f3, q_f4, q_f5, q_f6, q_f7, q_f8, q_f9, q_fa, q_fb, q_fc, q_fd, q_fe, q_i0l, q_i0t, q_i1, q_i2, q_i3, q_i4, q_i5, q_t1, q_t2, q_ads0, q_ads, q_sv0, q_sv, List.map_cons, List.map_nil, List.length_cons, List.length_nil, List.getElem?_cons_zero, List.getElem?_cons_succ, List.cons_append, List.nil_append, Option.map_some, Option.map_none, Option.bind_some, if_true, if_false, Bool.false_eq_true, List.replicate, List.set_cons_zero, List.set_cons_succ, blkE, dropE, wipeE, beq_self_eq_true, Bool.not_true, Bool.not_false, Bool.true_or, Bool.false_or, Bool.or_true, Bool.or_false, Bool.and_true, Bool.true_and] <;> rfl)) rfl ?_
        exact exs_e) ⟨rfl, _, _, rfl⟩
      subst z3 z4
      refine nP ((ex_fors (vs := [.d (.list [.int (-1), .int n, .bool true, .none])]) (s1 := s4) (by simp only [callD, exs, ex, ev, evL, evTs, q_bo, q_bx, q_no, q_op, q_uo, q_ux, q_on, q_or, q_ox, q_oo, q_tn, q_tb, q_ti, q_tl, q_tt, q_ab, q_ai, q_ad, q_add, q_sub, q_att, q_all, q_ass, q_mlk, q_mtk, q_lt, q_le, q_gt, q_ge, q_eqi, q_in, q_ni, q_is, q_isn, q_ofb, q_ixl, q_ixt, q_ixs, q_sll, q_slt, q_b0, q_b1, q_s0, q_s1, q_s2, q_s3, q_s4, q_s5, q_f1, q_f2, q_f3, q_f4, q_f5, q_f6, q_f7, q_f8, q_f9, q_fa, q_fb, q_fc, q_fd, q_fe, q_i0l, q_i0t, q_i1, q_i2, q_i3, q_i4, q_i5, q_t1, q_t2, q_ads0, q_ads, q_sv0, q_sv, List.map_cons, List.map_nil, List.length_cons, List.length_nil, List.getElem?_cons_zero, List.getElem?_cons_succ, List.cons_append, List.nil_append, Option.map_some, Option.map_none, Option.bind_some, if_true, if_false, Bool.false_eq_true, List.replicate, List.set_cons_zero, List.set_cons_succ, blkE, dropE, wipeE, beq_self_eq_true, Bool.not_true, Bool.not_false, Bool.true_or, Bool.false_or, Bool.or_true, Bool.or_false, Bool.and_true, Bool.true_and, lenT] <;> rfl) rfl).trans l3) ?_
      refine ifP0 (s_eqE "table value" tb_str (ev_err h2 (evCx (vs := [.d .none, .d (.int 0)]) (s1 := s4) (by simp only [dropE, callD, exs, ex, ev, evL, evTs, q_bo, q_bx, q_no, q_op, q_uo, q_ux, q_on, q_or, q_ox, q_oo, q_tn, q_tb, q_ti, q_tl, q_tt, q_ab, q_ai, q_ad, q_add, q_sub, q_att, q_all, q_ass, q_mlk, q_mtk, q_lt, q_le, q_gt, q_ge, q_eqi, q_in, q_ni, q_is, q_isn, q_ofb, q_ixl, q_ixt, q_ixs, q_sll, q_slt, q_b0, q_b1, q_s0, q_s1, q_s2, q_s3, q_s4, q_s5, q_f1, q_f2, q_f3, q_f4, q_f5, q_f6, q_f7, q_f8, q_f9, q_fa, q_fb, q_fc, q_fd, q_fe, q_i0l, q_i0t, q_i1, q_i2, q_i3, q_i4, q_i5, q_t1, q_t2, q_ads0, q_ads, q_sv0, q_sv, List.map_cons, List.map_nil, List.length_cons, List.length_nil, List.getElem?_cons_zero, List.getElem?_cons_succ, List.cons_append, List.nil_append, Option.map_some, Option.map_none, Option.bind_some, if_true, if_false, Bool.false_eq_true, List.replicate, List.set_cons_zero, List.set_cons_succ, blkE, dropE, wipeE, beq_self_eq_true, Bool.not_true, Bool.not_false, Bool.true_or, Bool.false_or, Bool.or_true, Bool.or_false, Bool.and_true, Bool.true_and]) (reN _ _ _ rfl)) nt)) rfl ?_
      exact eP ⟨_, _, _, _, _, _, _, _, _, _, _, _, _, rfl⟩
  · rintro ρ s ⟨a1, a2, a3, a4, a5, a6, a7, a8, a9, a10, a11, a12, a13, rfl⟩
    have e0 : ex G (.setTup [14, 15, 16, 17, 18] (.call f.law_known [])) [.v (.scr ns), a1, a2, a3, a4, a5, a6, a7, a8, a9, a10, a11, a12, a13, .un, .un, .un, .un, .un, .un, .un] s = .next [.v (.scr ns), a1, a2, a3, a4, a5, a6, a7, a8, a9, a10, a11, a12, a13, .v (.d (tabD k1)), .v (.d (tabD k2)), .v (.d (tabD k3)), .v (.d (tabD k4)), .v (.d (tabD k5)), .un, .un] s := exTupN (evC evL0 (kn s)) rfl
    refine nP e0 ?_
    have K : ∀ (n : Nat) (A : List (List Nat)) (i st p : Nat), 1 ≤ n → n ≤ 6 → i < n → A = T n (tb A) → SH (cnt n (tb A) i) st p → G.fn f.reached [.d (tabD A), .d (.int i)] s = .ok (.d (reD (cnt n (tb A) i) st p)) s := fun n A i st p h1 h6 h3 hA hc => by
      obtain ⟨c', a', q1, q2⟩ := re n (tb A) i s h1 h6 h3
      obtain ⟨rfl, rfl⟩ := hc.uniq q1
      rw [← hA] at q2
      exact q2
    have M : ∀ (n : Nat) (A : List (List Nat)) (i st p : Nat), 1 ≤ n → n ≤ 6 → i < n → A = T n (tb A) → SH (cnt n (tb A) i) st p → G.fn f.mean_share [.d (tabD A), .d (.int i)] s = .ok (.d (.tuple [.int (sumC (cnt n (tb A) i) st p / Nat.gcd (p * n) (sumC (cnt n (tb A) i) st p) : Nat), .int (p * n / Nat.gcd (p * n) (sumC (cnt n (tb A) i) st p) : Nat)])) s := fun n A i st p h1 h6 h3 hA hc => by
      obtain ⟨c', a', q1, q2⟩ := me n (tb A) i s h1 h6 h3
      obtain ⟨rfl, rfl⟩ := hc.uniq q1
      rw [← hA] at q2
      exact q2
    have S1 : SH (cnt 3 (tb k1) 0) 5 1 := SH_of (by omega) (per_of_CR (dep_cnt _ (by omega)) k1C (by omega) (by decide)) (fun q h1 h2 => by omega) (.inr (by decide))
    have S2 : SH (cnt 3 (tb k2) 0) 0 1 := SH_of (by omega) (per_of_CR (dep_cnt _ (by omega)) k2C (by omega) (by decide)) (fun q h1 h2 => by omega) (.inl rfl)
    have S4 : SH (cnt 4 (tb k4) 0) 0 3 := SH_of (by omega) (per_of_CR (dep_cnt _ (by omega)) k4C (by omega) (by decide)) (fun q h1 h2 => by
      have : q = 1 ∨ q = 2 := by omega
      rcases this with z | z
      · subst z
        exact ⟨0, by omega, by decide⟩
      · subst z
        exact ⟨1, by omega, by decide⟩) (.inl rfl)
    have SP : SH (cnt 2 (tb kP) 0) 2 1 := SH_of (by omega) (per_of_CR (dep_cnt _ (by omega)) kPC (by omega) (by decide)) (fun q h1 h2 => by omega) (.inr (by decide))
    have SH5 : SH (cnt 5 (tb kH) 4) 0 3 := SH_of (by omega) (per_of_CR (dep_cnt _ (by omega)) kHC (by omega) (by decide)) (fun q h1 h2 => by
      have : q = 1 ∨ q = 2 := by omega
      rcases this with z | z
      · subst z
        exact ⟨1, by omega, by decide⟩
      · subst z
        exact ⟨0, by omega, by decide⟩) (.inl rfl)
    have K1 := K 3 k1 0 5 1 (by omega) (by omega) (by omega) k1T S1
    have K2 := K 3 k2 0 0 1 (by omega) (by omega) (by omega) k2T S2
    have K4 := K 4 k4 0 0 3 (by omega) (by omega) (by omega) k4T S4
    have KP := K 2 kP 0 2 1 (by omega) (by omega) (by omega) kPT SP
    have M1 := M 3 k1 0 5 1 (by omega) (by omega) (by omega) k1T S1
    have M2 := M 3 k2 0 0 1 (by omega) (by omega) (by omega) k2T S2
    have M4 := M 4 k4 0 0 3 (by omega) (by omega) (by omega) k4T S4
    have MP := M 2 kP 0 2 1 (by omega) (by omega) (by omega) kPT SP
    have MH := M 5 kH 4 0 3 (by omega) (by omega) (by omega) kHT SH5
    refine ifP0 (cmpP (t := false) (lstP (evLc (evC (evLc (varP rfl) (evL1 (intP _))) K1) (evLc (evC (evLc (varP rfl) (evL1 (intP _))) K2) (evL1 (evC (evLc (varP rfl) (evL1 (intP _))) K4)))) rfl) (y := .d (.list [.tuple [.tuple [.int 1, .int 1, .int 1, .int 2, .int 2], .tuple [.int 3]], .tuple [.tuple [], .tuple [.int 1]], .tuple [.tuple [], .tuple [.int 1, .int 2, .int 1]]])) (s2 := s) (by simp only [callD, exs, ex, ev, evL, evTs, q_bo, q_bx, q_no, q_op, q_uo, q_ux, q_on, q_or, q_ox, q_oo, q_tn, q_tb, q_ti, q_tl, q_tt, q_ab, q_ai, q_ad, q_add, q_sub, q_att, q_all, q_ass, q_mlk, q_mtk, q_lt, q_le, q_gt, q_ge, q_eqi, q_in, q_ni, q_is, q_isn, q_ofb, q_ixl, q_ixt, q_ixs, q_sll, q_slt, q_b0, q_b1, q_s0, q_s1, q_s2, q_s3, q_s4, q_s5, q_f1, q_f2, q_f3, q_f4, q_f5, q_f6, q_f7, q_f8, q_f9, q_fa, q_fb, q_fc, q_fd, q_fe, q_i0l, q_i0t, q_i1, q_i2, q_i3, q_i4, q_i5, q_t1, q_t2, q_ads0, q_ads, q_sv0, q_sv, List.map_cons, List.map_nil, List.length_cons, List.length_nil, List.getElem?_cons_zero, List.getElem?_cons_succ, List.cons_append, List.nil_append, Option.map_some, Option.map_none, Option.bind_some, if_true, if_false, Bool.false_eq_true, List.replicate, List.set_cons_zero, List.set_cons_succ, blkE, dropE, wipeE, beq_self_eq_true, Bool.not_true, Bool.not_false, Bool.true_or, Bool.false_or, Bool.or_true, Bool.or_false, Bool.and_true, Bool.true_and]) (by decide +kernel)) rfl ?_
    refine ifP0 (orP0 (cmpP (t := false) (evC (vs := [.d (tabD kP), .d (.int (0 : Nat))]) (s1 := s) (by simp only [callD, exs, ex, ev, evL, evTs, q_bo, q_bx, q_no, q_op, q_uo, q_ux, q_on, q_or, q_ox, q_oo, q_tn, q_tb, q_ti, q_tl, q_tt, q_ab, q_ai, q_ad, q_add, q_sub, q_att, q_all, q_ass, q_mlk, q_mtk, q_lt, q_le, q_gt, q_ge, q_eqi, q_in, q_ni, q_is, q_isn, q_ofb, q_ixl, q_ixt, q_ixs, q_sll, q_slt, q_b0, q_b1, q_s0, q_s1, q_s2, q_s3, q_s4, q_s5, q_f1, q_f2, q_f3, q_f4, q_f5, q_f6, q_f7, q_f8, q_f9, q_fa, q_fb, q_fc, q_fd, q_fe, q_i0l, q_i0t, q_i1, q_i2, q_i3, q_i4, q_i5, q_t1, q_t2, q_ads0, q_ads, q_sv0, q_sv, List.map_cons, List.map_nil, List.length_cons, List.length_nil, List.getElem?_cons_zero, List.getElem?_cons_succ, List.cons_append, List.nil_append, Option.map_some, Option.map_none, Option.bind_some, if_true, if_false, Bool.false_eq_true, List.replicate, List.set_cons_zero, List.set_cons_succ, blkE, dropE, wipeE, beq_self_eq_true, Bool.not_true, Bool.not_false, Bool.true_or, Bool.false_or, Bool.or_true, Bool.or_false, Bool.and_true, Bool.true_and]; rfl) KP) (y := .d (.tuple [.tuple [.int 1, .int 1], .tuple [.int 0]])) (s2 := s) (by simp only [callD, exs, ex, ev, evL, evTs, q_bo, q_bx, q_no, q_op, q_uo, q_ux, q_on, q_or, q_ox, q_oo, q_tn, q_tb, q_ti, q_tl, q_tt, q_ab, q_ai, q_ad, q_add, q_sub, q_att, q_all, q_ass, q_mlk, q_mtk, q_lt, q_le, q_gt, q_ge, q_eqi, q_in, q_ni, q_is, q_isn, q_ofb, q_ixl, q_ixt, q_ixs, q_sll, q_slt, q_b0, q_b1, q_s0, q_s1, q_s2, q_s3, q_s4, q_s5, q_f1, q_f2, q_f3, q_f4, q_f5, q_f6, q_f7, q_f8, q_f9, q_fa, q_fb, q_fc, q_fd, q_fe, q_i0l, q_i0t, q_i1, q_i2, q_i3, q_i4, q_i5, q_t1, q_t2, q_ads0, q_ads, q_sv0, q_sv, List.map_cons, List.map_nil, List.length_cons, List.length_nil, List.getElem?_cons_zero, List.getElem?_cons_succ, List.cons_append, List.nil_append, Option.map_some, Option.map_none, Option.bind_some, if_true, if_false, Bool.false_eq_true, List.replicate, List.set_cons_zero, List.set_cons_succ, blkE, dropE, wipeE, beq_self_eq_true, Bool.not_true, Bool.not_false, Bool.true_or, Bool.false_or, Bool.or_true, Bool.or_false, Bool.and_true, Bool.true_and]) (by decide +kernel)) (oneP (cmpP (t := false) (evC (vs := [.d (tabD kP), .d (.int (0 : Nat))]) (s1 := s) (by simp only [callD, exs, ex, ev, evL, evTs, q_bo, q_bx, q_no, q_op, q_uo, q_ux, q_on, q_or, q_ox, q_oo, q_tn, q_tb, q_ti, q_tl, q_tt, q_ab, q_ai, q_ad, q_add, q_sub, q_att, q_all, q_ass, q_mlk, q_mtk, q_lt, q_le, q_gt, q_ge, q_eqi, q_in, q_ni, q_is, q_isn, q_ofb, q_ixl, q_ixt, q_ixs, q_sll, q_slt, q_b0, q_b1, q_s0, q_s1, q_s2, q_s3, q_s4, q_s5, q_f1, q_f2, q_f3, q_f4, q_f5, q_f6, q_f7, q_f8, q_f9, q_fa, q_fb, q_fc, q_fd, q_fe, q_i0l, q_i0t, q_i1, q_i2, q_i3, q_i4, q_i5, q_t1, q_t2, q_ads0, q_ads, q_sv0, q_sv, List.map_cons, List.map_nil, List.length_cons, List.length_nil, List.getElem?_cons_zero, List.getElem?_cons_succ, List.cons_append, List.nil_append, Option.map_some, Option.map_none, Option.bind_some, if_true, if_false, Bool.false_eq_true, List.replicate, List.set_cons_zero, List.set_cons_succ, blkE, dropE, wipeE, beq_self_eq_true, Bool.not_true, Bool.not_false, Bool.true_or, Bool.false_or, Bool.or_true, Bool.or_false, Bool.and_true, Bool.true_and]; rfl) MP) (y := .d (.tuple [.int 0, .int 1])) (s2 := s) (by simp only [callD, exs, ex, ev, evL, evTs, q_bo, q_bx, q_no, q_op, q_uo, q_ux, q_on, q_or, q_ox, q_oo, q_tn, q_tb, q_ti, q_tl, q_tt, q_ab, q_ai, q_ad, q_add, q_sub, q_att, q_all, q_ass, q_mlk, q_mtk, q_lt, q_le, q_gt, q_ge, q_eqi, q_in, q_ni, q_is, q_isn, q_ofb, q_ixl, q_ixt, q_ixs, q_sll, q_slt, q_b0, q_b1, q_s0, q_s1, q_s2, q_s3, q_s4, q_s5, q_f1, q_f2, q_f3, q_f4, q_f5, q_f6, q_f7, q_f8, q_f9, q_fa, q_fb, q_fc, q_fd, q_fe, q_i0l, q_i0t, q_i1, q_i2, q_i3, q_i4, q_i5, q_t1, q_t2, q_ads0, q_ads, q_sv0, q_sv, List.map_cons, List.map_nil, List.length_cons, List.length_nil, List.getElem?_cons_zero, List.getElem?_cons_succ, List.cons_append, List.nil_append, Option.map_some, Option.map_none, Option.bind_some, if_true, if_false, Bool.false_eq_true, List.replicate, List.set_cons_zero, List.set_cons_succ, blkE, dropE, wipeE, beq_self_eq_true, Bool.not_true, Bool.not_false, Bool.true_or, Bool.false_or, Bool.or_true, Bool.or_false, Bool.and_true, Bool.true_and]) (by decide +kernel)))) rfl ?_
    refine nP (exS (x := .d (tabD kH)) (s1 := s) (by simp only [callD, exs, ex, ev, evL, evTs, q_bo, q_bx, q_no, q_op, q_uo, q_ux, q_on, q_or, q_ox, q_oo, q_tn, q_tb, q_ti, q_tl, q_tt, q_ab, q_ai, q_ad, q_add, q_sub, q_att, q_all, q_ass, q_mlk, q_mtk, q_lt, q_le, q_gt, q_ge, q_eqi, q_in, q_ni, q_is, q_isn, q_ofb, q_ixl, q_ixt, q_ixs, q_sll, q_slt, q_b0, q_b1, q_s0, q_s1, q_s2, q_s3, q_s4, q_s5, q_f1, q_f2, q_f3, q_f4, q_f5, q_f6, q_f7, q_f8, q_f9, q_fa, q_fb, q_fc, q_fd, q_fe, q_i0l, q_i0t, q_i1, q_i2, q_i3, q_i4, q_i5, q_t1, q_t2, q_ads0, q_ads, q_sv0, q_sv, List.map_cons, List.map_nil, List.length_cons, List.length_nil, List.getElem?_cons_zero, List.getElem?_cons_succ, List.cons_append, List.nil_append, Option.map_some, Option.map_none, Option.bind_some, if_true, if_false, Bool.false_eq_true, List.replicate, List.set_cons_zero, List.set_cons_succ, blkE, dropE, wipeE, beq_self_eq_true, Bool.not_true, Bool.not_false, Bool.true_or, Bool.false_or, Bool.or_true, Bool.or_false, Bool.and_true, Bool.true_and]; rfl)) ?_
    refine rP (s1 := s) (cmpP (t := true) (lstP (evLc (evC (evLc (varP rfl) (evL1 (intP _))) M1) (evLc (evC (evLc (varP rfl) (evL1 (intP _))) M2) (evLc (evC (evLc (varP rfl) (evL1 (intP _))) M4) (evL1 (evC (evLc (varP rfl) (evL1 (intP _))) MH))))) rfl) (y := .d (.list [.tuple [.int 1, .int 1], .tuple [.int 1, .int 3], .tuple [.int 1, .int 3], .tuple [.int 4, .int 15]])) (s2 := s) (by simp only [callD, exs, ex, ev, evL, evTs, q_bo, q_bx, q_no, q_op, q_uo, q_ux, q_on, q_or, q_ox, q_oo, q_tn, q_tb, q_ti, q_tl, q_tt, q_ab, q_ai, q_ad, q_add, q_sub, q_att, q_all, q_ass, q_mlk, q_mtk, q_lt, q_le, q_gt, q_ge, q_eqi, q_in, q_ni, q_is, q_isn, q_ofb, q_ixl, q_ixt, q_ixs, q_sll, q_slt, q_b0, q_b1, q_s0, q_s1, q_s2, q_s3, q_s4, q_s5, q_f1, q_f2, q_f3, q_f4, q_f5, q_f6, q_f7, q_f8, q_f9, q_fa, q_fb, q_fc, q_fd, q_fe, q_i0l, q_i0t, q_i1, q_i2, q_i3, q_i4, q_i5, q_t1, q_t2, q_ads0, q_ads, q_sv0, q_sv, List.map_cons, List.map_nil, List.length_cons, List.length_nil, List.getElem?_cons_zero, List.getElem?_cons_succ, List.cons_append, List.nil_append, Option.map_some, Option.map_none, Option.bind_some, if_true, if_false, Bool.false_eq_true, List.replicate, List.set_cons_zero, List.set_cons_succ, blkE, dropE, wipeE, beq_self_eq_true, Bool.not_true, Bool.not_false, Bool.true_or, Bool.false_or, Bool.or_true, Bool.or_false, Bool.and_true, Bool.true_and]) (by decide +kernel))
end
end X
set_option Elab.async false
set_option linter.all false
set_option maxRecDepth 100000
set_option maxHeartbeats 4000000
/-! The texts of this law's defs. -/
namespace K08
open PySem Ar L2
abbrev P0 : Program := PySem.Challenge.pw_anyrounds_k08_whole_shares
def top (i : Nat) : Stmt := P0.main.body.getD i (.Pass ⟨0, 0, 0, 0⟩)
def nmScope (st : Stmt) : Scope := match Ht.ckNm (defBody st) with
  | some (_, _, _, s) => s
  | none => default
def t_d_is_whole : Df := ⟨3, 3, [.ret (.and (.isi (.var 0) "int") (.and (.not (.isi (.var 0) "bool")) (.one (.chain .LtE .LtE (.var 1) (.var 0) (.var 2)))))]⟩
def d_is_whole : De := ⟨"is_whole", top 20, t_d_is_whole, ["value", "low", "high"], false⟩
def t_d_is_lot : Df := ⟨2, 5, [.ifs (.or (.not (.isi (.var 0) "tuple")) (.one (.not (.bf .all [.comp (.call 0 [.var 4, .int 0, .bin .Sub (.var 1) (.int 1)]) [4] false 0 [.var 0] [] [4]])))) [.ret (.bl false)] [], .ret (.bf .all [.comp (.cmp .Lt (.var 2) (.var 3)) [2, 3] true 3 [.var 0, .slc (.var 0) [.int 1] []] [] [2, 3]])]⟩
def d_is_lot : De := ⟨"is_lot", top 21, t_d_is_lot, ["value", "many", "one", "other", "person"], false⟩
def t_d_is_table : Df := ⟨1, 2, [.ifs (.or (.not (.isi (.var 0) "tuple")) (.one (.not (.chain .LtE .LtE (.int 1) (.bf .len [.var 0]) (.glob "MOST_PEOPLE" 6))))) [.ret (.bl false)] [], .ret (.bf .all [.comp (.call 1 [.var 1, .bf .len [.var 0]]) [1] false 0 [.var 0] [] [1]])]⟩
def d_is_table : De := ⟨"is_table", top 22, t_d_is_table, ["value", "row"], false⟩
def t_d_need_table : Df := ⟨1, 1, [.ifs (.not (.call 2 [.var 0])) [.raise "InvalidTable"] []]⟩
def d_need_table : De := ⟨"need_table", top 23, t_d_need_table, ["table"], false⟩
def t_d_need_person : Df := ⟨2, 2, [.ifs (.not (.call 0 [.var 0, .int 0, .bin .Sub (.var 1) (.int 1)])) [.raise "InvalidPerson"] []]⟩
def d_need_person : De := ⟨"need_person", top 24, t_d_need_person, ["person", "many"], false⟩
def t_d_times : Df := ⟨2, 5, [.ret (.bf .tuple [.comp (.bf .tuple [.bf .sset [.comp2 (.var 4) [3] false 0 [.var 2] 4 (.idx (.var 1) (.var 3)) [] [3, 4]]]) [2] false 0 [.var 0] [] [2]])]⟩
def d_times : De := ⟨"times", top 26, t_d_times, ["one", "other", "row", "here", "last"], false⟩
def t_d_nothing_done : Df := ⟨1, 2, [.ret (.bf .tuple [.comp (.tup [.var 1]) [1] false 1 [.var 0] [] [1]])]⟩
def d_nothing_done : De := ⟨"nothing_done", top 27, t_d_nothing_done, ["many", "person"], false⟩
def t_d_powers : Df := ⟨1, 3, [.set 1 (.lst [.call 6 [.bf .len [.var 0]]]), .whil (.bl true) [.set 2 (.call 5 [.idx (.var 1) (.neg (.int 1)), .var 0]), .ifs (.cmp .In (.var 2) (.var 1)) [.ret (.tup [.var 1, .meth .index (.var 1) [.var 2]])] [], .set 1 (.bin .Add (.var 1) (.lst [.var 2]))]]⟩
def d_powers : De := ⟨"powers", top 28, t_d_powers, ["table", "rows", "later"], false⟩
def t_d_index_of : Df := ⟨3, 3, [.ret (.ite (.cmp .Lt (.var 2) (.bf .len [.var 0])) (.var 2) (.bin .Add (.var 1) (.bin .Mod (.bin .Sub (.var 2) (.var 1)) (.bin .Sub (.bf .len [.var 0]) (.var 1)))))]⟩
def d_index_of : De := ⟨"index_of", top 29, t_d_index_of, ["rows", "ahead", "rounds"], false⟩
def t_d_shortened : Df := ⟨2, 9, [.set 2 (.bin .Sub (.bf .len [.var 0]) (.var 1)), .set 3 (.comp (.var 7) [7] false 1 [.int 1, .bin .Add (.var 2) (.int 1)] [.cmp .Eq (.bin .Mod (.var 2) (.var 7)) (.int 0)] [7]), .set 4 (.comp (.var 7) [7] false 0 [.var 3] [.bf .all [.comp (.cmp .Eq (.idx (.var 0) (.bin .Add (.var 1) (.var 8))) (.idx (.var 0) (.bin .Add (.var 1) (.bin .Mod (.var 8) (.var 7))))) [8] false 1 [.var 2] [] [8]]] [7]), .setPar [5, 6] [.idx (.var 4) (.int 0), .var 1], .whil (.and (.cmp .Gt (.var 6) (.int 0)) (.one (.cmp .Eq (.idx (.var 0) (.bin .Sub (.var 6) (.int 1))) (.idx (.var 0) (.call 8 [.var 0, .var 1, .bin .Add (.bin .Sub (.var 6) (.int 1)) (.var 5)]))))) [.set 6 (.bin .Sub (.var 6) (.int 1))], .ret (.tup [.var 6, .var 5])]⟩
def d_shortened : De := ⟨"shortened", top 31, t_d_shortened, ["row", "ahead", "size", "some", "good", "period", "start", "less", "at"], false⟩
def t_d_shared : Df := ⟨2, 2, [.whil (.cmp .Gt (.var 1) (.int 0)) [.setPar [0, 1] [.var 1, .bin .Mod (.var 0) (.var 1)]], .ret (.var 0)]⟩
def d_shared : De := ⟨"shared", top 33, t_d_shared, ["one", "other"], false⟩
def t_d_reached_of : Df := ⟨2, 10, [.setTup [2, 3] (.call 7 [.var 0]), .set 4 (.comp (.bf .len [.idx (.var 8) (.var 1)]) [8] false 0 [.var 2] [] [8]), .setTup [5, 6] (.call 9 [.var 4, .var 3]), .set 7 (.bf .tuple [.comp (.idx (.var 4) (.call 8 [.var 4, .var 3, .var 9])) [9] false 1 [.var 5, .bin .Add (.var 5) (.var 6)] [] [9]]), .ret (.tup [.bf .tuple [.slc (.var 4) [] [.var 5]], .var 7])]⟩
def d_reached_of : De := ⟨"reached_of", top 35, t_d_reached_of, ["table", "first", "rows", "ahead", "row", "start", "period", "again", "power", "at"], false⟩
def t_d_reached : Df := ⟨2, 2, [.expr (.call 3 [.var 0]), .expr (.call 4 [.var 1, .bf .len [.var 0]]), .ret (.call 11 [.var 0, .var 1])]⟩
def d_reached : De := ⟨"reached", top 36, t_d_reached, ["table", "first"], false⟩
def t_d_mean_share : Df := ⟨2, 6, [.expr (.call 3 [.var 0]), .expr (.call 4 [.var 1, .bf .len [.var 0]]), .set 2 (.idx (.call 11 [.var 0, .var 1]) (.int 1)), .setPar [3, 4] [.bf .sum [.var 2], .bin .Mult (.bf .len [.var 2]) (.bf .len [.var 0])], .set 5 (.call 10 [.var 4, .var 3]), .ret (.tup [.bin .FloorDiv (.var 3) (.var 5), .bin .FloorDiv (.var 4) (.var 5)])]⟩
def d_mean_share : De := ⟨"mean_share", top 37, t_d_mean_share, ["table", "first", "again", "top", "below", "most"], false⟩
def t_d_law_vat : Df := ⟨2, 3, [.set 2 (.bin .Add (.bin .Mult (.int 7919) (.var 1)) (.int 43)), .ifs (.cmp .Lt (.var 1) (.bf .len [.var 0])) [.set 2 (.bf .abs [.bf .int [.idx (.var 0) (.var 1)]])] [], .ret (.newl [.ite (.cmp .GtE (.var 2) (.bin .Pow (.int 10) (.int 18))) (.var 2) (.int 0), .bin .Add (.bin .Mod (.bf .int [.bin .Add (.bin .Add (.bin .Mult (.var 2) (.int 131071)) (.bin .Mult (.int 8191) (.var 1))) (.int 5)]) (.int 2147483629)) (.int 1)])]⟩
def d_law_vat : De := ⟨"_law_vat", top 39, t_d_law_vat, ["script", "k", "cell"], false⟩
def t_d_law_under : Df := ⟨2, 4, [.ifs (.cmp .Gt (.idx (.var 0) (.int 0)) (.int 0)) [.set 2 (.bin .Mod (.bf .int [.idx (.var 0) (.int 0)]) (.var 1)), .setIdx (.var 0) (.int 0) (.bin .FloorDiv (.idx (.var 0) (.int 0)) (.var 1)), .ret (.var 2)] [], .setIdx (.var 0) (.int 1) (.bin .Mod (.bf .int [.bin .Add (.bin .Mult (.idx (.var 0) (.int 1)) (.int 39373)) (.int 101)]) (.int 2147483629)), .set 3 (.bin .Mod (.bf .int [.bin .Mult (.idx (.var 0) (.int 1)) (.bin .Add (.bin .FloorDiv (.idx (.var 0) (.int 1)) (.int 5)) (.int 9))]) (.int 2147483587)), .ret (.bin .Mod (.bf .int [.bin .FloorDiv (.var 3) (.int 32)]) (.var 1))]⟩
def d_law_under : De := ⟨"_law_under", top 40, t_d_law_under, ["vat", "many", "found", "wide"], false⟩
def t_d_law_some : Df := ⟨2, 2, [.ret (.idx (.var 1) (.call 15 [.var 0, .bf .len [.var 1]]))]⟩
def d_law_some : De := ⟨"_law_some", top 41, t_d_law_some, ["vat", "things"], false⟩
def t_d_law_drawn_rows : Df := ⟨3, 6, [.setOwn 3 [], .fors [4] false 1 [.var 1] [.append 3 (.comp (.var 5) [5] false 1 [.var 1] [.cmp .Eq (.call 15 [.var 0, .var 2]) (.int 0)] [5])], .frz 3, .ret (.var 3)]⟩
def d_law_drawn_rows : De := ⟨"_law_drawn_rows", top 42, t_d_law_drawn_rows, ["vat", "many", "odds", "rows", "first", "last"], false⟩
def t_d_law_table : Df := ⟨2, 7, [.set 2 (.call 15 [.var 0, .int 4]), .set 3 (.call 16 [.var 0, .ite (.cmp .Eq (.var 2) (.int 0)) (.lst [.int 5, .int 9]) (.lst [.int 2, .int 3, .int 3, .int 4])]), .set 4 (.call 17 [.var 0, .var 1, .var 3]), .ifs (.cmp .Lt (.var 2) (.int 2)) [.set 4 (.comp (.bin .Add (.idx (.var 4) (.var 5)) (.lst [.bin .Mod (.bin .Add (.var 5) (.int 1)) (.var 1)])) [5] false 1 [.var 1] [] [5])] [], .ret (.bf .tuple [.comp (.bf .tuple [.bf .sset [.var 6]]) [6] false 0 [.var 4] [] [6]])]⟩
def d_law_table : De := ⟨"_law_table", top 43, t_d_law_table, ["vat", "many", "way", "odds", "rows", "at", "row"], false⟩
def t_d_law_onto : Df := ⟨2, 5, [.setOwn 2 [], .fors [3] false 1 [.bf .len [.var 0]] [.ifs (.cmp .NotEq (.comp (.int 1) [4] false 0 [.var 1] [.cmp .In (.var 3) (.idx (.var 0) (.var 4))] [4]) (.lst [])) [.append 2 (.var 3)] []], .frz 2, .ret (.bf .tuple [.var 2])]⟩
def d_law_onto : De := ⟨"_law_onto", top 44, t_d_law_onto, ["table", "holders", "found", "person", "one"], false⟩
def t_d_law_step : Df := ⟨2, 4, [.set 2 (.tup []), .fors [3] false 0 [.var 0] [.set 2 (.bin .Add (.var 2) (.tup [.call 19 [.var 1, .var 3]]))], .ret (.var 2)]⟩
def d_law_step : De := ⟨"_law_step", top 45, t_d_law_step, ["one", "other", "found", "row"], false⟩
def t_d_law_still : Df := ⟨1, 2, [.ret (.bf .tuple [.comp (.tup [.var 1]) [1] false 1 [.var 0] [] [1]])]⟩
def d_law_still : De := ⟨"_law_still", top 46, t_d_law_still, ["many", "person"], false⟩
def t_d_law_walked : Df := ⟨2, 4, [.setOwn 2 [.call 21 [.bf .len [.var 0]]], .fors [3] false 1 [.var 1] [.append 2 (.call 20 [.var 0, .oidx 2 (.neg (.int 1))])], .frz 2, .ret (.var 2)]⟩
def d_law_walked : De := ⟨"_law_walked", top 47, t_d_law_walked, ["table", "most", "found", "turn"], false⟩
def t_d_law_goes : Df := ⟨2, 3, [.ret (.cmp .Eq (.comp (.var 2) [2] false 1 [.int 40, .bin .Sub (.int 120) (.var 1)] [.cmp .NotEq (.idx (.var 0) (.var 2)) (.idx (.var 0) (.bin .Add (.var 2) (.var 1)))] [2]) (.lst []))]⟩
def d_law_goes : De := ⟨"_law_goes", top 48, t_d_law_goes, ["truths", "less", "at"], false⟩
def t_d_law_calendar : Df := ⟨1, 8, [.set 1 (.idx (.comp (.var 7) [7] false 1 [.int 1, .int 31] [.call 23 [.var 0, .var 7]] [7]) (.int 0)), .set 2 (.comp (.var 6) [6] false 1 [.int 60] [.cmp .NotEq (.idx (.var 0) (.var 6)) (.idx (.var 0) (.bin .Add (.var 6) (.var 1)))] [6]), .set 3 (.ite (.cmp .NotEq (.var 2) (.lst [])) (.bin .Add (.idx (.var 2) (.neg (.int 1))) (.int 1)) (.int 0)), .set 4 (.bf .tuple [.comp (.var 6) [6] false 1 [.var 3] [.idx (.var 0) (.var 6)] [6]]), .set 5 (.comp (.bin .Mod (.var 6) (.var 1)) [6] false 1 [.var 3, .bin .Add (.var 3) (.var 1)] [.idx (.var 0) (.var 6)] [6]), .ret (.tup [.var 4, .var 3, .var 1, .bf .tuple [.bf .sort [.var 5]]])]⟩
def d_law_calendar : De := ⟨"_law_calendar", top 49, t_d_law_calendar, ["truths", "period", "late", "start", "few", "far", "at", "less"], false⟩
def t_d_law_known : Df := ⟨0, 3, [.setTup [0, 1, 2] (.tup [.tup [.tup [.int 1], .tup [.int 2], .tup [.int 0, .int 1]], .tup [.tup [.int 1], .tup [.int 2], .tup [.int 0]], .tup [.tup [.int 1], .tup [.int 0], .tup [.int 2]]]), .ret (.lst [.var 0, .var 1, .var 2, .tup [.tup [.int 1, .int 2], .tup [.int 3], .tup [.int 3], .tup [.int 0]], .bin .Mult (.tup [.tup [.int 0, .int 1, .int 2]]) (.int 3)])]⟩
def d_law_known : De := ⟨"_law_known", top 52, t_d_law_known, ["one", "two", "three"], false⟩
def t_d_law_lowest : Df := ⟨2, 3, [.fors [2] false 1 [.var 1, .int 0, .neg (.int 1)] [.ifs (.and (.cmp .Eq (.bin .Mod (.var 0) (.var 2)) (.int 0)) (.one (.cmp .Eq (.bin .Mod (.var 1) (.var 2)) (.int 0)))) [.ret (.tup [.bin .FloorDiv (.var 0) (.var 2), .bin .FloorDiv (.var 1) (.var 2)])] []], .ret (.tup [.var 0, .var 1])]⟩
def d_law_lowest : De := ⟨"_law_lowest", top 53, t_d_law_lowest, ["top", "below", "divisor"], false⟩
def t_d_law : Df := ⟨1, 21, [.fors [1] false 1 [.bf .max2 [.int 5, .bf .min2 [.int 11, .bf .len [.var 0]]]] [.set 2 (.call 14 [.var 0, .var 1]), .set 3 (.call 18 [.var 2, .bin .Add (.int 1) (.call 15 [.var 2, .int 6])]), .set 4 (.call 22 [.var 3, .int 119]), .fors [5] false 1 [.bf .len [.var 3]] [.set 6 (.comp (.bf .len [.idx (.var 20) (.var 5)]) [20] false 0 [.var 4] [] [20]), .setTup [7, 8, 9, 10] (.call 24 [.var 6]), .set 11 (.tup [.bf .tuple [.slc (.var 6) [] [.var 8]], .bf .tuple [.slc (.var 6) [.var 8] [.bin .Add (.var 8) (.var 9)]]]), .ifs (.or (.cmp .NotEq (.call 12 [.var 3, .var 5]) (.var 11)) (.one (.cmp .NotEq (.call 13 [.var 3, .var 5]) (.call 26 [.bf .sum [.idx (.var 11) (.int 1)], .bin .Mult (.var 9) (.bf .len [.var 3])])))) [.ret (.bl false)] []], .fors [12] false 0 [.lst [.neg (.int 1), .bf .len [.var 3], .bl true, .non]] [.setOwn 13 [.err (.call 12 [.var 3, .var 12])], .append 13 (.err (.call 13 [.var 3, .var 12])), .frz 13, .ifs (.cmp .NotEq (.var 13) (.bin .Mult (.lst [.str "person value"]) (.int 2))) [.ret (.bl false)] []], .ifs (.cmp .NotEq (.err (.call 12 [.non, .int 0])) (.str "table value")) [.ret (.bl false)] []], .setTup [14, 15, 16, 17, 18] (.call 25 []), .ifs (.cmp .NotEq (.lst [.call 12 [.var 14, .int 0], .call 12 [.var 15, .int 0], .call 12 [.var 17, .int 0]]) (.lst [.tup [.tup [.int 1, .int 1, .int 1, .int 2, .int 2], .tup [.int 3]], .tup [.tup [], .tup [.int 1]], .tup [.tup [], .tup [.int 1, .int 2, .int 1]]])) [.ret (.bl false)] [], .ifs (.or (.cmp .NotEq (.call 12 [.tup [.tup [.int 1], .tup []], .int 0]) (.tup [.tup [.int 1, .int 1], .tup [.int 0]])) (.one (.cmp .NotEq (.call 13 [.tup [.tup [.int 1], .tup []], .int 0]) (.tup [.int 0, .int 1])))) [.ret (.bl false)] [], .set 19 (.tup [.tup [.int 1, .int 2], .tup [.int 3], .tup [.int 3], .tup [.int 0], .tup [.int 0]]), .ret (.cmp .Eq (.lst [.call 13 [.var 14, .int 0], .call 13 [.var 15, .int 0], .call 13 [.var 17, .int 0], .call 13 [.var 19, .int 4]]) (.lst [.tup [.int 1, .int 1], .tup [.int 1, .int 3], .tup [.int 1, .int 3], .tup [.int 4, .int 15]]))]⟩
def d_law : De := ⟨"law", top 54, t_d_law, ["script", "k", "vat", "table", "rows", "first", "row", "few", "start", "period", "rests", "due", "odd", "words", "one", "two", "three", "four", "five", "half", "power"], true⟩
def g : GI := ⟨["is_whole", "is_lot", "is_table", "need_table", "need_person", "times", "nothing_done", "powers", "index_of", "shortened", "shared", "reached_of", "reached", "mean_share", "_law_vat", "_law_under", "_law_some", "_law_drawn_rows", "_law_table", "_law_onto", "_law_step", "_law_still", "_law_walked", "_law_goes", "_law_calendar", "_law_known", "_law_lowest", "law"], [("MOST_PEOPLE", 6)], ["abs", "all", "bool", "int", "isinstance", "len", "max", "min", "range", "set", "sorted", "sum", "tuple", "zip"], ["InvalidTable", "InvalidPerson"], some "_law_error"⟩
def lw : Lw := ⟨[d_is_whole, d_is_lot, d_is_table, d_need_table, d_need_person, d_times, d_nothing_done, d_powers, d_index_of, d_shortened, d_shared, d_reached_of, d_reached, d_mean_share, d_law_vat, d_law_under, d_law_some, d_law_drawn_rows, d_law_table, d_law_onto, d_law_step, d_law_still, d_law_walked, d_law_goes, d_law_calendar, d_law_known, d_law_lowest, d_law], g, "_law_error", top 51, "_law_names", top 50, "RoundError", ["InvalidTable", "InvalidBook", "InvalidPerson", "InvalidRounds", "InvalidNumber", "InvalidFacts", "InvalidWord", "InvalidArrow", "InvalidHolders", "InvalidTruth", "InvalidIndex", "InvalidText", "Impossible", "Unlike", "NothingToUndo", "TooMany", "ValueError"], "table book person rounds number facts word arrow holders truth index text", " impossible unlike undo many value", nmScope (top 50), [("InvalidTable", [true, false, false, false, false, false, false, false, false, false, false, false, false, false, false, false, true]), ("InvalidPerson", [false, false, true, false, false, false, false, false, false, false, false, false, false, false, false, false, true])]⟩
theorem d_is_whole_ok : (ckDe g d_is_whole && plainP (defArgs d_is_whole.st)) = true := by decide +kernel
theorem d_is_lot_ok : (ckDe g d_is_lot && plainP (defArgs d_is_lot.st)) = true := by decide +kernel
theorem d_is_table_ok : (ckDe g d_is_table && plainP (defArgs d_is_table.st)) = true := by decide +kernel
theorem d_need_table_ok : (ckDe g d_need_table && plainP (defArgs d_need_table.st)) = true := by decide +kernel
theorem d_need_person_ok : (ckDe g d_need_person && plainP (defArgs d_need_person.st)) = true := by decide +kernel
theorem d_times_ok : (ckDe g d_times && plainP (defArgs d_times.st)) = true := by decide +kernel
theorem d_nothing_done_ok : (ckDe g d_nothing_done && plainP (defArgs d_nothing_done.st)) = true := by decide +kernel
theorem d_powers_ok : (ckDe g d_powers && plainP (defArgs d_powers.st)) = true := by decide +kernel
theorem d_index_of_ok : (ckDe g d_index_of && plainP (defArgs d_index_of.st)) = true := by decide +kernel
theorem d_shortened_ok : (ckDe g d_shortened && plainP (defArgs d_shortened.st)) = true := by decide +kernel
theorem d_shared_ok : (ckDe g d_shared && plainP (defArgs d_shared.st)) = true := by decide +kernel
theorem d_reached_of_ok : (ckDe g d_reached_of && plainP (defArgs d_reached_of.st)) = true := by decide +kernel
theorem d_reached_ok : (ckDe g d_reached && plainP (defArgs d_reached.st)) = true := by decide +kernel
theorem d_mean_share_ok : (ckDe g d_mean_share && plainP (defArgs d_mean_share.st)) = true := by decide +kernel
theorem d_law_vat_ok : (ckDe g d_law_vat && plainP (defArgs d_law_vat.st)) = true := by decide +kernel
theorem d_law_under_ok : (ckDe g d_law_under && plainP (defArgs d_law_under.st)) = true := by decide +kernel
theorem d_law_some_ok : (ckDe g d_law_some && plainP (defArgs d_law_some.st)) = true := by decide +kernel
theorem d_law_drawn_rows_ok : (ckDe g d_law_drawn_rows && plainP (defArgs d_law_drawn_rows.st)) = true := by decide +kernel
theorem d_law_table_ok : (ckDe g d_law_table && plainP (defArgs d_law_table.st)) = true := by decide +kernel
theorem d_law_onto_ok : (ckDe g d_law_onto && plainP (defArgs d_law_onto.st)) = true := by decide +kernel
theorem d_law_step_ok : (ckDe g d_law_step && plainP (defArgs d_law_step.st)) = true := by decide +kernel
theorem d_law_still_ok : (ckDe g d_law_still && plainP (defArgs d_law_still.st)) = true := by decide +kernel
theorem d_law_walked_ok : (ckDe g d_law_walked && plainP (defArgs d_law_walked.st)) = true := by decide +kernel
theorem d_law_goes_ok : (ckDe g d_law_goes && plainP (defArgs d_law_goes.st)) = true := by decide +kernel
theorem d_law_calendar_ok : (ckDe g d_law_calendar && plainP (defArgs d_law_calendar.st)) = true := by decide +kernel
theorem d_law_known_ok : (ckDe g d_law_known && plainP (defArgs d_law_known.st)) = true := by decide +kernel
theorem d_law_lowest_ok : (ckDe g d_law_lowest && plainP (defArgs d_law_lowest.st)) = true := by decide +kernel
theorem d_law_ok : (ckDe g d_law && plainP (defArgs d_law.st)) = true := by decide +kernel
end K08
set_option Elab.async false
set_option linter.all false
set_option maxRecDepth 100000
set_option maxHeartbeats 0
/-! The head: what stands once the text's top has run. -/
namespace K08
open PySem PySem.Spec PyProof.Rows L2 Ar
theorem lw_ok : lw.ok = true := by decide +kernel
abbrev R : PySem.W.OpenRow := PySem.W.OpenLaw.row PySem.Challenge.rw_anyrounds_k08_whole_shares
abbrev hk : PySem.W.Hook := He.hookX 4 lw.fa lw.fn [] lw.tf lw.ex
def ob (s : PySem.W.SharedT) : hk.α := He.obsX 4 lw.fa lw.fn [] lw.tf lw.ex (HandSHeadRun.getT s)
theorem ob_eq (s : PySem.W.SharedT) : ob s = hk.obs s.abs := He.obsX_eq (HandSHeadRun.getT_eq s)
def loose1 : List Str := ["RoundError", "InvalidTable", "InvalidBook", "InvalidPerson", "InvalidRounds", "InvalidNumber", "InvalidFacts", "InvalidWord", "InvalidArrow", "InvalidHolders", "InvalidTruth", "InvalidIndex", "InvalidText", "Impossible", "Unlike", "NothingToUndo", "TooMany", "MOST_PEOPLE", "is_whole", "is_lot", "is_table", "need_table", "need_person", "times", "nothing_done"]
def loose2 : List Str := ["powers", "index_of", "shortened", "shared", "reached_of", "reached", "mean_share", "_law_vat", "_law_under", "_law_some", "_law_drawn_rows", "_law_table", "_law_onto", "_law_step", "_law_still", "_law_walked", "_law_goes", "_law_calendar", "_law_names", "_law_error", "_law_known", "_law_lowest"]
def loose : List Str := loose1 ++ loose2
theorem run (w : World) : HandSHeadRun.RunEq R (PySem.W.view R.prog [54]) hk ob 20000 loose w := by
  intro os
  kernel_rfl
/-- the law, from what our texts say of it -/
theorem of_pure {fuel : Nat} (pure : ∀ ns : List Int, ns.length ≤ 63 → ∃ s, runs (lw.Ds.map (·.d)) fuel lw.nm 130 27 [.scr ns] [] = .ok (.d (.bool true)) s) :
    PySem.W.WalkO (PySem.W.view R.prog [54]) loose (PySem.W.XL (PySem.W.view R.prog [54]) []) hk.says R.toRowW (HandSHeadRun.topDef R.prog 54) [] (fun f vs => PySem.call f vs) := by
  refine LamX.walk_ofTsE (l := PySem.Challenge.rw_anyrounds_k08_whole_shares) (n := 63) (k := 130) (x := "script") (CX := fun w => L2N.CX PySem.Challenge.rw_anyrounds_k08_whole_shares.prog w) rfl (by decide) (by kernel_rfl) ⟨rfl, by decide, by decide⟩ ?F ?hCX
  case F =>
    intro w mg fa h Y G hmg0
    have hmg : mg ("law" : Str) = some (.ref fa) := by
      have e : (HandSHeadRun.topDef R.prog 54).name = ("law" : Str) := by kernel_rfl
      rw [← e]
      exact hmg0
    exact Lw.lawAt (L := PySem.Challenge.rw_anyrounds_k08_whole_shares) (st := top 54) lw_ok (by kernel_rfl) ⟨d_law, by unfold lw; simp, rfl, rfl⟩ (by kernel_rfl) pure w mg fa h Y G hmg
  case hCX =>
    intro w H s e s' ⟨_, _, _, _, _, _, _, _, _, _, _, _, z⟩
    exact z
end K08
set_option Elab.async false
set_option linter.all false
set_option maxRecDepth 100000
set_option maxHeartbeats 4000000
/-! What the defs of this law compute, at each depth; the law. -/
namespace K08
open PySem Ar X
def ix : Ix := { is_whole := 0, is_lot := 1, is_table := 2, need_table := 3, need_person := 4, times := 5, nothing_done := 6, powers := 7, index_of := 8, shortened := 9, shared := 10, reached_of := 11, reached := 12, mean_share := 13, law_vat := 14, law_under := 15, law_some := 16, law_drawn_rows := 17, law_table := 18, law_onto := 19, law_step := 20, law_still := 21, law_walked := 22, law_goes := 23, law_calendar := 24, law_known := 25, law_lowest := 26, law := 27 }
abbrev PP : List Df := lw.Ds.map (·.d)
theorem run_eq {fuel n f : Nat} {d : Df} (e : PP[f]? = some d) : runs PP fuel lw.nm (n + 1) f = callD (gdOf PP fuel lw.nm n) d := by
  funext vs s
  exact runs_succ PP fuel lw.nm n f vs s e
theorem h_vat {fuel : Nat} (hf : 100000 ≤ fuel) (n : Nat) (hn : 1 ≤ n) : S_vat (runs PP fuel lw.nm n 14) := by
  obtain ⟨m, rfl⟩ : ∃ m, n = m + 1 := ⟨n - 1, by omega⟩
  rw [run_eq (d := x_law_vat ix) rfl]
  exact p_vat 
theorem h_under {fuel : Nat} (hf : 100000 ≤ fuel) (n : Nat) (hn : 1 ≤ n) : S_under (runs PP fuel lw.nm n 15) := by
  obtain ⟨m, rfl⟩ : ∃ m, n = m + 1 := ⟨n - 1, by omega⟩
  rw [run_eq (d := x_law_under ix) rfl]
  exact p_under 
theorem h_some {fuel : Nat} (hf : 100000 ≤ fuel) (n : Nat) (hn : 2 ≤ n) : S_some (runs PP fuel lw.nm n 16) := by
  obtain ⟨m, rfl⟩ : ∃ m, n = m + 1 := ⟨n - 1, by omega⟩
  rw [run_eq (d := x_law_some ix) rfl]
  exact p_some (h_under hf m (by omega))
theorem h_drawn {fuel : Nat} (hf : 100000 ≤ fuel) (n : Nat) (hn : 2 ≤ n) : S_drawn (runs PP fuel lw.nm n 17) := by
  obtain ⟨m, rfl⟩ : ∃ m, n = m + 1 := ⟨n - 1, by omega⟩
  rw [run_eq (d := x_law_drawn_rows ix) rfl]
  exact p_drawn (h_under hf m (by omega))
theorem h_dtab {fuel : Nat} (hf : 100000 ≤ fuel) (n : Nat) (hn : 3 ≤ n) : S_dtab (runs PP fuel lw.nm n 18) := by
  obtain ⟨m, rfl⟩ : ∃ m, n = m + 1 := ⟨n - 1, by omega⟩
  rw [run_eq (d := x_law_table ix) rfl]
  exact p_dtab (h_under hf m (by omega)) (h_some hf m (by omega)) (h_drawn hf m (by omega))
theorem h_still {fuel : Nat} (hf : 100000 ≤ fuel) (n : Nat) (hn : 1 ≤ n) : S_nothing (runs PP fuel lw.nm n 21) := by
  obtain ⟨m, rfl⟩ : ∃ m, n = m + 1 := ⟨n - 1, by omega⟩
  rw [run_eq (d := x_law_still ix) rfl]
  exact p_still 
theorem h_onto {fuel : Nat} (hf : 100000 ≤ fuel) (n : Nat) (hn : 1 ≤ n) : S_onto (runs PP fuel lw.nm n 19) := by
  obtain ⟨m, rfl⟩ : ∃ m, n = m + 1 := ⟨n - 1, by omega⟩
  rw [run_eq (d := x_law_onto ix) rfl]
  exact p_onto 
theorem h_step {fuel : Nat} (hf : 100000 ≤ fuel) (n : Nat) (hn : 2 ≤ n) : S_step (runs PP fuel lw.nm n 20) := by
  obtain ⟨m, rfl⟩ : ∃ m, n = m + 1 := ⟨n - 1, by omega⟩
  rw [run_eq (d := x_law_step ix) rfl]
  exact p_step (h_onto hf m (by omega))
theorem h_walked {fuel : Nat} (hf : 100000 ≤ fuel) (n : Nat) (hn : 3 ≤ n) : S_walked (runs PP fuel lw.nm n 22) := by
  obtain ⟨m, rfl⟩ : ∃ m, n = m + 1 := ⟨n - 1, by omega⟩
  rw [run_eq (d := x_law_walked ix) rfl]
  exact p_walked (h_still hf m (by omega)) (h_step hf m (by omega))
theorem h_goes {fuel : Nat} (hf : 100000 ≤ fuel) (n : Nat) (hn : 1 ≤ n) : S_goes (runs PP fuel lw.nm n 23) := by
  obtain ⟨m, rfl⟩ : ∃ m, n = m + 1 := ⟨n - 1, by omega⟩
  rw [run_eq (d := x_law_goes ix) rfl]
  exact p_goes 
theorem h_lcal {fuel : Nat} (hf : 100000 ≤ fuel) (n : Nat) (hn : 2 ≤ n) : S_lcal (runs PP fuel lw.nm n 24) := by
  obtain ⟨m, rfl⟩ : ∃ m, n = m + 1 := ⟨n - 1, by omega⟩
  rw [run_eq (d := x_law_calendar ix) rfl]
  exact p_lcal (h_goes hf m (by omega))
theorem h_whole {fuel : Nat} (hf : 100000 ≤ fuel) (n : Nat) (hn : 1 ≤ n) : S_whole (runs PP fuel lw.nm n 0) := by
  obtain ⟨m, rfl⟩ : ∃ m, n = m + 1 := ⟨n - 1, by omega⟩
  rw [run_eq (d := x_is_whole ix) rfl]
  exact p_whole 
theorem h_lot {fuel : Nat} (hf : 100000 ≤ fuel) (n : Nat) (hn : 2 ≤ n) : S_lot (runs PP fuel lw.nm n 1) := by
  obtain ⟨m, rfl⟩ : ∃ m, n = m + 1 := ⟨n - 1, by omega⟩
  rw [run_eq (d := x_is_lot ix) rfl]
  exact p_lot (h_whole hf m (by omega))
theorem h_table {fuel : Nat} (hf : 100000 ≤ fuel) (n : Nat) (hn : 3 ≤ n) : S_table (runs PP fuel lw.nm n 2) := by
  obtain ⟨m, rfl⟩ : ∃ m, n = m + 1 := ⟨n - 1, by omega⟩
  rw [run_eq (d := x_is_table ix) rfl]
  exact p_table (h_lot hf m (by omega))
theorem h_ntab {fuel : Nat} (hf : 100000 ≤ fuel) (n : Nat) (hn : 4 ≤ n) : S_ntab (runs PP fuel lw.nm n 3) := by
  obtain ⟨m, rfl⟩ : ∃ m, n = m + 1 := ⟨n - 1, by omega⟩
  rw [run_eq (d := x_need_table ix) rfl]
  exact p_ntab (h_table hf m (by omega))
theorem h_nper {fuel : Nat} (hf : 100000 ≤ fuel) (n : Nat) (hn : 2 ≤ n) : S_nper (runs PP fuel lw.nm n 4) := by
  obtain ⟨m, rfl⟩ : ∃ m, n = m + 1 := ⟨n - 1, by omega⟩
  rw [run_eq (d := x_need_person ix) rfl]
  exact p_nper (h_whole hf m (by omega))
theorem h_times {fuel : Nat} (hf : 100000 ≤ fuel) (n : Nat) (hn : 1 ≤ n) : S_times (runs PP fuel lw.nm n 5) := by
  obtain ⟨m, rfl⟩ : ∃ m, n = m + 1 := ⟨n - 1, by omega⟩
  rw [run_eq (d := x_times ix) rfl]
  exact p_times 
theorem h_nothing {fuel : Nat} (hf : 100000 ≤ fuel) (n : Nat) (hn : 1 ≤ n) : S_nothing (runs PP fuel lw.nm n 6) := by
  obtain ⟨m, rfl⟩ : ∃ m, n = m + 1 := ⟨n - 1, by omega⟩
  rw [run_eq (d := x_nothing_done ix) rfl]
  exact p_nothing 
theorem h_powers {fuel : Nat} (hf : 100000 ≤ fuel) (n : Nat) (hn : 2 ≤ n) : S_powers (runs PP fuel lw.nm n 7) := by
  obtain ⟨m, rfl⟩ : ∃ m, n = m + 1 := ⟨n - 1, by omega⟩
  rw [run_eq (d := x_powers ix) rfl]
  exact p_powers (h_times hf m (by omega)) (h_nothing hf m (by omega)) (show 111 ≤ fuel by omega)
theorem h_ixof {fuel : Nat} (hf : 100000 ≤ fuel) (n : Nat) (hn : 1 ≤ n) : S_ixof (runs PP fuel lw.nm n 8) := by
  obtain ⟨m, rfl⟩ : ∃ m, n = m + 1 := ⟨n - 1, by omega⟩
  rw [run_eq (d := x_index_of ix) rfl]
  exact p_ixof 
theorem h_short {fuel : Nat} (hf : 100000 ≤ fuel) (n : Nat) (hn : 2 ≤ n) : S_short (runs PP fuel lw.nm n 9) := by
  obtain ⟨m, rfl⟩ : ∃ m, n = m + 1 := ⟨n - 1, by omega⟩
  rw [run_eq (d := x_shortened ix) rfl]
  exact p_short (h_ixof hf m (by omega)) (show 10000 ≤ fuel by omega)
theorem h_reof {fuel : Nat} (hf : 100000 ≤ fuel) (n : Nat) (hn : 3 ≤ n) : S_reof (runs PP fuel lw.nm n 11) := by
  obtain ⟨m, rfl⟩ : ∃ m, n = m + 1 := ⟨n - 1, by omega⟩
  rw [run_eq (d := x_reached_of ix) rfl]
  exact p_reof (h_powers hf m (by omega)) (h_short hf m (by omega)) (h_ixof hf m (by omega))
theorem h_reached {fuel : Nat} (hf : 100000 ≤ fuel) (n : Nat) (hn : 5 ≤ n) : S_reached (runs PP fuel lw.nm n 12) := by
  obtain ⟨m, rfl⟩ : ∃ m, n = m + 1 := ⟨n - 1, by omega⟩
  rw [run_eq (d := x_reached ix) rfl]
  exact p_reached (h_ntab hf m (by omega)) (h_nper hf m (by omega)) (h_reof hf m (by omega))
theorem h_shared {fuel : Nat} (hf : 100000 ≤ fuel) (n : Nat) (hn : 1 ≤ n) : S_shared (runs PP fuel lw.nm n 10) := by
  obtain ⟨m, rfl⟩ : ∃ m, n = m + 1 := ⟨n - 1, by omega⟩
  rw [run_eq (d := x_shared ix) rfl]
  exact p_shared (show 10000 ≤ fuel by omega)
theorem h_mean {fuel : Nat} (hf : 100000 ≤ fuel) (n : Nat) (hn : 5 ≤ n) : S_mean (runs PP fuel lw.nm n 13) := by
  obtain ⟨m, rfl⟩ : ∃ m, n = m + 1 := ⟨n - 1, by omega⟩
  rw [run_eq (d := x_mean_share ix) rfl]
  exact p_mean (h_ntab hf m (by omega)) (h_nper hf m (by omega)) (h_reof hf m (by omega)) (h_shared hf m (by omega))
theorem h_lowest {fuel : Nat} (hf : 100000 ≤ fuel) (n : Nat) (hn : 1 ≤ n) : S_lowest (runs PP fuel lw.nm n 26) := by
  obtain ⟨m, rfl⟩ : ∃ m, n = m + 1 := ⟨n - 1, by omega⟩
  rw [run_eq (d := x_law_lowest ix) rfl]
  exact p_lowest 
theorem h_known {fuel : Nat} (hf : 100000 ≤ fuel) (n : Nat) (hn : 1 ≤ n) : S_known (runs PP fuel lw.nm n 25) := by
  obtain ⟨m, rfl⟩ : ∃ m, n = m + 1 := ⟨n - 1, by omega⟩
  rw [run_eq (d := x_law_known ix) rfl]
  exact p_known 
theorem h_wholeO {fuel : Nat} (hf : 100000 ≤ fuel) (n : Nat) (hn : 1 ≤ n) : S_wholeO (runs PP fuel lw.nm n 0) := by
  obtain ⟨m, rfl⟩ : ∃ m, n = m + 1 := ⟨n - 1, by omega⟩
  rw [run_eq (d := x_is_whole ix) rfl]
  exact p_wholeO 
theorem h_nperO {fuel : Nat} (hf : 100000 ≤ fuel) (n : Nat) (hn : 2 ≤ n) : S_nperO (runs PP fuel lw.nm n 4) := by
  obtain ⟨m, rfl⟩ : ∃ m, n = m + 1 := ⟨n - 1, by omega⟩
  rw [run_eq (d := x_need_person ix) rfl]
  exact p_nperO (h_wholeO hf m (by omega))
theorem h_reachedX {fuel : Nat} (hf : 100000 ≤ fuel) (n : Nat) (hn : 5 ≤ n) : S_perX (runs PP fuel lw.nm n 12) := by
  obtain ⟨m, rfl⟩ : ∃ m, n = m + 1 := ⟨n - 1, by omega⟩
  rw [run_eq (d := x_reached ix) rfl]
  exact p_reachedX (h_ntab hf m (by omega)) (h_nper hf m (by omega)) (h_nperO hf m (by omega))
theorem h_meanX {fuel : Nat} (hf : 100000 ≤ fuel) (n : Nat) (hn : 5 ≤ n) : S_perX (runs PP fuel lw.nm n 13) := by
  obtain ⟨m, rfl⟩ : ∃ m, n = m + 1 := ⟨n - 1, by omega⟩
  rw [run_eq (d := x_mean_share ix) rfl]
  exact p_meanX (h_ntab hf m (by omega)) (h_nper hf m (by omega)) (h_nperO hf m (by omega))
theorem h_tableN {fuel : Nat} (hf : 100000 ≤ fuel) (n : Nat) (hn : 1 ≤ n) : S_tableN (runs PP fuel lw.nm n 2) := by
  obtain ⟨m, rfl⟩ : ∃ m, n = m + 1 := ⟨n - 1, by omega⟩
  rw [run_eq (d := x_is_table ix) rfl]
  exact p_tableN 
theorem h_ntabN {fuel : Nat} (hf : 100000 ≤ fuel) (n : Nat) (hn : 2 ≤ n) : S_ntabN (runs PP fuel lw.nm n 3) := by
  obtain ⟨m, rfl⟩ : ∃ m, n = m + 1 := ⟨n - 1, by omega⟩
  rw [run_eq (d := x_need_table ix) rfl]
  exact p_ntabN (h_tableN hf m (by omega))
theorem h_reachedN {fuel : Nat} (hf : 100000 ≤ fuel) (n : Nat) (hn : 3 ≤ n) : S_tab2N (runs PP fuel lw.nm n 12) := by
  obtain ⟨m, rfl⟩ : ∃ m, n = m + 1 := ⟨n - 1, by omega⟩
  rw [run_eq (d := x_reached ix) rfl]
  exact p_reachedN (h_ntabN hf m (by omega))
theorem h_lawN {fuel : Nat} (hf : 100000 ≤ fuel) (ns : List Int) (hns : ns.length ≤ 63) (m : Nat) (hm : 129 ≤ m) : ∃ s, runs PP fuel lw.nm (m + 1) 27 [.scr ns] [] = .ok (.d (.bool true)) s := by
  obtain ⟨k, rfl⟩ : ∃ k, m = k + 2 := ⟨m - 2, by omega⟩
  rw [run_eq (d := x_law8 ix) rfl]
  exact p_law8 rfl (show lw.nm "InvalidPerson" = some ("person value" : Str) by decide +kernel) (show lw.nm "InvalidTable" = some ("table value" : Str) by decide +kernel) (h_vat hf (k + 2) (by omega)) (h_under hf (k + 2) (by omega)) (h_dtab hf (k + 2) (by omega)) (h_walked hf (k + 2) (by omega)) (h_lcal hf (k + 2) (by omega)) (h_reached hf (k + 2) (by omega)) (h_mean hf (k + 2) (by omega)) (h_lowest hf (k + 2) (by omega)) (h_known hf (k + 2) (by omega)) (h_reachedX hf k (by omega)) (h_meanX hf k (by omega)) (h_reachedN hf k (by omega)) ns []
theorem h_law {fuel : Nat} (hf : 100000 ≤ fuel) (ns : List Int) (hns : ns.length ≤ 63) : ∃ s, runs PP fuel lw.nm 130 27 [.scr ns] [] = .ok (.d (.bool true)) s := h_lawN hf ns hns 129 (Nat.le_refl _)
end K08
set_option Elab.async false
set_option linter.all false
set_option maxRecDepth 100000
set_option maxHeartbeats 0
/-! The law. -/
open PySem PySem.W PyProof.Rows
theorem PySem.Challenge.cw_anyrounds_k08_whole_shares_holds : PySem.Challenge.rw_anyrounds_k08_whole_shares.Holds := by
  w_on; o_law
  refine HandSHeadRun.head_any (r := OpenLaw.row PySem.Challenge.rw_anyrounds_k08_whole_shares) (q := view (OpenLaw.row PySem.Challenge.rw_anyrounds_k08_whole_shares).prog [54]) (H := K08.hk) (ob := K08.ob) (M := 20000) (loose := K08.loose) (d := HandSHeadRun.topDef (OpenLaw.row PySem.Challenge.rw_anyrounds_k08_whole_shares).prog 54) (kwd := []) K08.ob_eq (by kernel_rfl) (fun s => by kernel_rfl) K08.run (by kernel_rfl) (by kernel_rfl) (by kernel_rfl) (by rfl) (by first | assumption | decide +kernel) (by decide +kernel) ⟨rfl, rfl, rfl, rfl, rfl, by decide +kernel⟩ ?hw ?hc
  case hw => w_witness2
  case hc => exact K08.of_pure (fuel := 100000) (K08.h_law (Nat.le_refl _))
