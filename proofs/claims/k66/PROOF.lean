import PyProof.Rows.All
import Wide.All
import OpenK.AllK
import Wide.FinOn
import HandS.ForMost
import HandS.ForExc
import HandS.Wide
import HandS.IsInst
import HandS.Codes
import HandS.Hot
import HandS.HotCalls
import HandS.SuiteRaise
import HandS.ExcInit
import HandS.ExcInitHot
import HandS.ExcField
import HandS.ExcCtx
import HandS.TryMany
import HandS.CallSlots
import HandS.Defaults
import HandS.Iter
import HandS.ClsMeth
import HandS.HeadHook4
import PySem.Challenge.RW_shadowpages_k66_whole_second_rows
import KE.KStateDown
import HandS.Head0
import HandS.Head1
import HandS.Head2
import HandS.HeadEnd
import HandS.TupSets
import HandS.Walk
import HandS.Dict
set_option Elab.async false
set_option linter.all false
set_option maxRecDepth 100000
set_option maxHeartbeats 0
/-! Rules of my own: iterators that end while an exception is handled. -/
namespace K6
open PySem PySem.Spec PyProof.Rows L2 HotX

section
variable {prog : Program} {w : World} {A : Around} {E : Value → Shared → Prop} {s : Shared}
/-- a StopIteration made and raised while x1 is handled -/
theorem stopHot {α : Type} {x1 : Addr} {Q : α → Shared → Prop} (hot : HotAt A x1 s.heap)
    (k : ∀ h' a, (∀ b o, s.heap.get? b = some o → h'.get? b = some o) → (∃ o, h'.get? a = some o ∧ o.cls = .type "StopIteration") → E (.ref a) { s with heap := h' }) :
    wpAny (model prog w) A ((newExc (.type "StopIteration") [] >>= fun v => raiseNew v) : Sem α) Q E s := by
  obtain ⟨hh, ob, fs, e1, e2, e3⟩ := hot
  refine wpAny_bind ?_
  simp only [newExc, newTuple]
  refine wpAny_bind (wpAny_newObj_type ?_ (by size_fits))
  refine wpAny_bind (m := firstArgMember _ _) (wpAny_of_eq (a := Value.none) (by first | rfl | (simp only [firstArgMember]; rfl)) ?_)
  refine wpAny_newObj_type ?_ (by size_fits)
  have old : ∀ {b : Addr} {o u v : Obj}, s.heap.get? b = some o → ((s.heap.push u).push v).get? b = some o := fun q => Heap.get?_push_of_some _ (Heap.get?_push_of_some _ q)
  refine raiseNew_hot ⟨hh, ob, fs, old e1, e2, e3⟩ (Nat.ne_of_lt (Heap.lt_size (Heap.get?_push_of_some _ e1))) (Heap.get?_push_size _ rfl) rfl (by first | (simp; done) | (simp; omega) | (simp only [Array.size_append]; simp; omega)) ?_
  refine k _ _ (fun b o q => ?_) ⟨_, Heap.get?_update_self _ (Heap.get?_push_size _ rfl) rfl, rfl⟩
  rw [Heap.get?_update_other _ _ (Nat.ne_of_gt (Heap.lt_size (Heap.get?_push_of_some _ q)))]
  exact old q
/-- what an iterator's own record leaves of the handled exception -/
theorem hotUpd {x1 it : Addr} {h : Heap} {f : Obj → Obj} (hot : HotAt A x1 h) (nx : x1 ≠ it) : HotAt A x1 (h.update it f) := by
  obtain ⟨hh, ob, fs, e1, e2, e3⟩ := hot
  exact ⟨hh, ob, fs, (Heap.get?_update_other _ _ (Ne.symm nx)).trans e1, e2, e3⟩
theorem tupEndHot {it t x1 : Addr} {i : Nat} {items : Array Value} {Q : Option Value → Shared → Prop} (hot : HotAt A x1 s.heap) (nx : x1 ≠ it) (hit : IsTupIter s.heap it t i) (ht : IsTup s.heap t items)
    (hx : items[i]? = none) (k : ∀ h', Heap.ExtBut it s.heap h' → Q none { s with heap := h' }) : wpAny (model prog w) A (pyNext (.ref it)) Q E s := by
  have hty := hit.typeIs
  obtain ⟨o, ho, hc, hd⟩ := hit
  obtain ⟨ol, hol, _, nl, hdl⟩ := ht
  unfold pyNext
  refine wpAny_bind (wpAny_attempt (wpAny_callSpecial?_slot (name := Str.ofString "__next__") hty slot_tupleiter_next (wpAny_call_entry slot_tupleiter_next hty entry_tupleiter_next ?_ (args_tupleiter_next _))))
  show wpAny _ _ (field (Value.ref it) 0 >>= _) _ _ _
  refine wpAny_bind (wpAny_field ho hd (x := Value.ref t) rfl ?_)
  show wpAny _ _ (if (Value.ref t == .none) = true then _ else _) _ _ _
  rw [if_neg (show ¬ ((Value.ref t == Value.none) = true) from fun z => nomatch z)]
  show wpAny _ _ (field (Value.ref it) 1 >>= _) _ _ _
  refine wpAny_bind (wpAny_field ho hd (x := Value.int i 0) rfl ?_)
  show wpAny _ _ (seqItems? (Value.ref t) >>= _) _ _ _
  refine wpAny_bind (wpAny_seqItems hol hdl ?_)
  simp only [Int.toNat_natCast, hx]
  refine wpAny_bind (wpAny_rule (wpAny_bind (wpAny_setField ho hd (by simp) ?_)))
  refine stopHot (hotUpd (A := A.in1) (show HotAt A.in1 x1 s.heap from hot) nx) fun h' a kp ⟨ob, q1, q2⟩ => ?_
  refine wpAny_bind (wpAny_isInstance (T := "StopIteration") (b := true) ⟨ob, q1, q2⟩ isSubtype_stop ?_)
  exact wpAny_pure (k _ fun b u hb e => kp b u ((Heap.get?_update_other _ _ (Ne.symm hb)).trans e))
theorem listNextHot {it l x1 : Addr} {i : Nat} {items : Array Value} {Q : Value → Shared → Prop} (hot : HotAt A x1 s.heap) (nx : x1 ≠ it) (hit : s.heap.IsListIter it l i) (hl : s.heap.IsList l items) (hx : items[i]? = none)
    (k : ∀ h' e, Heap.ExtBut it s.heap h' → (∃ o, h'.get? e = some o ∧ o.cls = .type "StopIteration") → E (.ref e) { s with heap := h' }) : wpAny (model prog w) A (Builtin.SmallTypes.nextOf (.ref it)) Q E s := by
  have hty := hit.typeIs
  obtain ⟨o, ho, hc, hd⟩ := hit
  obtain ⟨ol, hol, _, nl, hdl⟩ := hl
  unfold Builtin.SmallTypes.nextOf
  refine wpAny_bind (wpAny_callSpecial?_slot (name := Str.ofString "__next__") hty slot_listiter_next (wpAny_call_entry slot_listiter_next hty entry_listiter_next ?_ (args_listiter_next _)))
  show wpAny _ _ (field (Value.ref it) 0 >>= _) _ _ _
  refine wpAny_bind (wpAny_field ho hd (x := Value.ref l) rfl ?_)
  show wpAny _ _ (if (Value.ref l == .none) = true then _ else _) _ _ _
  rw [if_neg (show ¬ ((Value.ref l == Value.none) = true) from fun z => nomatch z)]
  show wpAny _ _ (field (Value.ref it) 1 >>= _) _ _ _
  refine wpAny_bind (wpAny_field ho hd (x := Value.int i 0) rfl ?_)
  show wpAny _ _ (seqItems? (Value.ref l) >>= _) _ _ _
  refine wpAny_bind (wpAny_seqItems hol hdl ?_)
  simp only [Int.toNat_natCast, hx]
  refine wpAny_bind (wpAny_rule (wpAny_bind (wpAny_setField ho hd (by simp) ?_)))
  refine stopHot (hotUpd (A := A.in1) (show HotAt A.in1 x1 s.heap from hot) nx) fun h' a kp hz => ?_
  exact k _ _ (fun b u hb e => kp b u ((Heap.get?_update_other _ _ (Ne.symm hb)).trans e)) hz
theorem enumEndHot {e it l x1 : Addr} {i : Nat} {items : Array Value} {old : Value} {Q : Option Value → Shared → Prop} (hot : HotAt A x1 s.heap) (nx : x1 ≠ it) (he : IsEnum s.heap e it i old) (hit : s.heap.IsListIter it l i)
    (hl : s.heap.IsList l items) (hx : items[i]? = none) (k : ∀ h', Heap.ExtBut it s.heap h' → Q none { s with heap := h' }) : wpAny (model prog w) A (pyNext (.ref e)) Q E s := by
  have hty : s.TypeIs (.ref e) "enumerate" := ⟨_, he, rfl⟩
  unfold pyNext
  refine wpAny_bind (wpAny_attempt (wpAny_callSpecial?_slot (name := Str.ofString "__next__") hty F.slot_enumerate_next (wpAny_call_entry F.slot_enumerate_next hty F.entry_enumerate_next ?_ (F.args_enumerate_next_1 _))))
  show wpAny _ _ (field (Value.ref e) 2 >>= _) _ _ _
  refine wpAny_bind (wpAny_field he rfl (x := Value.ref it) rfl ?_)
  refine wpAny_bind (listNextHot (A := A.in1) (show HotAt A.in1 x1 s.heap from hot) nx hit hl hx fun h' y he' ⟨o, ho, hc⟩ => ?_)
  refine wpAny_bind (wpAny_isInstance (T := "StopIteration") (b := true) ⟨o, ho, hc⟩ isSubtype_stop ?_)
  exact wpAny_pure (k _ he')
/-- unpacking a tuple while x1 is handled -/
theorem unpackHot {t x1 : Addr} {items : Array Value} {Q : List Value → Shared → Prop} (hot : HotAt A x1 s.heap) (ht : IsTup s.heap t items)
    (k : ∀ h', Heap.ExtBut s.heap.objs.size s.heap h' → Q items.toList { s with heap := h' }) : wpAny (model prog w) A (unpackItems (.ref t) items.size none) Q E s := by
  have hne : t ≠ s.heap.objs.size := Nat.ne_of_lt ht.lt
  obtain ⟨hh, ob, fs, q1, q2, q3⟩ := hot
  have nx : x1 ≠ s.heap.objs.size := Nat.ne_of_lt (Heap.lt_size q1)
  unfold unpackItems
  refine wpAny_bind ?_
  unfold notIterableAtAll
  refine wpAny_bind (wpAny_specialOf ht.typeIs slot_tuple_iter.lookup ?_)
  refine wpAny_pure ?_
  simp only [Bool.false_eq_true, if_false]
  refine wpAny_bind (wpAny_holding (iter_tuple ht ?_))
  refine wpAny_bind (wpAny_holding (draw_tuple hne items.size 0 _ _ ⟨_, Heap.get?_push_size _ rfl, rfl, rfl⟩ (ht.push _) (by omega) fun h1 hit1 hs1 => ?_))
  have whole : (items.toList.drop 0).take items.size = items.toList := by
    rw [List.drop_zero]
    exact List.take_of_length_le (by simp)
  rw [whole, if_neg (by simp)]
  have hot1 : HotAt A x1 h1 := ⟨hh, ob, fs, (hs1.2 _ nx).trans (Heap.get?_push_of_some _ q1), q2, q3⟩
  refine wpAny_bind (wpAny_holding (tupEndHot (s := { s with heap := h1 }) hot1 nx hit1 ((ht.push _).extBut hs1.extBut hne) (by simp) fun h2 he2 => ?_))
  simp only [Option.isSome_none, Bool.false_eq_true, if_false]
  exact wpAny_pure (k h2 fun b o hb e => he2 b o hb (hs1.extBut b o hb (Heap.get?_push_of_some _ e)))
end
/-! ### contexts in which nothing is handled, or an exception whose context is None -/
def Gd (X : Cx) : Prop := X.calm = true ∨ L2H.HotC X
section
variable {X : Cx} {pos : Pos}
/-- (a, b, ..) = a tuple of that length -/
theorem pg_tupG {es : List Expr} {k : Nat} {t : TGs} {n : Nat} (g : Gd X) (h : PGs X es t) (hn : (assignEach es X.env).length = n := by rfl) (hst : (assignEach es X.env).findIdx? (·.1) = none := by rfl) :
    PG X (.Tuple es k pos) (gTup X.K n t) := by
  rcases g with g | g
  · exact pg_tup g h hn hst
  refine ⟨fun pins s σ H v u Q I r hw => ?_⟩
  obtain ⟨a, xs, rfl, hq, hl, hw⟩ := hw
  cases r
  obtain ⟨x1, hot⟩ := g.at I
  obtain ⟨its, rv, ht, hz⟩ := I.tuple hq
  rw [assign_Tuple]
  refine wpAny_bind (wpAny_standAt ?_)
  unfold unpack
  have hsz : (assignEach es X.env).length = its.toArray.size := by simp [hn, ← hl, rv.length]
  rw [hsz, hst]
  refine wpAny_bind (wpAny_holding (unpackHot hot ht fun h' hx => ?_))
  have J : Inv X pins σ H { s with heap := h' } := I.kept (t' := s.toks) fun b o e => hx b o (Nat.ne_of_lt (Heap.lt_size e)) e
  exact h.run pins _ σ H xs _ Q J (by simpa using rv) hw
end
/-! ### loops -/
theorem hotAt {X : Cx} {pins : List (Addr × Obj)} {σ : L2.St} {H : Hp} {s : Shared} (c : L2H.HotC X) (I : Inv X pins σ H s) : ∃ x1, HotAt X.A x1 s.heap ∧ ∀ b, FpOk X pins H b → x1 ≠ b := by
  obtain ⟨p, ⟨hh, fs, e2, e3⟩, hp⟩ := c
  have hm : p ∈ X.pn ++ pins := List.mem_append_left _ hp
  exact ⟨p.1, ⟨hh, p.2, fs, (I.pin p hm).1, e2, e3⟩, fun b f => f.2.2.2.2.2 p hm⟩
theorem turn_enumH {P : Program} {w : World} {K : PySem.W.Frag} {elts : List Expr} {kk : Nat} {tpos : Pos} (a e it : Addr) :
    L2H.TurnH P w K (.Tuple elts kk tpos) (Ite K a) [e, it] e (fun i h => (∃ old, IsEnum h e it ((i : Nat) : Int) old) ∧ h.IsListIter it a i ∧ e ≠ it) where
  mem := List.mem_cons_self
  obj := fun i h st b hb => by
    obtain ⟨⟨old, he⟩, ⟨o, ho, hc, hd⟩, _⟩ := st
    rcases List.mem_cons.mp hb with z | z
    · subst z
      exact ⟨_, he, fun v q => nomatch q⟩
    · have z1 : b = it := by simpa using z
      subst z1
      exact ⟨o, ho, fun v q => by rw [hd] at q; cases q⟩
  keep := fun i h h' st k => let ⟨⟨old, he⟩, hi, hne⟩ := st; ⟨⟨old, k e (by simp) _ he⟩, hi.at fun o q => k it (by simp) o q, hne⟩
  item := by
    intro X hP hw hK hc i pins s σ H E I hf st hgo
    subst hP hw hK
    obtain ⟨⟨old, he⟩, hit, hne⟩ := st
    obtain ⟨xs, x, hq, hx⟩ := hgo
    obtain ⟨its, rv, p, hz⟩ := I.list hq
    obtain ⟨u, hu, ru⟩ := rv.get hx
    have l1 : e < s.heap.objs.size := Heap.lt_size he
    have l2 : it < s.heap.objs.size := let ⟨_, q, _⟩ := hit; Heap.lt_size q
    have l3 : ∀ b ∈ [e, it], b < s.heap.objs.size := fun b hb => by
      rcases List.mem_cons.mp hb with z | z
      · rw [z]; exact l1
      · have z1 : b = it := by simpa using z
        rw [z1]; exact l2
    refine wpAny_pyNext_enum_item he hit p.isList (x := u) (by simpa using hu) hne fun h1 ho hit1 hT hsz hk => ?_
    refine ⟨_, rfl, wpAny_letOwnedTupleGo_enum (s := { s with heap := h1, toks := s.toks + 1 }) ho fun h2 he2 sb => ?_⟩
    have hT2 : h2.get? s.heap.objs.size = some { cls := .type "tuple", data := .seq #[.int i s.toks, u] } := (sb.2 _ (Nat.ne_of_gt l1)).trans hT
    have J : Inv X pins σ (upd H s.heap.objs.size (.tup [.int (i : Nat), x])) { s with heap := h2, toks := s.toks + 1 } :=
      I.turnedNew (ch := [e, it]) (fun b ob hb q => by
        have n1 : b ≠ e := fun z => hb (by simp [z])
        have n2 : b ≠ it := fun z => hb (by simp [z])
        exact (sb.2 b n1).trans (hk b ob n1 n2 q)) hf (Nat.le_refl _) ⟨by show 2 ≤ sizeLine; decide, [.int i s.toks, u], .cons ⟨_, rfl⟩ (.cons ru .nil), ⟨_, hT2, rfl, _, rfl⟩⟩
    refine ⟨.ref s.heap.objs.size, _, J, rfl, ⟨_, x, rfl, I.hok.fresh (Nat.le_refl _), rfl, fun ys hy => ?_⟩, ⟨⟨u, ?_⟩, hit1.at fun o q => (sb.2 it (Ne.symm hne)).trans q, hne⟩, fun b hb => ?_⟩
    · rw [I.list_inj hy hq]
      exact hx
    · rw [show ((i + 1 : Nat) : Int) = (i : Int) + 1 from by omega]
      exact he2
    · rw [upd_ne (Nat.ne_of_lt (l3 b hb))]
      exact (hf b hb).1
  done := by
    intro X hP hw hK hc i pins s σ H E I hf st hgo
    subst hP hw hK
    obtain ⟨⟨old, he⟩, hit, hne⟩ := st
    obtain ⟨xs, hq, hx⟩ := hgo
    obtain ⟨its, rv, p, hz⟩ := I.list hq
    have ff := hf it (by simp)
    obtain ⟨f0, f1, f2, f3, f4, f5⟩ := id ff
    have hl := rv.length
    obtain ⟨x1, hot, apart⟩ := hotAt hc I
    exact enumEndHot hot (apart it ff) he hit p.isList (by simp; omega) fun h1 eb => ⟨rfl, I.turned (t' := s.toks) (fun b o hb q => eb b o hb q) f0 f1 f3 f4 f5⟩
  self := fun A i s Q E st h => let ⟨⟨_, he⟩, _⟩ := st; wpAny_pyIter_enum he h
/-- what is walked, whether an exception is handled or not -/
structure PIG (X : Cx) (tg iter : Expr) (wi : TI) : Prop where
  calm : X.calm = true → PI X tg iter wi
  hot : L2H.HotC X → L2H.PIH X tg iter wi
theorem pi_enumG {X : Cx} {e : Expr} {ta : TA} {p pos tpos : Pos} {elts : List Expr} {kk : Nat} (hg : Gl X "enumerate") (hm : X.mg "enumerate" = none) (ha : PA X [e] ta) (hs : starEach [e] X.env = [(false, eval e X.env)] := by rfl) :
    PIG X (.Tuple elts kk tpos) (.Call (.Name "enumerate" p) [e] [] pos) (iEnum X.K ta) := by
  refine ⟨fun _ => pi_enum hg hm ha hs, fun _ => ⟨fun pins s σ H R I h => ?_⟩⟩
  refine Call_ (ld_blt I hg hm boot_enumerate (PyProof.Rows.callWith_type1 (thn (ha.run pos pins s σ H _ I h) fun us s1 ⟨vs, H1, I1, r1, a, xs, ex, hq, q⟩ => ?_) hs rfl))
  subst ex
  cases r1 with
  | cons r rr =>
    cases rr
    cases r
    obtain ⟨its, rv, p1, hz⟩ := I1.list hq
    refine call_enumerate_list p1.isList fun h1 he hit hsz hk => wpAny_pyIter_enum he ?_
    refine ⟨s1.heap.objs.size + 1, [s1.heap.objs.size + 1, s1.heap.objs.size], _, _, H1, rfl, I1.kept (t' := s1.toks) hk, turn_enumH a (s1.heap.objs.size + 1) s1.heap.objs.size, ⟨⟨.none, he⟩, hit, Nat.succ_ne_self _⟩, fun b hb => ?_, q⟩
    have hle : s1.heap.objs.size ≤ b := by
      rcases List.mem_cons.mp hb with z | z
      · rw [z]; exact Nat.le_succ _
      · have z1 : b = s1.heap.objs.size := by simpa using z
        rw [z1]
        exact Nat.le_refl _
    exact I1.fpOk hle (I1.hok.fresh hle)
theorem pi_range1G {X : Cx} {tg a : Expr} {ta : TA} {p pos : Pos} (hg : Gl X "range") (hm : X.mg "range" = none) (ha : PA X [a] ta) (hs : starEach [a] X.env = [(false, eval a X.env)] := by rfl) : PIG X tg (.Call (.Name "range" p) [a] [] pos) (iRng1 ta) :=
  ⟨fun _ => pi_range1 hg hm ha hs, fun _ => L2H.pi_range1H hg hm ha hs⟩
theorem ps_forG {X : Cx} {tg iter : Expr} {body : List Stmt} {wi : TI} {g : TG} {tb : TS} {pos : Pos} (hp : PassesOwn (model X.prog X.w) X.A X.env X.xe) (hc : Gd X) (hi : PIG X tg iter wi) (hg : PG X tg g) (hb : PSs X body tb)
    (hs : ∀ x, foldedSetIterable iter X.env x = pure x := by intro _; rfl) : PS X (.For tg iter body [] pos) (tFor wi g tb) := by
  rcases hc with c | c
  · exact ps_for hp c (hi.calm c) hg hb hs
  · exact L2H.ps_forH hp c (hi.hot c) hg hb hs
end K6
/-! Rules of my own: a list comprehension while an exception is handled. -/
namespace K6
open PySem PySem.Spec PyProof.Rows L2 HotX
abbrev St := L2.St
/-- a block's context that bears pins -/
abbrev blkG (X : Cx) (s : Shared) (H : Hp) (scope : Scope) (ce : Env) (fp : List Addr) (pn : List (Addr × Obj)) : Cx := { X.blk s H scope ce fp with pn := pn }
theorem repin {Y : Cx} (ok : Y.Ok) (pn : List (Addr × Obj)) : ({ Y with pn := pn } : Cx).Ok :=
  ⟨ok.mod, ok.kind, ok.glob, ok.blt, ok.above, ok.inj, ok.has, ok.cab, ok.hd, ok.frames, ok.stk, ok.exf, ok.bs, ok.bsz, ok.noex, ok.exfs, ok.funs, ok.frf⟩
section
variable {X : Cx} {pins : List (Addr × Obj)} {σ : St} {H : Hp} {s : Shared}
theorem blkH_start {scope : Scope} {own : List (Str × Nat)} {fp : List Addr} (I : Inv X pins σ H s) (ok : BlkOk X.N X.env.scope scope own) (hN : X.N.Nodup) (hfp : ∀ b ∈ fp, FpOk X pins H b ∧ b < s.heap.objs.size) :
    Inv (blkG X s H scope (compEnvC scope (cellsFrom (s.heap.objs.size + 1) scope.names (cloFrom X.env.cells scope.names [])) s.heap.objs.size X.env) fp X.pn) [] (wipe σ (own.map (·.2))) H
      { s with heap := pushCells (s.heap.push { cls := .type "dict", data := .dict #[] }) scope.names } := by
  have J := block_start I ok hN hfp
  refine ⟨repin J.ok _, J.os, J.bare, J.base, J.loc, J.cell, J.free, J.freeC, fun p hp => ?_, J.hok, J.len⟩
  have hp1 : p ∈ X.pn := by simpa using hp
  obtain ⟨g, n, ne, nf, nc⟩ := I.pin p (List.mem_append_left _ hp1)
  refine ⟨pushCells_keeps _ _ _ _ (Heap.get?_push_of_some _ g), n, ?_, fun hm => ?_, nc⟩
  · show p.1 ≠ s.heap.objs.size
    exact Nat.ne_of_lt (Heap.lt_size g)
  · rcases List.mem_cons.mp (I.stkSub p.1 hm) with z | z
    · exact ne z
    · exact nf z
theorem lc_hot {Q : VK} {elt tg iter : Expr} {ifs : List Expr} {scope : Scope} {own : List (Str × Nat)} {pos pos' : Pos} {wi : TI} {g : TG} {tt : TT} {te : TE}
    (hc : L2H.HotC X) (hN : X.N.Nodup) (I : Inv X pins σ H s) (hi : L2H.PIH X tg iter wi) (ok : BlkOk X.N X.env.scope scope own)
    (hg : ∀ (s : Shared) (H : Hp) (C : Addr) (cl : List (Str × Addr)) (fp : List Addr), PG (blkG X s H scope (compEnvC scope cl C X.env) fp X.pn) tg g)
    (ht : ∀ (s : Shared) (H : Hp) (C : Addr) (cl : List (Str × Addr)) (fp : List Addr), PTs (blkG X s H scope (compEnvC scope cl C X.env) fp X.pn) ifs tt)
    (he : ∀ (s : Shared) (H : Hp) (C : Addr) (cl : List (Str × Addr)) (fp : List Addr), PE (blkG X s H scope (compEnvC scope cl C X.env) fp X.pn) elt te)
    (hs : ∀ x, foldedSetIterable iter X.env x = pure x) (h : tLc wi g tt te (own.map (·.2)) σ H Q) :
    wpAny (model X.prog X.w) X.A (comprehension (.ListComp elt [⟨tg, iter, ifs, 0⟩] scope pos) scope X.env pos' (newList []) false (eval iter X.env) none) (EP X pins σ Q) X.xe s := by
  refine wpAny_comprehension_free (use := none) rfl hs (closure_ok fun y hy e => ?_) ok.kind (fun y hy e => by rw [ok.uniq y hy, e])
    (thn (hi.run pins s σ H _ I h) fun xv s1 hx => thn hx fun itv s2 h2 => ?_)
  · rcases ok.free y hy e with k | k
    · exact I.ok.has _ (.inl k)
    · exact I.ok.has _ (.inr k)
  obtain ⟨it, fp, tn, J, H2, rfl, I2, T, st2, f2, q⟩ := h2
  refine wpAny_newObj_type (newEnv_comp ?_) (by show 0 ≤ sizeLine; decide)
  generalize hD : s2.heap.objs.size = D
  have nD : H2 D = none := I2.hok.fresh (Nat.le_of_eq hD)
  obtain ⟨W, ⟨m0, w0⟩, turn⟩ := q D nD
  generalize hs3 : ({ s2 with heap := s2.heap.push { cls := .type "list", data := .seq ([] : List Value).toArray } } : Shared) = s3
  have h3 : s3.heap = s2.heap.push { cls := .type "list", data := .seq ([] : List Value).toArray } := by rw [← hs3]
  have I3 : Inv X pins σ (upd H2 D (.lst [])) s3 := by
    rw [← hs3]
    refine I2.laid (t' := s2.toks) (fun b o e => Heap.get?_push_of_some _ e) (Nat.le_of_eq hD) ⟨Nat.zero_le _, [], 0, .nil, ?_⟩
    rw [← hD]
    exact Heap.get?_push_size _ rfl
  have f3 : ∀ b ∈ fp, FpOk X pins (upd H2 D (.lst [])) b ∧ b < s3.heap.objs.size := fun b hb => by
    obtain ⟨o, e, _⟩ := T.obj _ _ st2 b hb
    have lt := Heap.lt_size e
    refine ⟨⟨?_, (f2 b hb).2⟩, ?_⟩
    · rw [upd_ne (by rw [← hD]; exact Nat.ne_of_lt lt)]
      exact (f2 b hb).1
    · rw [h3, Heap.size_push]
      exact Nat.lt_succ_of_lt lt
  have st3 : tn 0 s3.heap := T.keep _ _ _ st2 fun b _ o e => by
    rw [h3]
    exact Heap.get?_push_of_some _ e
  have I4 := blkH_start I3 ok hN f3
  have pg := hg s3 (upd H2 D (.lst [])) s3.heap.objs.size (cellsFrom (s3.heap.objs.size + 1) scope.names (cloFrom X.env.cells scope.names [])) fp
  have pt := ht s3 (upd H2 D (.lst [])) s3.heap.objs.size (cellsFrom (s3.heap.objs.size + 1) scope.names (cloFrom X.env.cells scope.names [])) fp
  have pe := he s3 (upd H2 D (.lst [])) s3.heap.objs.size (cellsFrom (s3.heap.objs.size + 1) scope.names (cloFrom X.env.cells scope.names [])) fp
  show codeAny _ _ (.compStart (.ListComp elt [⟨tg, iter, ifs, 0⟩] scope pos) 0 (.ref it) (.ref D) (compEnvC scope (cellsFrom (s3.heap.objs.size + 1) scope.names (cloFrom X.env.cells scope.names [])) s3.heap.objs.size X.env))
    (compPost (model X.prog X.w) X.A X.xe none (EP X pins σ Q) (.ref D) s3.heap.objs.size) { s3 with heap := pushCells (s3.heap.push { cls := .type "dict", data := .dict #[] }) scope.names }
  have free3 : ∀ b ∈ fp, (upd H2 D (.lst [])) b = none := fun b hb => (f3 b hb).1.1
  generalize hce : compEnvC scope (cellsFrom (s3.heap.objs.size + 1) scope.names (cloFrom X.env.cells scope.names [])) s3.heap.objs.size X.env = ce at I4 pg pt pe ⊢
  have cL : ce.locals = s3.heap.objs.size := by
    subst hce
    rfl
  generalize hH3 : upd H2 D (.lst []) = H3 at I3 I4 pg pt pe w0 free3 f3
  generalize hs4 : ({ s3 with heap := pushCells (s3.heap.push { cls := .type "dict", data := .dict #[] }) scope.names } : Shared) = s4 at I4 ⊢
  have hcB : L2H.HotC (blkG X s3 H3 scope ce fp X.pn) := hc
  have st4 : tn 0 s4.heap := T.keep _ _ _ st3 fun b _ o e => by
    rw [← hs4]
    exact pushCells_keeps _ _ _ _ (Heap.get?_push_of_some _ e)
  have fpB : ∀ {σ' : St} {H' : Hp} {s' : Shared}, Inv (blkG X s3 H3 scope ce fp X.pn) [] σ' H' s' → (∀ b ∈ fp, H' b = none) → ∀ b ∈ fp, FpOk (blkG X s3 H3 scope ce fp X.pn) [] H' b := fun {σ' H' s'} I' hn b hb =>
    ⟨hn b hb, (I'.ok.exf b hb).1, I'.ok.exfs b hb, .inl hb, fun x c e => (I'.ok.exf b hb).2 x c e, fun p hp => by
      have hp1 : p ∈ X.pn := by simpa using hp
      exact (f3 b hb).1.2.2.2.2.2 p (List.mem_append_left _ hp1)⟩
  have loop : codeAny (model X.prog X.w) X.A (.compLoop (.ListComp elt [⟨tg, iter, ifs, 0⟩] scope pos) 0 (.ref it) (.ref D) ce) (compPost (model X.prog X.w) X.A X.xe none (EP X pins σ Q) (.ref D) s3.heap.objs.size) s4 := by
    refine compLoop_any (fun n s' => ∃ i H', Inv (blkG X s3 H3 scope ce fp X.pn) [] (wipe σ (own.map (·.2))) H' s' ∧ tn i s'.heap ∧ (∀ b ∈ fp, H' b = none) ∧ W i n H') ?_ m0 ⟨0, H3, I4, st4, free3, w0⟩
    rintro n s5 ⟨i, H5, I5, st5, n5, w5⟩
    rcases turn i n H5 w5 with ⟨stop, qq⟩ | ⟨go, Nx, hNx, step⟩
    · refine thnF (T.done (blkG X s3 H3 scope ce fp X.pn) rfl rfl rfl hcB i [] s5 _ H5 (fun _ _ => False) I5 (fpB I5 n5) st5 stop) fun r s6 ⟨hr, I6⟩ => ?_
      subst hr
      have I7 : Inv X pins σ H5 s6 := I3.call' (ch := fp) I6.os I6.base I6.hok I6.bare fun b hb => ⟨(f3 b hb).1.2.2.2.1, (f3 b hb).1.2.1, (f3 b hb).1.2.2.2.2.1, (f3 b hb).1.2.2.2.2.2⟩
      have nC : H5 s3.heap.objs.size = none := by
        have z : H5 ce.locals = none := I6.free
        rw [cL] at z
        exact z
      obtain ⟨m, hn, _⟩ := I6.loc
      have hn1 : s6.heap.Ns ce.locals m := hn
      rw [cL] at hn1
      obtain ⟨f0, f1, fa, fb, fc, fd⟩ := I3.fpOk (Nat.le_refl _) nC
      exact ⟨m, hn1, fun h'' sb => ⟨.ref D, H5, I7.turned (t' := s6.toks) (fun b o hb e => (sb.2 b hb).trans e) f0 f1 fb fc fd, rfl, qq⟩⟩
    · refine thnF (T.item (blkG X s3 H3 scope ce fp X.pn) rfl rfl rfl hcB i [] s5 _ H5 (fun _ _ => False) I5 (fpB I5 n5) st5 go) fun r s6 ⟨u, hr, h6⟩ => ?_
      subst hr
      refine thnF h6 fun _ s7 ⟨x, H7, I7, r7, y7, st7, n7⟩ => ?_
      refine thnF (pg.run _ s7 _ H7 x u _ (I7.pinned (fpB I7 n7) (T.obj _ _ st7)) r7 (step x H7 y7)) fun _ s8 ⟨σ8, H8, I8, hw8, q8⟩ => ?_
      refine thnF (pt.run _ s8 σ8 H8 _ I8 q8) fun b s9 ⟨H9, I9, q9⟩ => ?_
      have fin : ∀ {s' : Shared} {H' : Hp}, Inv (blkG X s3 H3 scope ce fp X.pn) ([] ++ pinsAt fp s7.heap) σ8 H' s' → Nx H' → ∃ m, m < n ∧ ∃ i H', Inv (blkG X s3 H3 scope ce fp X.pn) [] (wipe σ (own.map (·.2))) H' s' ∧ tn i s'.heap ∧ (∀ b ∈ fp, H' b = none) ∧ W i m H' := fun {s' H'} I' nx => by
        obtain ⟨m', hm, w'⟩ := hNx H' nx
        have still : ∀ b ∈ fp, ∀ o, s7.heap.get? b = some o → s'.heap.get? b = some o ∧ H' b = none := fun b hb o e =>
          let z := I'.pin (b, o) (List.mem_append_right _ (List.mem_append_right _ (mem_pinsAt hb e)))
          ⟨z.1, z.2.1⟩
        refine ⟨m', hm, i + 1, H', (I'.unpinned (pins := [])).weak (by rw [← hw8, wipe_length]) (fun j v e => ?_), T.keep _ _ _ st7 fun b hb o e => (still b hb o e).1, fun b hb => ?_, w'⟩
        · rw [← hw8] at e
          exact (wipe_some e).1
        · obtain ⟨o, e, _⟩ := T.obj _ _ st7 b hb
          exact (still b hb o e).2
      cases b with
      | false =>
        simp only [Bool.false_eq_true, if_false] at q9 ⊢
        exact fin I9 q9
      | true =>
        simp only [if_true] at q9 ⊢
        refine thnF (pe.run _ s9 σ8 H9 _ I9 q9) fun z s10 ⟨yv, H10, I10, r10, acc, hD10, hz10, nx⟩ => ?_
        exact app_ok (X := blkG X s3 H3 scope ce fp X.pn) I10 hD10 hz10 r10 fun s11 I11 => fin I11 nx
  exact codeAny_compStart_list loop (T.self X.A 0 _ _ _ st4 loop)
end
/-- [elt for target in iter if ..] as a value, whether an exception is handled or not -/
theorem pe_lcG {X : Cx} {elt tg iter : Expr} {ifs : List Expr} {scope : Scope} {own : List (Str × Nat)} {pos : Pos} {wi : TI} {g : TG} {tt : TT} {te : TE} (hc : Gd X) (hN : X.N.Nodup) (hi : PIG X tg iter wi) (ok : BlkOk X.N X.env.scope scope own)
    (hg : ∀ (s : Shared) (H : Hp) (C : Addr) (cl : List (Str × Addr)) (fp : List Addr) (pn : List (Addr × Obj)), Gd (blkG X s H scope (compEnvC scope cl C X.env) fp pn) → PG (blkG X s H scope (compEnvC scope cl C X.env) fp pn) tg g)
    (ht : ∀ (s : Shared) (H : Hp) (C : Addr) (cl : List (Str × Addr)) (fp : List Addr) (pn : List (Addr × Obj)), Gd (blkG X s H scope (compEnvC scope cl C X.env) fp pn) → PTs (blkG X s H scope (compEnvC scope cl C X.env) fp pn) ifs tt)
    (he : ∀ (s : Shared) (H : Hp) (C : Addr) (cl : List (Str × Addr)) (fp : List Addr) (pn : List (Addr × Obj)), Gd (blkG X s H scope (compEnvC scope cl C X.env) fp pn) → PE (blkG X s H scope (compEnvC scope cl C X.env) fp pn) elt te)
    (hs : ∀ x, foldedSetIterable iter X.env x = pure x := by intro _; rfl) : PE X (.ListComp elt [⟨tg, iter, ifs, 0⟩] scope pos) (tLc wi g tt te (own.map (·.2))) := by
  rcases hc with c | c
  · exact pe_lc c hN (hi.calm c) ok (fun s H C cl fp => hg s H C cl fp [] (.inl c)) (fun s H C cl fp => ht s H C cl fp [] (.inl c)) (fun s H C cl fp => he s H C cl fp [] (.inl c)) hs
  · refine ⟨fun pins s σ H Q I h => ?_⟩
    rw [eval_ListComp]
    exact lc_hot c hN I (hi.hot c) ok (fun s H C cl fp => hg s H C cl fp X.pn (.inr c)) (fun s H C cl fp => ht s H C cl fp X.pn (.inr c)) (fun s H C cl fp => he s H C cl fp X.pn (.inr c)) hs h
end K6
/-! Defs and their promises: calm ones, ones that run while an exception is handled too, ones that raise; calls of them. -/
namespace K6
open PySem PySem.Spec PyProof.Rows L2 HotX L2H
/-- a def that lets nothing out, whether an exception is handled or not -/
structure FnG (P : Program) (w : World) (K : PySem.W.Frag) (mg : Str → Option Value) (base : Heap) (k : Nat) (f : Addr) (fd : FuncData) (ps : List Str) (sp : Sp) : Prop where
  calm : FnOk P w K mg base CX0 k f fd ps sp
  hot : FnH P w K mg base CX0 k f fd ps sp
abbrev FnC (P : Program) (w : World) (K : PySem.W.Frag) (mg : Str → Option Value) (base : Heap) (k : Nat) (f : Addr) (fd : FuncData) (ps : List Str) (sp : Sp) : Prop := FnOk P w K mg base CX0 k f fd ps sp
abbrev FnX (P : Program) (w : World) (K : PySem.W.Frag) (mg : Str → Option Value) (base : Heap) (k : Nat) (f : Addr) (fd : FuncData) (ps : List Str) (sp : Sp) : Prop := FnOk P w K mg base (L2N.CX P w) k f fd ps sp
/-- a body's context: c: nothing is handled; pn: the pins -/
abbrev cxG (P : Program) (w : World) (K : PySem.W.Frag) (mg : Str → Option Value) (base : Heap) (N : List Str) (qual : Str) (scope : Scope) (f : Addr) (cd : Value) (A : Around) (outer : List Env) (s : Shared) (H : Hp) (E : XK) (c : Bool) (pn : List (Addr × Obj)) : Cx :=
  { cxOf CX0 P w K mg base N qual scope f cd A outer s H E with calm := c, pn := pn }
section
variable {P : Program} {w : World} {K : PySem.W.Frag} {mg : Str → Option Value} {base : Heap} {x qual : Str} {params : Arguments} {body : List Stmt} {scope : Scope} {f : Addr} {fd : FuncData} {N ps : List Str} {k : Nat} {sp : Sp}
theorem fnG (F : FunD K x qual params body scope [] [] f fd) (S : FnScope N ps scope) (len : ∀ vs H Q E, sp vs H Q E → vs.length = ps.length)
    (hb : ∀ (c : Bool) (pn : List (Addr × Obj)) (cdv : Value) (A : Around) (outer : List Env) (s : Shared) (H : Hp) (vs : List V) (Q : VK) (E : XK), Gd (cxG P w K mg base N qual scope f cdv A outer s H E c pn) →
      RoomH k (A.deeper (envOfC qual scope s.heap.objs.size f cdv)) → sp vs H Q E →
      ∃ t, PSs (cxG P w K mg base N qual scope f cdv A outer s H E c pn) body t ∧ t { nx := fun _ H' => Q .non H', rt := Q } (start N vs) H) : FnG P w K mg base (k + 1) f fd ps sp := by
  obtain ⟨oc, od, dV, kV, doc, pm, an, cdv, ct, osl, rfl, lk, hcd, _, _⟩ := F.ex
  refine ⟨fn_of lk hcd S len fun A outer s H vs Q E hr hsp => hb true [] cdv A outer s H vs Q E (.inl rfl) (roomH_of hr) hsp,
    fn_ofH lk hcd S len fun A outer s H vs Q E p hot hr hsp => hb false [p] cdv A outer s H vs Q E (.inr ⟨p, ⟨hot.1, hot.2⟩, List.mem_cons_self⟩) hr hsp⟩
theorem fnC (F : FunD K x qual params body scope [] [] f fd) (S : FnScope N ps scope) (len : ∀ vs H Q E, sp vs H Q E → vs.length = ps.length)
    (hb : ∀ (cdv : Value) (A : Around) (outer : List Env) (s : Shared) (H : Hp) (vs : List V) (Q : VK) (E : XK), RoomH k (A.deeper (envOfC qual scope s.heap.objs.size f cdv)) → sp vs H Q E →
      ∃ t, PSs (cxOf CX0 P w K mg base N qual scope f cdv A outer s H E) body t ∧ t { nx := fun _ H' => Q .non H', rt := Q } (start N vs) H) : FnC P w K mg base (k + 1) f fd ps sp := by
  obtain ⟨oc, od, dV, kV, doc, pm, an, cdv, ct, osl, rfl, lk, hcd, _, _⟩ := F.ex
  exact fn_of lk hcd S len fun A outer s H vs Q E hr hsp => hb cdv A outer s H vs Q E (roomH_of hr) hsp
theorem fnX (F : FunD K x qual params body scope [] [] f fd) (S : FnScope N ps scope) (len : ∀ vs H Q E, sp vs H Q E → vs.length = ps.length)
    (hb : ∀ (cdv : Value) (A : Around) (outer : List Env) (s : Shared) (H : Hp) (vs : List V) (Q : VK) (E : XK), RoomH k (A.deeper (envOfC qual scope s.heap.objs.size f cdv)) → sp vs H Q E →
      ∃ t, PSs (cxOf (L2N.CX P w) P w K mg base N qual scope f cdv A outer s H E) body t ∧ t { nx := fun _ H' => Q .non H', rt := Q } (start N vs) H) : FnX P w K mg base (k + 1) f fd ps sp := by
  obtain ⟨oc, od, dV, kV, doc, pm, an, cdv, ct, osl, rfl, lk, hcd, _, _⟩ := F.ex
  exact fn_of lk hcd S len fun A outer s H vs Q E hr hsp => hb cdv A outer s H vs Q E (roomH_of hr) hsp
end
/-! ### calls -/
abbrev E0s : St → XK := fun _ => E0
theorem passAt0 {X : Cx} {σ : St} {E : XK} : PassesAt CX0 X σ E := fun _ _ _ _ _ _ h => h.elim
theorem passAtN0 {X : Cx} {σ : St} : PassesAt (L2N.CX X.prog X.w) X σ E0 := fun _ _ _ _ _ _ h => by
  obtain ⟨_, _, _, _, _, _, _, _, _, _, _, _, z⟩ := h
  exact z.elim
theorem roomC {X : Cx} {pins : List (Addr × Obj)} {σ : St} {H : Hp} {s : Shared} {k : Nat} (I : Inv X pins σ H s) (c : X.calm = true) (r : RoomH k X.A) : Room k X.A := ⟨I.ok.hd c, r.dp, r.un⟩
section
variable {X : Cx} {CX : CXT} {k : Nat} {f C : Addr} {fd : FuncData} {ps : List Str} {sp : Sp} {E : St → XK} {x m : Str} {p pos apos : Pos} {e o : Expr} {es : List Expr} {ta : TE} {t : TA}
/-- f(e, ..) of a calm context -/
theorem pe_f (c : X.calm = true) (F : FnOk X.prog X.w X.K X.mg X.base CX k f fd ps sp) (hr : RoomH k X.A) (hg : Gl X x) (hm : X.mg x = some (.ref f)) (hk : PySem.W.keepIn X.K (.ref f) = true) (hb : Binds X.K fd ps []) (hx : ∀ σ, PassesAt CX X σ (E σ))
    (ha : PA X (e :: es) t) (hdb : (x == ("__debug__" : Str)) = false := by decide) (he : starEach (e :: es) X.env = (false, eval e X.env) :: starEach es X.env := by rfl) (hpl : (backTo pos (starEach es X.env)).any (·.1) = false := by rfl) :
    PE X (.Call (.Name x p) (e :: es) [] pos) (tCallS sp E t) :=
  ⟨fun pins s σ H Q I h => (pe_callS F (roomC I c hr) hg hm hk hb hx ha hdb he hpl).run pins s σ H Q I h⟩
theorem pe_fG (g : Gd X) (F : FnG X.prog X.w X.K X.mg X.base k f fd ps sp) (hr : RoomH k X.A) (hg : Gl X x) (hm : X.mg x = some (.ref f)) (hk : PySem.W.keepIn X.K (.ref f) = true) (hb : Binds X.K fd ps [])
    (ha : PA X (e :: es) t) (hdb : (x == ("__debug__" : Str)) = false := by decide) (he : starEach (e :: es) X.env = (false, eval e X.env) :: starEach es X.env := by rfl) (hpl : (backTo pos (starEach es X.env)).any (·.1) = false := by rfl) :
    PE X (.Call (.Name x p) (e :: es) [] pos) (tCallS sp E0s t) := by
  rcases g with c | c
  · exact pe_f c F.calm hr hg hm hk hb (fun _ => passAt0) ha hdb he hpl
  · exact pe_callH F.hot hr c hg hm hk hb (fun _ => passAt0) ha hdb he hpl
/-- o.m(e, ..) of a calm context -/
theorem pe_m {pl : Sem Bool} (c : X.calm = true) (he : PE X o ta) (cl : Cls X.K C) (hm : Meth X.K C m f) (F : FnOk X.prog X.w X.K X.mg X.base CX k f fd ps sp) (hr : RoomH k X.A) (hb : Binds X.K fd ps []) (hx : ∀ σ, PassesAt CX X σ (E σ)) (ha : PA X (e :: es) t)
    (hst : starEach (e :: es) X.env = (false, eval e X.env) :: starEach es X.env := by rfl) (hpl : (backTo pos (starEach es X.env)).any (·.1) = false := by rfl)
    (ht : eval (.Call (.Attribute o m apos) (e :: es) [] pos) X.env = (do
      let ov ← eval o X.env
      standAt apos.atName
      let (f, first) ← holding [ov] (getMethod ov m pl)
      callWith pos f first (backTo pos (starEach (e :: es) X.env)) (backToKw pos (keywordEach [] X.env))) := by rfl) :
    PE X (.Call (.Attribute o m apos) (e :: es) [] pos) (tMethH C m sp E ta t) := by
  refine ⟨fun pins s σ H Q I h => ?_⟩
  have hr1 := roomC I c hr
  refine PySem.W.methodCall_KW (pl := pl) (thn (he.run pins s σ H _ I h) fun u s1 ⟨y, H1, I1, ry, a, dx, fs, ey, ea, l, q⟩ => ?_) ht
  subst ey
  obtain rfl : u = Value.ref a := ry
  refine getmeth_ok I1 ea cl hm l ?_
  refine PySem.W.callWith_K (first := [.ref a]) (h₀ := X.base) I.ok.mod.kin hm.kp (thn (ha.run pos pins s1 σ H1 _ I1 q) fun us s2 ⟨vs, H2, I2, r, q2⟩ => ⟨I2.kIn, ?_⟩) hst hpl
  exact run_fnS (us := .ref a :: us) (vs := .ref a :: vs) F hr1 hb (hx σ) I2 (.cons rfl r) q2
theorem pe_mG {pl : Sem Bool} (g : Gd X) (he : PE X o ta) (cl : Cls X.K C) (hm : Meth X.K C m f) (F : FnG X.prog X.w X.K X.mg X.base k f fd ps sp) (hr : RoomH k X.A) (hb : Binds X.K fd ps []) (ha : PA X (e :: es) t)
    (hst : starEach (e :: es) X.env = (false, eval e X.env) :: starEach es X.env := by rfl) (hpl : (backTo pos (starEach es X.env)).any (·.1) = false := by rfl)
    (ht : eval (.Call (.Attribute o m apos) (e :: es) [] pos) X.env = (do
      let ov ← eval o X.env
      standAt apos.atName
      let (f, first) ← holding [ov] (getMethod ov m pl)
      callWith pos f first (backTo pos (starEach (e :: es) X.env)) (backToKw pos (keywordEach [] X.env))) := by rfl) :
    PE X (.Call (.Attribute o m apos) (e :: es) [] pos) (tMethH C m sp E0s ta t) := by
  rcases g with c | c
  · exact pe_m c he cl hm F.calm hr hb (fun _ => passAt0) ha hst hpl ht
  · exact pe_methH he cl hm F.hot hr c hb (fun _ => passAt0) ha hst hpl ht
/-- o.m() -/
theorem pe_m0 {pl : Sem Bool} (c : X.calm = true) (he : PE X o ta) (cl : Cls X.K C) (hm : Meth X.K C m f) (F : FnOk X.prog X.w X.K X.mg X.base CX k f fd ps sp) (hr : RoomH k X.A) (hb : Binds X.K fd ps []) (hx : ∀ σ, PassesAt CX X σ (E σ))
    (ht : eval (.Call (.Attribute o m apos) [] [] pos) X.env = (do
      let ov ← eval o X.env
      standAt apos.atName
      let (f, first) ← holding [ov] (getMethod ov m pl)
      callWith pos f first (backTo pos (starEach [] X.env)) (backToKw pos (keywordEach [] X.env))) := by rfl) :
    PE X (.Call (.Attribute o m apos) [] [] pos) (tMethH C m sp E ta tNil) := by
  refine ⟨fun pins s σ H Q I h => ?_⟩
  have hr1 := roomC I c hr
  refine PySem.W.methodCall_KW (pl := pl) (thn (he.run pins s σ H _ I h) fun u s1 ⟨y, H1, I1, ry, a, dx, fs, ey, ea, l, q⟩ => ?_) ht
  subst ey
  obtain rfl : u = Value.ref a := ry
  refine getmeth_ok I1 ea cl hm l ?_
  exact PySem.W.callWith_K0 (first := [.ref a]) I1.kIn hm.kp (run_fnS (us := [.ref a]) (vs := [.ref a]) F hr1 hb (hx σ) I1 (.cons rfl .nil) q)
theorem pe_m0G {pl : Sem Bool} (g : Gd X) (he : PE X o ta) (cl : Cls X.K C) (hm : Meth X.K C m f) (F : FnG X.prog X.w X.K X.mg X.base k f fd ps sp) (hr : RoomH k X.A) (hb : Binds X.K fd ps [])
    (ht : eval (.Call (.Attribute o m apos) [] [] pos) X.env = (do
      let ov ← eval o X.env
      standAt apos.atName
      let (f, first) ← holding [ov] (getMethod ov m pl)
      callWith pos f first (backTo pos (starEach [] X.env)) (backToKw pos (keywordEach [] X.env))) := by rfl) :
    PE X (.Call (.Attribute o m apos) [] [] pos) (tMethH C m sp E0s ta tNil) := by
  rcases g with c | c
  · exact pe_m0 c he cl hm F.calm hr hb (fun _ => passAt0) ht
  refine ⟨fun pins s σ H Q I h => ?_⟩
  refine PySem.W.methodCall_KW (pl := pl) (thn (he.run pins s σ H _ I h) fun u s1 ⟨y, H1, I1, ry, a, dx, fs, ey, ea, l, q⟩ => ?_) ht
  subst ey
  obtain rfl : u = Value.ref a := ry
  refine getmeth_ok I1 ea cl hm l ?_
  exact PySem.W.callWith_K0 (first := [.ref a]) I1.kIn hm.kp (run_fnH (E := E0s) (us := [.ref a]) (vs := [.ref a]) F.hot hr c hb passAt0 I1 (.cons rfl .nil) q)
/-- C(e, ..) -/
def tMk (C : Addr) (sp : Sp) (t : TA) : TE := fun σ H Q => t σ H fun vs H1 => ∀ x dx, H1 x = none → H1 dx = none → dx ≠ x →
  sp (.ref x :: vs) (upd (upd H1 dx (.own x)) x (.ins C dx [])) (fun v H2 => v = .non ∧ Q (.ref x) H2) E0
theorem pe_mk (c : X.calm = true) (M : Mk X.K C f) (F : FnC X.prog X.w X.K X.mg X.base k f fd ps sp) (hr : RoomH (k + 1) X.A) (hg : Gl X x) (hm : X.mg x = some (.ref C)) (hb : Binds X.K fd ps [])
    (ha : PA X (e :: es) t) (hdb : (x == ("__debug__" : Str)) = false := by decide) (he : starEach (e :: es) X.env = (false, eval e X.env) :: starEach es X.env := by rfl) (hpl : (backTo pos (starEach es X.env)).any (·.1) = false := by rfl) :
    PE X (.Call (.Name x p) (e :: es) [] pos) (tMk C sp t) := by
  refine ⟨fun pins s σ H Q I h => (pe_make M F (roomC I c hr) hg hm hb .nil pass0 ha hdb he hpl).run pins s σ H Q I ?_⟩
  have e1 : tMake C sp [] E0 t = tMk C sp t := by
    funext σ H Q
    show t σ H _ = t σ H _
    congr 1
    funext vs H1
    rw [List.append_nil]
  rw [e1]
  exact h
/-- B.m(e, ..), B a class, m a plain def found there -/
theorem pe_cls {pl : Sem Bool} {B : Addr} {mc : Value} (c : X.calm = true) (hg : Gl X x) (hm : X.mg x = some (.ref B)) (rd : ClX.CRead X.K B mc) (hf : PySem.W.findCls X.K (.ref B) mc m = some (.val (.ref f)))
    (F : FnOk X.prog X.w X.K X.mg X.base CX k f fd ps sp) (hr : RoomH k X.A) (hk : PySem.W.keepIn X.K (.ref f) = true) (hb : Binds X.K fd ps []) (hx : ∀ σ, PassesAt CX X σ (E σ)) (ha : PA X (e :: es) t) (hdb : (x == ("__debug__" : Str)) = false := by decide)
    (hst : starEach (e :: es) X.env = (false, eval e X.env) :: starEach es X.env := by rfl) (hpl : (backTo pos (starEach es X.env)).any (·.1) = false := by rfl)
    (ht : eval (.Call (.Attribute (.Name x p) m apos) (e :: es) [] pos) X.env = (do
      let ov ← eval (.Name x p) X.env
      standAt apos.atName
      let (f, first) ← holding [ov] (getMethod ov m pl)
      callWith pos f first (backTo pos (starEach (e :: es) X.env)) (backToKw pos (keywordEach [] X.env))) := by rfl) :
    PE X (.Call (.Attribute (.Name x p) m apos) (e :: es) [] pos) (tCallS sp E t) := by
  refine ⟨fun pins s σ H Q I h => ?_⟩
  have hr1 := roomC I c hr
  refine PySem.W.methodCall_KW (pl := pl) (ld_glob I hg hm ?_ hdb) ht
  refine PySem.W.method_cls I.kIn rd.ga (PySem.W.cls_value I.kIn rd.rd hf rfl ?_)
  refine PySem.W.callWith_K (first := []) (h₀ := X.base) I.ok.mod.kin hk (thn (ha.run pos pins _ σ H _ (I.tok _) h) fun us s2 ⟨vs, H2, I2, r, q2⟩ => ⟨I2.kIn, ?_⟩) hst hpl
  exact run_fnS F hr1 hb (hx σ) I2 r q2
end
end K6
/-! A fault that is made and raised; a list's item that is read for an operator in place. -/
namespace K6
open PySem PySem.Spec PyProof.Rows L2 HotX L2H
section
variable {X : Cx} {x m : Str} {p pos apos : Pos} {e o : Expr} {es : List Expr} {ta : TE} {t : TA}
/-- B.__init__(self, ..) of an exception that is being made: B's is ValueError's; nothing of it is told -/
theorem pe_basei {pl : Sem Bool} {B : Addr} {mc : Value} (hg : Gl X x) (hm : X.mg x = some (.ref B)) (rd : ClX.CRead X.K B mc) (hf : PySem.W.findCls X.K (.ref B) mc m = some (.val (.builtin "ValueError.__init__")))
    (ha : PA X (e :: es) t) (hdb : (x == ("__debug__" : Str)) = false := by decide)
    (hst : starEach (e :: es) X.env = (false, eval e X.env) :: starEach es X.env := by rfl) (hpl : (backTo pos (starEach es X.env)).any (·.1) = false := by rfl)
    (ht : eval (.Call (.Attribute (.Name x p) m apos) (e :: es) [] pos) X.env = (do
      let ov ← eval (.Name x p) X.env
      standAt apos.atName
      let (f, first) ← holding [ov] (getMethod ov m pl)
      callWith pos f first (backTo pos (starEach (e :: es) X.env)) (backToKw pos (keywordEach [] X.env))) := by rfl) :
    PE X (.Call (.Attribute (.Name x p) m apos) (e :: es) [] pos) (tVeI X.K t) := by
  refine ⟨fun pins s σ H Q I h => ?_⟩
  refine PySem.W.methodCall_KW (pl := pl) (ld_glob I hg hm ?_ hdb) ht
  refine PySem.W.method_cls I.kIn rd.ga (PySem.W.cls_value I.kIn rd.rd hf rfl ?_)
  show wpAny _ _ (callWith pos (Value.builtin "ValueError.__init__") [] (backTo pos (starEach (e :: es) X.env)) []) _ _ _
  refine PyProof.Rows.callWith_method1 (thn (ha.run pos pins _ σ H _ (I.tok _) h) fun us s1 ⟨vs, H1, I1, r1, a, C, ws, ev, hl, T, ea, q⟩ => ?_) hst hpl
  subst ev
  cases r1 with
  | @cons _ u0 _ ur ra rw' =>
    obtain rfl : u0 = Value.ref a := ra
    refine oinit_ok T I1 ea ?_ fun s' J => ⟨.non, H1, J, rfl, q⟩
    rw [← Paired.length rw', sizeLine_eq]
    omega
/-- C(e, ..), an exception whose own __init__ keeps sp, where nothing is handled -/
theorem pmk_n {C fI : Addr} {k : Nat} {fd : FuncData} {ps : List Str} {sp : Sp} (c : X.calm = true) (T : OexC X.K C) (iC : PySem.W.findIn X.K (.ref C) "__init__" = some (some (.ref fI))) (tI : PySem.W.typeIn X.K (.ref fI) = some (.type "function"))
    (F1 : FnC X.prog X.w X.K X.mg X.base k fI fd ps sp) (hr : RoomH (k + 1) X.A) (hb : Binds X.K fd ps []) (hg : Gl X x) (hm : X.mg x = some (.ref C)) (ha : PA X (e :: es) t)
    (hdb : (x == ("__debug__" : Str)) = false := by decide) (he : starEach (e :: es) X.env = (false, eval e X.env) :: starEach es X.env := by rfl) (hpl : (backTo pos (starEach es X.env)).any (·.1) = false := by rfl) :
    L2N.PMk X (.Call (.Name x p) (e :: es) [] pos) (tMkO C sp [] t) := by
  intro pins s σ H Q I h
  have hr1 := roomC I c hr
  obtain ⟨nm, q, N, bs, bm, sn, sub, ab, col, dd, k0, k1, k2, k3, k5, hC, hbm⟩ := T.cls
  refine wpAny_Call_Name_kw (ld_glob I hg hm ?_ hdb)
  refine PySem.W.callWith_K (h₀ := X.base) I.ok.mod.kin T.kC (thn (ha.run pos pins s σ H _ I h) fun us s1 ⟨vs, H1, I1, r1, hz, q1⟩ => ⟨I1.kIn, ?_⟩) he hpl
  show wpAny _ _ (call (.ref C) us) _ _ _
  obtain ⟨hp, g, dr, tk, os⟩ := s1
  have up : hp.objs.size ≤ hp.objs.size + 1 := Nat.le_succ _
  have hq := q1 (hp.objs.size + 1) (I1.hok.fresh up)
  rw [List.append_nil] at hq
  have kk : ∀ b o, hp.get? b = some o → ((hp.push (PySem.W.kdv_tup us)).push (PySem.HandSPX.excO C hp.objs.size)).get? b = some o := fun b o z => Heap.get?_push_of_some _ (Heap.get?_push_of_some _ z)
  have there : ((hp.push (PySem.W.kdv_tup us)).push (PySem.HandSPX.excO C hp.objs.size)).get? (hp.objs.size + 1) = some (PySem.HandSPX.excO C hp.objs.size) := by heap_get
  have I2 : Inv X pins σ (upd H1 (hp.objs.size + 1) (exo (hp.objs.size + 1) C none)) ⟨(hp.push (PySem.W.kdv_tup us)).push (PySem.HandSPX.excO C hp.objs.size), g, dr, tk, os⟩ :=
    I1.laid (t' := tk) (a := hp.objs.size + 1) (o := exo (hp.objs.size + 1) C none) (h' := (hp.push (PySem.W.kdv_tup us)).push (PySem.HandSPX.excO C hp.objs.size)) kk up (exo_ok there)
  have r2 : Vals (V.ref (hp.objs.size + 1) :: vs) (Value.ref (hp.objs.size + 1) :: us) := .cons rfl r1
  have hl : (Value.ref (hp.objs.size + 1) :: us ++ []).length = ps.length := by
    have z := r2.length
    rw [F1.len _ _ _ _ hq] at z
    rw [List.append_nil]
    exact z.symm
  have hus : us.length ≤ sizeLine := by
    rw [← Paired.length r1, sizeLine_eq]
    omega
  have b2 := hb _ (Value.ref (hp.objs.size + 1) :: us) I2.kIn hl
  rw [List.append_nil] at b2
  refine wpAny_call (PySem.HandSPX.call_own F.excBase_ValueError (fun Y => PySem.HandSPX.refsVE_contains Y bm hbm) (I1.kIn _ _ hC) (PySem.W.looks_findIn I1.kIn iC) (fun self => PySem.W.bind_fn I1.kIn self tI) hus
    (codeAny_mono (F1.run _ X.stack _ _ ⟨Value.ref (hp.objs.size + 1) :: us, []⟩ (Value.ref (hp.objs.size + 1) :: us) _ _ (fun _ _ _ => False) (hr1.make C us []) (I2.env0.make C us []) b2 r2 hq) fun r s' hq' => ?_))
  cases r with
  | error er => exact False.elim hq'
  | ok fl =>
    cases fl with
    | ret u =>
      obtain ⟨v, H2, os2, bare2, un2, hok2, rv, ev, d, fs, ea, ed, hd1, q2⟩ := hq'
      subst ev
      obtain ⟨h2, g2, d2, t2, os'⟩ := s'
      obtain ⟨t0, G, J, kG, ge, hoe, na⟩ := mk_end0 (d2 := d2) (t2 := t2) I1 up kk un2 hok2 os2 bare2 ea ed hd1
      exact ⟨rv, ⟨hp.objs.size + 1, _, _, ⟨G, g2, d2, t2, os'⟩, _, .ref C, some d, rfl, J, kG, ge, hoe, ⟨rfl, rfl, fun vs hv => by cases hv; rfl⟩, rfl, rfl, na, rfl, bare2, raises_own T.exC T.tyC, q2⟩⟩
    | next => exact False.elim hq'
    | brk => exact False.elim hq'
    | cont => exact False.elim hq'
end
/-- xs[i], for an operator in place -/
def rGetL : V → V → Hp → VK → Prop := fun x y H Q => ∃ (p : Addr) (xs : List V) (j : Nat) (v : V), x = .ref p ∧ y = .int j ∧ H p = some (.lst xs) ∧ xs[j]? = some v ∧ Q v H
theorem get_list {X : Cx} : PGet X rGetL := by
  intro pins s σ H x y ov iv Q I r1 r2 ⟨p, xs, j, v, ex, ey, hp, hj, q⟩
  subst ex ey
  cases r1
  obtain ⟨t, rfl⟩ := r2
  obtain ⟨its, r, pl, hz⟩ := I.list (SqL.of hp)
  obtain ⟨u, hu, ru⟩ := r.get hj
  have hl := line63
  have hlt : j < xs.length := (List.getElem?_eq_some_iff.mp hj).1
  exact wpAny_getItem_list pl.isList (by omega) (by omega) (by simpa using hu) ⟨v, H, I, ru, q⟩
end K6
/-! The defs by their places in the text, what the head says of them (printed by gen_text.py). -/
namespace K6
open PySem PySem.Spec PyProof.Rows L2 HotX L2H He
def top (i : Nat) : Stmt := PySem.Challenge.pw_shadowpages_k66_whole_second_rows.main.body.getD i (.Pass ⟨0, 0, 0, 0⟩)
def s_f_is_whole : Stmt := (top 13)
def s_f_is_word : Stmt := (top 14)
def s_f_is_below : Stmt := (top 18)
def s_f_are_words : Stmt := (top 19)
def s_f_is_image : Stmt := (top 20)
def s_f_words_at : Stmt := (top 21)
def s_f_laid_out : Stmt := (top 23)
def s_f_look_at : Stmt := (top 31)
def s_f_parts_of : Stmt := (top 32)
def s_f_row_of : Stmt := (top 39)
def s_f_page_of : Stmt := (top 40)
def s_f_marks_of : Stmt := (top 41)
def s_f_has : Stmt := (top 42)
def s_f_put : Stmt := (top 43)
def s_f_taken : Stmt := (top 44)
def s_f_look_by : Stmt := (top 47)
def s_f_rights_of : Stmt := (top 48)
def s_f_look : Stmt := (top 49)
def s_f_stamp : Stmt := (top 50)
def s_f_mark : Stmt := (top 51)
def s_f_lets : Stmt := (top 52)
def s_f_law_cell_at : Stmt := (top 65)
def s_f_law_whole : Stmt := (top 66)
def s_f_law_mixed : Stmt := (top 67)
def s_f_law_led : Stmt := (top 68)
def s_f_law_right : Stmt := (top 69)
def s_f_law_copy : Stmt := (top 70)
def s_f_law_row : Stmt := (top 71)
def s_f_law_image : Stmt := (top 72)
def s_f_law_place : Stmt := (top 73)
def s_f_law_number : Stmt := (top 74)
def s_f_law_deed_of : Stmt := (top 75)
def s_f_law_told : Stmt := (top 76)
def s_f_law_answer : Stmt := (top 77)
def s_f_law_good : Stmt := (top 78)
def s_f_law_frame_like : Stmt := (top 79)
def s_f_law_guarded : Stmt := (top 80)
def s_f_law_keeps : Stmt := (top 81)
def s_f_law_owned : Stmt := (top 82)
def s_f_law_stays : Stmt := (top 83)
def s_f_law : Stmt := (top 84)
def s_Frames_init : Stmt := (inClass (top 63) 0)
def s_Frames_size : Stmt := (inClass (top 63) 1)
def s_Frames_has : Stmt := (inClass (top 63) 2)
def s_Frames_look_at : Stmt := (inClass (top 63) 3)
def s_Frames_read : Stmt := (inClass (top 63) 4)
def s_Frames_write : Stmt := (inClass (top 63) 5)
def s_Frames_take : Stmt := (inClass (top 63) 6)
def s_Frames_look_up : Stmt := (inClass (top 63) 7)
def s_Frames_share : Stmt := (inClass (top 63) 8)
def s_Frames_drop : Stmt := (inClass (top 63) 9)
def s_Frames_owners : Stmt := (inClass (top 63) 10)
def s_Frames_ask : Stmt := (inClass (top 63) 12)
def s_Frames_back : Stmt := (inClass (top 63) 13)
def s_Frames_promised : Stmt := (inClass (top 63) 14)
def s_Parts_init : Stmt := (inClass (top 24) 0)
def s_Parts_size : Stmt := (inClass (top 24) 1)
def s_Parts_frame : Stmt := (inClass (top 24) 2)
def s_Parts_need : Stmt := (inClass (top 24) 3)
def s_Parts_alone : Stmt := (inClass (top 24) 4)
def s_Parts_lead : Stmt := (inClass (top 24) 5)
def s_Parts_give : Stmt := (inClass (top 24) 6)
def s_Parts_fresh : Stmt := (inClass (top 24) 7)
def s_Shelf_init : Stmt := (inClass (top 27) 0)
def s_Shelf_seat : Stmt := (inClass (top 27) 1)
def s_Shelf_seek : Stmt := (inClass (top 27) 2)
def s_Shelf_keep : Stmt := (inClass (top 27) 3)
def s_Shelf_drop : Stmt := (inClass (top 27) 4)
def s_Shelf_empty : Stmt := (inClass (top 27) 5)
def s_Pairs_left : Stmt := (inClass (top 55) 1)
def s_Pairs_left_all : Stmt := (inClass (top 55) 2)
def s_Pairs_on_shelf : Stmt := (inClass (top 55) 6)
def s_Pairs_reach : Stmt := (inClass (top 55) 7)
def s_Pairs_load : Stmt := (inClass (top 55) 8)
def s_Pairs_save : Stmt := (inClass (top 55) 9)
def s_Pairs_page_at : Stmt := (inClass (top 55) 10)
def s_Pairs_peek : Stmt := (inClass (top 55) 11)
def s_Pairs_poke : Stmt := (inClass (top 55) 12)
def s_Pairs_turn_root : Stmt := (inClass (top 55) 14)
def s_Pairs_drop : Stmt := (inClass (top 55) 15)
def s_Pairs_give : Stmt := (inClass (top 55) 16)
def s_Pairs_want : Stmt := (inClass (top 55) 17)
def s_Pairs_pages : Stmt := (inClass (top 55) 20)
def s_Pairs_size : Stmt := (inClass (top 57) 5)
def s_Pairs_has : Stmt := (inClass (top 57) 6)
def s_Pairs_look_for : Stmt := (inClass (top 57) 7)
def s_Pairs_read : Stmt := (inClass (top 57) 8)
def s_Pairs_write : Stmt := (inClass (top 57) 9)
def s_Pairs_put_alone : Stmt := (inClass (top 57) 12)
def s_Pairs_granted : Stmt := (inClass (top 57) 13)
def s_Pairs_bring : Stmt := (inClass (top 57) 14)
def s_Pairs_yield_up : Stmt := (inClass (top 57) 15)
def s_Pairs_frame : Stmt := (inClass (top 57) 16)
def s_Pairs_clean : Stmt := (inClass (top 57) 18)
def s_Pairs_guard : Stmt := (inClass (top 57) 19)
def s_Pairs_lead : Stmt := (inClass (top 57) 20)
def s_Pairs_tables : Stmt := (inClass (top 57) 21)
def s_Pairs_init : Stmt := (inClass (top 60) 0)
def s_Pairs_row_at : Stmt := (inClass (top 60) 1)
def s_Pairs_lay_row : Stmt := (inClass (top 60) 2)
def s_Pairs_moved : Stmt := (inClass (top 60) 3)
def s_Pairs_shut : Stmt := (inClass (top 60) 4)
def s_Pairs_washed : Stmt := (inClass (top 60) 5)
def s_Pairs_loose : Stmt := (inClass (top 60) 6)
def s_Pairs_soiled : Stmt := (inClass (top 60) 7)
def s_Pairs_open_row : Stmt := (inClass (top 60) 8)
def s_Pairs_fetch : Stmt := (inClass (top 60) 9)
def s_Pairs_deposit : Stmt := (inClass (top 60) 10)
def s_Pairs_words_of : Stmt := (inClass (top 60) 11)
def s_Pairs_rows : Stmt := (inClass (top 60) 12)
def s_Ways_init : Stmt := (inClass (top 55) 0)
def s_Kept_init : Stmt := (inClass (top 57) 0)
def s_Fault_init : Stmt := (inClass (top 11) 0)
theorem sc_f_is_whole : FnScope ["thing"] ["thing"] (defScope s_f_is_whole) := ⟨rfl, rfl, rfl, by decide +kernel, rfl, by decide +kernel, by decide +kernel⟩
theorem sc_f_is_word : FnScope ["thing"] ["thing"] (defScope s_f_is_word) := ⟨rfl, rfl, rfl, by decide +kernel, rfl, by decide +kernel, by decide +kernel⟩
theorem sc_f_is_below : FnScope ["thing", "count"] ["thing", "count"] (defScope s_f_is_below) := ⟨rfl, rfl, rfl, by decide +kernel, rfl, by decide +kernel, by decide +kernel⟩
theorem sc_f_are_words : FnScope ["thing", "word"] ["thing"] (defScope s_f_are_words) := ⟨rfl, rfl, rfl, by decide +kernel, rfl, by decide +kernel, by decide +kernel⟩
theorem sc_f_is_image : FnScope ["thing", "words"] ["thing"] (defScope s_f_is_image) := ⟨rfl, rfl, rfl, by decide +kernel, rfl, by decide +kernel, by decide +kernel⟩
theorem sc_f_words_at : FnScope ["store", "page", "cell"] ["store", "page"] (defScope s_f_words_at) := ⟨rfl, rfl, rfl, by decide +kernel, rfl, by decide +kernel, by decide +kernel⟩
theorem sc_f_laid_out : FnScope ["frames", "words", "frame", "cell", "word"] ["frames", "words"] (defScope s_f_laid_out) := ⟨rfl, rfl, rfl, by decide +kernel, rfl, by decide +kernel, by decide +kernel⟩
theorem sc_f_look_at : FnScope ["place"] ["place"] (defScope s_f_look_at) := ⟨rfl, rfl, rfl, by decide +kernel, rfl, by decide +kernel, by decide +kernel⟩
theorem sc_f_parts_of : FnScope ["place", "number", "cell", "outer", "inner"] ["place"] (defScope s_f_parts_of) := ⟨rfl, rfl, rfl, by decide +kernel, rfl, by decide +kernel, by decide +kernel⟩
theorem sc_f_row_of : FnScope ["page", "marks"] ["page", "marks"] (defScope s_f_row_of) := ⟨rfl, rfl, rfl, by decide +kernel, rfl, by decide +kernel, by decide +kernel⟩
theorem sc_f_page_of : FnScope ["row"] ["row"] (defScope s_f_page_of) := ⟨rfl, rfl, rfl, by decide +kernel, rfl, by decide +kernel, by decide +kernel⟩
theorem sc_f_marks_of : FnScope ["row"] ["row"] (defScope s_f_marks_of) := ⟨rfl, rfl, rfl, by decide +kernel, rfl, by decide +kernel, by decide +kernel⟩
theorem sc_f_has : FnScope ["row", "marks"] ["row", "marks"] (defScope s_f_has) := ⟨rfl, rfl, rfl, by decide +kernel, rfl, by decide +kernel, by decide +kernel⟩
theorem sc_f_put : FnScope ["row", "marks"] ["row", "marks"] (defScope s_f_put) := ⟨rfl, rfl, rfl, by decide +kernel, rfl, by decide +kernel, by decide +kernel⟩
theorem sc_f_taken : FnScope ["row", "marks"] ["row", "marks"] (defScope s_f_taken) := ⟨rfl, rfl, rfl, by decide +kernel, rfl, by decide +kernel, by decide +kernel⟩
theorem sc_f_look_by : FnScope ["store", "row", "place", "level", "write", "kernel", "page"] ["store", "row", "place", "level", "write", "kernel"] (defScope s_f_look_by) := ⟨rfl, rfl, rfl, by decide +kernel, rfl, by decide +kernel, by decide +kernel⟩
theorem sc_f_rights_of : FnScope ["high", "low", "rights"] ["high", "low"] (defScope s_f_rights_of) := ⟨rfl, rfl, rfl, by decide +kernel, rfl, by decide +kernel, by decide +kernel⟩
theorem sc_f_look : FnScope ["store", "root", "place", "write", "kernel", "outer", "inner", "cell", "high", "table", "low", "page"] ["store", "root", "place", "write", "kernel"] (defScope s_f_look) := ⟨rfl, rfl, rfl, by decide +kernel, rfl, by decide +kernel, by decide +kernel⟩
theorem sc_f_stamp : FnScope ["store", "spot", "marks", "word"] ["store", "spot", "marks"] (defScope s_f_stamp) := ⟨rfl, rfl, rfl, by decide +kernel, rfl, by decide +kernel, by decide +kernel⟩
theorem sc_f_mark : FnScope ["store", "trail", "write"] ["store", "trail", "write"] (defScope s_f_mark) := ⟨rfl, rfl, rfl, by decide +kernel, rfl, by decide +kernel, by decide +kernel⟩
theorem sc_f_lets : FnScope ["rights", "write", "kernel"] ["rights", "write", "kernel"] (defScope s_f_lets) := ⟨rfl, rfl, rfl, by decide +kernel, rfl, by decide +kernel, by decide +kernel⟩
theorem sc_f_law_cell_at : FnScope ["_law_script", "_law_k"] ["_law_script", "_law_k"] (defScope s_f_law_cell_at) := ⟨rfl, rfl, rfl, by decide +kernel, rfl, by decide +kernel, by decide +kernel⟩
theorem sc_f_law_whole : FnScope ["_law_found"] ["_law_found"] (defScope s_f_law_whole) := ⟨rfl, rfl, rfl, by decide +kernel, rfl, by decide +kernel, by decide +kernel⟩
theorem sc_f_law_mixed : FnScope ["_law_cell", "_law_k", "_law_left", "_law_turn", "_law_number_here"] ["_law_cell", "_law_k"] (defScope s_f_law_mixed) := ⟨rfl, rfl, rfl, by decide +kernel, rfl, by decide +kernel, by decide +kernel⟩
theorem sc_f_law_led : FnScope ["_law_frames", "_law_pairs", "_law_page", "_law_trail"] ["_law_frames", "_law_pairs", "_law_page"] (defScope s_f_law_led) := ⟨rfl, rfl, rfl, by decide +kernel, rfl, by decide +kernel, by decide +kernel⟩
theorem sc_f_law_right : FnScope ["_law_frames", "_law_pairs", "_law_rows", "_law_soiled", "_law_page", "_law_frame", "_law_row_here"] ["_law_frames", "_law_pairs"] (defScope s_f_law_right) := ⟨rfl, rfl, rfl, by decide +kernel, rfl, by decide +kernel, by decide +kernel⟩
theorem sc_f_law_copy : FnScope ["_law_pages", "_law_words"] ["_law_pages"] (defScope s_f_law_copy) := ⟨rfl, rfl, rfl, by decide +kernel, rfl, by decide +kernel, by decide +kernel⟩
theorem sc_f_law_row : FnScope ["_law_cell", "_law_k", "_law_size", "_law_one", "_law_some", "_law_page", "_law_marks"] ["_law_cell", "_law_k", "_law_size"] (defScope s_f_law_row) := ⟨rfl, rfl, rfl, by decide +kernel, rfl, by decide +kernel, by decide +kernel⟩
theorem sc_f_law_image : FnScope ["_law_cell", "_law_size", "_law_pages", "_law_left", "_law_k", "_law_number_here", "_law_j"] ["_law_cell", "_law_size"] (defScope s_f_law_image) := ⟨rfl, rfl, rfl, by decide +kernel, rfl, by decide +kernel, by decide +kernel⟩
theorem sc_f_law_place : FnScope ["_law_some", "_law_number_here", "_law_place_here"] ["_law_some"] (defScope s_f_law_place) := ⟨rfl, rfl, rfl, by decide +kernel, rfl, by decide +kernel, by decide +kernel⟩
theorem sc_f_law_number : FnScope ["_law_some", "_law_k", "_law_size", "_law_number_here"] ["_law_some", "_law_k", "_law_size"] (defScope s_f_law_number) := ⟨rfl, rfl, rfl, by decide +kernel, rfl, by decide +kernel, by decide +kernel⟩
theorem sc_f_law_deed_of : FnScope ["_law_cell", "_law_k", "_law_size", "_law_some", "_law_number_here", "_law_word", "_law_spot", "_law_name"] ["_law_cell", "_law_k", "_law_size"] (defScope s_f_law_deed_of) := ⟨rfl, rfl, rfl, by decide +kernel, rfl, by decide +kernel, by decide +kernel⟩
theorem sc_f_law_told : FnScope ["_law_way", "_law_deed", "_law_name"] ["_law_way", "_law_deed"] (defScope s_f_law_told) := ⟨rfl, rfl, rfl, by decide +kernel, rfl, by decide +kernel, by decide +kernel⟩
theorem sc_f_law_answer : FnScope ["_law_way", "_law_deed", "_law_told_here", "e"] ["_law_way", "_law_deed"] (defScope s_f_law_answer) := ⟨rfl, rfl, rfl, by decide +kernel, rfl, by decide +kernel, by decide +kernel⟩
theorem sc_f_law_good : FnScope ["_law_told_here"] ["_law_told_here"] (defScope s_f_law_good) := ⟨rfl, rfl, rfl, by decide +kernel, rfl, by decide +kernel, by decide +kernel⟩
theorem sc_f_law_frame_like : FnScope ["_law_ways", "_law_words", "_law_way", "_law_pages", "_law_page"] ["_law_ways", "_law_words"] (defScope s_f_law_frame_like) := ⟨rfl, rfl, rfl, by decide +kernel, rfl, by decide +kernel, by decide +kernel⟩
theorem sc_f_law_guarded : FnScope ["_law_ways", "_law_frame", "_law_way", "_law_page"] ["_law_ways", "_law_frame"] (defScope s_f_law_guarded) := ⟨rfl, rfl, rfl, by decide +kernel, rfl, by decide +kernel, by decide +kernel⟩
theorem sc_f_law_keeps : FnScope ["_law_ways", "_law_which", "_law_deed", "_law_way", "_law_page", "_law_frame"] ["_law_ways", "_law_which", "_law_deed"] (defScope s_f_law_keeps) := ⟨rfl, rfl, rfl, by decide +kernel, rfl, by decide +kernel, by decide +kernel⟩
theorem sc_f_law_owned : FnScope ["_law_frames", "_law_ways", "_law_led_here", "_law_promised", "_law_way", "_law_page", "_law_frame", "_law_one"] ["_law_frames", "_law_ways"] (defScope s_f_law_owned) := ⟨rfl, rfl, rfl, by decide +kernel, rfl, by decide +kernel, by decide +kernel⟩
theorem sc_f_law_stays : FnScope ["_law_way", "_law_ahead", "_law_name", "_law_now", "_law_soiled", "_law_page"] ["_law_way", "_law_ahead", "_law_name"] (defScope s_f_law_stays) := ⟨rfl, rfl, rfl, by decide +kernel, rfl, by decide +kernel, by decide +kernel⟩
theorem sc_f_law : FnScope ["_law_script", "_law_first", "_law_pages", "_law_frames", "_law_words", "_law_ways", "_law_k", "_law_cell", "_law_which", "_law_deed", "_law_ahead"] ["_law_script"] (defScope s_f_law) := ⟨rfl, rfl, rfl, by decide +kernel, rfl, by decide +kernel, by decide +kernel⟩
theorem sc_Frames_init : FnScope ["self", "many"] ["self", "many"] (defScope s_Frames_init) := ⟨rfl, rfl, rfl, by decide +kernel, rfl, by decide +kernel, by decide +kernel⟩
theorem sc_Frames_size : FnScope ["self"] ["self"] (defScope s_Frames_size) := ⟨rfl, rfl, rfl, by decide +kernel, rfl, by decide +kernel, by decide +kernel⟩
theorem sc_Frames_has : FnScope ["self", "page"] ["self", "page"] (defScope s_Frames_has) := ⟨rfl, rfl, rfl, by decide +kernel, rfl, by decide +kernel, by decide +kernel⟩
theorem sc_Frames_look_at : FnScope ["self", "page", "cell"] ["self", "page", "cell"] (defScope s_Frames_look_at) := ⟨rfl, rfl, rfl, by decide +kernel, rfl, by decide +kernel, by decide +kernel⟩
theorem sc_Frames_read : FnScope ["self", "page", "cell"] ["self", "page", "cell"] (defScope s_Frames_read) := ⟨rfl, rfl, rfl, by decide +kernel, rfl, by decide +kernel, by decide +kernel⟩
theorem sc_Frames_write : FnScope ["self", "page", "cell", "word"] ["self", "page", "cell", "word"] (defScope s_Frames_write) := ⟨rfl, rfl, rfl, by decide +kernel, rfl, by decide +kernel, by decide +kernel⟩
theorem sc_Frames_take : FnScope ["self", "frame"] ["self"] (defScope s_Frames_take) := ⟨rfl, rfl, rfl, by decide +kernel, rfl, by decide +kernel, by decide +kernel⟩
theorem sc_Frames_look_up : FnScope ["self", "frame"] ["self", "frame"] (defScope s_Frames_look_up) := ⟨rfl, rfl, rfl, by decide +kernel, rfl, by decide +kernel, by decide +kernel⟩
theorem sc_Frames_share : FnScope ["self", "frame"] ["self", "frame"] (defScope s_Frames_share) := ⟨rfl, rfl, rfl, by decide +kernel, rfl, by decide +kernel, by decide +kernel⟩
theorem sc_Frames_drop : FnScope ["self", "frame"] ["self", "frame"] (defScope s_Frames_drop) := ⟨rfl, rfl, rfl, by decide +kernel, rfl, by decide +kernel, by decide +kernel⟩
theorem sc_Frames_owners : FnScope ["self", "frame"] ["self", "frame"] (defScope s_Frames_owners) := ⟨rfl, rfl, rfl, by decide +kernel, rfl, by decide +kernel, by decide +kernel⟩
theorem sc_Frames_ask : FnScope ["self", "count"] ["self", "count"] (defScope s_Frames_ask) := ⟨rfl, rfl, rfl, by decide +kernel, rfl, by decide +kernel, by decide +kernel⟩
theorem sc_Frames_back : FnScope ["self", "count"] ["self", "count"] (defScope s_Frames_back) := ⟨rfl, rfl, rfl, by decide +kernel, rfl, by decide +kernel, by decide +kernel⟩
theorem sc_Frames_promised : FnScope ["self"] ["self"] (defScope s_Frames_promised) := ⟨rfl, rfl, rfl, by decide +kernel, rfl, by decide +kernel, by decide +kernel⟩
theorem sc_Parts_init : FnScope ["self", "frames", "pages", "words"] ["self", "frames", "pages"] (defScope s_Parts_init) := ⟨rfl, rfl, rfl, by decide +kernel, rfl, by decide +kernel, by decide +kernel⟩
theorem sc_Parts_size : FnScope ["self"] ["self"] (defScope s_Parts_size) := ⟨rfl, rfl, rfl, by decide +kernel, rfl, by decide +kernel, by decide +kernel⟩
theorem sc_Parts_frame : FnScope ["self", "page"] ["self", "page"] (defScope s_Parts_frame) := ⟨rfl, rfl, rfl, by decide +kernel, rfl, by decide +kernel, by decide +kernel⟩
theorem sc_Parts_need : FnScope ["self", "page"] ["self", "page"] (defScope s_Parts_need) := ⟨rfl, rfl, rfl, by decide +kernel, rfl, by decide +kernel, by decide +kernel⟩
theorem sc_Parts_alone : FnScope ["self", "page", "old"] ["self", "page"] (defScope s_Parts_alone) := ⟨rfl, rfl, rfl, by decide +kernel, rfl, by decide +kernel, by decide +kernel⟩
theorem sc_Parts_lead : FnScope ["self", "page", "frame", "old"] ["self", "page", "frame"] (defScope s_Parts_lead) := ⟨rfl, rfl, rfl, by decide +kernel, rfl, by decide +kernel, by decide +kernel⟩
theorem sc_Parts_give : FnScope ["self", "page"] ["self", "page"] (defScope s_Parts_give) := ⟨rfl, rfl, rfl, by decide +kernel, rfl, by decide +kernel, by decide +kernel⟩
theorem sc_Parts_fresh : FnScope ["self", "page"] ["self", "page"] (defScope s_Parts_fresh) := ⟨rfl, rfl, rfl, by decide +kernel, rfl, by decide +kernel, by decide +kernel⟩
theorem sc_Shelf_init : FnScope ["self", "most"] ["self", "most"] (defScope s_Shelf_init) := ⟨rfl, rfl, rfl, by decide +kernel, rfl, by decide +kernel, by decide +kernel⟩
theorem sc_Shelf_seat : FnScope ["self", "number", "at", "row"] ["self", "number"] (defScope s_Shelf_seat) := ⟨rfl, rfl, rfl, by decide +kernel, rfl, by decide +kernel, by decide +kernel⟩
theorem sc_Shelf_seek : FnScope ["self", "number", "at"] ["self", "number"] (defScope s_Shelf_seek) := ⟨rfl, rfl, rfl, by decide +kernel, rfl, by decide +kernel, by decide +kernel⟩
theorem sc_Shelf_keep : FnScope ["self", "number", "page", "rights", "at"] ["self", "number", "page", "rights"] (defScope s_Shelf_keep) := ⟨rfl, rfl, rfl, by decide +kernel, rfl, by decide +kernel, by decide +kernel⟩
theorem sc_Shelf_drop : FnScope ["self", "number", "at"] ["self", "number"] (defScope s_Shelf_drop) := ⟨rfl, rfl, rfl, by decide +kernel, rfl, by decide +kernel, by decide +kernel⟩
theorem sc_Shelf_empty : FnScope ["self"] ["self"] (defScope s_Shelf_empty) := ⟨rfl, rfl, rfl, by decide +kernel, rfl, by decide +kernel, by decide +kernel⟩
theorem sc_Pairs_left : FnScope ["self", "number"] ["self", "number"] (defScope s_Pairs_left) := ⟨rfl, rfl, rfl, by decide +kernel, rfl, by decide +kernel, by decide +kernel⟩
theorem sc_Pairs_left_all : FnScope ["self"] ["self"] (defScope s_Pairs_left_all) := ⟨rfl, rfl, rfl, by decide +kernel, rfl, by decide +kernel, by decide +kernel⟩
theorem sc_Pairs_on_shelf : FnScope ["self", "place", "write", "kernel", "row"] ["self", "place", "write", "kernel"] (defScope s_Pairs_on_shelf) := ⟨rfl, rfl, rfl, by decide +kernel, rfl, by decide +kernel, by decide +kernel⟩
theorem sc_Pairs_reach : FnScope ["self", "place", "write", "kernel", "page", "trail", "rights", "out"] ["self", "place", "write", "kernel"] (defScope s_Pairs_reach) := ⟨rfl, rfl, rfl, by decide +kernel, rfl, by decide +kernel, by decide +kernel⟩
theorem sc_Pairs_load : FnScope ["self", "place", "kernel"] ["self", "place", "kernel"] (defScope s_Pairs_load) := ⟨rfl, rfl, rfl, by decide +kernel, rfl, by decide +kernel, by decide +kernel⟩
theorem sc_Pairs_save : FnScope ["self", "place", "word", "kernel"] ["self", "place", "word", "kernel"] (defScope s_Pairs_save) := ⟨rfl, rfl, rfl, by decide +kernel, rfl, by decide +kernel, by decide +kernel⟩
theorem sc_Pairs_page_at : FnScope ["self", "spot", "page"] ["self", "spot"] (defScope s_Pairs_page_at) := ⟨rfl, rfl, rfl, by decide +kernel, rfl, by decide +kernel, by decide +kernel⟩
theorem sc_Pairs_peek : FnScope ["self", "spot"] ["self", "spot"] (defScope s_Pairs_peek) := ⟨rfl, rfl, rfl, by decide +kernel, rfl, by decide +kernel, by decide +kernel⟩
theorem sc_Pairs_poke : FnScope ["self", "spot", "word"] ["self", "spot", "word"] (defScope s_Pairs_poke) := ⟨rfl, rfl, rfl, by decide +kernel, rfl, by decide +kernel, by decide +kernel⟩
theorem sc_Pairs_turn_root : FnScope ["self", "root"] ["self", "root"] (defScope s_Pairs_turn_root) := ⟨rfl, rfl, rfl, by decide +kernel, rfl, by decide +kernel, by decide +kernel⟩
theorem sc_Pairs_drop : FnScope ["self", "place"] ["self", "place"] (defScope s_Pairs_drop) := ⟨rfl, rfl, rfl, by decide +kernel, rfl, by decide +kernel, by decide +kernel⟩
theorem sc_Pairs_give : FnScope ["self", "page"] ["self", "page"] (defScope s_Pairs_give) := ⟨rfl, rfl, rfl, by decide +kernel, rfl, by decide +kernel, by decide +kernel⟩
theorem sc_Pairs_want : FnScope ["self", "page"] ["self", "page"] (defScope s_Pairs_want) := ⟨rfl, rfl, rfl, by decide +kernel, rfl, by decide +kernel, by decide +kernel⟩
theorem sc_Pairs_pages : FnScope ["self", "page"] ["self"] (defScope s_Pairs_pages) := ⟨rfl, rfl, rfl, by decide +kernel, rfl, by decide +kernel, by decide +kernel⟩
theorem sc_Pairs_size : FnScope ["self"] ["self"] (defScope s_Pairs_size) := ⟨rfl, rfl, rfl, by decide +kernel, rfl, by decide +kernel, by decide +kernel⟩
theorem sc_Pairs_has : FnScope ["self", "page"] ["self", "page"] (defScope s_Pairs_has) := ⟨rfl, rfl, rfl, by decide +kernel, rfl, by decide +kernel, by decide +kernel⟩
theorem sc_Pairs_look_for : FnScope ["self", "page", "cell"] ["self", "page", "cell"] (defScope s_Pairs_look_for) := ⟨rfl, rfl, rfl, by decide +kernel, rfl, by decide +kernel, by decide +kernel⟩
theorem sc_Pairs_read : FnScope ["self", "page", "cell"] ["self", "page", "cell"] (defScope s_Pairs_read) := ⟨rfl, rfl, rfl, by decide +kernel, rfl, by decide +kernel, by decide +kernel⟩
theorem sc_Pairs_write : FnScope ["self", "page", "cell", "word"] ["self", "page", "cell", "word"] (defScope s_Pairs_write) := ⟨rfl, rfl, rfl, by decide +kernel, rfl, by decide +kernel, by decide +kernel⟩
theorem sc_Pairs_put_alone : FnScope ["self", "page"] ["self", "page"] (defScope s_Pairs_put_alone) := ⟨rfl, rfl, rfl, by decide +kernel, rfl, by decide +kernel, by decide +kernel⟩
theorem sc_Pairs_granted : FnScope ["self", "truth"] ["self"] (defScope s_Pairs_granted) := ⟨rfl, rfl, rfl, by decide +kernel, rfl, by decide +kernel, by decide +kernel⟩
theorem sc_Pairs_bring : FnScope ["self", "page"] ["self", "page"] (defScope s_Pairs_bring) := ⟨rfl, rfl, rfl, by decide +kernel, rfl, by decide +kernel, by decide +kernel⟩
theorem sc_Pairs_yield_up : FnScope ["self", "page"] ["self", "page"] (defScope s_Pairs_yield_up) := ⟨rfl, rfl, rfl, by decide +kernel, rfl, by decide +kernel, by decide +kernel⟩
theorem sc_Pairs_frame : FnScope ["self", "page"] ["self", "page"] (defScope s_Pairs_frame) := ⟨rfl, rfl, rfl, by decide +kernel, rfl, by decide +kernel, by decide +kernel⟩
theorem sc_Pairs_clean : FnScope ["self"] ["self"] (defScope s_Pairs_clean) := ⟨rfl, rfl, rfl, by decide +kernel, rfl, by decide +kernel, by decide +kernel⟩
theorem sc_Pairs_guard : FnScope ["self", "page"] ["self", "page"] (defScope s_Pairs_guard) := ⟨rfl, rfl, rfl, by decide +kernel, rfl, by decide +kernel, by decide +kernel⟩
theorem sc_Pairs_lead : FnScope ["self", "page", "frame", "old"] ["self", "page", "frame"] (defScope s_Pairs_lead) := ⟨rfl, rfl, rfl, by decide +kernel, rfl, by decide +kernel, by decide +kernel⟩
theorem sc_Pairs_tables : FnScope ["self"] ["self"] (defScope s_Pairs_tables) := ⟨rfl, rfl, rfl, by decide +kernel, rfl, by decide +kernel, by decide +kernel⟩
theorem sc_Pairs_init : FnScope ["self", "frames", "pages", "most", "outer", "table", "page"] ["self", "frames", "pages", "most"] (defScope s_Pairs_init) := ⟨rfl, rfl, rfl, by decide +kernel, rfl, by decide +kernel, by decide +kernel⟩
theorem sc_Pairs_row_at : FnScope ["self", "page"] ["self", "page"] (defScope s_Pairs_row_at) := ⟨rfl, rfl, rfl, by decide +kernel, rfl, by decide +kernel, by decide +kernel⟩
theorem sc_Pairs_lay_row : FnScope ["self", "page", "row"] ["self", "page", "row"] (defScope s_Pairs_lay_row) := ⟨rfl, rfl, rfl, by decide +kernel, rfl, by decide +kernel, by decide +kernel⟩
theorem sc_Pairs_moved : FnScope ["self", "page", "row", "frame"] ["self", "page"] (defScope s_Pairs_moved) := ⟨rfl, rfl, rfl, by decide +kernel, rfl, by decide +kernel, by decide +kernel⟩
theorem sc_Pairs_shut : FnScope ["self", "page"] ["self", "page"] (defScope s_Pairs_shut) := ⟨rfl, rfl, rfl, by decide +kernel, rfl, by decide +kernel, by decide +kernel⟩
theorem sc_Pairs_washed : FnScope ["self", "page"] ["self"] (defScope s_Pairs_washed) := ⟨rfl, rfl, rfl, by decide +kernel, rfl, by decide +kernel, by decide +kernel⟩
theorem sc_Pairs_loose : FnScope ["self", "page"] ["self", "page"] (defScope s_Pairs_loose) := ⟨rfl, rfl, rfl, by decide +kernel, rfl, by decide +kernel, by decide +kernel⟩
theorem sc_Pairs_soiled : FnScope ["self", "page"] ["self"] (defScope s_Pairs_soiled) := ⟨rfl, rfl, rfl, by decide +kernel, rfl, by decide +kernel, by decide +kernel⟩
theorem sc_Pairs_open_row : FnScope ["self", "page"] ["self", "page"] (defScope s_Pairs_open_row) := ⟨rfl, rfl, rfl, by decide +kernel, rfl, by decide +kernel, by decide +kernel⟩
theorem sc_Pairs_fetch : FnScope ["self", "page", "cell", "trail"] ["self", "page", "cell"] (defScope s_Pairs_fetch) := ⟨rfl, rfl, rfl, by decide +kernel, rfl, by decide +kernel, by decide +kernel⟩
theorem sc_Pairs_deposit : FnScope ["self", "page", "cell", "word", "trail"] ["self", "page", "cell", "word"] (defScope s_Pairs_deposit) := ⟨rfl, rfl, rfl, by decide +kernel, rfl, by decide +kernel, by decide +kernel⟩
theorem sc_Pairs_words_of : FnScope ["self", "page", "frame"] ["self", "page"] (defScope s_Pairs_words_of) := ⟨rfl, rfl, rfl, by decide +kernel, rfl, by decide +kernel, by decide +kernel⟩
theorem sc_Pairs_rows : FnScope ["self", "page"] ["self"] (defScope s_Pairs_rows) := ⟨rfl, rfl, rfl, by decide +kernel, rfl, by decide +kernel, by decide +kernel⟩
theorem sc_Ways_init : FnScope ["self", "most"] ["self", "most"] (defScope s_Ways_init) := ⟨rfl, rfl, rfl, by decide +kernel, rfl, by decide +kernel, by decide +kernel⟩
theorem sc_Kept_init : FnScope ["self", "frames", "pages", "most", "many", "words", "k"] ["self", "frames", "pages", "most", "many"] (defScope s_Kept_init) := ⟨rfl, rfl, rfl, by decide +kernel, rfl, by decide +kernel, by decide +kernel⟩
theorem sc_Fault_init : FnScope ["self", "kind", "place", "level"] ["self", "kind", "place", "level"] (defScope s_Fault_init) := ⟨rfl, rfl, rfl, by decide +kernel, rfl, by decide +kernel, by decide +kernel⟩
def fa0 : List Fa := [.glo "is_whole", .glo "is_word", .glo "is_below", .glo "are_words", .glo "is_image", .glo "words_at", .glo "laid_out", .glo "look_at", .glo "parts_of", .glo "row_of", .glo "page_of", .glo "marks_of", .glo "has", .glo "put", .glo "taken", .glo "look_by", .glo "rights_of", .glo "look", .glo "stamp", .glo "mark", .glo "lets", .glo "_law_cell_at", .glo "_law_whole", .glo "_law_mixed", .glo "_law_led", .glo "_law_right", .glo "_law_copy", .glo "_law_row", .glo "_law_image", .glo "_law_place"]
def fa1 : List Fa := [.glo "_law_number", .glo "_law_deed_of", .glo "_law_told", .glo "_law_answer", .glo "_law_good", .glo "_law_frame_like", .glo "_law_guarded", .glo "_law_keeps", .glo "_law_owned", .glo "_law_stays", .glo "law", .glo "Frames", .glo "Parts", .glo "Shelf", .glo "Pairs", .glo "Ways", .glo "Kept", .glo "Fault", .glo "HouseError", .free "isinstance", .free "int", .free "bool", .free "len", .free "all", .free "list", .free "range", .free "enumerate", .free "divmod", .free "str", .free "max"]
def fa2 : List Fa := [.free "sorted", .free "set", .int "CELLS" 8, .int "MOST_PAGES" 24, .int "MOST" 12, .int "PRESENT" 1, .int "WRITABLE" 2, .int "KERNEL" 4, .int "TOUCHED" 8, .int "SOILED" 16, .int "LAST" 511, .int "PLACES" 512, .int "EACH" 8, .int "MOST_FRAMES" 200, .cls "Frames", .cls "Parts", .cls "Shelf", .cls "Pairs", .noat "Frames" "held", .noat "Frames" "owned", .noat "Frames" "pledged", .noat "Parts" "ground", .noat "Parts" "leads", .noat "Shelf" "most", .noat "Shelf" "line", .noat "Pairs" "held", .noat "Pairs" "base", .noat "Pairs" "ground", .noat "Pairs" "mine", .noat "Pairs" "part"]
def fa3 : List Fa := [.noat "Pairs" "changed", .noat "Pairs" "answers", .noat "Fault" "kind", .noat "Fault" "place", .noat "Fault" "level", .meth "Frames" "size", .meth "Frames" "has", .meth "Frames" "look_at", .meth "Frames" "read", .meth "Frames" "write", .meth "Frames" "take", .meth "Frames" "look_up", .meth "Frames" "share", .meth "Frames" "drop", .meth "Frames" "owners", .meth "Frames" "ask", .meth "Frames" "back", .meth "Frames" "promised", .meth "Parts" "size", .meth "Parts" "frame", .meth "Parts" "need", .meth "Parts" "alone", .meth "Parts" "lead", .meth "Parts" "give", .meth "Parts" "fresh", .meth "Shelf" "seat", .meth "Shelf" "seek", .meth "Shelf" "keep", .meth "Shelf" "drop", .meth "Shelf" "empty"]
def fa4 : List Fa := [.meth "Pairs" "left", .meth "Pairs" "left_all", .meth "Pairs" "on_shelf", .meth "Pairs" "reach", .meth "Pairs" "load", .meth "Pairs" "save", .meth "Pairs" "page_at", .meth "Pairs" "peek", .meth "Pairs" "poke", .meth "Pairs" "turn_root", .meth "Pairs" "drop", .meth "Pairs" "give", .meth "Pairs" "want", .meth "Pairs" "pages", .meth "Pairs" "size", .meth "Pairs" "has", .meth "Pairs" "look_for", .meth "Pairs" "read", .meth "Pairs" "write", .meth "Pairs" "put_alone", .meth "Pairs" "granted", .meth "Pairs" "bring", .meth "Pairs" "yield_up", .meth "Pairs" "frame", .meth "Pairs" "clean", .meth "Pairs" "guard", .meth "Pairs" "lead", .meth "Pairs" "tables", .meth "Pairs" "row_at", .meth "Pairs" "lay_row"]
def fa5 : List Fa := [.meth "Pairs" "moved", .meth "Pairs" "shut", .meth "Pairs" "washed", .meth "Pairs" "loose", .meth "Pairs" "soiled", .meth "Pairs" "open_row", .meth "Pairs" "fetch", .meth "Pairs" "deposit", .meth "Pairs" "words_of", .meth "Pairs" "rows", .mkr "Frames", .mkr "Parts", .mkr "Shelf", .mkr "Pairs", .exm "Fault" "Fault" true]
def fa : List Fa := fa0 ++ (fa1 ++ (fa2 ++ (fa3 ++ (fa4 ++ (fa5)))))
def d_f_is_whole : DefD := ⟨("is_whole", none), "is_whole", "is_whole", defArgs s_f_is_whole, defBody s_f_is_whole, defScope s_f_is_whole, [], []⟩
def d_f_is_word : DefD := ⟨("is_word", none), "is_word", "is_word", defArgs s_f_is_word, defBody s_f_is_word, defScope s_f_is_word, [], []⟩
def d_f_is_below : DefD := ⟨("is_below", none), "is_below", "is_below", defArgs s_f_is_below, defBody s_f_is_below, defScope s_f_is_below, [], []⟩
def d_f_are_words : DefD := ⟨("are_words", none), "are_words", "are_words", defArgs s_f_are_words, defBody s_f_are_words, defScope s_f_are_words, [], []⟩
def d_f_is_image : DefD := ⟨("is_image", none), "is_image", "is_image", defArgs s_f_is_image, defBody s_f_is_image, defScope s_f_is_image, [], []⟩
def d_f_words_at : DefD := ⟨("words_at", none), "words_at", "words_at", defArgs s_f_words_at, defBody s_f_words_at, defScope s_f_words_at, [], []⟩
def d_f_laid_out : DefD := ⟨("laid_out", none), "laid_out", "laid_out", defArgs s_f_laid_out, defBody s_f_laid_out, defScope s_f_laid_out, [], []⟩
def d_f_look_at : DefD := ⟨("look_at", none), "look_at", "look_at", defArgs s_f_look_at, defBody s_f_look_at, defScope s_f_look_at, [], []⟩
def d_f_parts_of : DefD := ⟨("parts_of", none), "parts_of", "parts_of", defArgs s_f_parts_of, defBody s_f_parts_of, defScope s_f_parts_of, [], []⟩
def d_f_row_of : DefD := ⟨("row_of", none), "row_of", "row_of", defArgs s_f_row_of, defBody s_f_row_of, defScope s_f_row_of, [], []⟩
def d_f_page_of : DefD := ⟨("page_of", none), "page_of", "page_of", defArgs s_f_page_of, defBody s_f_page_of, defScope s_f_page_of, [], []⟩
def d_f_marks_of : DefD := ⟨("marks_of", none), "marks_of", "marks_of", defArgs s_f_marks_of, defBody s_f_marks_of, defScope s_f_marks_of, [], []⟩
def d_f_has : DefD := ⟨("has", none), "has", "has", defArgs s_f_has, defBody s_f_has, defScope s_f_has, [], []⟩
def d_f_put : DefD := ⟨("put", none), "put", "put", defArgs s_f_put, defBody s_f_put, defScope s_f_put, [], []⟩
def d_f_taken : DefD := ⟨("taken", none), "taken", "taken", defArgs s_f_taken, defBody s_f_taken, defScope s_f_taken, [], []⟩
def d_f_look_by : DefD := ⟨("look_by", none), "look_by", "look_by", defArgs s_f_look_by, defBody s_f_look_by, defScope s_f_look_by, [], []⟩
def d_f_rights_of : DefD := ⟨("rights_of", none), "rights_of", "rights_of", defArgs s_f_rights_of, defBody s_f_rights_of, defScope s_f_rights_of, [], []⟩
def d_f_look : DefD := ⟨("look", none), "look", "look", defArgs s_f_look, defBody s_f_look, defScope s_f_look, [], []⟩
def d_f_stamp : DefD := ⟨("stamp", none), "stamp", "stamp", defArgs s_f_stamp, defBody s_f_stamp, defScope s_f_stamp, [], []⟩
def d_f_mark : DefD := ⟨("mark", none), "mark", "mark", defArgs s_f_mark, defBody s_f_mark, defScope s_f_mark, [], []⟩
def d_f_lets : DefD := ⟨("lets", none), "lets", "lets", defArgs s_f_lets, defBody s_f_lets, defScope s_f_lets, [], []⟩
def d_f_law_cell_at : DefD := ⟨("_law_cell_at", none), "_law_cell_at", "_law_cell_at", defArgs s_f_law_cell_at, defBody s_f_law_cell_at, defScope s_f_law_cell_at, [], []⟩
def d_f_law_whole : DefD := ⟨("_law_whole", none), "_law_whole", "_law_whole", defArgs s_f_law_whole, defBody s_f_law_whole, defScope s_f_law_whole, [], []⟩
def d_f_law_mixed : DefD := ⟨("_law_mixed", none), "_law_mixed", "_law_mixed", defArgs s_f_law_mixed, defBody s_f_law_mixed, defScope s_f_law_mixed, [], []⟩
def d_f_law_led : DefD := ⟨("_law_led", none), "_law_led", "_law_led", defArgs s_f_law_led, defBody s_f_law_led, defScope s_f_law_led, [], []⟩
def d_f_law_right : DefD := ⟨("_law_right", none), "_law_right", "_law_right", defArgs s_f_law_right, defBody s_f_law_right, defScope s_f_law_right, [], []⟩
def d_f_law_copy : DefD := ⟨("_law_copy", none), "_law_copy", "_law_copy", defArgs s_f_law_copy, defBody s_f_law_copy, defScope s_f_law_copy, [], []⟩
def d_f_law_row : DefD := ⟨("_law_row", none), "_law_row", "_law_row", defArgs s_f_law_row, defBody s_f_law_row, defScope s_f_law_row, [], []⟩
def d_f_law_image : DefD := ⟨("_law_image", none), "_law_image", "_law_image", defArgs s_f_law_image, defBody s_f_law_image, defScope s_f_law_image, [], []⟩
def d_f_law_place : DefD := ⟨("_law_place", none), "_law_place", "_law_place", defArgs s_f_law_place, defBody s_f_law_place, defScope s_f_law_place, [], []⟩
def d_f_law_number : DefD := ⟨("_law_number", none), "_law_number", "_law_number", defArgs s_f_law_number, defBody s_f_law_number, defScope s_f_law_number, [], []⟩
def d_f_law_deed_of : DefD := ⟨("_law_deed_of", none), "_law_deed_of", "_law_deed_of", defArgs s_f_law_deed_of, defBody s_f_law_deed_of, defScope s_f_law_deed_of, [], []⟩
def d_f_law_told : DefD := ⟨("_law_told", none), "_law_told", "_law_told", defArgs s_f_law_told, defBody s_f_law_told, defScope s_f_law_told, [], []⟩
def d_f_law_answer : DefD := ⟨("_law_answer", none), "_law_answer", "_law_answer", defArgs s_f_law_answer, defBody s_f_law_answer, defScope s_f_law_answer, [], []⟩
def d_f_law_good : DefD := ⟨("_law_good", none), "_law_good", "_law_good", defArgs s_f_law_good, defBody s_f_law_good, defScope s_f_law_good, [], []⟩
def d_f_law_frame_like : DefD := ⟨("_law_frame_like", none), "_law_frame_like", "_law_frame_like", defArgs s_f_law_frame_like, defBody s_f_law_frame_like, defScope s_f_law_frame_like, [], []⟩
def d_f_law_guarded : DefD := ⟨("_law_guarded", none), "_law_guarded", "_law_guarded", defArgs s_f_law_guarded, defBody s_f_law_guarded, defScope s_f_law_guarded, [], []⟩
def d_f_law_keeps : DefD := ⟨("_law_keeps", none), "_law_keeps", "_law_keeps", defArgs s_f_law_keeps, defBody s_f_law_keeps, defScope s_f_law_keeps, [], []⟩
def d_f_law_owned : DefD := ⟨("_law_owned", none), "_law_owned", "_law_owned", defArgs s_f_law_owned, defBody s_f_law_owned, defScope s_f_law_owned, [], []⟩
def d_f_law_stays : DefD := ⟨("_law_stays", none), "_law_stays", "_law_stays", defArgs s_f_law_stays, defBody s_f_law_stays, defScope s_f_law_stays, [], []⟩
def d_f_law : DefD := ⟨("law", none), "law", "law", defArgs s_f_law, defBody s_f_law, defScope s_f_law, [], []⟩
def d_Frames_init : DefD := ⟨("Frames", some "__init__"), "__init__", "Frames.__init__", defArgs s_Frames_init, defBody s_Frames_init, defScope s_Frames_init, [], []⟩
def d_Frames_size : DefD := ⟨("Frames", some "size"), "size", "Frames.size", defArgs s_Frames_size, defBody s_Frames_size, defScope s_Frames_size, [], []⟩
def d_Frames_has : DefD := ⟨("Frames", some "has"), "has", "Frames.has", defArgs s_Frames_has, defBody s_Frames_has, defScope s_Frames_has, [], []⟩
def d_Frames_look_at : DefD := ⟨("Frames", some "look_at"), "look_at", "Frames.look_at", defArgs s_Frames_look_at, defBody s_Frames_look_at, defScope s_Frames_look_at, [], []⟩
def d_Frames_read : DefD := ⟨("Frames", some "read"), "read", "Frames.read", defArgs s_Frames_read, defBody s_Frames_read, defScope s_Frames_read, [], []⟩
def d_Frames_write : DefD := ⟨("Frames", some "write"), "write", "Frames.write", defArgs s_Frames_write, defBody s_Frames_write, defScope s_Frames_write, [], []⟩
def d_Frames_take : DefD := ⟨("Frames", some "take"), "take", "Frames.take", defArgs s_Frames_take, defBody s_Frames_take, defScope s_Frames_take, [], []⟩
def d_Frames_look_up : DefD := ⟨("Frames", some "look_up"), "look_up", "Frames.look_up", defArgs s_Frames_look_up, defBody s_Frames_look_up, defScope s_Frames_look_up, [], []⟩
def d_Frames_share : DefD := ⟨("Frames", some "share"), "share", "Frames.share", defArgs s_Frames_share, defBody s_Frames_share, defScope s_Frames_share, [], []⟩
def d_Frames_drop : DefD := ⟨("Frames", some "drop"), "drop", "Frames.drop", defArgs s_Frames_drop, defBody s_Frames_drop, defScope s_Frames_drop, [], []⟩
def d_Frames_owners : DefD := ⟨("Frames", some "owners"), "owners", "Frames.owners", defArgs s_Frames_owners, defBody s_Frames_owners, defScope s_Frames_owners, [], []⟩
def d_Frames_ask : DefD := ⟨("Frames", some "ask"), "ask", "Frames.ask", defArgs s_Frames_ask, defBody s_Frames_ask, defScope s_Frames_ask, [], []⟩
def d_Frames_back : DefD := ⟨("Frames", some "back"), "back", "Frames.back", defArgs s_Frames_back, defBody s_Frames_back, defScope s_Frames_back, [], []⟩
def d_Frames_promised : DefD := ⟨("Frames", some "promised"), "promised", "Frames.promised", defArgs s_Frames_promised, defBody s_Frames_promised, defScope s_Frames_promised, [], []⟩
def d_Parts_init : DefD := ⟨("Parts", some "__init__"), "__init__", "Parts.__init__", defArgs s_Parts_init, defBody s_Parts_init, defScope s_Parts_init, [], []⟩
def d_Parts_size : DefD := ⟨("Parts", some "size"), "size", "Parts.size", defArgs s_Parts_size, defBody s_Parts_size, defScope s_Parts_size, [], []⟩
def d_Parts_frame : DefD := ⟨("Parts", some "frame"), "frame", "Parts.frame", defArgs s_Parts_frame, defBody s_Parts_frame, defScope s_Parts_frame, [], []⟩
def d_Parts_need : DefD := ⟨("Parts", some "need"), "need", "Parts.need", defArgs s_Parts_need, defBody s_Parts_need, defScope s_Parts_need, [], []⟩
def d_Parts_alone : DefD := ⟨("Parts", some "alone"), "alone", "Parts.alone", defArgs s_Parts_alone, defBody s_Parts_alone, defScope s_Parts_alone, [], []⟩
def d_Parts_lead : DefD := ⟨("Parts", some "lead"), "lead", "Parts.lead", defArgs s_Parts_lead, defBody s_Parts_lead, defScope s_Parts_lead, [], []⟩
def d_Parts_give : DefD := ⟨("Parts", some "give"), "give", "Parts.give", defArgs s_Parts_give, defBody s_Parts_give, defScope s_Parts_give, [], []⟩
def d_Parts_fresh : DefD := ⟨("Parts", some "fresh"), "fresh", "Parts.fresh", defArgs s_Parts_fresh, defBody s_Parts_fresh, defScope s_Parts_fresh, [], []⟩
def d_Shelf_init : DefD := ⟨("Shelf", some "__init__"), "__init__", "Shelf.__init__", defArgs s_Shelf_init, defBody s_Shelf_init, defScope s_Shelf_init, [], []⟩
def d_Shelf_seat : DefD := ⟨("Shelf", some "seat"), "seat", "Shelf.seat", defArgs s_Shelf_seat, defBody s_Shelf_seat, defScope s_Shelf_seat, [], []⟩
def d_Shelf_seek : DefD := ⟨("Shelf", some "seek"), "seek", "Shelf.seek", defArgs s_Shelf_seek, defBody s_Shelf_seek, defScope s_Shelf_seek, [], []⟩
def d_Shelf_keep : DefD := ⟨("Shelf", some "keep"), "keep", "Shelf.keep", defArgs s_Shelf_keep, defBody s_Shelf_keep, defScope s_Shelf_keep, [], []⟩
def d_Shelf_drop : DefD := ⟨("Shelf", some "drop"), "drop", "Shelf.drop", defArgs s_Shelf_drop, defBody s_Shelf_drop, defScope s_Shelf_drop, [], []⟩
def d_Shelf_empty : DefD := ⟨("Shelf", some "empty"), "empty", "Shelf.empty", defArgs s_Shelf_empty, defBody s_Shelf_empty, defScope s_Shelf_empty, [], []⟩
def d_Pairs_left : DefD := ⟨("Pairs", some "left"), "left", "Ways.left", defArgs s_Pairs_left, defBody s_Pairs_left, defScope s_Pairs_left, [], []⟩
def d_Pairs_left_all : DefD := ⟨("Pairs", some "left_all"), "left_all", "Ways.left_all", defArgs s_Pairs_left_all, defBody s_Pairs_left_all, defScope s_Pairs_left_all, [], []⟩
def d_Pairs_on_shelf : DefD := ⟨("Pairs", some "on_shelf"), "on_shelf", "Ways.on_shelf", defArgs s_Pairs_on_shelf, defBody s_Pairs_on_shelf, defScope s_Pairs_on_shelf, [], []⟩
def d_Pairs_reach : DefD := ⟨("Pairs", some "reach"), "reach", "Ways.reach", defArgs s_Pairs_reach, defBody s_Pairs_reach, defScope s_Pairs_reach, [], []⟩
def d_Pairs_load : DefD := ⟨("Pairs", some "load"), "load", "Ways.load", defArgs s_Pairs_load, defBody s_Pairs_load, defScope s_Pairs_load, [], []⟩
def d_Pairs_save : DefD := ⟨("Pairs", some "save"), "save", "Ways.save", defArgs s_Pairs_save, defBody s_Pairs_save, defScope s_Pairs_save, [], []⟩
def d_Pairs_page_at : DefD := ⟨("Pairs", some "page_at"), "page_at", "Ways.page_at", defArgs s_Pairs_page_at, defBody s_Pairs_page_at, defScope s_Pairs_page_at, [], []⟩
def d_Pairs_peek : DefD := ⟨("Pairs", some "peek"), "peek", "Ways.peek", defArgs s_Pairs_peek, defBody s_Pairs_peek, defScope s_Pairs_peek, [], []⟩
def d_Pairs_poke : DefD := ⟨("Pairs", some "poke"), "poke", "Ways.poke", defArgs s_Pairs_poke, defBody s_Pairs_poke, defScope s_Pairs_poke, [], []⟩
def d_Pairs_turn_root : DefD := ⟨("Pairs", some "turn_root"), "turn_root", "Ways.turn_root", defArgs s_Pairs_turn_root, defBody s_Pairs_turn_root, defScope s_Pairs_turn_root, [], []⟩
def d_Pairs_drop : DefD := ⟨("Pairs", some "drop"), "drop", "Ways.drop", defArgs s_Pairs_drop, defBody s_Pairs_drop, defScope s_Pairs_drop, [], []⟩
def d_Pairs_give : DefD := ⟨("Pairs", some "give"), "give", "Ways.give", defArgs s_Pairs_give, defBody s_Pairs_give, defScope s_Pairs_give, [], []⟩
def d_Pairs_want : DefD := ⟨("Pairs", some "want"), "want", "Ways.want", defArgs s_Pairs_want, defBody s_Pairs_want, defScope s_Pairs_want, [], []⟩
def d_Pairs_pages : DefD := ⟨("Pairs", some "pages"), "pages", "Ways.pages", defArgs s_Pairs_pages, defBody s_Pairs_pages, defScope s_Pairs_pages, [], []⟩
def d_Pairs_size : DefD := ⟨("Pairs", some "size"), "size", "Kept.size", defArgs s_Pairs_size, defBody s_Pairs_size, defScope s_Pairs_size, [], []⟩
def d_Pairs_has : DefD := ⟨("Pairs", some "has"), "has", "Kept.has", defArgs s_Pairs_has, defBody s_Pairs_has, defScope s_Pairs_has, [], []⟩
def d_Pairs_look_for : DefD := ⟨("Pairs", some "look_for"), "look_for", "Kept.look_for", defArgs s_Pairs_look_for, defBody s_Pairs_look_for, defScope s_Pairs_look_for, [], []⟩
def d_Pairs_read : DefD := ⟨("Pairs", some "read"), "read", "Kept.read", defArgs s_Pairs_read, defBody s_Pairs_read, defScope s_Pairs_read, [], []⟩
def d_Pairs_write : DefD := ⟨("Pairs", some "write"), "write", "Kept.write", defArgs s_Pairs_write, defBody s_Pairs_write, defScope s_Pairs_write, [], []⟩
def d_Pairs_put_alone : DefD := ⟨("Pairs", some "put_alone"), "put_alone", "Kept.put_alone", defArgs s_Pairs_put_alone, defBody s_Pairs_put_alone, defScope s_Pairs_put_alone, [], []⟩
def d_Pairs_granted : DefD := ⟨("Pairs", some "granted"), "granted", "Kept.granted", defArgs s_Pairs_granted, defBody s_Pairs_granted, defScope s_Pairs_granted, [], []⟩
def d_Pairs_bring : DefD := ⟨("Pairs", some "bring"), "bring", "Kept.bring", defArgs s_Pairs_bring, defBody s_Pairs_bring, defScope s_Pairs_bring, [], []⟩
def d_Pairs_yield_up : DefD := ⟨("Pairs", some "yield_up"), "yield_up", "Kept.yield_up", defArgs s_Pairs_yield_up, defBody s_Pairs_yield_up, defScope s_Pairs_yield_up, [], []⟩
def d_Pairs_frame : DefD := ⟨("Pairs", some "frame"), "frame", "Kept.frame", defArgs s_Pairs_frame, defBody s_Pairs_frame, defScope s_Pairs_frame, [], []⟩
def d_Pairs_clean : DefD := ⟨("Pairs", some "clean"), "clean", "Kept.clean", defArgs s_Pairs_clean, defBody s_Pairs_clean, defScope s_Pairs_clean, [], []⟩
def d_Pairs_guard : DefD := ⟨("Pairs", some "guard"), "guard", "Kept.guard", defArgs s_Pairs_guard, defBody s_Pairs_guard, defScope s_Pairs_guard, [], []⟩
def d_Pairs_lead : DefD := ⟨("Pairs", some "lead"), "lead", "Kept.lead", defArgs s_Pairs_lead, defBody s_Pairs_lead, defScope s_Pairs_lead, [], []⟩
def d_Pairs_tables : DefD := ⟨("Pairs", some "tables"), "tables", "Kept.tables", defArgs s_Pairs_tables, defBody s_Pairs_tables, defScope s_Pairs_tables, [], []⟩
def d_Pairs_init : DefD := ⟨("Pairs", some "__init__"), "__init__", "Pairs.__init__", defArgs s_Pairs_init, defBody s_Pairs_init, defScope s_Pairs_init, [], []⟩
def d_Pairs_row_at : DefD := ⟨("Pairs", some "row_at"), "row_at", "Pairs.row_at", defArgs s_Pairs_row_at, defBody s_Pairs_row_at, defScope s_Pairs_row_at, [], []⟩
def d_Pairs_lay_row : DefD := ⟨("Pairs", some "lay_row"), "lay_row", "Pairs.lay_row", defArgs s_Pairs_lay_row, defBody s_Pairs_lay_row, defScope s_Pairs_lay_row, [], []⟩
def d_Pairs_moved : DefD := ⟨("Pairs", some "moved"), "moved", "Pairs.moved", defArgs s_Pairs_moved, defBody s_Pairs_moved, defScope s_Pairs_moved, [], []⟩
def d_Pairs_shut : DefD := ⟨("Pairs", some "shut"), "shut", "Pairs.shut", defArgs s_Pairs_shut, defBody s_Pairs_shut, defScope s_Pairs_shut, [], []⟩
def d_Pairs_washed : DefD := ⟨("Pairs", some "washed"), "washed", "Pairs.washed", defArgs s_Pairs_washed, defBody s_Pairs_washed, defScope s_Pairs_washed, [], []⟩
def d_Pairs_loose : DefD := ⟨("Pairs", some "loose"), "loose", "Pairs.loose", defArgs s_Pairs_loose, defBody s_Pairs_loose, defScope s_Pairs_loose, [], []⟩
def d_Pairs_soiled : DefD := ⟨("Pairs", some "soiled"), "soiled", "Pairs.soiled", defArgs s_Pairs_soiled, defBody s_Pairs_soiled, defScope s_Pairs_soiled, [], []⟩
def d_Pairs_open_row : DefD := ⟨("Pairs", some "open_row"), "open_row", "Pairs.open_row", defArgs s_Pairs_open_row, defBody s_Pairs_open_row, defScope s_Pairs_open_row, [], []⟩
def d_Pairs_fetch : DefD := ⟨("Pairs", some "fetch"), "fetch", "Pairs.fetch", defArgs s_Pairs_fetch, defBody s_Pairs_fetch, defScope s_Pairs_fetch, [], []⟩
def d_Pairs_deposit : DefD := ⟨("Pairs", some "deposit"), "deposit", "Pairs.deposit", defArgs s_Pairs_deposit, defBody s_Pairs_deposit, defScope s_Pairs_deposit, [], []⟩
def d_Pairs_words_of : DefD := ⟨("Pairs", some "words_of"), "words_of", "Pairs.words_of", defArgs s_Pairs_words_of, defBody s_Pairs_words_of, defScope s_Pairs_words_of, [], []⟩
def d_Pairs_rows : DefD := ⟨("Pairs", some "rows"), "rows", "Pairs.rows", defArgs s_Pairs_rows, defBody s_Pairs_rows, defScope s_Pairs_rows, [], []⟩
def d_Ways_init : DefD := ⟨("Ways", some "__init__"), "__init__", "Ways.__init__", defArgs s_Ways_init, defBody s_Ways_init, defScope s_Ways_init, [], []⟩
def d_Kept_init : DefD := ⟨("Kept", some "__init__"), "__init__", "Kept.__init__", defArgs s_Kept_init, defBody s_Kept_init, defScope s_Kept_init, [], []⟩
def d_Fault_init : DefD := ⟨("Fault", some "__init__"), "__init__", "Fault.__init__", defArgs s_Fault_init, defBody s_Fault_init, defScope s_Fault_init, [], []⟩
def fn0 : List DefD := [d_f_is_whole, d_f_is_word, d_f_is_below, d_f_are_words, d_f_is_image, d_f_words_at, d_f_laid_out, d_f_look_at, d_f_parts_of, d_f_row_of, d_f_page_of, d_f_marks_of, d_f_has, d_f_put, d_f_taken, d_f_look_by, d_f_rights_of, d_f_look, d_f_stamp, d_f_mark, d_f_lets, d_f_law_cell_at, d_f_law_whole, d_f_law_mixed, d_f_law_led, d_f_law_right, d_f_law_copy, d_f_law_row, d_f_law_image, d_f_law_place]
def fn1 : List DefD := [d_f_law_number, d_f_law_deed_of, d_f_law_told, d_f_law_answer, d_f_law_good, d_f_law_frame_like, d_f_law_guarded, d_f_law_keeps, d_f_law_owned, d_f_law_stays, d_f_law, d_Frames_init, d_Frames_size, d_Frames_has, d_Frames_look_at, d_Frames_read, d_Frames_write, d_Frames_take, d_Frames_look_up, d_Frames_share, d_Frames_drop, d_Frames_owners, d_Frames_ask, d_Frames_back, d_Frames_promised, d_Parts_init, d_Parts_size, d_Parts_frame, d_Parts_need, d_Parts_alone]
def fn2 : List DefD := [d_Parts_lead, d_Parts_give, d_Parts_fresh, d_Shelf_init, d_Shelf_seat, d_Shelf_seek, d_Shelf_keep, d_Shelf_drop, d_Shelf_empty, d_Pairs_left, d_Pairs_left_all, d_Pairs_on_shelf, d_Pairs_reach, d_Pairs_load, d_Pairs_save, d_Pairs_page_at, d_Pairs_peek, d_Pairs_poke, d_Pairs_turn_root, d_Pairs_drop, d_Pairs_give, d_Pairs_want, d_Pairs_pages, d_Pairs_size, d_Pairs_has, d_Pairs_look_for, d_Pairs_read, d_Pairs_write, d_Pairs_put_alone, d_Pairs_granted]
def fn3 : List DefD := [d_Pairs_bring, d_Pairs_yield_up, d_Pairs_frame, d_Pairs_clean, d_Pairs_guard, d_Pairs_lead, d_Pairs_tables, d_Pairs_init, d_Pairs_row_at, d_Pairs_lay_row, d_Pairs_moved, d_Pairs_shut, d_Pairs_washed, d_Pairs_loose, d_Pairs_soiled, d_Pairs_open_row, d_Pairs_fetch, d_Pairs_deposit, d_Pairs_words_of, d_Pairs_rows, d_Ways_init, d_Kept_init, d_Fault_init]
def fn : List DefD := fn0 ++ (fn1 ++ (fn2 ++ (fn3)))
/-- C is an exception class over ValueError with an own __init__ -/
def oexB (K : PySem.W.Frag) (C : Addr) : Bool := match K.lookup C with
  | some ⟨.type "type", _, .cls cd, ⟨[_, _, _, _, some (.builtin n), _]⟩⟩ => (match cd.mro with
    | .ref D :: bm => decide (D = C) && (decide (n = "ValueError.__new__") && (!cd.hasDel && (cd.hasDict && PySem.HandSPX.refsVE bm)))
    | _ => false)
  | _ => false
theorem oexB_ok {K : PySem.W.Frag} {C : Addr} (h : oexB K C = true) : ∃ nm q N bs bm sn sub ab col dd k0 k1 k2 k3 k5, K.lookup C = some (excClassObj nm q C N bs bm true sn sub ab col dd k0 k1 k2 k3 k5 "ValueError.__new__") ∧ PySem.HandSPX.refsVE bm = true := by
  unfold oexB at h
  split at h
  · rename_i dd cd k0 k1 k2 k3 n k5 e
    split at h
    · rename_i D bm em
      obtain ⟨h1, h⟩ := ba h
      obtain ⟨h2, h⟩ := ba h
      obtain ⟨h3, h⟩ := ba h
      obtain ⟨h4, h5⟩ := ba h
      obtain ⟨nm, bs, mro, ns, qn, hd, sn, sub, ab, col, del⟩ := cd
      dsimp only at em h3 h4
      have h3' : del = false := by simpa using h3
      subst em h3' h4
      rw [of_decide_eq_true h1, of_decide_eq_true h2] at e
      exact ⟨nm, qn, ns, bs, bm, sn, sub, ab, col, dd, k0, k1, k2, k3, k5, e, h5⟩
    · cases h
  · cases h
/-- a def or a built-in that a class's name reaches -/
def clsVB (K : PySem.W.Frag) (C : Addr) (m : Str) (u : Value) : Bool := match PySem.W.findCls K (.ref C) (.type "type") m with
  | some (.val v) => decide (v = u)
  | _ => false
theorem clsVB_ok {K : PySem.W.Frag} {C : Addr} {m : Str} {u : Value} (h : clsVB K C m u = true) : PySem.W.findCls K (.ref C) (.type "type") m = some (.val u) := by
  unfold clsVB at h
  split at h
  · rename_i v e
    rw [e, of_decide_eq_true h]
  · cases h
def creadB (K : PySem.W.Frag) (C : Addr) : Bool := PySem.W.readsIn K C (.type "type") && eqO (PySem.W.specialIn K (.ref C) "__getattribute__") (some (some (.builtin "type.__getattribute__")))
theorem creadB_ok {K : PySem.W.Frag} {C : Addr} (h : creadB K C = true) : ClX.CRead K C (.type "type") := ⟨(ba h).1, eqO_ok (ba h).2⟩
/-- what else is asked -/
def exB (K : PySem.W.Frag) : Bool :=
  oexB K (ga K "Fault") && (eqO (PySem.W.findIn K (.ref (ga K "Fault")) "__setattr__") (some (some (.builtin "object.__setattr__"))) && (decide (PySem.W.subIn K (.ref (ga K "Fault")) (.type "BaseException") = some true) &&
  (decide (PySem.W.typeIn K (.ref (ga K "Fault")) = some (.type "type")) && (PySem.W.keepIn K (.ref (ga K "Fault")) && (xfB K (ga K "Fault") && (eqO (PySem.W.findIn K (.ref (ga K "Fault")) "__init__") (some (some (.ref (ma K (ga K "Fault") "__init__")))) &&
  (decide (PySem.W.typeIn K (.ref (ma K (ga K "Fault") "__init__")) = some (.type "function")) && (creadB K (ga K "HouseError") && (clsVB K (ga K "HouseError") "__init__" (.builtin "ValueError.__init__") &&
  (creadB K (ga K "Ways") && (clsVB K (ga K "Ways") "__init__" (.ref (ma K (ga K "Ways") "__init__")) && (creadB K (ga K "Kept") && clsVB K (ga K "Kept") "__init__" (.ref (ma K (ga K "Kept") "__init__"))))))))))))))
/-- a def's function object -/
def fdat (K : PySem.W.Frag) (p : Str × Option Str) : FuncData := match K.lookup (fAd K p) with
  | some ⟨_, _, .func fd, _⟩ => fd
  | _ => PySem.W.fnOf "" "" (defArgs (.Pass ⟨0, 0, 0, 0⟩)) [] (defScope (.Pass ⟨0, 0, 0, 0⟩)) .none .none .none .none none .none .none
/-- THE WRITTEN PART: what every def of the program leans on -/
structure Tx (K : PySem.W.Frag) (mg : Str → Option Value) : Prop where
  ex : ∃ h : Heap, K.In h ∧ h.Ns mainGlobals mg
  says : SaysD fa fn K
  more : exB K = true
section
variable {K : PySem.W.Frag} {mg : Str → Option Value}
theorem fdat_of {x qual : Str} {a : Arguments} {b : List Stmt} {sc : Scope} {p : Str × Option Str} (h : ∃ fd, FunD K x qual a b sc [] [] (fAd K p) fd) : FunD K x qual a b sc [] [] (fAd K p) (fdat K p) := by
  obtain ⟨fd, F⟩ := h
  obtain ⟨oc, od, dV, kV, doc, pm, an, cdv, ct, osl, e, lk, hcd, r⟩ := id F.ex
  have z : fdat K p = fd := by
    unfold fdat
    rw [lk]
  rw [z]
  exact F
theorem g_is_whole (T : Tx K mg) : mg "is_whole" = some (.ref (ga K "is_whole")) := by
  obtain ⟨h, X, G⟩ := T.ex
  exact glo_ok X G (T.says.fact 0)
theorem g_is_word (T : Tx K mg) : mg "is_word" = some (.ref (ga K "is_word")) := by
  obtain ⟨h, X, G⟩ := T.ex
  exact glo_ok X G (T.says.fact 1)
theorem g_is_below (T : Tx K mg) : mg "is_below" = some (.ref (ga K "is_below")) := by
  obtain ⟨h, X, G⟩ := T.ex
  exact glo_ok X G (T.says.fact 2)
theorem g_are_words (T : Tx K mg) : mg "are_words" = some (.ref (ga K "are_words")) := by
  obtain ⟨h, X, G⟩ := T.ex
  exact glo_ok X G (T.says.fact 3)
theorem g_is_image (T : Tx K mg) : mg "is_image" = some (.ref (ga K "is_image")) := by
  obtain ⟨h, X, G⟩ := T.ex
  exact glo_ok X G (T.says.fact 4)
theorem g_words_at (T : Tx K mg) : mg "words_at" = some (.ref (ga K "words_at")) := by
  obtain ⟨h, X, G⟩ := T.ex
  exact glo_ok X G (T.says.fact 5)
theorem g_laid_out (T : Tx K mg) : mg "laid_out" = some (.ref (ga K "laid_out")) := by
  obtain ⟨h, X, G⟩ := T.ex
  exact glo_ok X G (T.says.fact 6)
theorem g_look_at (T : Tx K mg) : mg "look_at" = some (.ref (ga K "look_at")) := by
  obtain ⟨h, X, G⟩ := T.ex
  exact glo_ok X G (T.says.fact 7)
theorem g_parts_of (T : Tx K mg) : mg "parts_of" = some (.ref (ga K "parts_of")) := by
  obtain ⟨h, X, G⟩ := T.ex
  exact glo_ok X G (T.says.fact 8)
theorem g_row_of (T : Tx K mg) : mg "row_of" = some (.ref (ga K "row_of")) := by
  obtain ⟨h, X, G⟩ := T.ex
  exact glo_ok X G (T.says.fact 9)
theorem g_page_of (T : Tx K mg) : mg "page_of" = some (.ref (ga K "page_of")) := by
  obtain ⟨h, X, G⟩ := T.ex
  exact glo_ok X G (T.says.fact 10)
theorem g_marks_of (T : Tx K mg) : mg "marks_of" = some (.ref (ga K "marks_of")) := by
  obtain ⟨h, X, G⟩ := T.ex
  exact glo_ok X G (T.says.fact 11)
theorem g_has (T : Tx K mg) : mg "has" = some (.ref (ga K "has")) := by
  obtain ⟨h, X, G⟩ := T.ex
  exact glo_ok X G (T.says.fact 12)
theorem g_put (T : Tx K mg) : mg "put" = some (.ref (ga K "put")) := by
  obtain ⟨h, X, G⟩ := T.ex
  exact glo_ok X G (T.says.fact 13)
theorem g_taken (T : Tx K mg) : mg "taken" = some (.ref (ga K "taken")) := by
  obtain ⟨h, X, G⟩ := T.ex
  exact glo_ok X G (T.says.fact 14)
theorem g_look_by (T : Tx K mg) : mg "look_by" = some (.ref (ga K "look_by")) := by
  obtain ⟨h, X, G⟩ := T.ex
  exact glo_ok X G (T.says.fact 15)
theorem g_rights_of (T : Tx K mg) : mg "rights_of" = some (.ref (ga K "rights_of")) := by
  obtain ⟨h, X, G⟩ := T.ex
  exact glo_ok X G (T.says.fact 16)
theorem g_look (T : Tx K mg) : mg "look" = some (.ref (ga K "look")) := by
  obtain ⟨h, X, G⟩ := T.ex
  exact glo_ok X G (T.says.fact 17)
theorem g_stamp (T : Tx K mg) : mg "stamp" = some (.ref (ga K "stamp")) := by
  obtain ⟨h, X, G⟩ := T.ex
  exact glo_ok X G (T.says.fact 18)
theorem g_mark (T : Tx K mg) : mg "mark" = some (.ref (ga K "mark")) := by
  obtain ⟨h, X, G⟩ := T.ex
  exact glo_ok X G (T.says.fact 19)
theorem g_lets (T : Tx K mg) : mg "lets" = some (.ref (ga K "lets")) := by
  obtain ⟨h, X, G⟩ := T.ex
  exact glo_ok X G (T.says.fact 20)
theorem g_law_cell_at (T : Tx K mg) : mg "_law_cell_at" = some (.ref (ga K "_law_cell_at")) := by
  obtain ⟨h, X, G⟩ := T.ex
  exact glo_ok X G (T.says.fact 21)
theorem g_law_whole (T : Tx K mg) : mg "_law_whole" = some (.ref (ga K "_law_whole")) := by
  obtain ⟨h, X, G⟩ := T.ex
  exact glo_ok X G (T.says.fact 22)
theorem g_law_mixed (T : Tx K mg) : mg "_law_mixed" = some (.ref (ga K "_law_mixed")) := by
  obtain ⟨h, X, G⟩ := T.ex
  exact glo_ok X G (T.says.fact 23)
theorem g_law_led (T : Tx K mg) : mg "_law_led" = some (.ref (ga K "_law_led")) := by
  obtain ⟨h, X, G⟩ := T.ex
  exact glo_ok X G (T.says.fact 24)
theorem g_law_right (T : Tx K mg) : mg "_law_right" = some (.ref (ga K "_law_right")) := by
  obtain ⟨h, X, G⟩ := T.ex
  exact glo_ok X G (T.says.fact 25)
theorem g_law_copy (T : Tx K mg) : mg "_law_copy" = some (.ref (ga K "_law_copy")) := by
  obtain ⟨h, X, G⟩ := T.ex
  exact glo_ok X G (T.says.fact 26)
theorem g_law_row (T : Tx K mg) : mg "_law_row" = some (.ref (ga K "_law_row")) := by
  obtain ⟨h, X, G⟩ := T.ex
  exact glo_ok X G (T.says.fact 27)
theorem g_law_image (T : Tx K mg) : mg "_law_image" = some (.ref (ga K "_law_image")) := by
  obtain ⟨h, X, G⟩ := T.ex
  exact glo_ok X G (T.says.fact 28)
theorem g_law_place (T : Tx K mg) : mg "_law_place" = some (.ref (ga K "_law_place")) := by
  obtain ⟨h, X, G⟩ := T.ex
  exact glo_ok X G (T.says.fact 29)
theorem g_law_number (T : Tx K mg) : mg "_law_number" = some (.ref (ga K "_law_number")) := by
  obtain ⟨h, X, G⟩ := T.ex
  exact glo_ok X G (T.says.fact 30)
theorem g_law_deed_of (T : Tx K mg) : mg "_law_deed_of" = some (.ref (ga K "_law_deed_of")) := by
  obtain ⟨h, X, G⟩ := T.ex
  exact glo_ok X G (T.says.fact 31)
theorem g_law_told (T : Tx K mg) : mg "_law_told" = some (.ref (ga K "_law_told")) := by
  obtain ⟨h, X, G⟩ := T.ex
  exact glo_ok X G (T.says.fact 32)
theorem g_law_answer (T : Tx K mg) : mg "_law_answer" = some (.ref (ga K "_law_answer")) := by
  obtain ⟨h, X, G⟩ := T.ex
  exact glo_ok X G (T.says.fact 33)
theorem g_law_good (T : Tx K mg) : mg "_law_good" = some (.ref (ga K "_law_good")) := by
  obtain ⟨h, X, G⟩ := T.ex
  exact glo_ok X G (T.says.fact 34)
theorem g_law_frame_like (T : Tx K mg) : mg "_law_frame_like" = some (.ref (ga K "_law_frame_like")) := by
  obtain ⟨h, X, G⟩ := T.ex
  exact glo_ok X G (T.says.fact 35)
theorem g_law_guarded (T : Tx K mg) : mg "_law_guarded" = some (.ref (ga K "_law_guarded")) := by
  obtain ⟨h, X, G⟩ := T.ex
  exact glo_ok X G (T.says.fact 36)
theorem g_law_keeps (T : Tx K mg) : mg "_law_keeps" = some (.ref (ga K "_law_keeps")) := by
  obtain ⟨h, X, G⟩ := T.ex
  exact glo_ok X G (T.says.fact 37)
theorem g_law_owned (T : Tx K mg) : mg "_law_owned" = some (.ref (ga K "_law_owned")) := by
  obtain ⟨h, X, G⟩ := T.ex
  exact glo_ok X G (T.says.fact 38)
theorem g_law_stays (T : Tx K mg) : mg "_law_stays" = some (.ref (ga K "_law_stays")) := by
  obtain ⟨h, X, G⟩ := T.ex
  exact glo_ok X G (T.says.fact 39)
theorem g_law (T : Tx K mg) : mg "law" = some (.ref (ga K "law")) := by
  obtain ⟨h, X, G⟩ := T.ex
  exact glo_ok X G (T.says.fact 40)
theorem g_Frames (T : Tx K mg) : mg "Frames" = some (.ref (ga K "Frames")) := by
  obtain ⟨h, X, G⟩ := T.ex
  exact glo_ok X G (T.says.fact 41)
theorem g_Parts (T : Tx K mg) : mg "Parts" = some (.ref (ga K "Parts")) := by
  obtain ⟨h, X, G⟩ := T.ex
  exact glo_ok X G (T.says.fact 42)
theorem g_Shelf (T : Tx K mg) : mg "Shelf" = some (.ref (ga K "Shelf")) := by
  obtain ⟨h, X, G⟩ := T.ex
  exact glo_ok X G (T.says.fact 43)
theorem g_Pairs (T : Tx K mg) : mg "Pairs" = some (.ref (ga K "Pairs")) := by
  obtain ⟨h, X, G⟩ := T.ex
  exact glo_ok X G (T.says.fact 44)
theorem g_Ways (T : Tx K mg) : mg "Ways" = some (.ref (ga K "Ways")) := by
  obtain ⟨h, X, G⟩ := T.ex
  exact glo_ok X G (T.says.fact 45)
theorem g_Kept (T : Tx K mg) : mg "Kept" = some (.ref (ga K "Kept")) := by
  obtain ⟨h, X, G⟩ := T.ex
  exact glo_ok X G (T.says.fact 46)
theorem g_Fault (T : Tx K mg) : mg "Fault" = some (.ref (ga K "Fault")) := by
  obtain ⟨h, X, G⟩ := T.ex
  exact glo_ok X G (T.says.fact 47)
theorem g_HouseError (T : Tx K mg) : mg "HouseError" = some (.ref (ga K "HouseError")) := by
  obtain ⟨h, X, G⟩ := T.ex
  exact glo_ok X G (T.says.fact 48)
theorem b_isinstance (T : Tx K mg) : mg "isinstance" = none := by
  obtain ⟨h, X, G⟩ := T.ex
  exact free_ok X G (T.says.fact 49)
theorem b_int (T : Tx K mg) : mg "int" = none := by
  obtain ⟨h, X, G⟩ := T.ex
  exact free_ok X G (T.says.fact 50)
theorem b_bool (T : Tx K mg) : mg "bool" = none := by
  obtain ⟨h, X, G⟩ := T.ex
  exact free_ok X G (T.says.fact 51)
theorem b_len (T : Tx K mg) : mg "len" = none := by
  obtain ⟨h, X, G⟩ := T.ex
  exact free_ok X G (T.says.fact 52)
theorem b_all (T : Tx K mg) : mg "all" = none := by
  obtain ⟨h, X, G⟩ := T.ex
  exact free_ok X G (T.says.fact 53)
theorem b_list (T : Tx K mg) : mg "list" = none := by
  obtain ⟨h, X, G⟩ := T.ex
  exact free_ok X G (T.says.fact 54)
theorem b_range (T : Tx K mg) : mg "range" = none := by
  obtain ⟨h, X, G⟩ := T.ex
  exact free_ok X G (T.says.fact 55)
theorem b_enumerate (T : Tx K mg) : mg "enumerate" = none := by
  obtain ⟨h, X, G⟩ := T.ex
  exact free_ok X G (T.says.fact 56)
theorem b_divmod (T : Tx K mg) : mg "divmod" = none := by
  obtain ⟨h, X, G⟩ := T.ex
  exact free_ok X G (T.says.fact 57)
theorem b_str (T : Tx K mg) : mg "str" = none := by
  obtain ⟨h, X, G⟩ := T.ex
  exact free_ok X G (T.says.fact 58)
theorem b_max (T : Tx K mg) : mg "max" = none := by
  obtain ⟨h, X, G⟩ := T.ex
  exact free_ok X G (T.says.fact 59)
theorem b_sorted (T : Tx K mg) : mg "sorted" = none := by
  obtain ⟨h, X, G⟩ := T.ex
  exact free_ok X G (T.says.fact 60)
theorem b_set (T : Tx K mg) : mg "set" = none := by
  obtain ⟨h, X, G⟩ := T.ex
  exact free_ok X G (T.says.fact 61)
theorem i_CELLS (T : Tx K mg) : ∃ t, mg "CELLS" = some (.int 8 t) := by
  obtain ⟨h, X, G⟩ := T.ex
  exact int_ok X G (T.says.fact 62)
theorem i_MOST_PAGES (T : Tx K mg) : ∃ t, mg "MOST_PAGES" = some (.int 24 t) := by
  obtain ⟨h, X, G⟩ := T.ex
  exact int_ok X G (T.says.fact 63)
theorem i_MOST (T : Tx K mg) : ∃ t, mg "MOST" = some (.int 12 t) := by
  obtain ⟨h, X, G⟩ := T.ex
  exact int_ok X G (T.says.fact 64)
theorem i_PRESENT (T : Tx K mg) : ∃ t, mg "PRESENT" = some (.int 1 t) := by
  obtain ⟨h, X, G⟩ := T.ex
  exact int_ok X G (T.says.fact 65)
theorem i_WRITABLE (T : Tx K mg) : ∃ t, mg "WRITABLE" = some (.int 2 t) := by
  obtain ⟨h, X, G⟩ := T.ex
  exact int_ok X G (T.says.fact 66)
theorem i_KERNEL (T : Tx K mg) : ∃ t, mg "KERNEL" = some (.int 4 t) := by
  obtain ⟨h, X, G⟩ := T.ex
  exact int_ok X G (T.says.fact 67)
theorem i_TOUCHED (T : Tx K mg) : ∃ t, mg "TOUCHED" = some (.int 8 t) := by
  obtain ⟨h, X, G⟩ := T.ex
  exact int_ok X G (T.says.fact 68)
theorem i_SOILED (T : Tx K mg) : ∃ t, mg "SOILED" = some (.int 16 t) := by
  obtain ⟨h, X, G⟩ := T.ex
  exact int_ok X G (T.says.fact 69)
theorem i_LAST (T : Tx K mg) : ∃ t, mg "LAST" = some (.int 511 t) := by
  obtain ⟨h, X, G⟩ := T.ex
  exact int_ok X G (T.says.fact 70)
theorem i_PLACES (T : Tx K mg) : ∃ t, mg "PLACES" = some (.int 512 t) := by
  obtain ⟨h, X, G⟩ := T.ex
  exact int_ok X G (T.says.fact 71)
theorem i_EACH (T : Tx K mg) : ∃ t, mg "EACH" = some (.int 8 t) := by
  obtain ⟨h, X, G⟩ := T.ex
  exact int_ok X G (T.says.fact 72)
theorem i_MOST_FRAMES (T : Tx K mg) : ∃ t, mg "MOST_FRAMES" = some (.int 200 t) := by
  obtain ⟨h, X, G⟩ := T.ex
  exact int_ok X G (T.says.fact 73)
theorem c_Frames (T : Tx K mg) : Cls K (ga K "Frames") := cls_ok (T.says.fact 74)
theorem c_Parts (T : Tx K mg) : Cls K (ga K "Parts") := cls_ok (T.says.fact 75)
theorem c_Shelf (T : Tx K mg) : Cls K (ga K "Shelf") := cls_ok (T.says.fact 76)
theorem c_Pairs (T : Tx K mg) : Cls K (ga K "Pairs") := cls_ok (T.says.fact 77)
theorem n_Frames_held (T : Tx K mg) : NoAttr K (ga K "Frames") "held" := noat_ok (T.says.fact 78)
theorem n_Frames_owned (T : Tx K mg) : NoAttr K (ga K "Frames") "owned" := noat_ok (T.says.fact 79)
theorem n_Frames_pledged (T : Tx K mg) : NoAttr K (ga K "Frames") "pledged" := noat_ok (T.says.fact 80)
theorem n_Parts_ground (T : Tx K mg) : NoAttr K (ga K "Parts") "ground" := noat_ok (T.says.fact 81)
theorem n_Parts_leads (T : Tx K mg) : NoAttr K (ga K "Parts") "leads" := noat_ok (T.says.fact 82)
theorem n_Shelf_most (T : Tx K mg) : NoAttr K (ga K "Shelf") "most" := noat_ok (T.says.fact 83)
theorem n_Shelf_line (T : Tx K mg) : NoAttr K (ga K "Shelf") "line" := noat_ok (T.says.fact 84)
theorem n_Pairs_held (T : Tx K mg) : NoAttr K (ga K "Pairs") "held" := noat_ok (T.says.fact 85)
theorem n_Pairs_base (T : Tx K mg) : NoAttr K (ga K "Pairs") "base" := noat_ok (T.says.fact 86)
theorem n_Pairs_ground (T : Tx K mg) : NoAttr K (ga K "Pairs") "ground" := noat_ok (T.says.fact 87)
theorem n_Pairs_mine (T : Tx K mg) : NoAttr K (ga K "Pairs") "mine" := noat_ok (T.says.fact 88)
theorem n_Pairs_part (T : Tx K mg) : NoAttr K (ga K "Pairs") "part" := noat_ok (T.says.fact 89)
theorem n_Pairs_changed (T : Tx K mg) : NoAttr K (ga K "Pairs") "changed" := noat_ok (T.says.fact 90)
theorem n_Pairs_answers (T : Tx K mg) : NoAttr K (ga K "Pairs") "answers" := noat_ok (T.says.fact 91)
theorem n_Fault_kind (T : Tx K mg) : NoAttr K (ga K "Fault") "kind" := noat_ok (T.says.fact 92)
theorem n_Fault_place (T : Tx K mg) : NoAttr K (ga K "Fault") "place" := noat_ok (T.says.fact 93)
theorem n_Fault_level (T : Tx K mg) : NoAttr K (ga K "Fault") "level" := noat_ok (T.says.fact 94)
theorem m_Frames_size (T : Tx K mg) : Meth K (ga K "Frames") "size" (ma K (ga K "Frames") "size") := meth_ok (T.says.fact 95)
theorem m_Frames_has (T : Tx K mg) : Meth K (ga K "Frames") "has" (ma K (ga K "Frames") "has") := meth_ok (T.says.fact 96)
theorem m_Frames_look_at (T : Tx K mg) : Meth K (ga K "Frames") "look_at" (ma K (ga K "Frames") "look_at") := meth_ok (T.says.fact 97)
theorem m_Frames_read (T : Tx K mg) : Meth K (ga K "Frames") "read" (ma K (ga K "Frames") "read") := meth_ok (T.says.fact 98)
theorem m_Frames_write (T : Tx K mg) : Meth K (ga K "Frames") "write" (ma K (ga K "Frames") "write") := meth_ok (T.says.fact 99)
theorem m_Frames_take (T : Tx K mg) : Meth K (ga K "Frames") "take" (ma K (ga K "Frames") "take") := meth_ok (T.says.fact 100)
theorem m_Frames_look_up (T : Tx K mg) : Meth K (ga K "Frames") "look_up" (ma K (ga K "Frames") "look_up") := meth_ok (T.says.fact 101)
theorem m_Frames_share (T : Tx K mg) : Meth K (ga K "Frames") "share" (ma K (ga K "Frames") "share") := meth_ok (T.says.fact 102)
theorem m_Frames_drop (T : Tx K mg) : Meth K (ga K "Frames") "drop" (ma K (ga K "Frames") "drop") := meth_ok (T.says.fact 103)
theorem m_Frames_owners (T : Tx K mg) : Meth K (ga K "Frames") "owners" (ma K (ga K "Frames") "owners") := meth_ok (T.says.fact 104)
theorem m_Frames_ask (T : Tx K mg) : Meth K (ga K "Frames") "ask" (ma K (ga K "Frames") "ask") := meth_ok (T.says.fact 105)
theorem m_Frames_back (T : Tx K mg) : Meth K (ga K "Frames") "back" (ma K (ga K "Frames") "back") := meth_ok (T.says.fact 106)
theorem m_Frames_promised (T : Tx K mg) : Meth K (ga K "Frames") "promised" (ma K (ga K "Frames") "promised") := meth_ok (T.says.fact 107)
theorem m_Parts_size (T : Tx K mg) : Meth K (ga K "Parts") "size" (ma K (ga K "Parts") "size") := meth_ok (T.says.fact 108)
theorem m_Parts_frame (T : Tx K mg) : Meth K (ga K "Parts") "frame" (ma K (ga K "Parts") "frame") := meth_ok (T.says.fact 109)
theorem m_Parts_need (T : Tx K mg) : Meth K (ga K "Parts") "need" (ma K (ga K "Parts") "need") := meth_ok (T.says.fact 110)
theorem m_Parts_alone (T : Tx K mg) : Meth K (ga K "Parts") "alone" (ma K (ga K "Parts") "alone") := meth_ok (T.says.fact 111)
theorem m_Parts_lead (T : Tx K mg) : Meth K (ga K "Parts") "lead" (ma K (ga K "Parts") "lead") := meth_ok (T.says.fact 112)
theorem m_Parts_give (T : Tx K mg) : Meth K (ga K "Parts") "give" (ma K (ga K "Parts") "give") := meth_ok (T.says.fact 113)
theorem m_Parts_fresh (T : Tx K mg) : Meth K (ga K "Parts") "fresh" (ma K (ga K "Parts") "fresh") := meth_ok (T.says.fact 114)
theorem m_Shelf_seat (T : Tx K mg) : Meth K (ga K "Shelf") "seat" (ma K (ga K "Shelf") "seat") := meth_ok (T.says.fact 115)
theorem m_Shelf_seek (T : Tx K mg) : Meth K (ga K "Shelf") "seek" (ma K (ga K "Shelf") "seek") := meth_ok (T.says.fact 116)
theorem m_Shelf_keep (T : Tx K mg) : Meth K (ga K "Shelf") "keep" (ma K (ga K "Shelf") "keep") := meth_ok (T.says.fact 117)
theorem m_Shelf_drop (T : Tx K mg) : Meth K (ga K "Shelf") "drop" (ma K (ga K "Shelf") "drop") := meth_ok (T.says.fact 118)
theorem m_Shelf_empty (T : Tx K mg) : Meth K (ga K "Shelf") "empty" (ma K (ga K "Shelf") "empty") := meth_ok (T.says.fact 119)
theorem m_Pairs_left (T : Tx K mg) : Meth K (ga K "Pairs") "left" (ma K (ga K "Pairs") "left") := meth_ok (T.says.fact 120)
theorem m_Pairs_left_all (T : Tx K mg) : Meth K (ga K "Pairs") "left_all" (ma K (ga K "Pairs") "left_all") := meth_ok (T.says.fact 121)
theorem m_Pairs_on_shelf (T : Tx K mg) : Meth K (ga K "Pairs") "on_shelf" (ma K (ga K "Pairs") "on_shelf") := meth_ok (T.says.fact 122)
theorem m_Pairs_reach (T : Tx K mg) : Meth K (ga K "Pairs") "reach" (ma K (ga K "Pairs") "reach") := meth_ok (T.says.fact 123)
theorem m_Pairs_load (T : Tx K mg) : Meth K (ga K "Pairs") "load" (ma K (ga K "Pairs") "load") := meth_ok (T.says.fact 124)
theorem m_Pairs_save (T : Tx K mg) : Meth K (ga K "Pairs") "save" (ma K (ga K "Pairs") "save") := meth_ok (T.says.fact 125)
theorem m_Pairs_page_at (T : Tx K mg) : Meth K (ga K "Pairs") "page_at" (ma K (ga K "Pairs") "page_at") := meth_ok (T.says.fact 126)
theorem m_Pairs_peek (T : Tx K mg) : Meth K (ga K "Pairs") "peek" (ma K (ga K "Pairs") "peek") := meth_ok (T.says.fact 127)
theorem m_Pairs_poke (T : Tx K mg) : Meth K (ga K "Pairs") "poke" (ma K (ga K "Pairs") "poke") := meth_ok (T.says.fact 128)
theorem m_Pairs_turn_root (T : Tx K mg) : Meth K (ga K "Pairs") "turn_root" (ma K (ga K "Pairs") "turn_root") := meth_ok (T.says.fact 129)
theorem m_Pairs_drop (T : Tx K mg) : Meth K (ga K "Pairs") "drop" (ma K (ga K "Pairs") "drop") := meth_ok (T.says.fact 130)
theorem m_Pairs_give (T : Tx K mg) : Meth K (ga K "Pairs") "give" (ma K (ga K "Pairs") "give") := meth_ok (T.says.fact 131)
theorem m_Pairs_want (T : Tx K mg) : Meth K (ga K "Pairs") "want" (ma K (ga K "Pairs") "want") := meth_ok (T.says.fact 132)
theorem m_Pairs_pages (T : Tx K mg) : Meth K (ga K "Pairs") "pages" (ma K (ga K "Pairs") "pages") := meth_ok (T.says.fact 133)
theorem m_Pairs_size (T : Tx K mg) : Meth K (ga K "Pairs") "size" (ma K (ga K "Pairs") "size") := meth_ok (T.says.fact 134)
theorem m_Pairs_has (T : Tx K mg) : Meth K (ga K "Pairs") "has" (ma K (ga K "Pairs") "has") := meth_ok (T.says.fact 135)
theorem m_Pairs_look_for (T : Tx K mg) : Meth K (ga K "Pairs") "look_for" (ma K (ga K "Pairs") "look_for") := meth_ok (T.says.fact 136)
theorem m_Pairs_read (T : Tx K mg) : Meth K (ga K "Pairs") "read" (ma K (ga K "Pairs") "read") := meth_ok (T.says.fact 137)
theorem m_Pairs_write (T : Tx K mg) : Meth K (ga K "Pairs") "write" (ma K (ga K "Pairs") "write") := meth_ok (T.says.fact 138)
theorem m_Pairs_put_alone (T : Tx K mg) : Meth K (ga K "Pairs") "put_alone" (ma K (ga K "Pairs") "put_alone") := meth_ok (T.says.fact 139)
theorem m_Pairs_granted (T : Tx K mg) : Meth K (ga K "Pairs") "granted" (ma K (ga K "Pairs") "granted") := meth_ok (T.says.fact 140)
theorem m_Pairs_bring (T : Tx K mg) : Meth K (ga K "Pairs") "bring" (ma K (ga K "Pairs") "bring") := meth_ok (T.says.fact 141)
theorem m_Pairs_yield_up (T : Tx K mg) : Meth K (ga K "Pairs") "yield_up" (ma K (ga K "Pairs") "yield_up") := meth_ok (T.says.fact 142)
theorem m_Pairs_frame (T : Tx K mg) : Meth K (ga K "Pairs") "frame" (ma K (ga K "Pairs") "frame") := meth_ok (T.says.fact 143)
theorem m_Pairs_clean (T : Tx K mg) : Meth K (ga K "Pairs") "clean" (ma K (ga K "Pairs") "clean") := meth_ok (T.says.fact 144)
theorem m_Pairs_guard (T : Tx K mg) : Meth K (ga K "Pairs") "guard" (ma K (ga K "Pairs") "guard") := meth_ok (T.says.fact 145)
theorem m_Pairs_lead (T : Tx K mg) : Meth K (ga K "Pairs") "lead" (ma K (ga K "Pairs") "lead") := meth_ok (T.says.fact 146)
theorem m_Pairs_tables (T : Tx K mg) : Meth K (ga K "Pairs") "tables" (ma K (ga K "Pairs") "tables") := meth_ok (T.says.fact 147)
theorem m_Pairs_row_at (T : Tx K mg) : Meth K (ga K "Pairs") "row_at" (ma K (ga K "Pairs") "row_at") := meth_ok (T.says.fact 148)
theorem m_Pairs_lay_row (T : Tx K mg) : Meth K (ga K "Pairs") "lay_row" (ma K (ga K "Pairs") "lay_row") := meth_ok (T.says.fact 149)
theorem m_Pairs_moved (T : Tx K mg) : Meth K (ga K "Pairs") "moved" (ma K (ga K "Pairs") "moved") := meth_ok (T.says.fact 150)
theorem m_Pairs_shut (T : Tx K mg) : Meth K (ga K "Pairs") "shut" (ma K (ga K "Pairs") "shut") := meth_ok (T.says.fact 151)
theorem m_Pairs_washed (T : Tx K mg) : Meth K (ga K "Pairs") "washed" (ma K (ga K "Pairs") "washed") := meth_ok (T.says.fact 152)
theorem m_Pairs_loose (T : Tx K mg) : Meth K (ga K "Pairs") "loose" (ma K (ga K "Pairs") "loose") := meth_ok (T.says.fact 153)
theorem m_Pairs_soiled (T : Tx K mg) : Meth K (ga K "Pairs") "soiled" (ma K (ga K "Pairs") "soiled") := meth_ok (T.says.fact 154)
theorem m_Pairs_open_row (T : Tx K mg) : Meth K (ga K "Pairs") "open_row" (ma K (ga K "Pairs") "open_row") := meth_ok (T.says.fact 155)
theorem m_Pairs_fetch (T : Tx K mg) : Meth K (ga K "Pairs") "fetch" (ma K (ga K "Pairs") "fetch") := meth_ok (T.says.fact 156)
theorem m_Pairs_deposit (T : Tx K mg) : Meth K (ga K "Pairs") "deposit" (ma K (ga K "Pairs") "deposit") := meth_ok (T.says.fact 157)
theorem m_Pairs_words_of (T : Tx K mg) : Meth K (ga K "Pairs") "words_of" (ma K (ga K "Pairs") "words_of") := meth_ok (T.says.fact 158)
theorem m_Pairs_rows (T : Tx K mg) : Meth K (ga K "Pairs") "rows" (ma K (ga K "Pairs") "rows") := meth_ok (T.says.fact 159)
theorem k_Frames (T : Tx K mg) : Mk K (ga K "Frames") (ma K (ga K "Frames") "__init__") := mkr_ok (T.says.fact 160)
theorem k_Parts (T : Tx K mg) : Mk K (ga K "Parts") (ma K (ga K "Parts") "__init__") := mkr_ok (T.says.fact 161)
theorem k_Shelf (T : Tx K mg) : Mk K (ga K "Shelf") (ma K (ga K "Shelf") "__init__") := mkr_ok (T.says.fact 162)
theorem k_Pairs (T : Tx K mg) : Mk K (ga K "Pairs") (ma K (ga K "Pairs") "__init__") := mkr_ok (T.says.fact 163)
theorem x_Fault (T : Tx K mg) : PySem.W.exmOne K (.ref (ga K "Fault")) (.ref (ga K "Fault")) = some true := exm_ok (T.says.fact 164)
theorem fd_f_is_whole (T : Tx K mg) : FunD K "is_whole" "is_whole" (defArgs s_f_is_whole) (defBody s_f_is_whole) (defScope s_f_is_whole) [] [] (fAd K ("is_whole", none)) (fdat K ("is_whole", none)) := fdat_of (T.says.def_ 0)
theorem fd_f_is_word (T : Tx K mg) : FunD K "is_word" "is_word" (defArgs s_f_is_word) (defBody s_f_is_word) (defScope s_f_is_word) [] [] (fAd K ("is_word", none)) (fdat K ("is_word", none)) := fdat_of (T.says.def_ 1)
theorem fd_f_is_below (T : Tx K mg) : FunD K "is_below" "is_below" (defArgs s_f_is_below) (defBody s_f_is_below) (defScope s_f_is_below) [] [] (fAd K ("is_below", none)) (fdat K ("is_below", none)) := fdat_of (T.says.def_ 2)
theorem fd_f_are_words (T : Tx K mg) : FunD K "are_words" "are_words" (defArgs s_f_are_words) (defBody s_f_are_words) (defScope s_f_are_words) [] [] (fAd K ("are_words", none)) (fdat K ("are_words", none)) := fdat_of (T.says.def_ 3)
theorem fd_f_is_image (T : Tx K mg) : FunD K "is_image" "is_image" (defArgs s_f_is_image) (defBody s_f_is_image) (defScope s_f_is_image) [] [] (fAd K ("is_image", none)) (fdat K ("is_image", none)) := fdat_of (T.says.def_ 4)
theorem fd_f_words_at (T : Tx K mg) : FunD K "words_at" "words_at" (defArgs s_f_words_at) (defBody s_f_words_at) (defScope s_f_words_at) [] [] (fAd K ("words_at", none)) (fdat K ("words_at", none)) := fdat_of (T.says.def_ 5)
theorem fd_f_laid_out (T : Tx K mg) : FunD K "laid_out" "laid_out" (defArgs s_f_laid_out) (defBody s_f_laid_out) (defScope s_f_laid_out) [] [] (fAd K ("laid_out", none)) (fdat K ("laid_out", none)) := fdat_of (T.says.def_ 6)
theorem fd_f_look_at (T : Tx K mg) : FunD K "look_at" "look_at" (defArgs s_f_look_at) (defBody s_f_look_at) (defScope s_f_look_at) [] [] (fAd K ("look_at", none)) (fdat K ("look_at", none)) := fdat_of (T.says.def_ 7)
theorem fd_f_parts_of (T : Tx K mg) : FunD K "parts_of" "parts_of" (defArgs s_f_parts_of) (defBody s_f_parts_of) (defScope s_f_parts_of) [] [] (fAd K ("parts_of", none)) (fdat K ("parts_of", none)) := fdat_of (T.says.def_ 8)
theorem fd_f_row_of (T : Tx K mg) : FunD K "row_of" "row_of" (defArgs s_f_row_of) (defBody s_f_row_of) (defScope s_f_row_of) [] [] (fAd K ("row_of", none)) (fdat K ("row_of", none)) := fdat_of (T.says.def_ 9)
theorem fd_f_page_of (T : Tx K mg) : FunD K "page_of" "page_of" (defArgs s_f_page_of) (defBody s_f_page_of) (defScope s_f_page_of) [] [] (fAd K ("page_of", none)) (fdat K ("page_of", none)) := fdat_of (T.says.def_ 10)
theorem fd_f_marks_of (T : Tx K mg) : FunD K "marks_of" "marks_of" (defArgs s_f_marks_of) (defBody s_f_marks_of) (defScope s_f_marks_of) [] [] (fAd K ("marks_of", none)) (fdat K ("marks_of", none)) := fdat_of (T.says.def_ 11)
theorem fd_f_has (T : Tx K mg) : FunD K "has" "has" (defArgs s_f_has) (defBody s_f_has) (defScope s_f_has) [] [] (fAd K ("has", none)) (fdat K ("has", none)) := fdat_of (T.says.def_ 12)
theorem fd_f_put (T : Tx K mg) : FunD K "put" "put" (defArgs s_f_put) (defBody s_f_put) (defScope s_f_put) [] [] (fAd K ("put", none)) (fdat K ("put", none)) := fdat_of (T.says.def_ 13)
theorem fd_f_taken (T : Tx K mg) : FunD K "taken" "taken" (defArgs s_f_taken) (defBody s_f_taken) (defScope s_f_taken) [] [] (fAd K ("taken", none)) (fdat K ("taken", none)) := fdat_of (T.says.def_ 14)
theorem fd_f_look_by (T : Tx K mg) : FunD K "look_by" "look_by" (defArgs s_f_look_by) (defBody s_f_look_by) (defScope s_f_look_by) [] [] (fAd K ("look_by", none)) (fdat K ("look_by", none)) := fdat_of (T.says.def_ 15)
theorem fd_f_rights_of (T : Tx K mg) : FunD K "rights_of" "rights_of" (defArgs s_f_rights_of) (defBody s_f_rights_of) (defScope s_f_rights_of) [] [] (fAd K ("rights_of", none)) (fdat K ("rights_of", none)) := fdat_of (T.says.def_ 16)
theorem fd_f_look (T : Tx K mg) : FunD K "look" "look" (defArgs s_f_look) (defBody s_f_look) (defScope s_f_look) [] [] (fAd K ("look", none)) (fdat K ("look", none)) := fdat_of (T.says.def_ 17)
theorem fd_f_stamp (T : Tx K mg) : FunD K "stamp" "stamp" (defArgs s_f_stamp) (defBody s_f_stamp) (defScope s_f_stamp) [] [] (fAd K ("stamp", none)) (fdat K ("stamp", none)) := fdat_of (T.says.def_ 18)
theorem fd_f_mark (T : Tx K mg) : FunD K "mark" "mark" (defArgs s_f_mark) (defBody s_f_mark) (defScope s_f_mark) [] [] (fAd K ("mark", none)) (fdat K ("mark", none)) := fdat_of (T.says.def_ 19)
theorem fd_f_lets (T : Tx K mg) : FunD K "lets" "lets" (defArgs s_f_lets) (defBody s_f_lets) (defScope s_f_lets) [] [] (fAd K ("lets", none)) (fdat K ("lets", none)) := fdat_of (T.says.def_ 20)
theorem fd_f_law_cell_at (T : Tx K mg) : FunD K "_law_cell_at" "_law_cell_at" (defArgs s_f_law_cell_at) (defBody s_f_law_cell_at) (defScope s_f_law_cell_at) [] [] (fAd K ("_law_cell_at", none)) (fdat K ("_law_cell_at", none)) := fdat_of (T.says.def_ 21)
theorem fd_f_law_whole (T : Tx K mg) : FunD K "_law_whole" "_law_whole" (defArgs s_f_law_whole) (defBody s_f_law_whole) (defScope s_f_law_whole) [] [] (fAd K ("_law_whole", none)) (fdat K ("_law_whole", none)) := fdat_of (T.says.def_ 22)
theorem fd_f_law_mixed (T : Tx K mg) : FunD K "_law_mixed" "_law_mixed" (defArgs s_f_law_mixed) (defBody s_f_law_mixed) (defScope s_f_law_mixed) [] [] (fAd K ("_law_mixed", none)) (fdat K ("_law_mixed", none)) := fdat_of (T.says.def_ 23)
theorem fd_f_law_led (T : Tx K mg) : FunD K "_law_led" "_law_led" (defArgs s_f_law_led) (defBody s_f_law_led) (defScope s_f_law_led) [] [] (fAd K ("_law_led", none)) (fdat K ("_law_led", none)) := fdat_of (T.says.def_ 24)
theorem fd_f_law_right (T : Tx K mg) : FunD K "_law_right" "_law_right" (defArgs s_f_law_right) (defBody s_f_law_right) (defScope s_f_law_right) [] [] (fAd K ("_law_right", none)) (fdat K ("_law_right", none)) := fdat_of (T.says.def_ 25)
theorem fd_f_law_copy (T : Tx K mg) : FunD K "_law_copy" "_law_copy" (defArgs s_f_law_copy) (defBody s_f_law_copy) (defScope s_f_law_copy) [] [] (fAd K ("_law_copy", none)) (fdat K ("_law_copy", none)) := fdat_of (T.says.def_ 26)
theorem fd_f_law_row (T : Tx K mg) : FunD K "_law_row" "_law_row" (defArgs s_f_law_row) (defBody s_f_law_row) (defScope s_f_law_row) [] [] (fAd K ("_law_row", none)) (fdat K ("_law_row", none)) := fdat_of (T.says.def_ 27)
theorem fd_f_law_image (T : Tx K mg) : FunD K "_law_image" "_law_image" (defArgs s_f_law_image) (defBody s_f_law_image) (defScope s_f_law_image) [] [] (fAd K ("_law_image", none)) (fdat K ("_law_image", none)) := fdat_of (T.says.def_ 28)
theorem fd_f_law_place (T : Tx K mg) : FunD K "_law_place" "_law_place" (defArgs s_f_law_place) (defBody s_f_law_place) (defScope s_f_law_place) [] [] (fAd K ("_law_place", none)) (fdat K ("_law_place", none)) := fdat_of (T.says.def_ 29)
theorem fd_f_law_number (T : Tx K mg) : FunD K "_law_number" "_law_number" (defArgs s_f_law_number) (defBody s_f_law_number) (defScope s_f_law_number) [] [] (fAd K ("_law_number", none)) (fdat K ("_law_number", none)) := fdat_of (T.says.def_ 30)
theorem fd_f_law_deed_of (T : Tx K mg) : FunD K "_law_deed_of" "_law_deed_of" (defArgs s_f_law_deed_of) (defBody s_f_law_deed_of) (defScope s_f_law_deed_of) [] [] (fAd K ("_law_deed_of", none)) (fdat K ("_law_deed_of", none)) := fdat_of (T.says.def_ 31)
theorem fd_f_law_told (T : Tx K mg) : FunD K "_law_told" "_law_told" (defArgs s_f_law_told) (defBody s_f_law_told) (defScope s_f_law_told) [] [] (fAd K ("_law_told", none)) (fdat K ("_law_told", none)) := fdat_of (T.says.def_ 32)
theorem fd_f_law_answer (T : Tx K mg) : FunD K "_law_answer" "_law_answer" (defArgs s_f_law_answer) (defBody s_f_law_answer) (defScope s_f_law_answer) [] [] (fAd K ("_law_answer", none)) (fdat K ("_law_answer", none)) := fdat_of (T.says.def_ 33)
theorem fd_f_law_good (T : Tx K mg) : FunD K "_law_good" "_law_good" (defArgs s_f_law_good) (defBody s_f_law_good) (defScope s_f_law_good) [] [] (fAd K ("_law_good", none)) (fdat K ("_law_good", none)) := fdat_of (T.says.def_ 34)
theorem fd_f_law_frame_like (T : Tx K mg) : FunD K "_law_frame_like" "_law_frame_like" (defArgs s_f_law_frame_like) (defBody s_f_law_frame_like) (defScope s_f_law_frame_like) [] [] (fAd K ("_law_frame_like", none)) (fdat K ("_law_frame_like", none)) := fdat_of (T.says.def_ 35)
theorem fd_f_law_guarded (T : Tx K mg) : FunD K "_law_guarded" "_law_guarded" (defArgs s_f_law_guarded) (defBody s_f_law_guarded) (defScope s_f_law_guarded) [] [] (fAd K ("_law_guarded", none)) (fdat K ("_law_guarded", none)) := fdat_of (T.says.def_ 36)
theorem fd_f_law_keeps (T : Tx K mg) : FunD K "_law_keeps" "_law_keeps" (defArgs s_f_law_keeps) (defBody s_f_law_keeps) (defScope s_f_law_keeps) [] [] (fAd K ("_law_keeps", none)) (fdat K ("_law_keeps", none)) := fdat_of (T.says.def_ 37)
theorem fd_f_law_owned (T : Tx K mg) : FunD K "_law_owned" "_law_owned" (defArgs s_f_law_owned) (defBody s_f_law_owned) (defScope s_f_law_owned) [] [] (fAd K ("_law_owned", none)) (fdat K ("_law_owned", none)) := fdat_of (T.says.def_ 38)
theorem fd_f_law_stays (T : Tx K mg) : FunD K "_law_stays" "_law_stays" (defArgs s_f_law_stays) (defBody s_f_law_stays) (defScope s_f_law_stays) [] [] (fAd K ("_law_stays", none)) (fdat K ("_law_stays", none)) := fdat_of (T.says.def_ 39)
theorem fd_f_law (T : Tx K mg) : FunD K "law" "law" (defArgs s_f_law) (defBody s_f_law) (defScope s_f_law) [] [] (fAd K ("law", none)) (fdat K ("law", none)) := fdat_of (T.says.def_ 40)
theorem fd_Frames_init (T : Tx K mg) : FunD K "__init__" "Frames.__init__" (defArgs s_Frames_init) (defBody s_Frames_init) (defScope s_Frames_init) [] [] (fAd K ("Frames", some "__init__")) (fdat K ("Frames", some "__init__")) := fdat_of (T.says.def_ 41)
theorem fd_Frames_size (T : Tx K mg) : FunD K "size" "Frames.size" (defArgs s_Frames_size) (defBody s_Frames_size) (defScope s_Frames_size) [] [] (fAd K ("Frames", some "size")) (fdat K ("Frames", some "size")) := fdat_of (T.says.def_ 42)
theorem fd_Frames_has (T : Tx K mg) : FunD K "has" "Frames.has" (defArgs s_Frames_has) (defBody s_Frames_has) (defScope s_Frames_has) [] [] (fAd K ("Frames", some "has")) (fdat K ("Frames", some "has")) := fdat_of (T.says.def_ 43)
theorem fd_Frames_look_at (T : Tx K mg) : FunD K "look_at" "Frames.look_at" (defArgs s_Frames_look_at) (defBody s_Frames_look_at) (defScope s_Frames_look_at) [] [] (fAd K ("Frames", some "look_at")) (fdat K ("Frames", some "look_at")) := fdat_of (T.says.def_ 44)
theorem fd_Frames_read (T : Tx K mg) : FunD K "read" "Frames.read" (defArgs s_Frames_read) (defBody s_Frames_read) (defScope s_Frames_read) [] [] (fAd K ("Frames", some "read")) (fdat K ("Frames", some "read")) := fdat_of (T.says.def_ 45)
theorem fd_Frames_write (T : Tx K mg) : FunD K "write" "Frames.write" (defArgs s_Frames_write) (defBody s_Frames_write) (defScope s_Frames_write) [] [] (fAd K ("Frames", some "write")) (fdat K ("Frames", some "write")) := fdat_of (T.says.def_ 46)
theorem fd_Frames_take (T : Tx K mg) : FunD K "take" "Frames.take" (defArgs s_Frames_take) (defBody s_Frames_take) (defScope s_Frames_take) [] [] (fAd K ("Frames", some "take")) (fdat K ("Frames", some "take")) := fdat_of (T.says.def_ 47)
theorem fd_Frames_look_up (T : Tx K mg) : FunD K "look_up" "Frames.look_up" (defArgs s_Frames_look_up) (defBody s_Frames_look_up) (defScope s_Frames_look_up) [] [] (fAd K ("Frames", some "look_up")) (fdat K ("Frames", some "look_up")) := fdat_of (T.says.def_ 48)
theorem fd_Frames_share (T : Tx K mg) : FunD K "share" "Frames.share" (defArgs s_Frames_share) (defBody s_Frames_share) (defScope s_Frames_share) [] [] (fAd K ("Frames", some "share")) (fdat K ("Frames", some "share")) := fdat_of (T.says.def_ 49)
theorem fd_Frames_drop (T : Tx K mg) : FunD K "drop" "Frames.drop" (defArgs s_Frames_drop) (defBody s_Frames_drop) (defScope s_Frames_drop) [] [] (fAd K ("Frames", some "drop")) (fdat K ("Frames", some "drop")) := fdat_of (T.says.def_ 50)
theorem fd_Frames_owners (T : Tx K mg) : FunD K "owners" "Frames.owners" (defArgs s_Frames_owners) (defBody s_Frames_owners) (defScope s_Frames_owners) [] [] (fAd K ("Frames", some "owners")) (fdat K ("Frames", some "owners")) := fdat_of (T.says.def_ 51)
theorem fd_Frames_ask (T : Tx K mg) : FunD K "ask" "Frames.ask" (defArgs s_Frames_ask) (defBody s_Frames_ask) (defScope s_Frames_ask) [] [] (fAd K ("Frames", some "ask")) (fdat K ("Frames", some "ask")) := fdat_of (T.says.def_ 52)
theorem fd_Frames_back (T : Tx K mg) : FunD K "back" "Frames.back" (defArgs s_Frames_back) (defBody s_Frames_back) (defScope s_Frames_back) [] [] (fAd K ("Frames", some "back")) (fdat K ("Frames", some "back")) := fdat_of (T.says.def_ 53)
theorem fd_Frames_promised (T : Tx K mg) : FunD K "promised" "Frames.promised" (defArgs s_Frames_promised) (defBody s_Frames_promised) (defScope s_Frames_promised) [] [] (fAd K ("Frames", some "promised")) (fdat K ("Frames", some "promised")) := fdat_of (T.says.def_ 54)
theorem fd_Parts_init (T : Tx K mg) : FunD K "__init__" "Parts.__init__" (defArgs s_Parts_init) (defBody s_Parts_init) (defScope s_Parts_init) [] [] (fAd K ("Parts", some "__init__")) (fdat K ("Parts", some "__init__")) := fdat_of (T.says.def_ 55)
theorem fd_Parts_size (T : Tx K mg) : FunD K "size" "Parts.size" (defArgs s_Parts_size) (defBody s_Parts_size) (defScope s_Parts_size) [] [] (fAd K ("Parts", some "size")) (fdat K ("Parts", some "size")) := fdat_of (T.says.def_ 56)
theorem fd_Parts_frame (T : Tx K mg) : FunD K "frame" "Parts.frame" (defArgs s_Parts_frame) (defBody s_Parts_frame) (defScope s_Parts_frame) [] [] (fAd K ("Parts", some "frame")) (fdat K ("Parts", some "frame")) := fdat_of (T.says.def_ 57)
theorem fd_Parts_need (T : Tx K mg) : FunD K "need" "Parts.need" (defArgs s_Parts_need) (defBody s_Parts_need) (defScope s_Parts_need) [] [] (fAd K ("Parts", some "need")) (fdat K ("Parts", some "need")) := fdat_of (T.says.def_ 58)
theorem fd_Parts_alone (T : Tx K mg) : FunD K "alone" "Parts.alone" (defArgs s_Parts_alone) (defBody s_Parts_alone) (defScope s_Parts_alone) [] [] (fAd K ("Parts", some "alone")) (fdat K ("Parts", some "alone")) := fdat_of (T.says.def_ 59)
theorem fd_Parts_lead (T : Tx K mg) : FunD K "lead" "Parts.lead" (defArgs s_Parts_lead) (defBody s_Parts_lead) (defScope s_Parts_lead) [] [] (fAd K ("Parts", some "lead")) (fdat K ("Parts", some "lead")) := fdat_of (T.says.def_ 60)
theorem fd_Parts_give (T : Tx K mg) : FunD K "give" "Parts.give" (defArgs s_Parts_give) (defBody s_Parts_give) (defScope s_Parts_give) [] [] (fAd K ("Parts", some "give")) (fdat K ("Parts", some "give")) := fdat_of (T.says.def_ 61)
theorem fd_Parts_fresh (T : Tx K mg) : FunD K "fresh" "Parts.fresh" (defArgs s_Parts_fresh) (defBody s_Parts_fresh) (defScope s_Parts_fresh) [] [] (fAd K ("Parts", some "fresh")) (fdat K ("Parts", some "fresh")) := fdat_of (T.says.def_ 62)
theorem fd_Shelf_init (T : Tx K mg) : FunD K "__init__" "Shelf.__init__" (defArgs s_Shelf_init) (defBody s_Shelf_init) (defScope s_Shelf_init) [] [] (fAd K ("Shelf", some "__init__")) (fdat K ("Shelf", some "__init__")) := fdat_of (T.says.def_ 63)
theorem fd_Shelf_seat (T : Tx K mg) : FunD K "seat" "Shelf.seat" (defArgs s_Shelf_seat) (defBody s_Shelf_seat) (defScope s_Shelf_seat) [] [] (fAd K ("Shelf", some "seat")) (fdat K ("Shelf", some "seat")) := fdat_of (T.says.def_ 64)
theorem fd_Shelf_seek (T : Tx K mg) : FunD K "seek" "Shelf.seek" (defArgs s_Shelf_seek) (defBody s_Shelf_seek) (defScope s_Shelf_seek) [] [] (fAd K ("Shelf", some "seek")) (fdat K ("Shelf", some "seek")) := fdat_of (T.says.def_ 65)
theorem fd_Shelf_keep (T : Tx K mg) : FunD K "keep" "Shelf.keep" (defArgs s_Shelf_keep) (defBody s_Shelf_keep) (defScope s_Shelf_keep) [] [] (fAd K ("Shelf", some "keep")) (fdat K ("Shelf", some "keep")) := fdat_of (T.says.def_ 66)
theorem fd_Shelf_drop (T : Tx K mg) : FunD K "drop" "Shelf.drop" (defArgs s_Shelf_drop) (defBody s_Shelf_drop) (defScope s_Shelf_drop) [] [] (fAd K ("Shelf", some "drop")) (fdat K ("Shelf", some "drop")) := fdat_of (T.says.def_ 67)
theorem fd_Shelf_empty (T : Tx K mg) : FunD K "empty" "Shelf.empty" (defArgs s_Shelf_empty) (defBody s_Shelf_empty) (defScope s_Shelf_empty) [] [] (fAd K ("Shelf", some "empty")) (fdat K ("Shelf", some "empty")) := fdat_of (T.says.def_ 68)
theorem fd_Pairs_left (T : Tx K mg) : FunD K "left" "Ways.left" (defArgs s_Pairs_left) (defBody s_Pairs_left) (defScope s_Pairs_left) [] [] (fAd K ("Pairs", some "left")) (fdat K ("Pairs", some "left")) := fdat_of (T.says.def_ 69)
theorem fd_Pairs_left_all (T : Tx K mg) : FunD K "left_all" "Ways.left_all" (defArgs s_Pairs_left_all) (defBody s_Pairs_left_all) (defScope s_Pairs_left_all) [] [] (fAd K ("Pairs", some "left_all")) (fdat K ("Pairs", some "left_all")) := fdat_of (T.says.def_ 70)
theorem fd_Pairs_on_shelf (T : Tx K mg) : FunD K "on_shelf" "Ways.on_shelf" (defArgs s_Pairs_on_shelf) (defBody s_Pairs_on_shelf) (defScope s_Pairs_on_shelf) [] [] (fAd K ("Pairs", some "on_shelf")) (fdat K ("Pairs", some "on_shelf")) := fdat_of (T.says.def_ 71)
theorem fd_Pairs_reach (T : Tx K mg) : FunD K "reach" "Ways.reach" (defArgs s_Pairs_reach) (defBody s_Pairs_reach) (defScope s_Pairs_reach) [] [] (fAd K ("Pairs", some "reach")) (fdat K ("Pairs", some "reach")) := fdat_of (T.says.def_ 72)
theorem fd_Pairs_load (T : Tx K mg) : FunD K "load" "Ways.load" (defArgs s_Pairs_load) (defBody s_Pairs_load) (defScope s_Pairs_load) [] [] (fAd K ("Pairs", some "load")) (fdat K ("Pairs", some "load")) := fdat_of (T.says.def_ 73)
theorem fd_Pairs_save (T : Tx K mg) : FunD K "save" "Ways.save" (defArgs s_Pairs_save) (defBody s_Pairs_save) (defScope s_Pairs_save) [] [] (fAd K ("Pairs", some "save")) (fdat K ("Pairs", some "save")) := fdat_of (T.says.def_ 74)
theorem fd_Pairs_page_at (T : Tx K mg) : FunD K "page_at" "Ways.page_at" (defArgs s_Pairs_page_at) (defBody s_Pairs_page_at) (defScope s_Pairs_page_at) [] [] (fAd K ("Pairs", some "page_at")) (fdat K ("Pairs", some "page_at")) := fdat_of (T.says.def_ 75)
theorem fd_Pairs_peek (T : Tx K mg) : FunD K "peek" "Ways.peek" (defArgs s_Pairs_peek) (defBody s_Pairs_peek) (defScope s_Pairs_peek) [] [] (fAd K ("Pairs", some "peek")) (fdat K ("Pairs", some "peek")) := fdat_of (T.says.def_ 76)
theorem fd_Pairs_poke (T : Tx K mg) : FunD K "poke" "Ways.poke" (defArgs s_Pairs_poke) (defBody s_Pairs_poke) (defScope s_Pairs_poke) [] [] (fAd K ("Pairs", some "poke")) (fdat K ("Pairs", some "poke")) := fdat_of (T.says.def_ 77)
theorem fd_Pairs_turn_root (T : Tx K mg) : FunD K "turn_root" "Ways.turn_root" (defArgs s_Pairs_turn_root) (defBody s_Pairs_turn_root) (defScope s_Pairs_turn_root) [] [] (fAd K ("Pairs", some "turn_root")) (fdat K ("Pairs", some "turn_root")) := fdat_of (T.says.def_ 78)
theorem fd_Pairs_drop (T : Tx K mg) : FunD K "drop" "Ways.drop" (defArgs s_Pairs_drop) (defBody s_Pairs_drop) (defScope s_Pairs_drop) [] [] (fAd K ("Pairs", some "drop")) (fdat K ("Pairs", some "drop")) := fdat_of (T.says.def_ 79)
theorem fd_Pairs_give (T : Tx K mg) : FunD K "give" "Ways.give" (defArgs s_Pairs_give) (defBody s_Pairs_give) (defScope s_Pairs_give) [] [] (fAd K ("Pairs", some "give")) (fdat K ("Pairs", some "give")) := fdat_of (T.says.def_ 80)
theorem fd_Pairs_want (T : Tx K mg) : FunD K "want" "Ways.want" (defArgs s_Pairs_want) (defBody s_Pairs_want) (defScope s_Pairs_want) [] [] (fAd K ("Pairs", some "want")) (fdat K ("Pairs", some "want")) := fdat_of (T.says.def_ 81)
theorem fd_Pairs_pages (T : Tx K mg) : FunD K "pages" "Ways.pages" (defArgs s_Pairs_pages) (defBody s_Pairs_pages) (defScope s_Pairs_pages) [] [] (fAd K ("Pairs", some "pages")) (fdat K ("Pairs", some "pages")) := fdat_of (T.says.def_ 82)
theorem fd_Pairs_size (T : Tx K mg) : FunD K "size" "Kept.size" (defArgs s_Pairs_size) (defBody s_Pairs_size) (defScope s_Pairs_size) [] [] (fAd K ("Pairs", some "size")) (fdat K ("Pairs", some "size")) := fdat_of (T.says.def_ 83)
theorem fd_Pairs_has (T : Tx K mg) : FunD K "has" "Kept.has" (defArgs s_Pairs_has) (defBody s_Pairs_has) (defScope s_Pairs_has) [] [] (fAd K ("Pairs", some "has")) (fdat K ("Pairs", some "has")) := fdat_of (T.says.def_ 84)
theorem fd_Pairs_look_for (T : Tx K mg) : FunD K "look_for" "Kept.look_for" (defArgs s_Pairs_look_for) (defBody s_Pairs_look_for) (defScope s_Pairs_look_for) [] [] (fAd K ("Pairs", some "look_for")) (fdat K ("Pairs", some "look_for")) := fdat_of (T.says.def_ 85)
theorem fd_Pairs_read (T : Tx K mg) : FunD K "read" "Kept.read" (defArgs s_Pairs_read) (defBody s_Pairs_read) (defScope s_Pairs_read) [] [] (fAd K ("Pairs", some "read")) (fdat K ("Pairs", some "read")) := fdat_of (T.says.def_ 86)
theorem fd_Pairs_write (T : Tx K mg) : FunD K "write" "Kept.write" (defArgs s_Pairs_write) (defBody s_Pairs_write) (defScope s_Pairs_write) [] [] (fAd K ("Pairs", some "write")) (fdat K ("Pairs", some "write")) := fdat_of (T.says.def_ 87)
theorem fd_Pairs_put_alone (T : Tx K mg) : FunD K "put_alone" "Kept.put_alone" (defArgs s_Pairs_put_alone) (defBody s_Pairs_put_alone) (defScope s_Pairs_put_alone) [] [] (fAd K ("Pairs", some "put_alone")) (fdat K ("Pairs", some "put_alone")) := fdat_of (T.says.def_ 88)
theorem fd_Pairs_granted (T : Tx K mg) : FunD K "granted" "Kept.granted" (defArgs s_Pairs_granted) (defBody s_Pairs_granted) (defScope s_Pairs_granted) [] [] (fAd K ("Pairs", some "granted")) (fdat K ("Pairs", some "granted")) := fdat_of (T.says.def_ 89)
theorem fd_Pairs_bring (T : Tx K mg) : FunD K "bring" "Kept.bring" (defArgs s_Pairs_bring) (defBody s_Pairs_bring) (defScope s_Pairs_bring) [] [] (fAd K ("Pairs", some "bring")) (fdat K ("Pairs", some "bring")) := fdat_of (T.says.def_ 90)
theorem fd_Pairs_yield_up (T : Tx K mg) : FunD K "yield_up" "Kept.yield_up" (defArgs s_Pairs_yield_up) (defBody s_Pairs_yield_up) (defScope s_Pairs_yield_up) [] [] (fAd K ("Pairs", some "yield_up")) (fdat K ("Pairs", some "yield_up")) := fdat_of (T.says.def_ 91)
theorem fd_Pairs_frame (T : Tx K mg) : FunD K "frame" "Kept.frame" (defArgs s_Pairs_frame) (defBody s_Pairs_frame) (defScope s_Pairs_frame) [] [] (fAd K ("Pairs", some "frame")) (fdat K ("Pairs", some "frame")) := fdat_of (T.says.def_ 92)
theorem fd_Pairs_clean (T : Tx K mg) : FunD K "clean" "Kept.clean" (defArgs s_Pairs_clean) (defBody s_Pairs_clean) (defScope s_Pairs_clean) [] [] (fAd K ("Pairs", some "clean")) (fdat K ("Pairs", some "clean")) := fdat_of (T.says.def_ 93)
theorem fd_Pairs_guard (T : Tx K mg) : FunD K "guard" "Kept.guard" (defArgs s_Pairs_guard) (defBody s_Pairs_guard) (defScope s_Pairs_guard) [] [] (fAd K ("Pairs", some "guard")) (fdat K ("Pairs", some "guard")) := fdat_of (T.says.def_ 94)
theorem fd_Pairs_lead (T : Tx K mg) : FunD K "lead" "Kept.lead" (defArgs s_Pairs_lead) (defBody s_Pairs_lead) (defScope s_Pairs_lead) [] [] (fAd K ("Pairs", some "lead")) (fdat K ("Pairs", some "lead")) := fdat_of (T.says.def_ 95)
theorem fd_Pairs_tables (T : Tx K mg) : FunD K "tables" "Kept.tables" (defArgs s_Pairs_tables) (defBody s_Pairs_tables) (defScope s_Pairs_tables) [] [] (fAd K ("Pairs", some "tables")) (fdat K ("Pairs", some "tables")) := fdat_of (T.says.def_ 96)
theorem fd_Pairs_init (T : Tx K mg) : FunD K "__init__" "Pairs.__init__" (defArgs s_Pairs_init) (defBody s_Pairs_init) (defScope s_Pairs_init) [] [] (fAd K ("Pairs", some "__init__")) (fdat K ("Pairs", some "__init__")) := fdat_of (T.says.def_ 97)
theorem fd_Pairs_row_at (T : Tx K mg) : FunD K "row_at" "Pairs.row_at" (defArgs s_Pairs_row_at) (defBody s_Pairs_row_at) (defScope s_Pairs_row_at) [] [] (fAd K ("Pairs", some "row_at")) (fdat K ("Pairs", some "row_at")) := fdat_of (T.says.def_ 98)
theorem fd_Pairs_lay_row (T : Tx K mg) : FunD K "lay_row" "Pairs.lay_row" (defArgs s_Pairs_lay_row) (defBody s_Pairs_lay_row) (defScope s_Pairs_lay_row) [] [] (fAd K ("Pairs", some "lay_row")) (fdat K ("Pairs", some "lay_row")) := fdat_of (T.says.def_ 99)
theorem fd_Pairs_moved (T : Tx K mg) : FunD K "moved" "Pairs.moved" (defArgs s_Pairs_moved) (defBody s_Pairs_moved) (defScope s_Pairs_moved) [] [] (fAd K ("Pairs", some "moved")) (fdat K ("Pairs", some "moved")) := fdat_of (T.says.def_ 100)
theorem fd_Pairs_shut (T : Tx K mg) : FunD K "shut" "Pairs.shut" (defArgs s_Pairs_shut) (defBody s_Pairs_shut) (defScope s_Pairs_shut) [] [] (fAd K ("Pairs", some "shut")) (fdat K ("Pairs", some "shut")) := fdat_of (T.says.def_ 101)
theorem fd_Pairs_washed (T : Tx K mg) : FunD K "washed" "Pairs.washed" (defArgs s_Pairs_washed) (defBody s_Pairs_washed) (defScope s_Pairs_washed) [] [] (fAd K ("Pairs", some "washed")) (fdat K ("Pairs", some "washed")) := fdat_of (T.says.def_ 102)
theorem fd_Pairs_loose (T : Tx K mg) : FunD K "loose" "Pairs.loose" (defArgs s_Pairs_loose) (defBody s_Pairs_loose) (defScope s_Pairs_loose) [] [] (fAd K ("Pairs", some "loose")) (fdat K ("Pairs", some "loose")) := fdat_of (T.says.def_ 103)
theorem fd_Pairs_soiled (T : Tx K mg) : FunD K "soiled" "Pairs.soiled" (defArgs s_Pairs_soiled) (defBody s_Pairs_soiled) (defScope s_Pairs_soiled) [] [] (fAd K ("Pairs", some "soiled")) (fdat K ("Pairs", some "soiled")) := fdat_of (T.says.def_ 104)
theorem fd_Pairs_open_row (T : Tx K mg) : FunD K "open_row" "Pairs.open_row" (defArgs s_Pairs_open_row) (defBody s_Pairs_open_row) (defScope s_Pairs_open_row) [] [] (fAd K ("Pairs", some "open_row")) (fdat K ("Pairs", some "open_row")) := fdat_of (T.says.def_ 105)
theorem fd_Pairs_fetch (T : Tx K mg) : FunD K "fetch" "Pairs.fetch" (defArgs s_Pairs_fetch) (defBody s_Pairs_fetch) (defScope s_Pairs_fetch) [] [] (fAd K ("Pairs", some "fetch")) (fdat K ("Pairs", some "fetch")) := fdat_of (T.says.def_ 106)
theorem fd_Pairs_deposit (T : Tx K mg) : FunD K "deposit" "Pairs.deposit" (defArgs s_Pairs_deposit) (defBody s_Pairs_deposit) (defScope s_Pairs_deposit) [] [] (fAd K ("Pairs", some "deposit")) (fdat K ("Pairs", some "deposit")) := fdat_of (T.says.def_ 107)
theorem fd_Pairs_words_of (T : Tx K mg) : FunD K "words_of" "Pairs.words_of" (defArgs s_Pairs_words_of) (defBody s_Pairs_words_of) (defScope s_Pairs_words_of) [] [] (fAd K ("Pairs", some "words_of")) (fdat K ("Pairs", some "words_of")) := fdat_of (T.says.def_ 108)
theorem fd_Pairs_rows (T : Tx K mg) : FunD K "rows" "Pairs.rows" (defArgs s_Pairs_rows) (defBody s_Pairs_rows) (defScope s_Pairs_rows) [] [] (fAd K ("Pairs", some "rows")) (fdat K ("Pairs", some "rows")) := fdat_of (T.says.def_ 109)
theorem fd_Ways_init (T : Tx K mg) : FunD K "__init__" "Ways.__init__" (defArgs s_Ways_init) (defBody s_Ways_init) (defScope s_Ways_init) [] [] (fAd K ("Ways", some "__init__")) (fdat K ("Ways", some "__init__")) := fdat_of (T.says.def_ 110)
theorem fd_Kept_init (T : Tx K mg) : FunD K "__init__" "Kept.__init__" (defArgs s_Kept_init) (defBody s_Kept_init) (defScope s_Kept_init) [] [] (fAd K ("Kept", some "__init__")) (fdat K ("Kept", some "__init__")) := fdat_of (T.says.def_ 111)
theorem fd_Fault_init (T : Tx K mg) : FunD K "__init__" "Fault.__init__" (defArgs s_Fault_init) (defBody s_Fault_init) (defScope s_Fault_init) [] [] (fAd K ("Fault", some "__init__")) (fdat K ("Fault", some "__init__")) := fdat_of (T.says.def_ 112)
theorem bd_f_is_whole (T : Tx K mg) : Binds K (fdat K ("is_whole", none)) ["thing"] [] := FunD.bindsN (fd_f_is_whole T) fun _ _ _ _ _ _ us hl => match us, hl with | [_], _ => rfl
theorem bd_f_is_word (T : Tx K mg) : Binds K (fdat K ("is_word", none)) ["thing"] [] := FunD.bindsN (fd_f_is_word T) fun _ _ _ _ _ _ us hl => match us, hl with | [_], _ => rfl
theorem bd_f_is_below (T : Tx K mg) : Binds K (fdat K ("is_below", none)) ["thing", "count"] [] := FunD.bindsN (fd_f_is_below T) fun _ _ _ _ _ _ us hl => match us, hl with | [_, _], _ => rfl
theorem bd_f_are_words (T : Tx K mg) : Binds K (fdat K ("are_words", none)) ["thing"] [] := FunD.bindsN (fd_f_are_words T) fun _ _ _ _ _ _ us hl => match us, hl with | [_], _ => rfl
theorem bd_f_is_image (T : Tx K mg) : Binds K (fdat K ("is_image", none)) ["thing"] [] := FunD.bindsN (fd_f_is_image T) fun _ _ _ _ _ _ us hl => match us, hl with | [_], _ => rfl
theorem bd_f_words_at (T : Tx K mg) : Binds K (fdat K ("words_at", none)) ["store", "page"] [] := FunD.bindsN (fd_f_words_at T) fun _ _ _ _ _ _ us hl => match us, hl with | [_, _], _ => rfl
theorem bd_f_laid_out (T : Tx K mg) : Binds K (fdat K ("laid_out", none)) ["frames", "words"] [] := FunD.bindsN (fd_f_laid_out T) fun _ _ _ _ _ _ us hl => match us, hl with | [_, _], _ => rfl
theorem bd_f_look_at (T : Tx K mg) : Binds K (fdat K ("look_at", none)) ["place"] [] := FunD.bindsN (fd_f_look_at T) fun _ _ _ _ _ _ us hl => match us, hl with | [_], _ => rfl
theorem bd_f_parts_of (T : Tx K mg) : Binds K (fdat K ("parts_of", none)) ["place"] [] := FunD.bindsN (fd_f_parts_of T) fun _ _ _ _ _ _ us hl => match us, hl with | [_], _ => rfl
theorem bd_f_row_of (T : Tx K mg) : Binds K (fdat K ("row_of", none)) ["page", "marks"] [] := FunD.bindsN (fd_f_row_of T) fun _ _ _ _ _ _ us hl => match us, hl with | [_, _], _ => rfl
theorem bd_f_page_of (T : Tx K mg) : Binds K (fdat K ("page_of", none)) ["row"] [] := FunD.bindsN (fd_f_page_of T) fun _ _ _ _ _ _ us hl => match us, hl with | [_], _ => rfl
theorem bd_f_marks_of (T : Tx K mg) : Binds K (fdat K ("marks_of", none)) ["row"] [] := FunD.bindsN (fd_f_marks_of T) fun _ _ _ _ _ _ us hl => match us, hl with | [_], _ => rfl
theorem bd_f_has (T : Tx K mg) : Binds K (fdat K ("has", none)) ["row", "marks"] [] := FunD.bindsN (fd_f_has T) fun _ _ _ _ _ _ us hl => match us, hl with | [_, _], _ => rfl
theorem bd_f_put (T : Tx K mg) : Binds K (fdat K ("put", none)) ["row", "marks"] [] := FunD.bindsN (fd_f_put T) fun _ _ _ _ _ _ us hl => match us, hl with | [_, _], _ => rfl
theorem bd_f_taken (T : Tx K mg) : Binds K (fdat K ("taken", none)) ["row", "marks"] [] := FunD.bindsN (fd_f_taken T) fun _ _ _ _ _ _ us hl => match us, hl with | [_, _], _ => rfl
theorem bd_f_look_by (T : Tx K mg) : Binds K (fdat K ("look_by", none)) ["store", "row", "place", "level", "write", "kernel"] [] := FunD.bindsN (fd_f_look_by T) fun _ _ _ _ _ _ us hl => match us, hl with | [_, _, _, _, _, _], _ => rfl
theorem bd_f_rights_of (T : Tx K mg) : Binds K (fdat K ("rights_of", none)) ["high", "low"] [] := FunD.bindsN (fd_f_rights_of T) fun _ _ _ _ _ _ us hl => match us, hl with | [_, _], _ => rfl
theorem bd_f_look (T : Tx K mg) : Binds K (fdat K ("look", none)) ["store", "root", "place", "write", "kernel"] [] := FunD.bindsN (fd_f_look T) fun _ _ _ _ _ _ us hl => match us, hl with | [_, _, _, _, _], _ => rfl
theorem bd_f_stamp (T : Tx K mg) : Binds K (fdat K ("stamp", none)) ["store", "spot", "marks"] [] := FunD.bindsN (fd_f_stamp T) fun _ _ _ _ _ _ us hl => match us, hl with | [_, _, _], _ => rfl
theorem bd_f_mark (T : Tx K mg) : Binds K (fdat K ("mark", none)) ["store", "trail", "write"] [] := FunD.bindsN (fd_f_mark T) fun _ _ _ _ _ _ us hl => match us, hl with | [_, _, _], _ => rfl
theorem bd_f_lets (T : Tx K mg) : Binds K (fdat K ("lets", none)) ["rights", "write", "kernel"] [] := FunD.bindsN (fd_f_lets T) fun _ _ _ _ _ _ us hl => match us, hl with | [_, _, _], _ => rfl
theorem bd_f_law_cell_at (T : Tx K mg) : Binds K (fdat K ("_law_cell_at", none)) ["_law_script", "_law_k"] [] := FunD.bindsN (fd_f_law_cell_at T) fun _ _ _ _ _ _ us hl => match us, hl with | [_, _], _ => rfl
theorem bd_f_law_whole (T : Tx K mg) : Binds K (fdat K ("_law_whole", none)) ["_law_found"] [] := FunD.bindsN (fd_f_law_whole T) fun _ _ _ _ _ _ us hl => match us, hl with | [_], _ => rfl
theorem bd_f_law_mixed (T : Tx K mg) : Binds K (fdat K ("_law_mixed", none)) ["_law_cell", "_law_k"] [] := FunD.bindsN (fd_f_law_mixed T) fun _ _ _ _ _ _ us hl => match us, hl with | [_, _], _ => rfl
theorem bd_f_law_led (T : Tx K mg) : Binds K (fdat K ("_law_led", none)) ["_law_frames", "_law_pairs", "_law_page"] [] := FunD.bindsN (fd_f_law_led T) fun _ _ _ _ _ _ us hl => match us, hl with | [_, _, _], _ => rfl
theorem bd_f_law_right (T : Tx K mg) : Binds K (fdat K ("_law_right", none)) ["_law_frames", "_law_pairs"] [] := FunD.bindsN (fd_f_law_right T) fun _ _ _ _ _ _ us hl => match us, hl with | [_, _], _ => rfl
theorem bd_f_law_copy (T : Tx K mg) : Binds K (fdat K ("_law_copy", none)) ["_law_pages"] [] := FunD.bindsN (fd_f_law_copy T) fun _ _ _ _ _ _ us hl => match us, hl with | [_], _ => rfl
theorem bd_f_law_row (T : Tx K mg) : Binds K (fdat K ("_law_row", none)) ["_law_cell", "_law_k", "_law_size"] [] := FunD.bindsN (fd_f_law_row T) fun _ _ _ _ _ _ us hl => match us, hl with | [_, _, _], _ => rfl
theorem bd_f_law_image (T : Tx K mg) : Binds K (fdat K ("_law_image", none)) ["_law_cell", "_law_size"] [] := FunD.bindsN (fd_f_law_image T) fun _ _ _ _ _ _ us hl => match us, hl with | [_, _], _ => rfl
theorem bd_f_law_place (T : Tx K mg) : Binds K (fdat K ("_law_place", none)) ["_law_some"] [] := FunD.bindsN (fd_f_law_place T) fun _ _ _ _ _ _ us hl => match us, hl with | [_], _ => rfl
theorem bd_f_law_number (T : Tx K mg) : Binds K (fdat K ("_law_number", none)) ["_law_some", "_law_k", "_law_size"] [] := FunD.bindsN (fd_f_law_number T) fun _ _ _ _ _ _ us hl => match us, hl with | [_, _, _], _ => rfl
theorem bd_f_law_deed_of (T : Tx K mg) : Binds K (fdat K ("_law_deed_of", none)) ["_law_cell", "_law_k", "_law_size"] [] := FunD.bindsN (fd_f_law_deed_of T) fun _ _ _ _ _ _ us hl => match us, hl with | [_, _, _], _ => rfl
theorem bd_f_law_told (T : Tx K mg) : Binds K (fdat K ("_law_told", none)) ["_law_way", "_law_deed"] [] := FunD.bindsN (fd_f_law_told T) fun _ _ _ _ _ _ us hl => match us, hl with | [_, _], _ => rfl
theorem bd_f_law_answer (T : Tx K mg) : Binds K (fdat K ("_law_answer", none)) ["_law_way", "_law_deed"] [] := FunD.bindsN (fd_f_law_answer T) fun _ _ _ _ _ _ us hl => match us, hl with | [_, _], _ => rfl
theorem bd_f_law_good (T : Tx K mg) : Binds K (fdat K ("_law_good", none)) ["_law_told_here"] [] := FunD.bindsN (fd_f_law_good T) fun _ _ _ _ _ _ us hl => match us, hl with | [_], _ => rfl
theorem bd_f_law_frame_like (T : Tx K mg) : Binds K (fdat K ("_law_frame_like", none)) ["_law_ways", "_law_words"] [] := FunD.bindsN (fd_f_law_frame_like T) fun _ _ _ _ _ _ us hl => match us, hl with | [_, _], _ => rfl
theorem bd_f_law_guarded (T : Tx K mg) : Binds K (fdat K ("_law_guarded", none)) ["_law_ways", "_law_frame"] [] := FunD.bindsN (fd_f_law_guarded T) fun _ _ _ _ _ _ us hl => match us, hl with | [_, _], _ => rfl
theorem bd_f_law_keeps (T : Tx K mg) : Binds K (fdat K ("_law_keeps", none)) ["_law_ways", "_law_which", "_law_deed"] [] := FunD.bindsN (fd_f_law_keeps T) fun _ _ _ _ _ _ us hl => match us, hl with | [_, _, _], _ => rfl
theorem bd_f_law_owned (T : Tx K mg) : Binds K (fdat K ("_law_owned", none)) ["_law_frames", "_law_ways"] [] := FunD.bindsN (fd_f_law_owned T) fun _ _ _ _ _ _ us hl => match us, hl with | [_, _], _ => rfl
theorem bd_f_law_stays (T : Tx K mg) : Binds K (fdat K ("_law_stays", none)) ["_law_way", "_law_ahead", "_law_name"] [] := FunD.bindsN (fd_f_law_stays T) fun _ _ _ _ _ _ us hl => match us, hl with | [_, _, _], _ => rfl
theorem bd_f_law (T : Tx K mg) : Binds K (fdat K ("law", none)) ["_law_script"] [] := FunD.bindsN (fd_f_law T) fun _ _ _ _ _ _ us hl => match us, hl with | [_], _ => rfl
theorem bd_Frames_init (T : Tx K mg) : Binds K (fdat K ("Frames", some "__init__")) ["self", "many"] [] := FunD.bindsN (fd_Frames_init T) fun _ _ _ _ _ _ us hl => match us, hl with | [_, _], _ => rfl
theorem bd_Frames_size (T : Tx K mg) : Binds K (fdat K ("Frames", some "size")) ["self"] [] := FunD.bindsN (fd_Frames_size T) fun _ _ _ _ _ _ us hl => match us, hl with | [_], _ => rfl
theorem bd_Frames_has (T : Tx K mg) : Binds K (fdat K ("Frames", some "has")) ["self", "page"] [] := FunD.bindsN (fd_Frames_has T) fun _ _ _ _ _ _ us hl => match us, hl with | [_, _], _ => rfl
theorem bd_Frames_look_at (T : Tx K mg) : Binds K (fdat K ("Frames", some "look_at")) ["self", "page", "cell"] [] := FunD.bindsN (fd_Frames_look_at T) fun _ _ _ _ _ _ us hl => match us, hl with | [_, _, _], _ => rfl
theorem bd_Frames_read (T : Tx K mg) : Binds K (fdat K ("Frames", some "read")) ["self", "page", "cell"] [] := FunD.bindsN (fd_Frames_read T) fun _ _ _ _ _ _ us hl => match us, hl with | [_, _, _], _ => rfl
theorem bd_Frames_write (T : Tx K mg) : Binds K (fdat K ("Frames", some "write")) ["self", "page", "cell", "word"] [] := FunD.bindsN (fd_Frames_write T) fun _ _ _ _ _ _ us hl => match us, hl with | [_, _, _, _], _ => rfl
theorem bd_Frames_take (T : Tx K mg) : Binds K (fdat K ("Frames", some "take")) ["self"] [] := FunD.bindsN (fd_Frames_take T) fun _ _ _ _ _ _ us hl => match us, hl with | [_], _ => rfl
theorem bd_Frames_look_up (T : Tx K mg) : Binds K (fdat K ("Frames", some "look_up")) ["self", "frame"] [] := FunD.bindsN (fd_Frames_look_up T) fun _ _ _ _ _ _ us hl => match us, hl with | [_, _], _ => rfl
theorem bd_Frames_share (T : Tx K mg) : Binds K (fdat K ("Frames", some "share")) ["self", "frame"] [] := FunD.bindsN (fd_Frames_share T) fun _ _ _ _ _ _ us hl => match us, hl with | [_, _], _ => rfl
theorem bd_Frames_drop (T : Tx K mg) : Binds K (fdat K ("Frames", some "drop")) ["self", "frame"] [] := FunD.bindsN (fd_Frames_drop T) fun _ _ _ _ _ _ us hl => match us, hl with | [_, _], _ => rfl
theorem bd_Frames_owners (T : Tx K mg) : Binds K (fdat K ("Frames", some "owners")) ["self", "frame"] [] := FunD.bindsN (fd_Frames_owners T) fun _ _ _ _ _ _ us hl => match us, hl with | [_, _], _ => rfl
theorem bd_Frames_ask (T : Tx K mg) : Binds K (fdat K ("Frames", some "ask")) ["self", "count"] [] := FunD.bindsN (fd_Frames_ask T) fun _ _ _ _ _ _ us hl => match us, hl with | [_, _], _ => rfl
theorem bd_Frames_back (T : Tx K mg) : Binds K (fdat K ("Frames", some "back")) ["self", "count"] [] := FunD.bindsN (fd_Frames_back T) fun _ _ _ _ _ _ us hl => match us, hl with | [_, _], _ => rfl
theorem bd_Frames_promised (T : Tx K mg) : Binds K (fdat K ("Frames", some "promised")) ["self"] [] := FunD.bindsN (fd_Frames_promised T) fun _ _ _ _ _ _ us hl => match us, hl with | [_], _ => rfl
theorem bd_Parts_init (T : Tx K mg) : Binds K (fdat K ("Parts", some "__init__")) ["self", "frames", "pages"] [] := FunD.bindsN (fd_Parts_init T) fun _ _ _ _ _ _ us hl => match us, hl with | [_, _, _], _ => rfl
theorem bd_Parts_size (T : Tx K mg) : Binds K (fdat K ("Parts", some "size")) ["self"] [] := FunD.bindsN (fd_Parts_size T) fun _ _ _ _ _ _ us hl => match us, hl with | [_], _ => rfl
theorem bd_Parts_frame (T : Tx K mg) : Binds K (fdat K ("Parts", some "frame")) ["self", "page"] [] := FunD.bindsN (fd_Parts_frame T) fun _ _ _ _ _ _ us hl => match us, hl with | [_, _], _ => rfl
theorem bd_Parts_need (T : Tx K mg) : Binds K (fdat K ("Parts", some "need")) ["self", "page"] [] := FunD.bindsN (fd_Parts_need T) fun _ _ _ _ _ _ us hl => match us, hl with | [_, _], _ => rfl
theorem bd_Parts_alone (T : Tx K mg) : Binds K (fdat K ("Parts", some "alone")) ["self", "page"] [] := FunD.bindsN (fd_Parts_alone T) fun _ _ _ _ _ _ us hl => match us, hl with | [_, _], _ => rfl
theorem bd_Parts_lead (T : Tx K mg) : Binds K (fdat K ("Parts", some "lead")) ["self", "page", "frame"] [] := FunD.bindsN (fd_Parts_lead T) fun _ _ _ _ _ _ us hl => match us, hl with | [_, _, _], _ => rfl
theorem bd_Parts_give (T : Tx K mg) : Binds K (fdat K ("Parts", some "give")) ["self", "page"] [] := FunD.bindsN (fd_Parts_give T) fun _ _ _ _ _ _ us hl => match us, hl with | [_, _], _ => rfl
theorem bd_Parts_fresh (T : Tx K mg) : Binds K (fdat K ("Parts", some "fresh")) ["self", "page"] [] := FunD.bindsN (fd_Parts_fresh T) fun _ _ _ _ _ _ us hl => match us, hl with | [_, _], _ => rfl
theorem bd_Shelf_init (T : Tx K mg) : Binds K (fdat K ("Shelf", some "__init__")) ["self", "most"] [] := FunD.bindsN (fd_Shelf_init T) fun _ _ _ _ _ _ us hl => match us, hl with | [_, _], _ => rfl
theorem bd_Shelf_seat (T : Tx K mg) : Binds K (fdat K ("Shelf", some "seat")) ["self", "number"] [] := FunD.bindsN (fd_Shelf_seat T) fun _ _ _ _ _ _ us hl => match us, hl with | [_, _], _ => rfl
theorem bd_Shelf_seek (T : Tx K mg) : Binds K (fdat K ("Shelf", some "seek")) ["self", "number"] [] := FunD.bindsN (fd_Shelf_seek T) fun _ _ _ _ _ _ us hl => match us, hl with | [_, _], _ => rfl
theorem bd_Shelf_keep (T : Tx K mg) : Binds K (fdat K ("Shelf", some "keep")) ["self", "number", "page", "rights"] [] := FunD.bindsN (fd_Shelf_keep T) fun _ _ _ _ _ _ us hl => match us, hl with | [_, _, _, _], _ => rfl
theorem bd_Shelf_drop (T : Tx K mg) : Binds K (fdat K ("Shelf", some "drop")) ["self", "number"] [] := FunD.bindsN (fd_Shelf_drop T) fun _ _ _ _ _ _ us hl => match us, hl with | [_, _], _ => rfl
theorem bd_Shelf_empty (T : Tx K mg) : Binds K (fdat K ("Shelf", some "empty")) ["self"] [] := FunD.bindsN (fd_Shelf_empty T) fun _ _ _ _ _ _ us hl => match us, hl with | [_], _ => rfl
theorem bd_Pairs_left (T : Tx K mg) : Binds K (fdat K ("Pairs", some "left")) ["self", "number"] [] := FunD.bindsN (fd_Pairs_left T) fun _ _ _ _ _ _ us hl => match us, hl with | [_, _], _ => rfl
theorem bd_Pairs_left_all (T : Tx K mg) : Binds K (fdat K ("Pairs", some "left_all")) ["self"] [] := FunD.bindsN (fd_Pairs_left_all T) fun _ _ _ _ _ _ us hl => match us, hl with | [_], _ => rfl
theorem bd_Pairs_on_shelf (T : Tx K mg) : Binds K (fdat K ("Pairs", some "on_shelf")) ["self", "place", "write", "kernel"] [] := FunD.bindsN (fd_Pairs_on_shelf T) fun _ _ _ _ _ _ us hl => match us, hl with | [_, _, _, _], _ => rfl
theorem bd_Pairs_reach (T : Tx K mg) : Binds K (fdat K ("Pairs", some "reach")) ["self", "place", "write", "kernel"] [] := FunD.bindsN (fd_Pairs_reach T) fun _ _ _ _ _ _ us hl => match us, hl with | [_, _, _, _], _ => rfl
theorem bd_Pairs_load (T : Tx K mg) : Binds K (fdat K ("Pairs", some "load")) ["self", "place", "kernel"] [] := FunD.bindsN (fd_Pairs_load T) fun _ _ _ _ _ _ us hl => match us, hl with | [_, _, _], _ => rfl
theorem bd_Pairs_save (T : Tx K mg) : Binds K (fdat K ("Pairs", some "save")) ["self", "place", "word", "kernel"] [] := FunD.bindsN (fd_Pairs_save T) fun _ _ _ _ _ _ us hl => match us, hl with | [_, _, _, _], _ => rfl
theorem bd_Pairs_page_at (T : Tx K mg) : Binds K (fdat K ("Pairs", some "page_at")) ["self", "spot"] [] := FunD.bindsN (fd_Pairs_page_at T) fun _ _ _ _ _ _ us hl => match us, hl with | [_, _], _ => rfl
theorem bd_Pairs_peek (T : Tx K mg) : Binds K (fdat K ("Pairs", some "peek")) ["self", "spot"] [] := FunD.bindsN (fd_Pairs_peek T) fun _ _ _ _ _ _ us hl => match us, hl with | [_, _], _ => rfl
theorem bd_Pairs_poke (T : Tx K mg) : Binds K (fdat K ("Pairs", some "poke")) ["self", "spot", "word"] [] := FunD.bindsN (fd_Pairs_poke T) fun _ _ _ _ _ _ us hl => match us, hl with | [_, _, _], _ => rfl
theorem bd_Pairs_turn_root (T : Tx K mg) : Binds K (fdat K ("Pairs", some "turn_root")) ["self", "root"] [] := FunD.bindsN (fd_Pairs_turn_root T) fun _ _ _ _ _ _ us hl => match us, hl with | [_, _], _ => rfl
theorem bd_Pairs_drop (T : Tx K mg) : Binds K (fdat K ("Pairs", some "drop")) ["self", "place"] [] := FunD.bindsN (fd_Pairs_drop T) fun _ _ _ _ _ _ us hl => match us, hl with | [_, _], _ => rfl
theorem bd_Pairs_give (T : Tx K mg) : Binds K (fdat K ("Pairs", some "give")) ["self", "page"] [] := FunD.bindsN (fd_Pairs_give T) fun _ _ _ _ _ _ us hl => match us, hl with | [_, _], _ => rfl
theorem bd_Pairs_want (T : Tx K mg) : Binds K (fdat K ("Pairs", some "want")) ["self", "page"] [] := FunD.bindsN (fd_Pairs_want T) fun _ _ _ _ _ _ us hl => match us, hl with | [_, _], _ => rfl
theorem bd_Pairs_pages (T : Tx K mg) : Binds K (fdat K ("Pairs", some "pages")) ["self"] [] := FunD.bindsN (fd_Pairs_pages T) fun _ _ _ _ _ _ us hl => match us, hl with | [_], _ => rfl
theorem bd_Pairs_size (T : Tx K mg) : Binds K (fdat K ("Pairs", some "size")) ["self"] [] := FunD.bindsN (fd_Pairs_size T) fun _ _ _ _ _ _ us hl => match us, hl with | [_], _ => rfl
theorem bd_Pairs_has (T : Tx K mg) : Binds K (fdat K ("Pairs", some "has")) ["self", "page"] [] := FunD.bindsN (fd_Pairs_has T) fun _ _ _ _ _ _ us hl => match us, hl with | [_, _], _ => rfl
theorem bd_Pairs_look_for (T : Tx K mg) : Binds K (fdat K ("Pairs", some "look_for")) ["self", "page", "cell"] [] := FunD.bindsN (fd_Pairs_look_for T) fun _ _ _ _ _ _ us hl => match us, hl with | [_, _, _], _ => rfl
theorem bd_Pairs_read (T : Tx K mg) : Binds K (fdat K ("Pairs", some "read")) ["self", "page", "cell"] [] := FunD.bindsN (fd_Pairs_read T) fun _ _ _ _ _ _ us hl => match us, hl with | [_, _, _], _ => rfl
theorem bd_Pairs_write (T : Tx K mg) : Binds K (fdat K ("Pairs", some "write")) ["self", "page", "cell", "word"] [] := FunD.bindsN (fd_Pairs_write T) fun _ _ _ _ _ _ us hl => match us, hl with | [_, _, _, _], _ => rfl
theorem bd_Pairs_put_alone (T : Tx K mg) : Binds K (fdat K ("Pairs", some "put_alone")) ["self", "page"] [] := FunD.bindsN (fd_Pairs_put_alone T) fun _ _ _ _ _ _ us hl => match us, hl with | [_, _], _ => rfl
theorem bd_Pairs_granted (T : Tx K mg) : Binds K (fdat K ("Pairs", some "granted")) ["self"] [] := FunD.bindsN (fd_Pairs_granted T) fun _ _ _ _ _ _ us hl => match us, hl with | [_], _ => rfl
theorem bd_Pairs_bring (T : Tx K mg) : Binds K (fdat K ("Pairs", some "bring")) ["self", "page"] [] := FunD.bindsN (fd_Pairs_bring T) fun _ _ _ _ _ _ us hl => match us, hl with | [_, _], _ => rfl
theorem bd_Pairs_yield_up (T : Tx K mg) : Binds K (fdat K ("Pairs", some "yield_up")) ["self", "page"] [] := FunD.bindsN (fd_Pairs_yield_up T) fun _ _ _ _ _ _ us hl => match us, hl with | [_, _], _ => rfl
theorem bd_Pairs_frame (T : Tx K mg) : Binds K (fdat K ("Pairs", some "frame")) ["self", "page"] [] := FunD.bindsN (fd_Pairs_frame T) fun _ _ _ _ _ _ us hl => match us, hl with | [_, _], _ => rfl
theorem bd_Pairs_clean (T : Tx K mg) : Binds K (fdat K ("Pairs", some "clean")) ["self"] [] := FunD.bindsN (fd_Pairs_clean T) fun _ _ _ _ _ _ us hl => match us, hl with | [_], _ => rfl
theorem bd_Pairs_guard (T : Tx K mg) : Binds K (fdat K ("Pairs", some "guard")) ["self", "page"] [] := FunD.bindsN (fd_Pairs_guard T) fun _ _ _ _ _ _ us hl => match us, hl with | [_, _], _ => rfl
theorem bd_Pairs_lead (T : Tx K mg) : Binds K (fdat K ("Pairs", some "lead")) ["self", "page", "frame"] [] := FunD.bindsN (fd_Pairs_lead T) fun _ _ _ _ _ _ us hl => match us, hl with | [_, _, _], _ => rfl
theorem bd_Pairs_tables (T : Tx K mg) : Binds K (fdat K ("Pairs", some "tables")) ["self"] [] := FunD.bindsN (fd_Pairs_tables T) fun _ _ _ _ _ _ us hl => match us, hl with | [_], _ => rfl
theorem bd_Pairs_init (T : Tx K mg) : Binds K (fdat K ("Pairs", some "__init__")) ["self", "frames", "pages", "most"] [] := FunD.bindsN (fd_Pairs_init T) fun _ _ _ _ _ _ us hl => match us, hl with | [_, _, _, _], _ => rfl
theorem bd_Pairs_row_at (T : Tx K mg) : Binds K (fdat K ("Pairs", some "row_at")) ["self", "page"] [] := FunD.bindsN (fd_Pairs_row_at T) fun _ _ _ _ _ _ us hl => match us, hl with | [_, _], _ => rfl
theorem bd_Pairs_lay_row (T : Tx K mg) : Binds K (fdat K ("Pairs", some "lay_row")) ["self", "page", "row"] [] := FunD.bindsN (fd_Pairs_lay_row T) fun _ _ _ _ _ _ us hl => match us, hl with | [_, _, _], _ => rfl
theorem bd_Pairs_moved (T : Tx K mg) : Binds K (fdat K ("Pairs", some "moved")) ["self", "page"] [] := FunD.bindsN (fd_Pairs_moved T) fun _ _ _ _ _ _ us hl => match us, hl with | [_, _], _ => rfl
theorem bd_Pairs_shut (T : Tx K mg) : Binds K (fdat K ("Pairs", some "shut")) ["self", "page"] [] := FunD.bindsN (fd_Pairs_shut T) fun _ _ _ _ _ _ us hl => match us, hl with | [_, _], _ => rfl
theorem bd_Pairs_washed (T : Tx K mg) : Binds K (fdat K ("Pairs", some "washed")) ["self"] [] := FunD.bindsN (fd_Pairs_washed T) fun _ _ _ _ _ _ us hl => match us, hl with | [_], _ => rfl
theorem bd_Pairs_loose (T : Tx K mg) : Binds K (fdat K ("Pairs", some "loose")) ["self", "page"] [] := FunD.bindsN (fd_Pairs_loose T) fun _ _ _ _ _ _ us hl => match us, hl with | [_, _], _ => rfl
theorem bd_Pairs_soiled (T : Tx K mg) : Binds K (fdat K ("Pairs", some "soiled")) ["self"] [] := FunD.bindsN (fd_Pairs_soiled T) fun _ _ _ _ _ _ us hl => match us, hl with | [_], _ => rfl
theorem bd_Pairs_open_row (T : Tx K mg) : Binds K (fdat K ("Pairs", some "open_row")) ["self", "page"] [] := FunD.bindsN (fd_Pairs_open_row T) fun _ _ _ _ _ _ us hl => match us, hl with | [_, _], _ => rfl
theorem bd_Pairs_fetch (T : Tx K mg) : Binds K (fdat K ("Pairs", some "fetch")) ["self", "page", "cell"] [] := FunD.bindsN (fd_Pairs_fetch T) fun _ _ _ _ _ _ us hl => match us, hl with | [_, _, _], _ => rfl
theorem bd_Pairs_deposit (T : Tx K mg) : Binds K (fdat K ("Pairs", some "deposit")) ["self", "page", "cell", "word"] [] := FunD.bindsN (fd_Pairs_deposit T) fun _ _ _ _ _ _ us hl => match us, hl with | [_, _, _, _], _ => rfl
theorem bd_Pairs_words_of (T : Tx K mg) : Binds K (fdat K ("Pairs", some "words_of")) ["self", "page"] [] := FunD.bindsN (fd_Pairs_words_of T) fun _ _ _ _ _ _ us hl => match us, hl with | [_, _], _ => rfl
theorem bd_Pairs_rows (T : Tx K mg) : Binds K (fdat K ("Pairs", some "rows")) ["self"] [] := FunD.bindsN (fd_Pairs_rows T) fun _ _ _ _ _ _ us hl => match us, hl with | [_], _ => rfl
theorem bd_Ways_init (T : Tx K mg) : Binds K (fdat K ("Ways", some "__init__")) ["self", "most"] [] := FunD.bindsN (fd_Ways_init T) fun _ _ _ _ _ _ us hl => match us, hl with | [_, _], _ => rfl
theorem bd_Kept_init (T : Tx K mg) : Binds K (fdat K ("Kept", some "__init__")) ["self", "frames", "pages", "most", "many"] [] := FunD.bindsN (fd_Kept_init T) fun _ _ _ _ _ _ us hl => match us, hl with | [_, _, _, _, _], _ => rfl
theorem bd_Fault_init (T : Tx K mg) : Binds K (fdat K ("Fault", some "__init__")) ["self", "kind", "place", "level"] [] := FunD.bindsN (fd_Fault_init T) fun _ _ _ _ _ _ us hl => match us, hl with | [_, _, _, _], _ => rfl
end
end K6
/-! The head: the top's run in the kernel, and what it leaves (printed by gen_head.py). -/
namespace K6
open PySem PySem.Spec PyProof.Rows L2 He
/-- what a namespace holds, a class's namespace, a def's code object -/
def valsQ (g : Addr → Option Obj) (a : Addr) : List Addr := match g a with
  | some ⟨_, _, .dict es _, _⟩ => es.toList.flatMap fun e => refV e.val
  | _ => []
def nsQ (g : Addr → Option Obj) (a : Addr) : List Addr := match g a with
  | some ⟨_, _, .cls cd, _⟩ => [cd.ns]
  | _ => []
def codeQ (g : Addr → Option Obj) (a : Addr) : List Addr := match g a with
  | some ⟨_, _, .func fd, _⟩ => refV fd.code
  | _ => []
def asQ3 (g : Addr → Option Obj) (v ns ms : List Addr) : List Addr := mainGlobals :: cStatics :: (v ++ (ns ++ (ms ++ (v.flatMap (codeQ g) ++ ms.flatMap (codeQ g)))))
def asQ2 (g : Addr → Option Obj) (v ns : List Addr) : List Addr := asQ3 g v ns (ns.flatMap (valsQ g))
def asQ1 (g : Addr → Option Obj) (v : List Addr) : List Addr := asQ2 g v (v.flatMap (nsQ g))
def asQ (g : Addr → Option Obj) (_ : Nat) : List Addr := asQ1 g (valsQ g mainGlobals)
abbrev AlQ : Type := Bool × List FnW
def obsQ (K : PySem.W.Frag) : AlQ := (((fa.all fun f => f.ok K) && fn.all fun d => d.ok K) && exB K, fn.map fun d => fnW K d.at_)
def valQ : AlQ := (true, fn.map DefD.val)
def obsQG (n : Nat) (g : Addr → Option Obj) : AlQ := obsQ (frG g (asQ g n))
theorem obsQ_ok {K : PySem.W.Frag} (h : obsQ K = valQ) : SaysD fa fn K ∧ exB K = true := by
  have h1 : (((fa.all fun f => f.ok K) && fn.all fun d => d.ok K) && exB K) = true := congrArg (fun z : AlQ => z.1) h
  have h2 : fn.map (fun d => fnW K d.at_) = fn.map DefD.val := congrArg (fun z : AlQ => z.2) h
  obtain ⟨a, b⟩ := Bool.and_eq_true_iff.mp h1
  refine ⟨?_, b⟩
  show (((fa.all fun f => f.ok K) && fn.all fun d => d.ok K, fn.map fun d => fnW K d.at_) : AlD) = (true, fn.map DefD.val)
  rw [a, h2]
def hookQ (n : Nat) : PySem.W.Hook where
  α := AlQ
  obs := fun s => obsQG n s.heap.get?
  val := fun _ => valQ
  says := fun _ h => ∃ K : PySem.W.Frag, K.In h ∧ SaysD fa fn K ∧ exB K = true
  of := fun _ _ e => ⟨_, frG_in, obsQ_ok e⟩
  keeps := fun _ _ _ ⟨K, hK, c⟩ k => ⟨K, PySem.W.Frag.In.keeps hK k, c⟩
theorem obsQG_eq {n : Nat} {g : Addr → Option Obj} {s : Shared} (h : ∀ a, g a = s.heap.get? a) : obsQG n g = (hookQ n).obs s := by
  have e : g = s.heap.get? := funext h
  rw [e] <;> rfl
abbrev R : PySem.W.OpenRow := PySem.W.OpenLaw.row PySem.Challenge.rw_shadowpages_k66_whole_second_rows
abbrev hk : PySem.W.Hook := hookQ 5
def ob (s : PySem.W.SharedT) : AlQ := obsQG 5 (HandSHeadRun.getT s)
theorem ob_eq (s : PySem.W.SharedT) : ob s = hk.obs s.abs := obsQG_eq (HandSHeadRun.getT_eq s)
def loose0 : List PySem.Str := ["_wall", "HouseError", "NoWord", "NoRow", "NoPlace", "NoPage", "NoImage", "NoShelf", "NoFrame", "NoRoom", "Fault", "is_whole", "is_word", "CELLS", "MOST_PAGES", "is_below", "are_words", "is_image", "words_at", "laid_out", "Parts", "MOST", "Shelf", "Store", "look_at", "parts_of", "PRESENT", "WRITABLE", "KERNEL", "TOUCHED"]
def loose1 : List PySem.Str := ["SOILED", "row_of", "page_of", "marks_of", "has", "put", "taken", "LAST", "look_by", "rights_of", "look", "stamp", "mark", "lets", "PLACES", "Ways", "Kept", "EACH", "Pairs", "MOST_FRAMES", "Frames", "_law_cell_at", "_law_whole", "_law_mixed", "_law_led", "_law_right", "_law_copy", "_law_row", "_law_image", "_law_place"]
def loose2 : List PySem.Str := ["_law_number", "_law_deed_of", "_law_told", "_law_answer", "_law_good", "_law_frame_like", "_law_guarded", "_law_keeps", "_law_owned", "_law_stays"]
def loose : List PySem.Str := loose0 ++ loose1 ++ loose2
theorem run (w : World) : HandSHeadRun.RunEq R (PySem.W.view R.prog [84]) hk ob 20000 loose w := by
  intro os
  kernel_rfl
end K6
/-! Short rules: a field of an instance of a known class, a written number by its name. -/
namespace K6
open PySem PySem.Spec PyProof.Rows L2 HotX L2H He
theorem hu1 {A : Around} {k : Nat} (r : RoomH k A) : A.units + 1 < cLine := by have := r.un; omega
theorem huD {A : Around} {k : Nat} (r : RoomH k A) : A.units + 64 < cLine := by have := r.un; omega
theorem roomMark {A : Around} {k : Nat} (r : RoomH k A) (h : Option Value) : RoomH k (A.mark h) := ⟨r.dp, r.un⟩
theorem q_isinstance : bootBuiltins "isinstance" = some (.builtin "isinstance") := by decide +kernel
theorem q_int : bootBuiltins "int" = some (.type "int") := by decide +kernel
theorem q_bool : bootBuiltins "bool" = some (.type "bool") := by decide +kernel
theorem q_list : bootBuiltins "list" = some (.type "list") := by decide +kernel
theorem q_str : bootBuiltins "str" = some (.type "str") := by decide +kernel
theorem q_len : bootBuiltins "len" = some (.builtin "len") := by decide +kernel
theorem q_all : bootBuiltins "all" = some (.builtin "all") := by decide +kernel
theorem q_max : bootBuiltins "max" = some (.builtin "max") := by decide +kernel
theorem q_sorted : bootBuiltins "sorted" = some (.builtin "sorted") := by decide +kernel
theorem q_divmod : bootBuiltins "divmod" = some (.builtin "divmod") := by decide +kernel
section
variable {X : Cx} {e o value : Expr} {x f : Str} {C : Addr} {ta tv : TE} {pos pos' tpos : Pos} {i : Int}
theorem pe_gi (h : ∃ t, X.mg x = some (.int i t)) (hg : Gl X x := by rfl) (hd : (x == ("__debug__" : Str)) = false := by decide) : PE X (.Name x pos) (tC (.int i)) :=
  let ⟨_, e⟩ := h
  pe_glob hg e ⟨_, rfl⟩ hd
/-- e.f, e an instance of the class at C -/
def tF (C : Addr) (f : Str) (ta : TE) : TE := fun σ H Q => ta σ H fun x H1 => ∃ a dx fs v, x = .ref a ∧ H1 a = some (.ins C dx fs) ∧ fs.lookup f = some v ∧ Q v H1
theorem pe_fl (cl : Cls X.K C) (n : NoAttr X.K C f) (he : PE X e ta) (hb : attributeBase e f X.env (eval e X.env) = eval e X.env := by rfl) : PE X (.Attribute e f pos) (tF C f ta) := by
  refine ⟨fun pins s σ H Q I h => ?_⟩
  refine attr_of hb (thn (he.run pins s σ H _ I h) fun u s1 ⟨y, H1, I1, ry, a, dx, fs, v, ey, ea, l, q⟩ => ?_)
  subst ey
  obtain rfl : u = Value.ref a := ry
  exact getattr_ok I1 ea cl n l fun u' s2 I2 ru => ⟨v, H1, I2, ru, q⟩
/-- e.f = value -/
def sF (C : Addr) (f : Str) (ta tv : TE) : TS := fun D σ H => tv σ H fun y H1 => ta σ H1 fun x H2 => ∃ a dx fs, x = .ref a ∧ H2 a = some (.ins C dx fs) ∧ fs.length < 1000 ∧ D.nx σ (upd H2 a (.ins C dx (putF f y fs)))
theorem ps_fl (cl : Cls X.K C) (n : NoAttr X.K C f) (ha : PE X o ta) (hv : PE X value tv) (hs : swapsWith value (some (.Attribute o f pos')) pos.line X.env = pure false := by rfl) : PS X (.Assign [.Attribute o f pos'] value pos) (sF C f ta tv) := by
  refine ⟨fun pins s σ H D I h => ?_⟩
  refine plainObj_wpAny_Assign_Attribute (thn (hv.run pins s σ H _ I h) fun u s1 ⟨y, H1, I1, ry, q⟩ => thn (ha.run pins s1 σ H1 _ I1 q) fun ov s2 ⟨z, H2, I2, rz, a, dx, fs, ez, ea, l, q2⟩ => ?_) hs
  subst ez
  obtain rfl : ov = Value.ref a := rz
  exact setattr_ok I2 ea cl n l ry fun s3 I3 => ⟨σ, _, I3, q2⟩
/-- e.f op= value -/
def sFa (C : Addr) (f : Str) (rd : V → V → Hp → VK → Prop) (ta tv : TE) : TS := fun D σ H => ta σ H fun x H1 => ∃ a dx fs v, x = .ref a ∧ H1 a = some (.ins C dx fs) ∧ fs.lookup f = some v ∧
  tv σ H1 fun y H2 => rd v y H2 fun z H3 => ∃ dx' fs', H3 a = some (.ins C dx' fs') ∧ fs'.length < 1000 ∧ D.nx σ (upd H3 a (.ins C dx' (putF f z fs')))
theorem ps_fla {op : Operator} {rd : V → V → Hp → VK → Prop} (cl : Cls X.K C) (n : NoAttr X.K C f) (ha : PE X o ta) (hv : PE X value tv) (hop : InOp X op rd) : PS X (.AugAssign (.Attribute o f tpos) op value pos) (sFa C f rd ta tv) := by
  refine ⟨fun pins s σ H D I h => ?_⟩
  refine wpAny_AugAssign_AttributeAny (thn (ha.run pins s σ H _ I h) fun ov s1 ⟨z, H1, I1, rz, a, dx, fs, v, ez, ea, l, q⟩ => ?_)
  subst ez
  obtain rfl : ov = Value.ref a := rz
  refine getattr_ok I1 ea cl n l fun u s2 I2 ru => thn (hv.run pins s2 σ H1 _ I2 q) fun w3 s3 ⟨y, H2, I3, ry, q3⟩ => thn (hop pins s3 σ H2 v y u w3 _ I3 ru ry q3) fun w4 s4 ⟨y4, H3, I4, r4, dx', fs', ea', l', q4⟩ => ?_
  exact setattr_ok I4 ea' cl n l' r4 fun s5 I5 => ⟨σ, _, I5, q4⟩
end
/-! ### bits of numbers that are not negative -/
theorem band (a b : Nat) : Builtin.bitAnd (a : Int) (b : Int) = ((a &&& b : Nat) : Int) := rfl
theorem bor (a b : Nat) : Builtin.bitOr (a : Int) (b : Int) = ((a ||| b : Nat) : Int) := by
  have h := Bits.bitOr_pp (x := (a : Int)) (y := (b : Int)) (by omega) (by omega)
  simpa using h
end K6
/-! Numbers, words, frames. -/
namespace K6
open PySem PySem.Spec PyProof.Rows L2 HotX L2H He
variable {P : Program} {w : World} {K : PySem.W.Frag} {mg : Str → Option Value} {base : Heap}
theorem kit_ii : PySem.W.kitOne K (.type "int") (.type "int") = some true := kit_ty (by decide +kernel)
theorem kit_ib : PySem.W.kitOne K (.type "int") (.type "bool") = some false := kit_ty (by decide +kernel)
theorem kit_bb : PySem.W.kitOne K (.type "bool") (.type "bool") = some true := kit_ty (by decide +kernel)
theorem kit_ss : PySem.W.kitOne K (.type "str") (.type "str") = some true := kit_ty (by decide +kernel)
theorem kit_ll : PySem.W.kitOne K (.type "list") (.type "list") = some true := kit_ty (by decide +kernel)
/-! ### numbers -/
def spWhole : Sp := fun vs H Q _ => ∃ i : Int, vs = [.int i] ∧ Q (.bl true) H
theorem ok_f_is_whole (T : Tx K mg) : FnG P w K mg base 1 (fAd K ("is_whole", none)) (fdat K ("is_whole", none)) ["thing"] spWhole := by
  refine fnG (fd_f_is_whole T) sc_f_is_whole (fun vs H Q E h => ?_) (fun c pn cdv A outer s H vs Q E g hr h => ?_)
  · obtain ⟨i, rfl, _⟩ := h
    rfl
  · obtain ⟨i, rfl, k⟩ := h
    refine ⟨_, (pss_one (ps_ret (pe_and (pe_callB call_isi (by rfl) (b_isinstance T) q_isinstance (pa_cons (pv 0) (pa_cons (pe_bltn (v := .ty "int") (by rfl) (b_int T) q_int rfl) pa_nil))) (pe_one (pe_not (pe_callB call_isi (by rfl) (b_isinstance T) q_isinstance (pa_cons (pv 0) (pa_cons (pe_bltn (v := .ty "bool") (by rfl) (b_bool T) q_bool rfl) pa_nil)))))))), ?_⟩
    refine ⟨_, rfl, _, _, _, _, true, rfl, .ty _, .base (.int i), kit_ii, true, rfl, iteT ?_⟩
    exact ⟨_, rfl, _, _, _, _, false, rfl, .ty _, .base (.int i), kit_ib, false, rfl, k⟩
def spWord : Sp := fun vs H Q _ => ∃ i : Int, vs = [.int i] ∧ Q (.bl (decide (0 ≤ i ∧ i < 2 ^ 48))) H
theorem ok_f_is_word (T : Tx K mg) : FnG P w K mg base 2 (fAd K ("is_word", none)) (fdat K ("is_word", none)) ["thing"] spWord := by
  refine fnG (fd_f_is_word T) sc_f_is_word (fun vs H Q E h => ?_) (fun c pn cdv A outer s H vs Q E g hr h => ?_)
  · obtain ⟨i, rfl, _⟩ := h
    rfl
  · obtain ⟨i, rfl, k⟩ := h
    refine ⟨_, (pss_one (ps_ret (pe_and (pe_fG g (ok_f_is_whole T) (hr.mono (by decide)) (by rfl) (g_is_whole T) (fd_f_is_whole T).kp (bd_f_is_whole T) (pa_cons (pv 0) pa_nil)) (pe_one (pe_chain op_le op_lt pe_int (pv 0) (pe_op op_pow pe_int pe_int)))))), ?_⟩
    refine ⟨_, rfl, i, rfl, true, rfl, iteT ?_⟩
    refine ⟨_, rfl, _, _, rfl, rfl, _, rfl, ?_⟩
    by_cases h0 : (0 : Int) ≤ i
    · rw [decide_eq_true h0, if_pos rfl]
      refine ⟨2, 48, rfl, rfl, ⟨by decide, by decide, by decide⟩, i, _, rfl, rfl, ?_⟩
      have e : decide (0 ≤ i ∧ i < 2 ^ 48) = decide (i < (2 : Int) ^ (48 : Int).toNat) := decide_eq_decide.mpr ⟨fun z => z.2, fun z => ⟨h0, z⟩⟩
      rw [e] at k
      exact k
    · rw [decide_eq_false h0, if_neg Bool.false_ne_true]
      rw [decide_eq_false fun z => h0 z.1] at k
      exact k
def spBelow : Sp := fun vs H Q _ => ∃ i n : Int, vs = [.int i, .int n] ∧ Q (.bl (decide (0 ≤ i ∧ i < n))) H
theorem ok_f_is_below (T : Tx K mg) : FnG P w K mg base 2 (fAd K ("is_below", none)) (fdat K ("is_below", none)) ["thing", "count"] spBelow := by
  refine fnG (fd_f_is_below T) sc_f_is_below (fun vs H Q E h => ?_) (fun c pn cdv A outer s H vs Q E g hr h => ?_)
  · obtain ⟨i, n, rfl, _⟩ := h
    rfl
  · obtain ⟨i, n, rfl, k⟩ := h
    refine ⟨_, (pss_one (ps_ret (pe_and (pe_fG g (ok_f_is_whole T) (hr.mono (by decide)) (by rfl) (g_is_whole T) (fd_f_is_whole T).kp (bd_f_is_whole T) (pa_cons (pv 0) pa_nil)) (pe_one (pe_chain op_le op_lt pe_int (pv 0) (pv 1)))))), ?_⟩
    refine ⟨_, rfl, i, rfl, true, rfl, iteT ?_⟩
    refine ⟨_, rfl, _, _, rfl, rfl, _, rfl, ?_⟩
    by_cases h0 : (0 : Int) ≤ i
    · rw [decide_eq_true h0, if_pos rfl]
      refine ⟨_, rfl, i, n, rfl, rfl, ?_⟩
      have e : decide (0 ≤ i ∧ i < n) = decide (i < n) := decide_eq_decide.mpr ⟨fun z => z.2, fun z => ⟨h0, z⟩⟩
      rw [e] at k
      exact k
    · rw [decide_eq_false h0, if_neg Bool.false_ne_true]
      rw [decide_eq_false fun z => h0 z.1] at k
      exact k
end K6
/-! Frames. -/
namespace K6
open PySem PySem.Spec PyProof.Rows L2 HotX L2H He
variable {P : Program} {w : World} {K : PySem.W.Frag} {mg : Str → Option Value} {base : Heap}
/-! ### what belongs to whom -/
inductive Tag where
  | no | fg | fh | fo | fw (i : Nat) | way (k : Bool) (j : Nat)
  deriving DecidableEq
abbrev Col := Addr → Tag
def Tag.isF : Tag → Prop
  | .fg => True
  | .fh => True
  | .fo => True
  | .fw _ => True
  | _ => False
/-- all that is tracked stands as it was, but what T tells of -/
def Keep (T : Tag → Prop) (c : Col) (H : Hp) (c' : Col) (H' : Hp) : Prop := ∀ b o, H b = some o → ¬ T (c b) → H' b = some o ∧ c' b = c b
theorem Keep.refl {T : Tag → Prop} {c : Col} {H : Hp} : Keep T c H c H := fun _ _ h _ => ⟨h, rfl⟩
theorem Keep.trans {T : Tag → Prop} {c c1 c2 : Col} {H H1 H2 : Hp} (a : Keep T c H c1 H1) (b : Keep T c1 H1 c2 H2) : Keep T c H c2 H2 := fun x o h t => by
  obtain ⟨h1, e1⟩ := a x o h t
  obtain ⟨h2, e2⟩ := b x o h1 (by rw [e1]; exact t)
  exact ⟨h2, e2.trans e1⟩
theorem Keep.mono {T T' : Tag → Prop} {c c' : Col} {H H' : Hp} (a : Keep T c H c' H') (h : ∀ t, T t → T' t) : Keep T' c H c' H' := fun x o e t => a x o e fun z => t (h _ z)
theorem Keep.same {T : Tag → Prop} {c : Col} {H H' : Hp} (s : Same H H') : Keep T c H c H' := fun b o h _ => ⟨s b o h, rfl⟩
theorem Keep.upd {T : Tag → Prop} {c : Col} {H : Hp} {a : Addr} {o : HO} (h : T (c a)) : Keep T c H c (upd H a o) := fun b u e t => by
  have ne : b ≠ a := fun z => t (by rw [z]; exact h)
  exact ⟨by rw [upd_ne ne]; exact e, rfl⟩
theorem Keep.new {T : Tag → Prop} {c : Col} {H : Hp} {a : Addr} {o : HO} (h : H a = none) : Keep T c H c (L2.upd H a o) := fun b u e t => ⟨by rw [upd_ne (ne_of_none e h)]; exact e, rfl⟩
/-- a new object, told to belong -/
def colS (c : Col) (a : Addr) (t : Tag) : Col := fun b => if b = a then t else c b
theorem colS_same {c : Col} {a : Addr} {t : Tag} : colS c a t a = t := if_pos rfl
theorem colS_ne {c : Col} {a b : Addr} {t : Tag} (h : b ≠ a) : colS c a t b = c b := if_neg h
theorem Keep.newC {T : Tag → Prop} {c : Col} {H : Hp} {a : Addr} {o : HO} {t : Tag} (h : H a = none) : Keep T c H (colS c a t) (L2.upd H a o) := fun b u e _ =>
  have ne := ne_of_none e h
  ⟨by rw [upd_ne ne]; exact e, colS_ne ne⟩
theorem Keep.recol {T : Tag → Prop} {c : Col} {H : Hp} {a : Addr} {t : Tag} (h : H a = none) : Keep T c H (colS c a t) H := fun b u e _ => ⟨e, colS_ne (ne_of_none e h)⟩
/-! ### frames -/
abbrev nv (n : Nat) : V := V.int (n : Int)
def frF (a b : Addr) (p : Int) : List (Str × V) := [("held", V.ref a), ("owned", V.ref b), ("pledged", V.int p)]
structure Frs where
  g : Addr
  dx : Addr
  ah : Addr
  ao : Addr
  hs : List V
  wa : Nat → Addr
  ow : List Nat
  wd : Nat → List Nat
  pl : Int
def Tkn (F : Frs) (i : Nat) : Prop := ∃ n, F.ow[i]? = some (n + 1)
structure FrAt (K : PySem.W.Frag) (F : Frs) (c : Col) (H : Hp) : Prop where
  hg : H F.g = some (.ins (ga K "Frames") F.dx (frF F.ah F.ao F.pl))
  hh : H F.ah = some (.lst F.hs)
  ho : H F.ao = some (.lst (F.ow.map nv))
  len : F.hs.length = F.ow.length
  sz : F.ow.length ≤ 200
  tg : c F.g = .fg
  th : c F.ah = .fh
  to : c F.ao = .fo
  fr : ∀ i n, F.ow[i]? = some (n + 1) → F.hs[i]? = some (.ref (F.wa i)) ∧ H (F.wa i) = some (.lst ((F.wd i).map nv)) ∧ c (F.wa i) = .fw i ∧ (F.wd i).length = 8 ∧ ∀ x ∈ F.wd i, x < 2 ^ 48
theorem FrAt.keep {F : Frs} {c c' : Col} {H H' : Hp} {T : Tag → Prop} (A : FrAt K F c H) (k : Keep T c H c' H') (h : ∀ t, t.isF → ¬ T t) : FrAt K F c' H' := by
  have kk : ∀ {a o t}, H a = some o → c a = t → t.isF → H' a = some o ∧ c' a = t := fun {a o t} e1 e2 e3 => by
    obtain ⟨z1, z2⟩ := k a o e1 (by rw [e2]; exact h t e3)
    exact ⟨z1, z2.trans e2⟩
  refine ⟨(kk A.hg A.tg trivial).1, (kk A.hh A.th trivial).1, (kk A.ho A.to trivial).1, A.len, A.sz, (kk A.hg A.tg trivial).2, (kk A.hh A.th trivial).2, (kk A.ho A.to trivial).2, fun i n e => ?_⟩
  obtain ⟨a1, a2, a3, a4, a5⟩ := A.fr i n e
  exact ⟨a1, (kk a2 a3 trivial).1, (kk a2 a3 trivial).2, a4, a5⟩
theorem FrAt.same {F : Frs} {c : Col} {H H' : Hp} (A : FrAt K F c H) (s : Same H H') : FrAt K F c H' := A.keep (T := fun _ => False) (.same s) fun _ _ z => z
/-- other addresses may be told to belong elsewhere -/
theorem FrAt.recol {F : Frs} {c : Col} {H : Hp} {a : Addr} {t : Tag} (A : FrAt K F c H) (h : H a = none) : FrAt K F (colS c a t) H := A.keep (T := fun _ => False) (.recol h) fun _ _ z => z
theorem FrAt.lt {F : Frs} {c : Col} {H : Hp} (A : FrAt K F c H) {i : Nat} (h : Tkn F i) : i < F.ow.length := by
  obtain ⟨n, e⟩ := h
  exact (List.getElem?_eq_some_iff.mp e).1
def Frs.wr (F : Frs) (i cell x : Nat) : Frs := { F with wd := fun j => if j = i then (F.wd i).set cell x else F.wd j }
def Frs.take (F : Frs) (i : Nat) (p : Addr) : Frs := { F with hs := F.hs.set i (.ref p), wa := fun j => if j = i then p else F.wa j, ow := F.ow.set i 1, wd := fun j => if j = i then List.replicate 8 0 else F.wd j }
def Frs.own (F : Frs) (i n : Nat) : Frs := { F with ow := F.ow.set i n, hs := if n = 0 then F.hs.set i .non else F.hs }
def Frs.pledge (F : Frs) (z : Int) : Frs := { F with pl := z }
theorem nv_get {l : List Nat} {i n : Nat} (h : l[i]? = some n) : (l.map nv)[i]? = some (nv n) := by rw [List.getElem?_map, h]; rfl
theorem tkn_iff {F : Frs} {i : Nat} : Tkn F i ↔ ∃ n, F.ow[i]? = some n ∧ 0 < n := ⟨fun ⟨n, e⟩ => ⟨n + 1, e, Nat.succ_pos n⟩, fun ⟨n, e, h⟩ => ⟨n - 1, by rw [e]; congr 1; omega⟩⟩
theorem map_set {α β : Type} (f : α → β) (l : List α) (i : Nat) (a : α) : (l.map f).set i (f a) = (l.set i a).map f := by rw [List.map_set]
theorem FrAt.wr {F : Frs} {c : Col} {H : Hp} (A : FrAt K F c H) {i cell x : Nat} (h : Tkn F i) (hx : x < 2 ^ 48) : FrAt K (F.wr i cell x) c (L2.upd H (F.wa i) (.lst (((F.wd i).set cell x).map nv))) := by
  obtain ⟨n, e⟩ := h
  obtain ⟨a1, a2, a3, a4, a5⟩ := A.fr i n e
  have kk : ∀ {a o t}, H a = some o → c a = t → t ≠ .fw i → L2.upd H (F.wa i) (.lst (((F.wd i).set cell x).map nv)) a = some o := fun {a o t} e1 e2 e3 => by
    rw [upd_ne fun z => e3 (by rw [← e2, z, a3])]
    exact e1
  refine ⟨kk A.hg A.tg (fun z => nomatch z), kk A.hh A.th (fun z => nomatch z), kk A.ho A.to (fun z => nomatch z), A.len, A.sz, A.tg, A.th, A.to, fun j m ej => ?_⟩
  obtain ⟨b1, b2, b3, b4, b5⟩ := A.fr j m ej
  by_cases z : j = i
  · subst z
    refine ⟨b1, ?_, b3, ?_, ?_⟩
    · show L2.upd H (F.wa j) _ (F.wa j) = some (.lst (((if j = j then (F.wd j).set cell x else F.wd j)).map nv))
      rw [upd_same, if_pos rfl]
    · show (if j = j then (F.wd j).set cell x else F.wd j).length = 8
      rw [if_pos rfl, List.length_set]
      exact a4
    · show ∀ y ∈ (if j = j then (F.wd j).set cell x else F.wd j), y < 2 ^ 48
      rw [if_pos rfl]
      intro y hy
      rcases List.mem_or_eq_of_mem_set hy with q | q
      · exact a5 y q
      · rw [q]; exact hx
  · refine ⟨b1, ?_, b3, ?_, ?_⟩
    · show L2.upd H (F.wa i) _ (F.wa j) = some (.lst (((if j = i then (F.wd i).set cell x else F.wd j)).map nv))
      rw [if_neg z]
      exact kk b2 b3 fun q => z (by injection q)
    · show (if j = i then (F.wd i).set cell x else F.wd j).length = 8
      rw [if_neg z]; exact b4
    · show ∀ y ∈ (if j = i then (F.wd i).set cell x else F.wd j), y < 2 ^ 48
      rw [if_neg z]; exact b5
theorem FrAt.own {F : Frs} {c : Col} {H : Hp} (A : FrAt K F c H) {i m : Nat} (h : Tkn F i) : FrAt K (F.own i m) c (L2.upd (L2.upd H F.ao (.lst ((F.ow.set i m).map nv))) F.ah (.lst (F.own i m).hs)) := by
  obtain ⟨n0, e0⟩ := h
  have kk : ∀ {a o t}, H a = some o → c a = t → t ≠ .fo → t ≠ .fh → L2.upd (L2.upd H F.ao (.lst ((F.ow.set i m).map nv))) F.ah (.lst (F.own i m).hs) a = some o := fun {a o t} e1 e2 e3 e4 => by
    rw [upd_ne fun z => e4 (by rw [← e2, z, A.th]), upd_ne fun z => e3 (by rw [← e2, z, A.to])]
    exact e1
  have ne : F.ao ≠ F.ah := fun z => by
    have q := A.to
    rw [z, A.th] at q
    cases q
  refine ⟨kk A.hg A.tg (fun z => nomatch z) (fun z => nomatch z), upd_same, ?_, ?_, ?_, A.tg, A.th, A.to, fun j k ej => ?_⟩
  · show L2.upd (L2.upd H F.ao _) F.ah _ F.ao = _
    rw [upd_ne ne, upd_same]
    rfl
  · show (if m = 0 then F.hs.set i .non else F.hs).length = (F.ow.set i m).length
    rw [List.length_set, ← A.len]
    split
    · rw [List.length_set]
    · rfl
  · show (F.ow.set i m).length ≤ 200
    rw [List.length_set]
    exact A.sz
  · have ej1 : (F.ow.set i m)[j]? = some (k + 1) := ej
    have lt : i < F.ow.length := (List.getElem?_eq_some_iff.mp e0).1
    have old : ∃ k', F.ow[j]? = some (k' + 1) := by
      by_cases z : i = j
      · subst z
        exact ⟨n0, e0⟩
      · rw [List.getElem?_set_ne z] at ej1
        exact ⟨k, ej1⟩
    obtain ⟨k', e'⟩ := old
    obtain ⟨b1, b2, b3, b4, b5⟩ := A.fr j k' e'
    refine ⟨?_, kk b2 b3 (fun z => nomatch z) (fun z => nomatch z), b3, b4, b5⟩
    show (if m = 0 then F.hs.set i .non else F.hs)[j]? = _
    by_cases hm : m = 0
    · rw [if_pos hm]
      have z : i ≠ j := fun z => by
        subst z
        rw [List.getElem?_set_self lt, hm] at ej1
        cases ej1
      rw [List.getElem?_set_ne z]
      exact b1
    · rw [if_neg hm]
      exact b1
/-- a free frame i is taken, its words at p -/
theorem FrAt.take {F : Frs} {c : Col} {H : Hp} (A : FrAt K F c H) {i : Nat} {p : Addr} (h0 : F.ow[i]? = some 0) (hp : H p = none) :
    FrAt K (F.take i p) (colS c p (.fw i)) (L2.upd (L2.upd (L2.upd H p (.lst ((List.replicate 8 0).map nv))) F.ah (.lst (F.hs.set i (.ref p)))) F.ao (.lst ((F.ow.set i 1).map nv))) := by
  have lt : i < F.ow.length := (List.getElem?_eq_some_iff.mp h0).1
  have kk : ∀ {a o t}, H a = some o → c a = t → t ≠ .fo → t ≠ .fh →
      L2.upd (L2.upd (L2.upd H p (.lst ((List.replicate 8 0).map nv))) F.ah (.lst (F.hs.set i (.ref p)))) F.ao (.lst ((F.ow.set i 1).map nv)) a = some o ∧ colS c p (.fw i) a = t := fun {a o t} e1 e2 e3 e4 => by
    refine ⟨?_, (colS_ne (ne_of_none e1 hp)).trans e2⟩
    rw [upd_ne fun z => e3 (by rw [← e2, z, A.to]), upd_ne fun z => e4 (by rw [← e2, z, A.th]), upd_ne (ne_of_none e1 hp)]
    exact e1
  have ne : F.ah ≠ F.ao := fun z => by
    have q := A.to
    rw [← z, A.th] at q
    cases q
  have g := kk A.hg A.tg (fun z => nomatch z) (fun z => nomatch z)
  refine ⟨g.1, ?_, upd_same, ?_, ?_, g.2, (colS_ne (ne_of_none A.hh hp)).trans A.th, (colS_ne (ne_of_none A.ho hp)).trans A.to, fun j k ej => ?_⟩
  · show L2.upd (L2.upd _ F.ah _) F.ao _ F.ah = _
    rw [upd_ne ne, upd_same]
    rfl
  · show (F.hs.set i (.ref p)).length = (F.ow.set i 1).length
    rw [List.length_set, List.length_set]
    exact A.len
  · show (F.ow.set i 1).length ≤ 200
    rw [List.length_set]
    exact A.sz
  · have ej1 : (F.ow.set i 1)[j]? = some (k + 1) := ej
    by_cases z : j = i
    · subst z
      have hl : j < F.hs.length := by rw [A.len]; exact lt
      refine ⟨?_, ?_, ?_, ?_, ?_⟩
      · show (F.hs.set j (.ref p))[j]? = some (.ref (if j = j then p else F.wa j))
        rw [List.getElem?_set_self hl, if_pos rfl]
      · show L2.upd (L2.upd (L2.upd H p _) F.ah _) F.ao _ (if j = j then p else F.wa j) = some (.lst ((if j = j then List.replicate 8 0 else F.wd j).map nv))
        rw [if_pos rfl, if_pos rfl, upd_ne (ne_of_none A.ho hp).symm, upd_ne (ne_of_none A.hh hp).symm, upd_same]
      · show colS c p (.fw j) (if j = j then p else F.wa j) = .fw j
        rw [if_pos rfl, colS_same]
      · show (if j = j then List.replicate 8 0 else F.wd j).length = 8
        rw [if_pos rfl, List.length_replicate]
      · show ∀ y ∈ (if j = j then List.replicate 8 0 else F.wd j), y < 2 ^ 48
        rw [if_pos rfl]
        intro y hy
        rw [List.eq_of_mem_replicate hy]
        decide
    · rw [List.getElem?_set_ne (Ne.symm z)] at ej1
      obtain ⟨b1, b2, b3, b4, b5⟩ := A.fr j k ej1
      have q := kk b2 b3 (fun z => nomatch z) (fun z => nomatch z)
      refine ⟨?_, ?_, ?_, ?_, ?_⟩
      · show (F.hs.set i (.ref p))[j]? = some (.ref (if j = i then p else F.wa j))
        rw [List.getElem?_set_ne (Ne.symm z), if_neg z]
        exact b1
      · show L2.upd (L2.upd (L2.upd H p _) F.ah _) F.ao _ (if j = i then p else F.wa j) = some (.lst ((if j = i then List.replicate 8 0 else F.wd j).map nv))
        rw [if_neg z, if_neg z]
        exact q.1
      · show colS c p (.fw i) (if j = i then p else F.wa j) = .fw j
        rw [if_neg z]
        exact q.2
      · show (if j = i then List.replicate 8 0 else F.wd j).length = 8
        rw [if_neg z]; exact b4
      · show ∀ y ∈ (if j = i then List.replicate 8 0 else F.wd j), y < 2 ^ 48
        rw [if_neg z]; exact b5
theorem FrAt.pledge {F : Frs} {c : Col} {H : Hp} (A : FrAt K F c H) (z : Int) : FrAt K (F.pledge z) c (L2.upd H F.g (.ins (ga K "Frames") F.dx (frF F.ah F.ao z))) := by
  have kk : ∀ {a o t}, H a = some o → c a = t → t ≠ .fg → L2.upd H F.g (.ins (ga K "Frames") F.dx (frF F.ah F.ao z)) a = some o := fun {a o t} e1 e2 e3 => by
    rw [upd_ne fun z => e3 (by rw [← e2, z, A.tg])]
    exact e1
  refine ⟨upd_same, kk A.hh A.th (fun z => nomatch z), kk A.ho A.to (fun z => nomatch z), A.len, A.sz, A.tg, A.th, A.to, fun j k ej => ?_⟩
  obtain ⟨b1, b2, b3, b4, b5⟩ := A.fr j k ej
  exact ⟨b1, kk b2 b3 (fun z => nomatch z), b3, b4, b5⟩
end K6
/-! The methods of Frames. -/
namespace K6
open PySem PySem.Spec PyProof.Rows L2 HotX L2H He
variable {P : Program} {w : World} {K : PySem.W.Frag} {mg : Str → Option Value} {base : Heap}
theorem ow_pos {F : Frs} {i n : Nat} (h : F.ow[i]? = some n) (hp : 0 < n) : Tkn F i := ⟨n - 1, by rw [h]; congr 1; omega⟩
def spFrSize (K : PySem.W.Frag) : Sp := fun vs H Q _ => ∃ (F : Frs) (c : Col), vs = [.ref F.g] ∧ FrAt K F c H ∧ Q (.int F.ow.length) H
theorem ok_Frames_size (T : Tx K mg) : FnC P w K mg base 1 (fAd K ("Frames", some "size")) (fdat K ("Frames", some "size")) ["self"] (spFrSize K) := by
  refine fnC (fd_Frames_size T) sc_Frames_size (fun vs H Q E h => ?_) (fun cdv A outer s H vs Q E hr h => ?_)
  · obtain ⟨F, c, rfl, _⟩ := h
    rfl
  · obtain ⟨F, c, rfl, A, k⟩ := h
    refine ⟨_, (pss_one (ps_ret (pe_callB call_len_seq (by rfl) (b_len T) q_len (pa_cons (pe_fl (c_Frames T) (n_Frames_owned T) (pv 0)) pa_nil)))), ?_⟩
    refine ⟨_, rfl, _, _, _, _, rfl, A.hg, rfl, _, _, rfl, .inl (SqL.of A.ho), ?_⟩
    show Q (.int ((F.ow.map nv).length : Nat)) H
    rw [List.length_map]
    exact k
/-- has: whether it is a taken frame's number -/
def spFrHas (K : PySem.W.Frag) : Sp := fun vs H Q _ => ∃ (F : Frs) (c : Col) (i : Int), vs = [.ref F.g, .int i] ∧ FrAt K F c H ∧ ∀ b : Bool, (b = true ↔ ∃ j : Nat, i = j ∧ Tkn F j) → Q (.bl b) H
theorem ok_Frames_has (T : Tx K mg) : FnG P w K mg base 3 (fAd K ("Frames", some "has")) (fdat K ("Frames", some "has")) ["self", "page"] (spFrHas K) := by
  refine fnG (fd_Frames_has T) sc_Frames_has (fun vs H Q E h => ?_) (fun cc pn cdv A outer s H vs Q E g hr h => ?_)
  · obtain ⟨F, c, i, rfl, _⟩ := h
    rfl
  · obtain ⟨F, c, i, rfl, A, k⟩ := h
    refine ⟨_, (pss_one (ps_ret (pe_and (pe_fG g (ok_f_is_below T) (hr.mono (by decide)) (by rfl) (g_is_below T) (fd_f_is_below T).kp (bd_f_is_below T) (pa_cons (pv 1) (pa_cons (pe_callB call_len_seq (by rfl) (b_len T) q_len (pa_cons (pe_fl (c_Frames T) (n_Frames_owned T) (pv 0)) pa_nil)) pa_nil))) (pe_one (pe_cmpR op_gt (pe_ix ix_list (pe_fl (c_Frames T) (n_Frames_owned T) (pv 0)) (pv 1) (fun _ _ => rfl)) pe_int (nomark _)))))), ?_⟩
    refine ⟨_, rfl, _, rfl, _, _, _, _, rfl, A.hg, rfl, _, _, rfl, .inl (SqL.of A.ho), i, _, rfl, _, rfl, ?_⟩
    rw [List.length_map]
    by_cases hi : 0 ≤ i ∧ i < (F.ow.length : Int)
    · rw [decide_eq_true hi]
      refine iteT ?_
      obtain ⟨j, rfl⟩ : ∃ j : Nat, i = j := ⟨i.toNat, by omega⟩
      have hj : j < F.ow.length := by omega
      refine ⟨_, rfl, _, _, _, _, rfl, A.hg, rfl, _, rfl, _, _, _, _, rfl, rfl, SqL.of A.ho, atI_nat (nv_get (List.getElem?_eq_getElem hj)), _, _, rfl, rfl, ?_⟩
      refine k _ ?_
      rw [decide_eq_true_iff]
      refine ⟨fun z => ⟨j, rfl, ow_pos (List.getElem?_eq_getElem hj) (by omega)⟩, fun ⟨j', e, n, hn⟩ => ?_⟩
      have e' : j = j' := by omega
      subst e'
      rw [List.getElem?_eq_getElem hj] at hn
      have := Option.some.inj hn
      omega
    · rw [decide_eq_false hi]
      refine iteF (k false ⟨fun z => (nomatch z), fun ⟨j, e, z⟩ => ?_⟩)
      exact absurd (A.lt z) (by omega)
/-- refuses nothing: a taken frame's number, a cell -/
def spFrLookAt (K : PySem.W.Frag) : Sp := fun vs H Q _ => ∃ (F : Frs) (c : Col) (i : Nat) (cell : Nat), vs = [.ref F.g, nv i, nv cell] ∧ FrAt K F c H ∧ Tkn F i ∧ cell < 8 ∧ Q .non H
theorem ok_Frames_look_at (T : Tx K mg) : FnG P w K mg base 4 (fAd K ("Frames", some "look_at")) (fdat K ("Frames", some "look_at")) ["self", "page", "cell"] (spFrLookAt K) := by
  refine fnG (fd_Frames_look_at T) sc_Frames_look_at (fun vs H Q E h => ?_) (fun cc pn cdv A outer s H vs Q E g hr h => ?_)
  · obtain ⟨F, c, i, cell, rfl, _⟩ := h
    rfl
  · obtain ⟨F, c, i, cell, rfl, A, t, hc, k⟩ := h
    refine ⟨_, (pss_cons (ps_if (pt_not (pt_val (pe_mG g (pv 0) (c_Frames T) (m_Frames_has T) (ok_Frames_has T) (hr.mono (by decide)) (bd_Frames_has T) (pa_cons (pv 1) pa_nil)))) (pss_one ps_never) pss_nil) (pss_one (ps_if (pt_not (pt_val (pe_fG g (ok_f_is_below T) (hr.mono (by decide)) (by rfl) (g_is_below T) (fd_f_is_below T).kp (bd_f_is_below T) (pa_cons (pv 2) (pa_cons (pe_gi (i_CELLS T)) pa_nil))))) (pss_one ps_never) pss_nil))), ?_⟩
    refine ⟨_, rfl, _, _, _, rfl, A.hg, rfl, _, rfl, F, c, i, rfl, A, fun b hb => ?_⟩
    obtain rfl : b = true := hb.mpr ⟨i, rfl, t⟩
    refine ⟨_, rfl, iteF ⟨_, rfl, _, _, rfl, ⟨_, rfl, ?_⟩⟩⟩
    rw [decide_eq_true (show (0 : Int) ≤ (cell : Int) ∧ (cell : Int) < 8 by omega)]
    exact iteF k
def spFrRead (K : PySem.W.Frag) : Sp := fun vs H Q _ => ∃ (F : Frs) (c : Col) (i cell x : Nat), vs = [.ref F.g, nv i, nv cell] ∧ FrAt K F c H ∧ Tkn F i ∧ (F.wd i)[cell]? = some x ∧ Q (nv x) H
theorem ok_Frames_read (T : Tx K mg) : FnG P w K mg base 5 (fAd K ("Frames", some "read")) (fdat K ("Frames", some "read")) ["self", "page", "cell"] (spFrRead K) := by
  refine fnG (fd_Frames_read T) sc_Frames_read (fun vs H Q E h => ?_) (fun cc pn cdv A outer s H vs Q E g hr h => ?_)
  · obtain ⟨F, c, i, cell, x, rfl, _⟩ := h
    rfl
  · obtain ⟨F, c, i, cell, x, rfl, A, ⟨n, e⟩, hx, k⟩ := h
    obtain ⟨a1, a2, a3, a4, a5⟩ := A.fr i n e
    have hc : cell < 8 := by rw [← a4]; exact (List.getElem?_eq_some_iff.mp hx).1
    refine ⟨_, (pss_cons (ps_expr (pe_mG g (pv 0) (c_Frames T) (m_Frames_look_at T) (ok_Frames_look_at T) (hr.mono (by decide)) (bd_Frames_look_at T) (pa_cons (pv 1) (pa_cons (pv 2) pa_nil)))) (pss_one (ps_ret (pe_ix ix_list (pe_ix ix_list (pe_fl (c_Frames T) (n_Frames_held T) (pv 0)) (pv 1) (fun _ _ => rfl)) (pv 2) (fun _ _ => rfl))))), ?_⟩
    refine ⟨_, rfl, _, _, _, rfl, A.hg, rfl, _, rfl, _, rfl, F, c, i, cell, rfl, A, ⟨n, e⟩, hc, ?_⟩
    exact ⟨_, rfl, _, _, _, _, rfl, A.hg, rfl, _, rfl, _, _, _, _, rfl, rfl, SqL.of A.hh, atI_nat a1, _, rfl, _, _, _, _, rfl, rfl, SqL.of a2, atI_nat (nv_get hx), k⟩
def spFrWrite (K : PySem.W.Frag) : Sp := fun vs H Q _ => ∃ (F : Frs) (c : Col) (i cell x : Nat), vs = [.ref F.g, nv i, nv cell, nv x] ∧ FrAt K F c H ∧ Tkn F i ∧ cell < 8 ∧ x < 2 ^ 48 ∧
  ∀ H', FrAt K (F.wr i cell x) c H' → Keep Tag.isF c H c H' → Q .non H'
theorem ixN_lt {n j : Nat} (h : j < n) : ixN n (j : Int) = some j := by
  unfold ixN
  rw [if_pos (by omega), if_pos (by omega)]
  rfl
theorem ok_Frames_write (T : Tx K mg) : FnG P w K mg base 5 (fAd K ("Frames", some "write")) (fdat K ("Frames", some "write")) ["self", "page", "cell", "word"] (spFrWrite K) := by
  refine fnG (fd_Frames_write T) sc_Frames_write (fun vs H Q E h => ?_) (fun cc pn cdv A outer s H vs Q E g hr h => ?_)
  · obtain ⟨F, c, i, cell, x, rfl, _⟩ := h
    rfl
  · obtain ⟨F, c, i, cell, x, rfl, A, ⟨n, e⟩, hc, hx, k⟩ := h
    obtain ⟨a1, a2, a3, a4, a5⟩ := A.fr i n e
    refine ⟨_, (pss_cons (ps_expr (pe_mG g (pv 0) (c_Frames T) (m_Frames_look_at T) (ok_Frames_look_at T) (hr.mono (by decide)) (bd_Frames_look_at T) (pa_cons (pv 1) (pa_cons (pv 2) pa_nil)))) (pss_cons (ps_if (pt_not (pt_val (pe_fG g (ok_f_is_word T) (hr.mono (by decide)) (by rfl) (g_is_word T) (fd_f_is_word T).kp (bd_f_is_word T) (pa_cons (pv 3) pa_nil)))) (pss_one ps_never) pss_nil) (pss_one (ps_asg (pv 3) (pg_sub (pe_ix ix_list (pe_fl (c_Frames T) (n_Frames_held T) (pv 0)) (pv 1) (fun _ _ => rfl)) (pv 2) set_list))))), ?_⟩
    refine ⟨_, rfl, _, _, _, rfl, A.hg, rfl, _, rfl, _, rfl, F, c, i, cell, rfl, A, ⟨n, e⟩, hc, ?_⟩
    refine ⟨_, rfl, _, rfl, _, rfl, ?_⟩
    rw [decide_eq_true (show (0 : Int) ≤ (x : Int) ∧ (x : Int) < 2 ^ 48 by omega)]
    refine iteF ⟨_, rfl, _, rfl, _, _, _, _, rfl, A.hg, rfl, _, rfl, _, _, _, _, rfl, rfl, SqL.of A.hh, atI_nat a1, _, rfl, _, _, _, cell, rfl, rfl, a2, ixN_lt (by rw [List.length_map, a4]; exact hc), ?_⟩
    refine k _ ?_ (Keep.upd (by rw [a3]; trivial))
    rw [map_set]
    exact A.wr ⟨n, e⟩ hx
theorem any_eqV {l : List Nat} : (l.map nv).any (fun y => eqV y (.int 0)) = true ↔ 0 ∈ l := by
  rw [List.any_eq_true]
  refine ⟨fun ⟨y, h1, h2⟩ => ?_, fun h => ⟨nv 0, List.mem_map.mpr ⟨0, h, rfl⟩, rfl⟩⟩
  obtain ⟨n, hn, rfl⟩ := List.mem_map.mp h1
  have e : (n : Int) = 0 := by
    have h3 : decide ((n : Int) = 0) = true := h2
    exact of_decide_eq_true h3
  have e' : n = 0 := by omega
  rw [← e']
  exact hn
theorem flat_nv (l : List Nat) : (l.map nv).all flatV = true := List.all_eq_true.mpr fun x hx => by
  obtain ⟨n, _, rfl⟩ := List.mem_map.mp hx
  rfl
/-- taking: a free frame (there is one), its words noughts -/
def spFrTake (K : PySem.W.Frag) : Sp := fun vs H Q _ => ∃ (F : Frs) (c : Col), vs = [.ref F.g] ∧ FrAt K F c H ∧ 0 ∈ F.ow ∧
  ∀ i p c' H', F.ow[i]? = some 0 → FrAt K (F.take i p) c' H' → Keep Tag.isF c H c' H' → Q (nv i) H'
theorem first_zero : ∀ {l : List Nat}, 0 ∈ l → ∃ j, l[j]? = some 0 ∧ ∀ (m : Nat) (z : Nat), m < j → l[m]? = some z → z ≠ 0
  | a :: l, h => by
    by_cases e : a = 0
    · exact ⟨0, by rw [e]; rfl, fun m z hm => absurd hm (Nat.not_lt_zero _)⟩
    · obtain ⟨j, h1, h2⟩ := first_zero (l := l) ((List.mem_cons.mp h).resolve_left fun z => e z.symm)
      refine ⟨j + 1, h1, fun m z hm hz => ?_⟩
      cases m with
      | zero =>
        have q : a = z := Option.some.inj hz
        rw [← q]
        exact e
      | succ m => exact h2 m z (by omega) hz
theorem ok_Frames_take (T : Tx K mg) : FnG P w K mg base 1 (fAd K ("Frames", some "take")) (fdat K ("Frames", some "take")) ["self"] (spFrTake K) := by
  refine fnG (fd_Frames_take T) sc_Frames_take (fun vs H Q E h => ?_) (fun cc pn cdv A outer s H vs Q E g hr h => ?_)
  · obtain ⟨F, c, rfl, _⟩ := h
    rfl
  · obtain ⟨F, c, rfl, A, h0, k⟩ := h
    obtain ⟨j, hj, hm⟩ := first_zero h0
    have lt : j < F.ow.length := (List.getElem?_eq_some_iff.mp hj).1
    refine ⟨_, (pss_cons (ps_if (pt_cmpR op_notIn_seq pe_int (pe_fl (c_Frames T) (n_Frames_owned T) (pv 0)) (by rfl)) (pss_one ps_never) pss_nil) (pss_cons (ps_set (i := 1) sc_Frames_take.nd rfl (by first | exact Or.inl rfl | exact Or.inr rfl) (pe_bm PySem.F.plainAttrs_list PySem.F.slot_list_index PySem.F.type_list_index mt_index (pe_fl (c_Frames T) (n_Frames_owned T) (pv 0)) (pa_cons pe_int pa_nil))) (pss_cons (ps_asg (pe_op op_rep (pe_lst (pa_cons pe_int pa_nil)) (pe_gi (i_CELLS T))) (pg_sub (pe_fl (c_Frames T) (n_Frames_held T) (pv 0)) (pv 1) set_list)) (pss_cons (ps_asg pe_int (pg_sub (pe_fl (c_Frames T) (n_Frames_owned T) (pv 0)) (pv 1) set_list)) (pss_one (ps_ret (pv 1))))))), ?_⟩
    refine ⟨_, rfl, _, _, _, _, rfl, A.hg, rfl, _, _, rfl, .inl (SqL.of A.ho), rfl, flat_nv _, ?_⟩
    have e1 : inV (.int 0) (F.ow.map nv) = true := any_eqV.mpr h0
    rw [e1]
    refine ⟨_, rfl, iteF ?_⟩
    refine ⟨_, rfl, _, _, _, _, rfl, A.hg, rfl, .inl ⟨rfl, _, SqL.of A.ho⟩, _, _, _, j, nv 0, rfl, rfl, SqL.of A.ho, rfl, flat_nv _, nv_get hj, rfl, fun m z hlt hz => ?_, ?_⟩
    · rw [List.getElem?_map] at hz
      cases e : F.ow[m]? with
      | none =>
        rw [e] at hz
        cases hz
      | some n =>
        rw [e] at hz
        obtain rfl : nv n = z := Option.some.inj hz
        have nz := hm m n hlt e
        show decide ((n : Int) = 0) = false
        exact decide_eq_false (by omega)
    · refine ⟨by show 1 ≤ sizeLine; decide, fun p hp => ?_⟩
      refine ⟨p, 8, _, rfl, rfl, upd_same, by decide, by decide, by show 1 * 8 ≤ sizeLine; decide, fun p2 hp2 => ?_⟩
      have np : H p2 = none := by
        by_cases z : p2 = p
        · rw [z]; exact hp
        · rw [upd_ne z] at hp2; exact hp2
      have nep : p2 ≠ p := fun z => by
        rw [z, upd_same] at hp2
        cases hp2
      have s1 : Same H (L2.upd H p (.lst [V.int 0])) := fun b o e => by rw [upd_ne (ne_of_none e hp)]; exact e
      have A1 := A.same s1
      have e8 : (List.replicate (8 : Int).toNat [V.int 0]).flatten = (List.replicate 8 0).map nv := rfl
      rw [e8]
      have q1 : ∀ {a o}, L2.upd H p (.lst [V.int 0]) a = some o → L2.upd (L2.upd H p (.lst [V.int 0])) p2 (.lst ((List.replicate 8 0).map nv)) a = some o := fun {a o} e => by
        rw [upd_ne (ne_of_none e hp2)]
        exact e
      refine ⟨_, rfl, _, _, _, _, rfl, q1 A1.hg, rfl, _, rfl, _, _, _, j, rfl, rfl, q1 A1.hh, ixN_lt (by rw [A.len]; exact lt), ?_⟩
      have ne1 : F.g ≠ F.ah := fun z => by
        have q := A.th
        rw [← z, A.tg] at q
        cases q
      have ne2 : F.ao ≠ F.ah := fun z => by
        have q := A.th
        rw [← z, A.to] at q
        cases q
      refine ⟨_, rfl, _, _, _, _, rfl, (by rw [upd_ne ne1]; exact q1 A1.hg), rfl, _, rfl, _, _, _, j, rfl, rfl, (by rw [upd_ne ne2]; exact q1 A1.ho), ixN_lt (by rw [List.length_map]; exact lt), ?_⟩
      refine ⟨_, rfl, ?_⟩
      have F1 := A1.take hj hp2
      rw [← map_set nv F.ow j 1] at F1
      refine k j p2 _ _ hj F1 ?_
      exact ((Keep.same s1).trans (Keep.newC hp2)).trans ((Keep.upd (by rw [colS_ne (ne_of_none A1.hh hp2), A.th]; trivial)).trans (Keep.upd (by rw [colS_ne (ne_of_none A1.ho hp2), A.to]; trivial)))
end K6
/-! Frames: the rest; rows; places. -/
namespace K6
open PySem PySem.Spec PyProof.Rows L2 HotX L2H He
variable {P : Program} {w : World} {K : PySem.W.Frag} {mg : Str → Option Value} {base : Heap}
theorem upd_self {H : Hp} {a : Addr} {o : HO} (h : H a = some o) : L2.upd H a o = H := by
  funext b
  by_cases z : b = a
  · rw [z, upd_same, h]
  · rw [upd_ne z]
theorem lt3 {a b : Addr} {p : Int} : (frF a b p).length < 1000 := by show 3 < 1000; decide
def spFrLookUp (K : PySem.W.Frag) : Sp := fun vs H Q _ => ∃ (F : Frs) (c : Col) (i : Nat), vs = [.ref F.g, nv i] ∧ FrAt K F c H ∧ Tkn F i ∧ Q .non H
theorem ok_Frames_look_up (T : Tx K mg) : FnG P w K mg base 4 (fAd K ("Frames", some "look_up")) (fdat K ("Frames", some "look_up")) ["self", "frame"] (spFrLookUp K) := by
  refine fnG (fd_Frames_look_up T) sc_Frames_look_up (fun vs H Q E h => ?_) (fun cc pn cdv A0 outer s H vs Q E g hr h => ?_)
  · obtain ⟨F, c, i, rfl, _⟩ := h
    rfl
  obtain ⟨F, c, i, rfl, A, t, k⟩ := h
  refine ⟨_, (pss_one (ps_if (pt_not (pt_val (pe_mG g (pv 0) (c_Frames T) (m_Frames_has T) (ok_Frames_has T) (hr.mono (by decide)) (bd_Frames_has T) (pa_cons (pv 1) pa_nil)))) (pss_one ps_never) pss_nil)), ?_⟩
  refine ⟨_, rfl, _, _, _, rfl, A.hg, rfl, _, rfl, F, c, i, rfl, A, fun b hb => ?_⟩
  obtain rfl : b = true := hb.mpr ⟨i, rfl, t⟩
  exact ⟨_, rfl, iteF k⟩
theorem FrAt.nao {F : Frs} {c : Col} {H : Hp} (A : FrAt K F c H) : F.ao ≠ F.ah := fun z => by
  have q := A.to
  rw [z, A.th] at q
  cases q
theorem FrAt.ngo {F : Frs} {c : Col} {H : Hp} (A : FrAt K F c H) : F.g ≠ F.ao := fun z => by
  have q := A.tg
  rw [z, A.to] at q
  cases q
theorem FrAt.ngh {F : Frs} {c : Col} {H : Hp} (A : FrAt K F c H) : F.g ≠ F.ah := fun z => by
  have q := A.tg
  rw [z, A.th] at q
  cases q
/-- one more owner, one owner less -/
def spFrOwn (K : PySem.W.Frag) (d : Nat → Nat) : Sp := fun vs H Q _ => ∃ (F : Frs) (c : Col) (i n : Nat), vs = [.ref F.g, nv i] ∧ FrAt K F c H ∧ F.ow[i]? = some (n + 1) ∧ ∀ H', FrAt K (F.own i (d n)) c H' → Keep Tag.isF c H c H' → Q .non H'
theorem ok_Frames_share (T : Tx K mg) : FnC P w K mg base 5 (fAd K ("Frames", some "share")) (fdat K ("Frames", some "share")) ["self", "frame"] (spFrOwn K fun n => n + 2) := by
  refine fnC (fd_Frames_share T) sc_Frames_share (fun vs H Q E h => ?_) (fun cdv A0 outer s H vs Q E hr h => ?_)
  · obtain ⟨F, c, i, n, rfl, _⟩ := h
    rfl
  obtain ⟨F, c, i, n, rfl, A, e, k⟩ := h
  refine ⟨_, (pss_cons (ps_expr (pe_mG (.inl rfl) (pv 0) (c_Frames T) (m_Frames_look_up T) (ok_Frames_look_up T) (hr.mono (by decide)) (bd_Frames_look_up T) (pa_cons (pv 1) pa_nil))) (pss_one (ps_augS (pe_fl (c_Frames T) (n_Frames_owned T) (pv 0)) (pv 1) get_list pe_int ip_add set_list))), ?_⟩
  have lt : i < (F.ow.map nv).length := by rw [List.length_map]; exact A.lt ⟨n, e⟩
  refine ⟨_, rfl, _, _, _, rfl, A.hg, rfl, _, rfl, F, c, i, rfl, A, ⟨n, e⟩, ?_⟩
  refine ⟨_, rfl, _, _, _, _, rfl, A.hg, rfl, _, rfl, F.ao, _, i, nv (n + 1), rfl, rfl, A.ho, nv_get e, _, _, rfl, rfl, _, _, _, i, rfl, rfl, A.ho, ixN_lt lt, ?_⟩
  have F1 := A.own (m := n + 2) ⟨n, e⟩
  have e1 : (F.own i (n + 2)).hs = F.hs := rfl
  rw [e1, upd_self (by rw [upd_ne A.nao.symm]; exact A.hh)] at F1
  have e2 : ((n + 1 : Nat) : Int) + 1 = ((n + 2 : Nat) : Int) := by omega
  dsimp only
  rw [e2]
  refine k _ ?_ (Keep.upd (by rw [A.to]; trivial))
  rw [map_set nv]
  exact F1
theorem ok_Frames_drop (T : Tx K mg) : FnG P w K mg base 5 (fAd K ("Frames", some "drop")) (fdat K ("Frames", some "drop")) ["self", "frame"] (spFrOwn K fun n => n) := by
  refine fnG (fd_Frames_drop T) sc_Frames_drop (fun vs H Q E h => ?_) (fun cc pn cdv A0 outer s H vs Q E g hr h => ?_)
  · obtain ⟨F, c, i, n, rfl, _⟩ := h
    rfl
  obtain ⟨F, c, i, n, rfl, A, e, k⟩ := h
  refine ⟨_, (pss_cons (ps_expr (pe_mG g (pv 0) (c_Frames T) (m_Frames_look_up T) (ok_Frames_look_up T) (hr.mono (by decide)) (bd_Frames_look_up T) (pa_cons (pv 1) pa_nil))) (pss_cons (ps_augS (pe_fl (c_Frames T) (n_Frames_owned T) (pv 0)) (pv 1) get_list pe_int ip_sub set_list) (pss_one (ps_if (pt_cmpR op_eq (pe_ix ix_list (pe_fl (c_Frames T) (n_Frames_owned T) (pv 0)) (pv 1) (fun _ _ => rfl)) pe_int (nomark _)) (pss_one (ps_asg pe_non (pg_sub (pe_fl (c_Frames T) (n_Frames_held T) (pv 0)) (pv 1) set_list))) pss_nil)))), ?_⟩
  have lt : i < (F.ow.map nv).length := by rw [List.length_map]; exact A.lt ⟨n, e⟩
  have lt0 := A.lt ⟨n, e⟩
  refine ⟨_, rfl, _, _, _, rfl, A.hg, rfl, _, rfl, F, c, i, rfl, A, ⟨n, e⟩, ?_⟩
  refine ⟨_, rfl, _, _, _, _, rfl, A.hg, rfl, _, rfl, F.ao, _, i, nv (n + 1), rfl, rfl, A.ho, nv_get e, _, _, rfl, rfl, _, _, _, i, rfl, rfl, A.ho, ixN_lt lt, ?_⟩
  have F1 := A.own (m := n) ⟨n, e⟩
  have e2 : ((n + 1 : Nat) : Int) - 1 = ((n : Nat) : Int) := by omega
  dsimp only
  rw [e2, map_set nv]
  have g1 : (F.ow.set i n)[i]? = some n := List.getElem?_set_self lt0
  have hg' : ∀ v, L2.upd H F.ao v F.g = some (.ins (ga K "Frames") F.dx (frF F.ah F.ao F.pl)) := fun v => by rw [upd_ne A.ngo]; exact A.hg
  refine ⟨_, rfl, _, _, _, _, rfl, hg' _, rfl, _, rfl, _, _, _, _, rfl, rfl, SqL.of upd_same, atI_nat (nv_get g1), (by rfl), _, rfl, ?_⟩
  cases n with
  | zero =>
    refine iteT ⟨_, rfl, _, _, _, _, rfl, hg' _, rfl, _, rfl, _, _, _, i, rfl, rfl, (by rw [upd_ne A.nao.symm]; exact A.hh), ixN_lt (by rw [A.len]; exact lt0), ?_⟩
    have e1 : (F.own i 0).hs = F.hs.set i .non := rfl
    rw [e1] at F1
    exact k _ F1 ((Keep.upd (by rw [A.to]; trivial)).trans (Keep.upd (by rw [A.th]; trivial)))
  | succ n =>
    refine iteF ?_
    have e1 : (F.own i (n + 1)).hs = F.hs := rfl
    rw [e1, upd_self (by rw [upd_ne A.nao.symm]; exact A.hh)] at F1
    exact k _ F1 (Keep.upd (by rw [A.to]; trivial))
/-- how many owners -/
def Frs.o (F : Frs) (i : Nat) : Nat := F.ow.getD i 0
theorem o_some {F : Frs} {i n : Nat} (h : F.ow[i]? = some n) : F.o i = n := by unfold Frs.o; rw [List.getD_eq_getElem?_getD, h]; rfl
theorem o_tkn {F : Frs} {i : Nat} : Tkn F i ↔ 0 < F.o i := by
  unfold Frs.o
  rw [List.getD_eq_getElem?_getD]
  refine ⟨fun ⟨n, e⟩ => by rw [e]; exact Nat.succ_pos n, fun h => ?_⟩
  cases e : F.ow[i]? with
  | none => rw [e] at h; exact absurd h (Nat.lt_irrefl _)
  | some n =>
    rw [e] at h
    exact ow_pos e h
def spFrOwners (K : PySem.W.Frag) : Sp := fun vs H Q _ => ∃ (F : Frs) (c : Col) (i : Nat), vs = [.ref F.g, nv i] ∧ FrAt K F c H ∧ Q (nv (F.o i)) H
theorem ok_Frames_owners (T : Tx K mg) : FnG P w K mg base 4 (fAd K ("Frames", some "owners")) (fdat K ("Frames", some "owners")) ["self", "frame"] (spFrOwners K) := by
  refine fnG (fd_Frames_owners T) sc_Frames_owners (fun vs H Q E h => ?_) (fun cc pn cdv A0 outer s H vs Q E g hr h => ?_)
  · obtain ⟨F, c, i, rfl, _⟩ := h
    rfl
  obtain ⟨F, c, i, rfl, A, k⟩ := h
  refine ⟨_, (pss_cons (ps_if (pt_not (pt_val (pe_mG g (pv 0) (c_Frames T) (m_Frames_has T) (ok_Frames_has T) (hr.mono (by decide)) (bd_Frames_has T) (pa_cons (pv 1) pa_nil)))) (pss_one (ps_ret pe_int)) pss_nil) (pss_one (ps_ret (pe_ix ix_list (pe_fl (c_Frames T) (n_Frames_owned T) (pv 0)) (pv 1) (fun _ _ => rfl))))), ?_⟩
  refine ⟨_, rfl, _, _, _, rfl, A.hg, rfl, _, rfl, F, c, i, rfl, A, fun b hb => ?_⟩
  by_cases t : Tkn F i
  · obtain rfl : b = true := hb.mpr ⟨i, rfl, t⟩
    refine ⟨_, rfl, iteF ?_⟩
    obtain ⟨n, e⟩ := t
    rw [o_some e] at k
    exact ⟨_, rfl, _, _, _, _, rfl, A.hg, rfl, _, rfl, _, _, _, _, rfl, rfl, SqL.of A.ho, atI_nat (nv_get e), k⟩
  · have hb' : b = false := by
      cases b with
      | false => rfl
      | true =>
        obtain ⟨j, ej, tj⟩ := hb.mp rfl
        have : i = j := by omega
        subst this
        exact absurd tj t
    subst hb'
    have e0 : F.o i = 0 := by
      have := mt o_tkn.mpr t
      omega
    rw [e0] at k
    exact ⟨_, rfl, iteT k⟩
def spFrAsk (K : PySem.W.Frag) : Sp := fun vs H Q _ => ∃ (F : Frs) (c : Col) (n : Int), vs = [.ref F.g, .int n] ∧ FrAt K F c H ∧
  (F.pl + n ≤ F.ow.length → ∀ H', FrAt K (F.pledge (F.pl + n)) c H' → Keep Tag.isF c H c H' → Q (.bl true) H') ∧ (¬ F.pl + n ≤ F.ow.length → Q (.bl false) H)
theorem ok_Frames_ask (T : Tx K mg) : FnC P w K mg base 1 (fAd K ("Frames", some "ask")) (fdat K ("Frames", some "ask")) ["self", "count"] (spFrAsk K) := by
  refine fnC (fd_Frames_ask T) sc_Frames_ask (fun vs H Q E h => ?_) (fun cdv A0 outer s H vs Q E hr h => ?_)
  · obtain ⟨F, c, n, rfl, _⟩ := h
    rfl
  obtain ⟨F, c, n, rfl, A, k1, k2⟩ := h
  refine ⟨_, (pss_cons (ps_if (pt_cmpR op_gt (pe_op op_add (pe_fl (c_Frames T) (n_Frames_pledged T) (pv 0)) (pv 1)) (pe_callB call_len_seq (by rfl) (b_len T) q_len (pa_cons (pe_fl (c_Frames T) (n_Frames_owned T) (pv 0)) pa_nil)) (nomark _)) (pss_one (ps_ret pe_bl)) pss_nil) (pss_cons (ps_fla (c_Frames T) (n_Frames_pledged T) (pv 0) (pv 1) in_add) (pss_one (ps_ret pe_bl)))), ?_⟩
  refine ⟨_, rfl, _, _, _, _, rfl, A.hg, rfl, _, rfl, _, _, rfl, rfl, _, rfl, _, _, _, _, rfl, A.hg, rfl, _, _, rfl, .inl (SqL.of A.ho), _, _, rfl, rfl, ?_⟩
  rw [List.length_map]
  refine ⟨_, rfl, ?_⟩
  by_cases h : F.pl + n ≤ F.ow.length
  · rw [decide_eq_false (show ¬ ((F.ow.length : Int) < F.pl + n) by omega)]
    refine iteF ⟨_, rfl, _, _, _, _, rfl, A.hg, rfl, _, rfl, _, _, rfl, rfl, _, _, A.hg, lt3, ?_⟩
    exact k1 h _ (A.pledge _) (Keep.upd (by rw [A.tg]; trivial))
  · rw [decide_eq_true (show (F.ow.length : Int) < F.pl + n by omega)]
    exact iteT (k2 h)
def spFrBack (K : PySem.W.Frag) : Sp := fun vs H Q _ => ∃ (F : Frs) (c : Col) (n : Int), vs = [.ref F.g, .int n] ∧ FrAt K F c H ∧ ∀ H', FrAt K (F.pledge (F.pl - n)) c H' → Keep Tag.isF c H c H' → Q .non H'
theorem ok_Frames_back (T : Tx K mg) : FnC P w K mg base 1 (fAd K ("Frames", some "back")) (fdat K ("Frames", some "back")) ["self", "count"] (spFrBack K) := by
  refine fnC (fd_Frames_back T) sc_Frames_back (fun vs H Q E h => ?_) (fun cdv A0 outer s H vs Q E hr h => ?_)
  · obtain ⟨F, c, n, rfl, _⟩ := h
    rfl
  obtain ⟨F, c, n, rfl, A, k⟩ := h
  refine ⟨_, (pss_one (ps_fla (c_Frames T) (n_Frames_pledged T) (pv 0) (pv 1) in_sub)), ?_⟩
  exact ⟨_, rfl, _, _, _, _, rfl, A.hg, rfl, _, rfl, _, _, rfl, rfl, _, _, A.hg, lt3, k _ (A.pledge _) (Keep.upd (by rw [A.tg]; trivial))⟩
def spFrPromised (K : PySem.W.Frag) : Sp := fun vs H Q _ => ∃ (F : Frs) (c : Col), vs = [.ref F.g] ∧ FrAt K F c H ∧ Q (.int F.pl) H
theorem ok_Frames_promised (T : Tx K mg) : FnC P w K mg base 1 (fAd K ("Frames", some "promised")) (fdat K ("Frames", some "promised")) ["self"] (spFrPromised K) := by
  refine fnC (fd_Frames_promised T) sc_Frames_promised (fun vs H Q E h => ?_) (fun cdv A0 outer s H vs Q E hr h => ?_)
  · obtain ⟨F, c, rfl, _⟩ := h
    rfl
  obtain ⟨F, c, rfl, A, k⟩ := h
  refine ⟨_, (pss_one (ps_ret (pe_fl (c_Frames T) (n_Frames_pledged T) (pv 0)))), ?_⟩
  exact ⟨_, rfl, _, _, _, _, rfl, A.hg, rfl, k⟩
end K6
/-! Rows; places; laying out; reading out. -/
namespace K6
open PySem PySem.Spec PyProof.Rows L2 HotX L2H He
variable {P : Program} {w : World} {K : PySem.W.Frag} {mg : Str → Option Value} {base : Heap}
theorem szl {n : Nat} (h : n ≤ 1000) : n ≤ sizeLine := by rw [sizeLine_eq]; omega
/-! ### bits, plainly -/
theorem or_low {r m : Nat} (h : m < 256) : r ||| m = 256 * (r / 256) + (r % 256 ||| m) := by
  have h1 : (r ||| m) / 2 ^ 8 = r / 256 := by rw [Nat.or_div_two_pow, Nat.div_eq_of_lt (a := m) (by omega), Nat.or_zero]
  have h2 : (r ||| m) % 2 ^ 8 = (r % 256 ||| m) := by rw [Nat.or_mod_two_pow, Nat.mod_eq_of_lt (a := m) (by omega)]
  have := Nat.div_add_mod (r ||| m) (2 ^ 8)
  rw [h1, h2] at this
  exact this.symm
theorem and_low {r m : Nat} (h : m < 256) : r &&& m = (r % 256 &&& m) := by
  have h1 : (r &&& m) / 2 ^ 8 = 0 := by rw [Nat.and_div_two_pow, Nat.div_eq_of_lt (a := m) (by omega), Nat.and_zero]
  have h2 : (r &&& m) % 2 ^ 8 = (r % 256 &&& m) := by rw [Nat.and_mod_two_pow, Nat.mod_eq_of_lt (a := m) (by omega)]
  have := Nat.div_add_mod (r &&& m) (2 ^ 8)
  rw [h1, h2] at this
  omega
/-- what is asked of a low byte -/
def lowOk (x : Nat) : Bool :=
  (x &&& 1 == x % 2) && (x &&& 2 == 2 * (x / 2 % 2)) && (x &&& 4 == 4 * (x / 4 % 2)) && (x &&& 16 == 16 * (x / 16 % 2)) && (x ||| 2 == x + 2 - 2 * (x / 2 % 2)) && (x ||| 8 == x + 8 - 8 * (x / 8 % 2)) && (x ||| 16 == x + 16 - 16 * (x / 16 % 2)) &&
  (x ||| 24 == x + 24 - 8 * (x / 8 % 2) - 16 * (x / 16 % 2)) && (x &&& 255 == x) && (x &&& 8 == 8 * (x / 8 % 2)) && (x &&& 24 == 8 * (x / 8 % 2) + 16 * (x / 16 % 2)) && (x &&& 18 == 2 * (x / 2 % 2) + 16 * (x / 16 % 2))
theorem low_all : (List.range 256).all lowOk = true := by decide +kernel
theorem low_at {x : Nat} (h : x < 256) : lowOk x = true := List.all_eq_true.mp low_all x (List.mem_range.mpr h)
structure Low (x : Nat) : Prop where
  a1 : x &&& 1 = x % 2
  a2 : x &&& 2 = 2 * (x / 2 % 2)
  a4 : x &&& 4 = 4 * (x / 4 % 2)
  a16 : x &&& 16 = 16 * (x / 16 % 2)
  o2 : x ||| 2 = x + 2 - 2 * (x / 2 % 2)
  o8 : x ||| 8 = x + 8 - 8 * (x / 8 % 2)
  o16 : x ||| 16 = x + 16 - 16 * (x / 16 % 2)
  o24 : x ||| 24 = x + 24 - 8 * (x / 8 % 2) - 16 * (x / 16 % 2)
  a255 : x &&& 255 = x % 256
  a8 : x &&& 8 = 8 * (x / 8 % 2)
  a24 : x &&& 24 = 8 * (x / 8 % 2) + 16 * (x / 16 % 2)
  a18 : x &&& 18 = 2 * (x / 2 % 2) + 16 * (x / 16 % 2)
theorem low (r : Nat) : Low r := by
  have h := low_at (x := r % 256) (Nat.mod_lt _ (by decide))
  simp only [lowOk, Bool.and_eq_true, beq_iff_eq] at h
  obtain ⟨⟨⟨⟨⟨⟨⟨⟨⟨⟨⟨h1, h2⟩, h3⟩, h4⟩, h5⟩, h6⟩, h7⟩, h8⟩, h9⟩, h10⟩, h11⟩, h12⟩ := h
  constructor
  · rw [and_low (by decide)]; omega
  · rw [and_low (by decide)]; omega
  · rw [and_low (by decide)]; omega
  · rw [and_low (by decide)]; omega
  · rw [or_low (by decide)]; omega
  · rw [or_low (by decide)]; omega
  · rw [or_low (by decide)]; omega
  · rw [or_low (by decide)]; omega
  · rw [and_low (by decide)]; omega
  · rw [and_low (by decide)]; omega
  · rw [and_low (by decide)]; omega
  · rw [and_low (by decide)]; omega
theorem or_row {p x : Nat} (h : x < 256) : p * 2 ^ 8 ||| x = 256 * p + x := by
  rw [Nat.mul_comm, ← Nat.two_pow_add_eq_or_of_lt (i := 8) h]
/-! ### rows -/
def spRowOf : Sp := fun vs H Q _ => ∃ p m : Nat, vs = [nv p, nv m] ∧ p < 2 ^ 40 ∧ m < 256 ∧ Q (nv (256 * p + m)) H
theorem ok_f_row_of (T : Tx K mg) : FnG P w K mg base 2 (fAd K ("row_of", none)) (fdat K ("row_of", none)) ["page", "marks"] spRowOf := by
  refine fnG (fd_f_row_of T) sc_f_row_of (fun vs H Q E h => ?_) (fun cc pn cdv A0 outer s H vs Q E g hr h => ?_)
  · obtain ⟨p, m, rfl, _⟩ := h
    rfl
  obtain ⟨p, m, rfl, hp, hm, k⟩ := h
  refine ⟨_, (pss_cons (ps_if (PW.pt (pw_or (pt_not (pt_val (pe_fG g (ok_f_is_whole T) (hr.mono (by decide)) (by rfl) (g_is_whole T) (fd_f_is_whole T).kp (bd_f_is_whole T) (pa_cons (pv 0) pa_nil)))) (pw_or (pt_cmpR op_lt (pv 0) pe_int (nomark _)) (pw_or1 (pt_cmpR op_ge (pv 0) (pe_op op_pow pe_int pe_int) (nomark _)))))) (pss_one ps_never) pss_nil) (pss_cons (ps_if (PW.pt (pw_or (pt_not (pt_val (pe_fG g (ok_f_is_whole T) (hr.mono (by decide)) (by rfl) (g_is_whole T) (fd_f_is_whole T).kp (bd_f_is_whole T) (pa_cons (pv 1) pa_nil)))) (pw_or (pt_cmpR op_lt (pv 1) pe_int (nomark _)) (pw_or1 (pt_cmpR op_gt (pv 1) pe_int (nomark _)))))) (pss_one ps_never) pss_nil) (pss_one (ps_ret (pe_op op_or (pe_op op_shl (pv 0) pe_int) (pv 1)))))), ?_⟩
  refine ⟨_, rfl, _, rfl, true, rfl, iteF ⟨_, rfl, _, _, rfl, rfl, _, rfl, ?_⟩⟩
  rw [decide_eq_false (show ¬ ((p : Int) < 0) by omega)]
  refine iteF ⟨_, rfl, 2, 40, rfl, rfl, ⟨by decide, by decide, by decide⟩, _, _, rfl, rfl, _, rfl, ?_⟩
  rw [decide_eq_false (show ¬ ((2 : Int) ^ (40 : Int).toNat ≤ (p : Int)) by show ¬ ((2 : Int) ^ 40 ≤ (p : Int)); omega)]
  refine iteF ⟨_, rfl, _, rfl, true, rfl, iteF ⟨_, rfl, _, _, rfl, rfl, _, rfl, ?_⟩⟩
  rw [decide_eq_false (show ¬ ((m : Int) < 0) by omega)]
  refine iteF ⟨_, rfl, _, _, rfl, rfl, _, rfl, ?_⟩
  rw [decide_eq_false (show ¬ ((255 : Int) < (m : Int)) by omega)]
  refine iteF ⟨_, rfl, (p : Int), 8, rfl, rfl, ⟨by decide, by decide, by show p < 2 ^ 64; omega⟩, _, rfl, ((p * 2 ^ 8 : Nat) : Int), _, rfl, rfl, ?_⟩
  dsimp only
  rw [bor, or_row hm]
  exact k
def spPageOf : Sp := fun vs H Q _ => ∃ r : Nat, vs = [nv r] ∧ Q (nv (r / 256)) H
theorem ok_f_page_of (T : Tx K mg) : FnG P w K mg base 1 (fAd K ("page_of", none)) (fdat K ("page_of", none)) ["row"] spPageOf := by
  refine fnG (fd_f_page_of T) sc_f_page_of (fun vs H Q E h => ?_) (fun cc pn cdv A0 outer s H vs Q E g hr h => ?_)
  · obtain ⟨r, rfl, _⟩ := h
    rfl
  obtain ⟨r, rfl, k⟩ := h
  refine ⟨_, (pss_one (ps_ret (pe_op op_shr (pv 0) pe_int))), ?_⟩
  exact ⟨_, rfl, _, 8, rfl, rfl, by show (0 : Int) ≤ 8; decide, k⟩
def spMarksOf : Sp := fun vs H Q _ => ∃ r : Nat, vs = [nv r] ∧ Q (nv (r % 256)) H
theorem ok_f_marks_of (T : Tx K mg) : FnG P w K mg base 1 (fAd K ("marks_of", none)) (fdat K ("marks_of", none)) ["row"] spMarksOf := by
  refine fnG (fd_f_marks_of T) sc_f_marks_of (fun vs H Q E h => ?_) (fun cc pn cdv A0 outer s H vs Q E g hr h => ?_)
  · obtain ⟨r, rfl, _⟩ := h
    rfl
  obtain ⟨r, rfl, k⟩ := h
  refine ⟨_, (pss_one (ps_ret (pe_op op_and (pv 0) pe_int))), ?_⟩
  refine ⟨_, rfl, (r : Int), ((255 : Nat) : Int), rfl, rfl, ?_⟩
  dsimp only
  rw [band, (low r).a255]
  exact k
def spHas : Sp := fun vs H Q _ => ∃ r m : Nat, vs = [nv r, nv m] ∧ Q (.bl (decide (r &&& m = m))) H
theorem ok_f_has (T : Tx K mg) : FnG P w K mg base 1 (fAd K ("has", none)) (fdat K ("has", none)) ["row", "marks"] spHas := by
  refine fnG (fd_f_has T) sc_f_has (fun vs H Q E h => ?_) (fun cc pn cdv A0 outer s H vs Q E g hr h => ?_)
  · obtain ⟨r, m, rfl, _⟩ := h
    rfl
  obtain ⟨r, m, rfl, k⟩ := h
  refine ⟨_, (pss_one (ps_ret (pe_cmpR op_eq (pe_op op_and (pv 0) (pv 1)) (pv 1) (nomark _)))), ?_⟩
  refine ⟨_, rfl, _, rfl, (r : Int), (m : Int), rfl, rfl, _, rfl, (by rfl), ?_⟩
  have e : decide (nv (r &&& m) = nv m) = decide (r &&& m = m) := decide_eq_decide.mpr ⟨fun z => by injection z with z; omega, fun z => by rw [z]⟩
  exact Eq.mpr (congrArg (fun b => Q (V.bl b) H) e) k
def spPut : Sp := fun vs H Q _ => ∃ r m : Nat, vs = [nv r, nv m] ∧ Q (nv (r ||| m)) H
theorem ok_f_put (T : Tx K mg) : FnG P w K mg base 1 (fAd K ("put", none)) (fdat K ("put", none)) ["row", "marks"] spPut := by
  refine fnG (fd_f_put T) sc_f_put (fun vs H Q E h => ?_) (fun cc pn cdv A0 outer s H vs Q E g hr h => ?_)
  · obtain ⟨r, m, rfl, _⟩ := h
    rfl
  obtain ⟨r, m, rfl, k⟩ := h
  refine ⟨_, (pss_one (ps_ret (pe_op op_or (pv 0) (pv 1)))), ?_⟩
  refine ⟨_, rfl, _, rfl, (r : Int), (m : Int), rfl, rfl, ?_⟩
  dsimp only
  rw [bor]
  exact k
def spTaken : Sp := fun vs H Q _ => ∃ r m : Nat, vs = [nv r, nv m] ∧ Q (nv (r - (r &&& m))) H
theorem ok_f_taken (T : Tx K mg) : FnG P w K mg base 1 (fAd K ("taken", none)) (fdat K ("taken", none)) ["row", "marks"] spTaken := by
  refine fnG (fd_f_taken T) sc_f_taken (fun vs H Q E h => ?_) (fun cc pn cdv A0 outer s H vs Q E g hr h => ?_)
  · obtain ⟨r, m, rfl, _⟩ := h
    rfl
  obtain ⟨r, m, rfl, k⟩ := h
  refine ⟨_, (pss_one (ps_ret (pe_op op_sub (pv 0) (pe_op op_and (pv 0) (pv 1))))), ?_⟩
  refine ⟨_, rfl, _, rfl, _, rfl, (r : Int), (m : Int), rfl, rfl, (r : Int), ((r &&& m : Nat) : Int), rfl, rfl, ?_⟩
  have h : r &&& m ≤ r := Nat.and_le_left
  have e : (r : Int) - ((r &&& m : Nat) : Int) = ((r - (r &&& m) : Nat) : Int) := by omega
  dsimp only
  rw [e]
  exact k
/-! ### places -/
def spLookPlace : Sp := fun vs H Q _ => ∃ p : Nat, vs = [nv p] ∧ p ≤ 511 ∧ Q .non H
theorem ok_f_look_at (T : Tx K mg) : FnG P w K mg base 2 (fAd K ("look_at", none)) (fdat K ("look_at", none)) ["place"] spLookPlace := by
  refine fnG (fd_f_look_at T) sc_f_look_at (fun vs H Q E h => ?_) (fun cc pn cdv A0 outer s H vs Q E g hr h => ?_)
  · obtain ⟨p, rfl, _⟩ := h
    rfl
  obtain ⟨p, rfl, hp, k⟩ := h
  refine ⟨_, (pss_one (ps_if (PW.pt (pw_or (pt_not (pt_val (pe_fG g (ok_f_is_whole T) (hr.mono (by decide)) (by rfl) (g_is_whole T) (fd_f_is_whole T).kp (bd_f_is_whole T) (pa_cons (pv 0) pa_nil)))) (pw_or (pt_cmpR op_lt (pv 0) pe_int (nomark _)) (pw_or1 (pt_cmpR op_gt (pv 0) pe_int (nomark _)))))) (pss_one ps_never) pss_nil)), ?_⟩
  refine ⟨_, rfl, _, rfl, true, rfl, iteF ⟨_, rfl, _, _, rfl, rfl, _, rfl, ?_⟩⟩
  rw [decide_eq_false (show ¬ ((p : Int) < 0) by omega)]
  refine iteF ⟨_, rfl, _, _, rfl, rfl, _, rfl, ?_⟩
  rw [decide_eq_false (show ¬ ((511 : Int) < (p : Int)) by omega)]
  exact iteF k
/-- of a place: a new tuple; what stood stands -/
def spPartsOf : Sp := fun vs H Q _ => ∃ p : Nat, vs = [nv p] ∧ p ≤ 511 ∧ ∀ t H', Same H H' → H t = none → H' t = some (.tup [nv (p / 64), nv (p / 8 % 8), nv (p % 8)]) → Q (.ref t) H'
theorem ok_f_parts_of (T : Tx K mg) : FnG P w K mg base 3 (fAd K ("parts_of", none)) (fdat K ("parts_of", none)) ["place"] spPartsOf := by
  refine fnG (fd_f_parts_of T) sc_f_parts_of (fun vs H Q E h => ?_) (fun cc pn cdv A0 outer s H vs Q E g hr h => ?_)
  · obtain ⟨p, rfl, _⟩ := h
    rfl
  obtain ⟨p, rfl, hp, k⟩ := h
  refine ⟨_, (pss_cons (ps_expr (pe_fG g (ok_f_look_at T) (hr.mono (by decide)) (by rfl) (g_look_at T) (fd_f_look_at T).kp (bd_f_look_at T) (pa_cons (pv 0) pa_nil))) (pss_cons (ps_asg (pe_callB call_divmod (by rfl) (b_divmod T) q_divmod (pa_cons (pv 0) (pa_cons pe_int pa_nil))) (pg_tupG g (pgs_cons (pg_name (i := 1) sc_f_parts_of.nd rfl (by first | exact Or.inl rfl | exact Or.inr rfl)) (pgs_cons (pg_name (i := 2) sc_f_parts_of.nd rfl (by first | exact Or.inl rfl | exact Or.inr rfl)) pgs_nil)))) (pss_cons (ps_asg (pe_callB call_divmod (by rfl) (b_divmod T) q_divmod (pa_cons (pv 1) (pa_cons pe_int pa_nil))) (pg_tupG g (pgs_cons (pg_name (i := 3) sc_f_parts_of.nd rfl (by first | exact Or.inl rfl | exact Or.inr rfl)) (pgs_cons (pg_name (i := 4) sc_f_parts_of.nd rfl (by first | exact Or.inl rfl | exact Or.inr rfl)) pgs_nil)))) (pss_one (ps_ret (pe_tup (pa_cons (pv 3) (pa_cons (pv 4) (pa_cons (pv 2) pa_nil))))))))), ?_⟩
  refine ⟨_, rfl, p, rfl, hp, ?_⟩
  refine ⟨_, rfl, _, _, rfl, ⟨by decide, by decide⟩, fun t1 h1 => ?_⟩
  refine ⟨_, _, rfl, SqT.of upd_same, rfl, ?_⟩
  refine ⟨_, _, rfl, _, _, rfl, rfl, ?_⟩
  refine ⟨_, rfl, _, _, rfl, ⟨by decide, by decide⟩, fun t2 h2 => ?_⟩
  refine ⟨_, _, rfl, SqT.of upd_same, rfl, ?_⟩
  refine ⟨_, _, rfl, _, _, rfl, rfl, ?_⟩
  refine ⟨_, rfl, _, rfl, _, rfl, szl (by show 3 ≤ 1000; decide), ?_⟩
  intro t3 h3
  have e1 : (p : Int) / 8 / 8 = ((p / 64 : Nat) : Int) := by omega
  have e2 : (p : Int) / 8 % 8 = ((p / 8 % 8 : Nat) : Int) := by omega
  have e3 : (p : Int) % 8 = ((p % 8 : Nat) : Int) := by omega
  have s1 : ∀ {b o}, H b = some o → L2.upd H t1 (.tup [V.int ((p : Int) / 8), V.int ((p : Int) % 8)]) b = some o := fun e => by rw [upd_ne (ne_of_none e h1)]; exact e
  have s2 : ∀ {b o}, H b = some o → L2.upd (L2.upd H t1 (.tup [V.int ((p : Int) / 8), V.int ((p : Int) % 8)])) t2 (.tup [V.int ((p : Int) / 8 / 8), V.int ((p : Int) / 8 % 8)]) b = some o := fun e => by rw [upd_ne (ne_of_none (s1 e) h2)]; exact s1 e
  refine k t3 _ (fun b o e => by rw [upd_ne (ne_of_none (s2 e) h3)]; exact s2 e) ?_ ?_
  · cases e : H t3 with
    | none => rfl
    | some o => exact absurd h3 (by rw [s2 e]; exact fun z => nomatch z)
  · rw [upd_same]
    show some (HO.tup [V.int ((p : Int) / 8 / 8), V.int ((p : Int) / 8 % 8), V.int ((p : Int) % 8)]) = _
    rw [e1, e2, e3]
end K6
/-! Laying out; reading out; Frames made. -/
namespace K6
open PySem PySem.Spec PyProof.Rows L2 HotX L2H He
variable {P : Program} {w : World} {K : PySem.W.Frag} {mg : Str → Option Value} {base : Heap}
/-- a free frame i taken for the words ws -/
def Frs.lay (F : Frs) (i : Nat) (p : Addr) (ws : List Nat) : Frs := { F with hs := F.hs.set i (.ref p), wa := fun j => if j = i then p else F.wa j, ow := F.ow.set i 1, wd := fun j => if j = i then ws else F.wd j }
theorem take_lay {F : Frs} {i : Nat} {p : Addr} : F.take i p = F.lay i p (List.replicate 8 0) := rfl
theorem lay_wr {F : Frs} {i cell x : Nat} {p : Addr} {ws : List Nat} : (F.lay i p ws).wr i cell x = F.lay i p (ws.set cell x) := by
  unfold Frs.lay Frs.wr
  dsimp only
  congr 1
  funext j
  by_cases z : j = i
  · rw [if_pos z, if_pos z, if_pos rfl]
  · rw [if_neg z, if_neg z, if_neg z]
theorem lay_step {ws : List Nat} {i x : Nat} (h8 : ws.length = 8) (hx : ws[i]? = some x) : (ws.take i ++ List.replicate (8 - i) 0).set i x = ws.take (i + 1) ++ List.replicate (8 - (i + 1)) 0 := by
  have lt : i < ws.length := (List.getElem?_eq_some_iff.mp hx).1
  have e1 : (ws.take i).length = i := by rw [List.length_take]; omega
  rw [List.set_append, if_neg (by omega), e1, Nat.sub_self, List.take_add_one, hx]
  have e2 : 8 - i = (8 - (i + 1)) + 1 := by omega
  rw [e2, List.replicate_succ, List.set_cons_zero, List.append_assoc]
  rfl
theorem lay_tkn {F : Frs} {i : Nat} {p : Addr} {ws : List Nat} (h : F.ow[i]? = some 0) : Tkn (F.lay i p ws) i := ⟨0, List.getElem?_set_self (List.getElem?_eq_some_iff.mp h).1⟩
def spLaid (K : PySem.W.Frag) : Sp := fun vs H Q _ => ∃ (F : Frs) (c : Col) (a : Addr) (ws : List Nat), vs = [.ref F.g, .ref a] ∧ FrAt K F c H ∧ 0 ∈ F.ow ∧ H a = some (.lst (ws.map nv)) ∧ ¬ (c a).isF ∧ ws.length = 8 ∧ (∀ x ∈ ws, x < 2 ^ 48) ∧
  ∀ i p c' H', F.ow[i]? = some 0 → FrAt K (F.lay i p ws) c' H' → Keep Tag.isF c H c' H' → Q (nv i) H'
theorem ok_f_laid_out (T : Tx K mg) : FnG P w K mg base 6 (fAd K ("laid_out", none)) (fdat K ("laid_out", none)) ["frames", "words"] (spLaid K) := by
  refine fnG (fd_f_laid_out T) sc_f_laid_out (fun vs H Q E h => ?_) (fun cc pn cdv A0 outer s H vs Q E g hr h => ?_)
  · obtain ⟨F, c, a, ws, rfl, _⟩ := h
    rfl
  obtain ⟨F, c, a, ws, rfl, A, h0, ha, ca, h8, hw, k⟩ := h
  refine ⟨_, (pss_cons (ps_set (i := 2) sc_f_laid_out.nd rfl (by first | exact Or.inl rfl | exact Or.inr rfl) (pe_m0G g (pv 0) (c_Frames T) (m_Frames_take T) (ok_Frames_take T) (hr.mono (by decide)) (bd_Frames_take T))) (pss_cons (ps_forG (passes_of rfl) g (pi_enumG (by rfl) (b_enumerate T) (pa_cons (pv 1) pa_nil)) (pg_tupG g (pgs_cons (pg_name (i := 3) sc_f_laid_out.nd rfl (by first | exact Or.inl rfl | exact Or.inr rfl)) (pgs_cons (pg_name (i := 4) sc_f_laid_out.nd rfl (by first | exact Or.inl rfl | exact Or.inr rfl)) pgs_nil))) (pss_one (ps_expr (pe_mG g (pv 0) (c_Frames T) (m_Frames_write T) (ok_Frames_write T) (hr.mono (by decide)) (bd_Frames_write T) (pa_cons (pv 2) (pa_cons (pv 3) (pa_cons (pv 4) pa_nil))))))) (pss_one (ps_ret (pv 2))))), ?_⟩
  refine ⟨_, rfl, _, _, _, rfl, A.hg, rfl, F, c, rfl, A, h0, fun i p c' H' hi A' kp => ?_⟩
  obtain ⟨ha', ca'⟩ := kp a _ ha ca
  have e8 : ((ws.map nv).length) = 8 := by rw [List.length_map, h8]
  refine ⟨_, rfl, a, _, rfl, SqL.of ha', ?_⟩
  refine for_it (walk_enum (xs := ws.map nv)) (fun n σ H2 => ∃ (x3 x4 : Option V) (c2 : Col), σ = [some (.ref F.g), some (.ref a), some (nv i), x3, x4] ∧ FrAt K (F.lay i p (ws.take n ++ List.replicate (8 - n) 0)) c2 H2 ∧ Keep Tag.isF c H c2 H2) ?_ ?_ ?_ ?_
  · exact ⟨none, none, c', rfl, A', kp⟩
  · rintro n σ H2 hn ⟨x3, x4, c2, rfl, A2, kp2⟩
    exact SqL.of (kp2 a _ ha ca).1
  · rintro n x σ H2 H3 hn ⟨x3, x4, c2, rfl, A2, kp2⟩ ⟨t, y, z, rfl, ht, rfl, hy, hz⟩
    rw [e8] at hn
    obtain ⟨x, hx⟩ : ∃ x, ws[n]? = some x := ⟨ws[n], List.getElem?_eq_getElem (by omega)⟩
    obtain rfl : nv n = y := Option.some.inj hy
    obtain rfl : nv x = z := by
      have hz' : (ws.map nv)[n]? = some z := hz
      rw [nv_get hx] at hz'
      exact Option.some.inj hz'
    have A3 : FrAt K _ c2 (L2.upd H2 t (.tup [nv n, nv x])) := A2.same fun b o e => by rw [upd_ne (ne_of_none e ht)]; exact e
    refine ⟨_, _, rfl, SqT.of upd_same, rfl, _, _, rfl, _, _, rfl, rfl, ?_⟩
    refine ⟨_, rfl, _, _, _, rfl, A3.hg, rfl, _, rfl, _, rfl, _, rfl, F.lay i p (ws.take n ++ List.replicate (8 - n) 0), c2, i, n, x, rfl, A3, lay_tkn hi, hn, hw x (List.mem_of_getElem? hx), fun H4 A4 k4 => ?_⟩
    rw [lay_wr, lay_step h8 hx] at A4
    exact ⟨_, _, c2, rfl, A4, (kp2.trans (.new ht)).trans k4⟩
  · rintro σ H2 ⟨x3, x4, c2, rfl, A2, kp2⟩
    rw [e8] at A2
    have e : ws.take 8 ++ List.replicate (8 - 8) 0 = ws := by rw [← h8, List.take_length, Nat.sub_self]; exact List.append_nil _
    rw [e] at A2
    exact ⟨_, rfl, k i p c2 H2 hi A2 kp2⟩
theorem upd_upd {H : Hp} {a : Addr} {o o' : HO} : L2.upd (L2.upd H a o) a o' = L2.upd H a o' := by
  funext b
  by_cases z : b = a
  · rw [z, upd_same, upd_same]
  · rw [upd_ne z, upd_ne z, upd_ne z]
theorem take_map_succ {ws : List Nat} {n x : Nat} (h : ws[n]? = some x) : (ws.take n).map nv ++ [nv x] = (ws.take (n + 1)).map nv := by
  rw [List.take_add_one, h, List.map_append]
  rfl
theorem len_le {ws : List Nat} {n m : Nat} (h : ws.length ≤ m) (hm : m ≤ 900) : ((ws.take n).map nv).length < sizeLine := by
  rw [List.length_map, List.length_take, sizeLine_eq]
  omega
def spWordsAt (K : PySem.W.Frag) : Sp := fun vs H Q _ => ∃ (F : Frs) (c : Col) (i : Nat), vs = [.ref F.g, nv i] ∧ FrAt K F c H ∧ Tkn F i ∧ ∀ D, H D = none → Q (.ref D) (L2.upd H D (.lst ((F.wd i).map nv)))
theorem ok_f_words_at (T : Tx K mg) : FnG P w K mg base 6 (fAd K ("words_at", none)) (fdat K ("words_at", none)) ["store", "page"] (spWordsAt K) := by
  refine fnG (fd_f_words_at T) sc_f_words_at (fun vs H Q E h => ?_) (fun cc pn cdv A0 outer s H vs Q E g hr h => ?_)
  · obtain ⟨F, c, i, rfl, _⟩ := h
    rfl
  obtain ⟨F, c, i, rfl, A, t, k⟩ := h
  refine ⟨_, (pss_one (ps_ret (pe_lcG (own := [("cell", 2)]) (g := gName 2) g sc_f_words_at.nd (pi_range1G (by rfl) (b_range T) (pa_cons (pe_gi (i_CELLS T)) pa_nil)) (blkOk_by (own := [("cell", 2)]) (N := ["store", "page", "cell"]) (sc := (defScope s_f_words_at)) (by decide +kernel)) (fun _ _ _ _ _ _ gg => pg_name (i := 2) sc_f_words_at.nd rfl (by first | exact Or.inl rfl | exact Or.inr rfl)) (fun _ _ _ _ _ _ gg => pts_nil) (fun _ _ _ _ _ _ gg => (pe_mG gg (pv 0) (c_Frames T) (m_Frames_read T) (ok_Frames_read T) (hr.mono (by decide)) (bd_Frames_read T) (pa_cons (pv 1) (pa_cons (pv 2) pa_nil))))))), ?_⟩
  obtain ⟨n0, e0⟩ := t
  obtain ⟨_, _, _, h8, _⟩ := A.fr i n0 e0
  refine ⟨8, rfl, by decide, by decide, fun D hD => ?_⟩
  refine lc_it (walk_range (lo := 0) (n := 8)) (fun n H2 => H2 = L2.upd H D (.lst (((F.wd i).take n).map nv))) rfl (fun _ _ _ _ => trivial) ?_ ?_
  · rintro n x H2 H3 hn rfl ⟨rfl, rfl⟩
    refine ⟨rfl, ?_⟩
    have A2 : FrAt K F c (L2.upd H D (.lst (((F.wd i).take n).map nv))) := A.same fun b o e => by rw [upd_ne (ne_of_none e hD)]; exact e
    have hx : (F.wd i)[n]? = some ((F.wd i)[n]'(by omega)) := List.getElem?_eq_getElem (by omega)
    have ez : (0 : Int) + (n : Int) = (n : Int) := by omega
    dsimp only
    rw [ez]
    refine ⟨_, rfl, _, _, _, rfl, A2.hg, rfl, _, rfl, _, rfl, F, c, i, n, _, rfl, A2, ⟨n0, e0⟩, hx, ?_⟩
    refine ⟨_, upd_same, len_le (m := 8) (by omega) (by decide), ?_⟩
    rw [upd_upd, take_map_succ hx]
  · rintro H2 rfl
    have e : (F.wd i).take 8 = F.wd i := by rw [← h8, List.take_length]
    rw [e]
    exact k D hD
/-! ### making Frames -/
def spFrInit (K : PySem.W.Frag) : Sp := fun vs H Q _ => ∃ (x dx : Addr) (n : Nat) (c : Col), vs = [.ref x, nv n] ∧ 1 ≤ n ∧ n ≤ 200 ∧ H x = some (.ins (ga K "Frames") dx []) ∧ c x = .fg ∧
  ∀ (F : Frs) c' H', F.g = x → F.ow = List.replicate n 0 → F.pl = 0 → FrAt K F c' H' → Keep Tag.isF c H c' H' → Q .non H'
theorem ok_Frames_init (T : Tx K mg) : FnC P w K mg base 3 (fAd K ("Frames", some "__init__")) (fdat K ("Frames", some "__init__")) ["self", "many"] (spFrInit K) := by
  refine fnC (fd_Frames_init T) sc_Frames_init (fun vs H Q E h => ?_) (fun cdv A0 outer s H vs Q E hr h => ?_)
  · obtain ⟨x, dx, n, c, rfl, _⟩ := h
    rfl
  obtain ⟨x, dx, n, c, rfl, h1, h2, hx, cx, k⟩ := h
  refine ⟨_, (pss_cons (ps_if (PW.pt (pw_or (pt_not (pt_val (pe_fG (.inl rfl) (ok_f_is_whole T) (hr.mono (by decide)) (by rfl) (g_is_whole T) (fd_f_is_whole T).kp (bd_f_is_whole T) (pa_cons (pv 1) pa_nil)))) (pw_or (pt_cmpR op_lt (pv 1) pe_int (nomark _)) (pw_or1 (pt_cmpR op_gt (pv 1) (pe_gi (i_MOST_FRAMES T)) (nomark _)))))) (pss_one ps_never) pss_nil) (pss_cons (ps_fl (c_Frames T) (n_Frames_held T) (pv 0) (pe_op op_rep (pe_lst (pa_cons pe_non pa_nil)) (pv 1))) (pss_cons (ps_fl (c_Frames T) (n_Frames_owned T) (pv 0) (pe_op op_rep (pe_lst (pa_cons pe_int pa_nil)) (pv 1))) (pss_one (ps_fl (c_Frames T) (n_Frames_pledged T) (pv 0) pe_int))))), ?_⟩
  refine ⟨_, rfl, _, rfl, true, rfl, iteF ⟨_, rfl, _, _, rfl, rfl, _, rfl, ?_⟩⟩
  rw [decide_eq_false (show ¬ ((n : Int) < 1) by omega)]
  refine iteF ⟨_, rfl, _, _, rfl, rfl, _, rfl, ?_⟩
  rw [decide_eq_false (show ¬ ((200 : Int) < (n : Int)) by omega)]
  refine iteF ⟨szl (by decide), fun p1 hp1 => ?_⟩
  have up : ∀ {H' : Hp} {b p : Addr} {o v : HO}, H' b = some o → H' p = none → L2.upd H' p v b = some o := fun e h => by rw [upd_ne (ne_of_none e h)]; exact e
  have sz1 : 1 * (n : Int).toNat ≤ sizeLine := szl (by omega)
  refine ⟨_, rfl, p1, (n : Int), _, rfl, rfl, upd_same, by omega, by omega, sz1, fun p2 hp2 => ?_⟩
  have x2 := up (v := .lst (List.replicate (n : Int).toNat [V.non]).flatten) (up (v := .lst [V.non]) hx hp1) hp2
  refine ⟨_, rfl, _, _, _, rfl, x2, by show 0 < 1000; decide, ?_⟩
  refine ⟨szl (by show 1 ≤ 1000; decide), fun p3 hp3 => ?_⟩
  refine ⟨_, rfl, p3, (n : Int), _, rfl, rfl, upd_same, by omega, by omega, sz1, fun p4 hp4 => ?_⟩
  refine ⟨_, rfl, _, _, _, rfl, up (up upd_same hp3) hp4, by show 1 < 1000; decide, ?_⟩
  refine ⟨_, rfl, _, _, _, rfl, upd_same, by show 2 < 1000; decide, ?_⟩
  have en : (n : Int).toNat = n := Int.toNat_natCast n
  have er : ∀ (m : Nat) (v : V), (List.replicate m [v]).flatten = List.replicate m v := fun m v => by
    induction m with
    | zero => rfl
    | succ m ih => rw [List.replicate_succ, List.flatten_cons, ih]; rfl
  rw [en, er, er] at *
  have hx1 : x ≠ p1 := ne_of_none hx hp1
  have f2 : H p2 = none ∧ p2 ≠ p1 := by
    by_cases z : p2 = p1
    · rw [z, upd_same] at hp2; cases hp2
    · rw [upd_ne z] at hp2; exact ⟨hp2, z⟩
  have hx2 : x ≠ p2 := ne_of_none hx f2.1
  have f3 : H p3 = none ∧ p3 ≠ x ∧ p3 ≠ p2 := by
    by_cases z : p3 = x
    · rw [z, upd_same] at hp3; cases hp3
    rw [upd_ne z] at hp3
    by_cases z2 : p3 = p2
    · rw [z2, upd_same] at hp3; cases hp3
    rw [upd_ne z2] at hp3
    by_cases z3 : p3 = p1
    · rw [z3, upd_same] at hp3; cases hp3
    rw [upd_ne z3] at hp3
    exact ⟨hp3, z, z2⟩
  have f4 : H p4 = none ∧ p4 ≠ x ∧ p4 ≠ p2 := by
    by_cases z0 : p4 = p3
    · rw [z0, upd_same] at hp4; cases hp4
    rw [upd_ne z0] at hp4
    by_cases z : p4 = x
    · rw [z, upd_same] at hp4; cases hp4
    rw [upd_ne z] at hp4
    by_cases z2 : p4 = p2
    · rw [z2, upd_same] at hp4; cases hp4
    rw [upd_ne z2] at hp4
    by_cases z3 : p4 = p1
    · rw [z3, upd_same] at hp4; cases hp4
    rw [upd_ne z3] at hp4
    exact ⟨hp4, z, z2⟩
  have em : List.map nv (List.replicate n 0) = List.replicate n (V.int 0) := List.map_replicate
  refine k ⟨x, dx, p2, p4, List.replicate n .non, fun _ => 0, List.replicate n 0, fun _ => [], 0⟩ (colS (colS c p2 .fh) p4 .fo) _ rfl rfl rfl ⟨upd_same, ?_, ?_, ?_, ?_, ?_, ?_, colS_same, ?_⟩ ?_
  · rw [upd_ne hx2.symm, upd_ne hx2.symm, upd_ne f4.2.2.symm, upd_ne f3.2.2.symm, upd_ne hx2.symm, upd_same]
  · rw [upd_ne f4.2.1, upd_ne f4.2.1, upd_same, em]
  · rw [List.length_replicate, List.length_replicate]
  · rw [List.length_replicate]; exact h2
  · rw [colS_ne f4.2.1.symm, colS_ne hx2]; exact cx
  · rw [colS_ne f4.2.2.symm]; exact colS_same
  · intro i m e
    have z := List.eq_of_mem_replicate (List.mem_of_getElem? e)
    cases z
  · intro b o e t
    have ne1 : b ≠ x := fun z => t (by rw [z, cx]; trivial)
    have ne2 := ne_of_none e hp1
    have ne3 := ne_of_none e f2.1
    have ne4 := ne_of_none e f3.1
    have ne5 := ne_of_none e f4.1
    refine ⟨?_, by rw [colS_ne ne5, colS_ne ne3]⟩
    rw [upd_ne ne1, upd_ne ne1, upd_ne ne5, upd_ne ne4, upd_ne ne1, upd_ne ne3, upd_ne ne2]
    exact e
end K6
/-! A way's objects; both ways and the frames. -/
namespace K6
open PySem PySem.Spec PyProof.Rows L2 HotX L2H He
variable {P : Program} {w : World} {K : PySem.W.Frag} {mg : Str → Option Value} {base : Heap}
def ov : Option Nat → V
  | none => .non
  | some f => nv f
structure Way where
  w : Addr
  dw : Addr
  sh : Addr
  ds : Addr
  pt : Addr
  dp : Addr
  ld : Addr
  mn : Addr
  t : Nat
  l : Nat
  lead : List (Option Nat)
/-- what of a way is not tracked closely -/
structure Rest where
  base : Nat
  most : Nat
  ln : Addr
  line : List V
  ch : Addr
  chg : List (Key × V)
  an : Addr
  ans : List V
def wayF (y : Way) (r : Rest) (g : Addr) : List (Str × V) := [("held", V.ref y.sh), ("base", nv r.base), ("ground", V.ref g), ("mine", V.ref y.mn), ("part", V.ref y.pt), ("changed", V.ref r.ch), ("answers", V.ref r.an)]
def shF (r : Rest) : List (Str × V) := [("most", nv r.most), ("line", V.ref r.ln)]
def ptF (y : Way) (g : Addr) : List (Str × V) := [("ground", V.ref g), ("leads", V.ref y.ld)]
def RowAt (k : Bool) (c : Col) (H : Hp) (v : V) : Prop := ∃ (p : Addr) (a b d : Nat), v = .ref p ∧ H p = some (.tup [nv a, nv b, nv d]) ∧ c p = .way k 8
structure WayAt (K : PySem.W.Frag) (n : Nat) (g : Addr) (y : Way) (k : Bool) (r : Rest) (c : Col) (H : Hp) : Prop where
  hw : H y.w = some (.ins (ga K "Pairs") y.dw (wayF y r g))
  hs : H y.sh = some (.ins (ga K "Shelf") y.ds (shF r))
  hp : H y.pt = some (.ins (ga K "Parts") y.dp (ptF y g))
  hd : H y.ld = some (.lst (y.lead.map ov))
  hm : H y.mn = some (.lst [nv y.t, nv y.l])
  hl : H r.ln = some (.lst r.line)
  hc : H r.ch = some (.dK r.chg)
  ha : H r.an = some (.lst r.ans)
  tw : c y.w = .way k 0
  ts : c y.sh = .way k 1
  tp : c y.pt = .way k 2
  td : c y.ld = .way k 3
  tm : c y.mn = .way k 4
  tl : c r.ln = .way k 5
  tc : c r.ch = .way k 6
  ta : c r.an = .way k 7
  lo : 3 ≤ y.lead.length
  hi : y.lead.length ≤ 6
  m1 : 1 ≤ r.most
  ml : r.line.length ≤ r.most
  mo : r.most ≤ 12
  rows : ∀ v ∈ r.line, RowAt k c H v
  na : r.ans.length ≤ n
  nc : r.chg.length ≤ n
theorem WayAt.keep {n : Nat} {g : Addr} {y : Way} {k : Bool} {r : Rest} {c c' : Col} {H H' : Hp} {T : Tag → Prop} (A : WayAt K n g y k r c H) (kp : Keep T c H c' H') (h : ∀ j, ¬ T (.way k j)) : WayAt K n g y k r c' H' := by
  have kk : ∀ {a o j}, H a = some o → c a = .way k j → H' a = some o ∧ c' a = .way k j := fun {a o j} e1 e2 => by
    obtain ⟨z1, z2⟩ := kp a o e1 (by rw [e2]; exact h j)
    exact ⟨z1, z2.trans e2⟩
  exact ⟨(kk A.hw A.tw).1, (kk A.hs A.ts).1, (kk A.hp A.tp).1, (kk A.hd A.td).1, (kk A.hm A.tm).1, (kk A.hl A.tl).1, (kk A.hc A.tc).1, (kk A.ha A.ta).1,
    (kk A.hw A.tw).2, (kk A.hs A.ts).2, (kk A.hp A.tp).2, (kk A.hd A.td).2, (kk A.hm A.tm).2, (kk A.hl A.tl).2, (kk A.hc A.tc).2, (kk A.ha A.ta).2, A.lo, A.hi, A.m1, A.ml, A.mo,
    fun v hv => by
      obtain ⟨p, a, b, d, e, e1, e2⟩ := A.rows v hv
      exact ⟨p, a, b, d, e, (kk e1 e2).1, (kk e1 e2).2⟩, A.na, A.nc⟩
theorem WayAt.mono {n m : Nat} {g : Addr} {y : Way} {k : Bool} {r : Rest} {c : Col} {H : Hp} (A : WayAt K n g y k r c H) (h : n ≤ m) : WayAt K m g y k r c H :=
  { A with na := Nat.le_trans A.na h, nc := Nat.le_trans A.nc h }
structure Sy where
  F : Frs
  y : Bool → Way
  on : Bool → Prop
  c : Col
structure At (K : PySem.W.Frag) (n : Nat) (S : Sy) (H : Hp) : Prop where
  fr : FrAt K S.F S.c H
  wy : ∀ k, S.on k → ∃ r, WayAt K n S.F.g (S.y k) k r S.c H
/-- what is nobody's stands -/
abbrev KeepU (c : Col) (H : Hp) (c' : Col) (H' : Hp) : Prop := Keep (fun t => t ≠ .no) c H c' H'
theorem Keep.u {T : Tag → Prop} {c c' : Col} {H H' : Hp} (k : Keep T c H c' H') (h : ¬ T .no) : KeepU c H c' H' := k.mono fun t ht z => h (z ▸ ht)
theorem KeepU.isF {c c' : Col} {H H' : Hp} (k : Keep Tag.isF c H c' H') : KeepU c H c' H' := k.u fun z => z
def Sy.sf (S : Sy) (F : Frs) (c : Col) : Sy := { S with F := F, c := c }
def Sy.sc (S : Sy) (c : Col) : Sy := { S with c := c }
def Sy.sl (S : Sy) (k : Bool) (l : List (Option Nat)) : Sy := { S with y := fun j => if j = k then { S.y k with lead := l } else S.y j }
theorem At.mono {n m : Nat} {S : Sy} {H : Hp} (A : At K n S H) (h : n ≤ m) : At K m S H := ⟨A.fr, fun k o => by
  obtain ⟨r, q⟩ := A.wy k o
  exact ⟨r, q.mono h⟩⟩
theorem At.sf {n : Nat} {S : Sy} {H H' : Hp} {F : Frs} {c : Col} (A : At K n S H) (f : FrAt K F c H') (k : Keep Tag.isF S.c H c H') (hg : F.g = S.F.g := by rfl) : At K n (S.sf F c) H' := ⟨f, fun j o => by
  obtain ⟨r, q⟩ := A.wy j o
  refine ⟨r, ?_⟩
  show WayAt K n F.g (S.y j) j r c H'
  rw [hg]
  exact q.keep k fun _ z => z⟩
/-- all stands, but objects of nobody -/
theorem At.keep {n : Nat} {S : Sy} {H H' : Hp} {c : Col} {T : Tag → Prop} (A : At K n S H) (k : Keep T S.c H c H') (h1 : ∀ t, t.isF → ¬ T t) (h2 : ∀ j i, S.on j → ¬ T (.way j i)) : At K n (S.sc c) H' :=
  ⟨A.fr.keep k h1, fun j o => by
    obtain ⟨r, q⟩ := A.wy j o
    exact ⟨r, q.keep k fun i => h2 j i o⟩⟩
theorem At.same {n : Nat} {S : Sy} {H H' : Hp} (A : At K n S H) (s : Same H H') : At K n S H' := A.keep (c := S.c) (T := fun _ => False) (.same s) (fun _ _ z => z) fun _ _ _ z => z
theorem At.newC {n : Nat} {S : Sy} {H : Hp} {a : Addr} {o : HO} {t : Tag} (A : At K n S H) (h : H a = none) : At K n (S.sc (colS S.c a t)) (L2.upd H a o) := A.keep (T := fun _ => False) (.newC h) (fun _ _ z => z) fun _ _ _ z => z
theorem At.updN {n : Nat} {S : Sy} {H : Hp} {a : Addr} {o : HO} (A : At K n S H) (h : S.c a = .no) : At K n S (L2.upd H a o) := A.keep (c := S.c) (T := fun t => t = .no) (.upd h) (fun t f z => by rw [z] at f; exact f) fun _ _ _ z => nomatch z
def BT (k : Bool) : Tag → Prop
  | .way j _ => j = k
  | _ => False
theorem BT.f {k : Bool} : ∀ t, t.isF → ¬ BT k t := fun t f z => by cases t <;> first | exact f | exact z
/-- one way's own objects -/
theorem At.rest {n m : Nat} {S : Sy} {H H' : Hp} {c : Col} {k : Bool} {r : Rest} (A : At K n S H) (kp : Keep (BT k) S.c H c H') (h : n ≤ m) (q : S.on k → WayAt K m S.F.g (S.y k) k r c H') : At K m (S.sc c) H' :=
  ⟨A.fr.keep kp BT.f, fun j o => by
    by_cases z : j = k
    · subst z
      exact ⟨r, q o⟩
    · obtain ⟨r', q'⟩ := A.wy j o
      exact ⟨r', (q'.keep kp fun i e => z e).mono h⟩⟩
theorem sl_same {S : Sy} {k : Bool} {l : List (Option Nat)} : (S.sl k l).y k = { S.y k with lead := l } := if_pos rfl
theorem sl_ne {S : Sy} {k j : Bool} {l : List (Option Nat)} (h : j ≠ k) : (S.sl k l).y j = S.y j := if_neg h
theorem At.sl {n : Nat} {S : Sy} {H : Hp} {k : Bool} {l : List (Option Nat)} (A : At K n S H) (o : S.on k) (hl : l.length = (S.y k).lead.length) : At K n (S.sl k l) (L2.upd H (S.y k).ld (.lst (l.map ov))) := by
  obtain ⟨r, q⟩ := A.wy k o
  have kp : Keep (BT k) S.c H S.c (L2.upd H (S.y k).ld (.lst (l.map ov))) := .upd (by rw [q.td]; rfl)
  refine ⟨A.fr.keep kp BT.f, fun j oj => ?_⟩
  by_cases z : j = k
  · subst z
    refine ⟨r, ?_⟩
    rw [sl_same]
    have ne : ∀ {a i}, S.c a = .way j i → i ≠ 3 → a ≠ (S.y j).ld := fun {a i} e h z => h (by rw [z, q.td] at e; injection e with _ e; exact e.symm)
    have kk : ∀ {a o i}, H a = some o → S.c a = .way j i → i ≠ 3 → L2.upd H (S.y j).ld (.lst (l.map ov)) a = some o := fun e1 e2 e3 => by rw [upd_ne (ne e2 e3)]; exact e1
    exact ⟨kk q.hw q.tw (by decide), kk q.hs q.ts (by decide), kk q.hp q.tp (by decide), upd_same, kk q.hm q.tm (by decide), kk q.hl q.tl (by decide), kk q.hc q.tc (by decide), kk q.ha q.ta (by decide),
      q.tw, q.ts, q.tp, q.td, q.tm, q.tl, q.tc, q.ta, by rw [hl]; exact q.lo, by rw [hl]; exact q.hi, q.m1, q.ml, q.mo, fun v hv => by
        obtain ⟨p, a, b, d, e, e1, e2⟩ := q.rows v hv
        exact ⟨p, a, b, d, e, kk e1 e2 (by decide), e2⟩, q.na, q.nc⟩
  · obtain ⟨r', q'⟩ := A.wy j oj
    refine ⟨r', ?_⟩
    rw [sl_ne z]
    exact q'.keep kp fun i e => z e
/-- which frame a page leads to -/
def Way.f (y : Way) (p : Nat) : Option Nat := y.lead.getD p none
theorem Way.f_some {y : Way} {p f : Nat} (h : y.f p = some f) : y.lead[p]? = some (some f) := by
  unfold Way.f at h
  rw [List.getD_eq_getElem?_getD] at h
  cases e : y.lead[p]? with
  | none => rw [e] at h; cases h
  | some z => rw [e] at h; rw [show z = some f from h]
theorem Way.f_at {y : Way} {p : Nat} (h : p < y.lead.length) : y.lead[p]? = some (y.f p) := by
  unfold Way.f
  rw [List.getD_eq_getElem?_getD, List.getElem?_eq_getElem h]
  rfl
theorem Way.f_lt {y : Way} {p f : Nat} (h : y.f p = some f) : p < y.lead.length := (List.getElem?_eq_some_iff.mp (Way.f_some h)).1
theorem Way.f_out {y : Way} {p : Nat} (h : ¬ p < y.lead.length) : y.f p = none := by
  unfold Way.f
  rw [List.getD_eq_getElem?_getD, List.getElem?_eq_none (by omega)]
  rfl
theorem ov_get {y : Way} {p : Nat} (h : p < y.lead.length) : (y.lead.map ov)[p]? = some (ov (y.f p)) := by rw [List.getElem?_map, Way.f_at h]; rfl
/-! ### Parts -/
def spPtSize (K : PySem.W.Frag) : Sp := fun vs H Q _ => ∃ (n : Nat) (S : Sy) (k : Bool), vs = [.ref (S.y k).pt] ∧ At K n S H ∧ S.on k ∧ Q (nv (S.y k).lead.length) H
theorem ok_Parts_size (T : Tx K mg) : FnC P w K mg base 1 (fAd K ("Parts", some "size")) (fdat K ("Parts", some "size")) ["self"] (spPtSize K) := by
  refine fnC (fd_Parts_size T) sc_Parts_size (fun vs H Q E h => ?_) (fun cdv A0 outer s H vs Q E hr h => ?_)
  · obtain ⟨n, S, k, rfl, _⟩ := h
    rfl
  obtain ⟨n, S, k, rfl, A, o, q⟩ := h
  refine ⟨_, (pss_one (ps_ret (pe_callB call_len_seq (by rfl) (b_len T) q_len (pa_cons (pe_fl (c_Parts T) (n_Parts_leads T) (pv 0)) pa_nil)))), ?_⟩
  obtain ⟨r, W⟩ := A.wy k o
  refine ⟨_, rfl, _, _, _, _, rfl, W.hp, rfl, _, _, rfl, .inl (SqL.of W.hd), ?_⟩
  show Q (.int (((S.y k).lead.map ov).length : Nat)) H
  rw [List.length_map]
  exact q
def spPtFrame (K : PySem.W.Frag) : Sp := fun vs H Q _ => ∃ (n : Nat) (S : Sy) (k : Bool) (p : Nat), vs = [.ref (S.y k).pt, nv p] ∧ At K n S H ∧ S.on k ∧ Q (ov ((S.y k).f p)) H
theorem ok_Parts_frame (T : Tx K mg) : FnG P w K mg base 3 (fAd K ("Parts", some "frame")) (fdat K ("Parts", some "frame")) ["self", "page"] (spPtFrame K) := by
  refine fnG (fd_Parts_frame T) sc_Parts_frame (fun vs H Q E h => ?_) (fun cc pn cdv A0 outer s H vs Q E g hr h => ?_)
  · obtain ⟨n, S, k, p, rfl, _⟩ := h
    rfl
  obtain ⟨n, S, k, p, rfl, A, o, q⟩ := h
  refine ⟨_, (pss_cons (ps_if (pt_not (pt_val (pe_fG g (ok_f_is_below T) (hr.mono (by decide)) (by rfl) (g_is_below T) (fd_f_is_below T).kp (bd_f_is_below T) (pa_cons (pv 1) (pa_cons (pe_callB call_len_seq (by rfl) (b_len T) q_len (pa_cons (pe_fl (c_Parts T) (n_Parts_leads T) (pv 0)) pa_nil)) pa_nil))))) (pss_one (ps_ret pe_non)) pss_nil) (pss_one (ps_ret (pe_ix ix_list (pe_fl (c_Parts T) (n_Parts_leads T) (pv 0)) (pv 1) (fun _ _ => rfl))))), ?_⟩
  obtain ⟨r, W⟩ := A.wy k o
  refine ⟨_, rfl, _, rfl, _, _, _, _, rfl, W.hp, rfl, _, _, rfl, .inl (SqL.of W.hd), _, _, rfl, _, rfl, ?_⟩
  rw [List.length_map]
  by_cases h : p < (S.y k).lead.length
  · rw [decide_eq_true (show (0 : Int) ≤ (p : Int) ∧ (p : Int) < ((S.y k).lead.length : Int) by omega)]
    exact iteF ⟨_, rfl, _, _, _, _, rfl, W.hp, rfl, _, rfl, _, _, _, _, rfl, rfl, SqL.of W.hd, atI_nat (ov_get h), q⟩
  · rw [decide_eq_false (show ¬ ((0 : Int) ≤ (p : Int) ∧ (p : Int) < ((S.y k).lead.length : Int)) by omega)]
    rw [Way.f_out h] at q
    exact iteT q
def spPtNeed (K : PySem.W.Frag) : Sp := fun vs H Q _ => ∃ (n : Nat) (S : Sy) (k : Bool) (p f : Nat), vs = [.ref (S.y k).pt, nv p] ∧ At K n S H ∧ S.on k ∧ (S.y k).f p = some f ∧ Q .non H
theorem ok_Parts_need (T : Tx K mg) : FnG P w K mg base 4 (fAd K ("Parts", some "need")) (fdat K ("Parts", some "need")) ["self", "page"] (spPtNeed K) := by
  refine fnG (fd_Parts_need T) sc_Parts_need (fun vs H Q E h => ?_) (fun cc pn cdv A0 outer s H vs Q E g hr h => ?_)
  · obtain ⟨n, S, k, p, f, rfl, _⟩ := h
    rfl
  obtain ⟨n, S, k, p, f, rfl, A, o, hf, q⟩ := h
  refine ⟨_, (pss_one (ps_if (pt_cmpR op_isN (pe_mG g (pv 0) (c_Parts T) (m_Parts_frame T) (ok_Parts_frame T) (hr.mono (by decide)) (bd_Parts_frame T) (pa_cons (pv 1) pa_nil)) pe_non (nomark _)) (pss_one ps_never) pss_nil)), ?_⟩
  obtain ⟨r, W⟩ := A.wy k o
  refine ⟨_, rfl, _, _, _, rfl, W.hp, rfl, _, rfl, n, S, k, p, rfl, A, o, ?_⟩
  rw [hf]
  exact ⟨rfl, _, rfl, iteF q⟩
end K6
/-! Parts: what changes a way's leads. -/
namespace K6
open PySem PySem.Spec PyProof.Rows L2 HotX L2H He
variable {P : Program} {w : World} {K : PySem.W.Frag} {mg : Str → Option Value} {base : Heap}
theorem ov_set {l : List (Option Nat)} {p : Nat} {x : Option Nat} : (l.map ov).set p (ov x) = (l.set p x).map ov := by rw [List.map_set]
theorem Keep.sl {S : Sy} {k : Bool} {n : Nat} {H : Hp} {o : HO} {g : Addr} {r : Rest} (W : WayAt K n g (S.y k) k r S.c H) : KeepU S.c H S.c (L2.upd H (S.y k).ld o) := .upd (by rw [W.td]; exact fun z => nomatch z)
theorem newU {c : Col} {H : Hp} {a : Addr} {o : HO} (h : H a = none) : KeepU c H (colS c a .no) (L2.upd H a o) := .newC h
def spPtAlone (K : PySem.W.Frag) : Sp := fun vs H Q _ => ∃ (n : Nat) (S : Sy) (k : Bool) (p f m : Nat), vs = [.ref (S.y k).pt, nv p] ∧ At K n S H ∧ S.on k ∧ (S.y k).f p = some f ∧ S.F.ow[f]? = some (m + 1) ∧
  (m = 0 → Q (.bl false) H) ∧ (m ≠ 0 → 0 ∈ S.F.ow ∧ ∀ i a c' H', S.F.ow[i]? = some 0 → At K n ((S.sf ((S.F.lay i a (S.F.wd f)).own f m) c').sl k ((S.y k).lead.set p (some i))) H' → KeepU S.c H c' H' → Q (.bl true) H')
theorem ok_Parts_alone (T : Tx K mg) : FnG P w K mg base 7 (fAd K ("Parts", some "alone")) (fdat K ("Parts", some "alone")) ["self", "page"] (spPtAlone K) := by
  refine fnG (fd_Parts_alone T) sc_Parts_alone (fun vs H Q E h => ?_) (fun cc pn cdv A0 outer s H vs Q E g hr h => ?_)
  · obtain ⟨n, S, k, p, f, m, rfl, _⟩ := h
    rfl
  obtain ⟨n, S, k, p, f, m, rfl, A, o, hf, hm, q0, q1⟩ := h
  refine ⟨_, (pss_cons (ps_expr (pe_mG g (pv 0) (c_Parts T) (m_Parts_need T) (ok_Parts_need T) (hr.mono (by decide)) (bd_Parts_need T) (pa_cons (pv 1) pa_nil))) (pss_cons (ps_set (i := 2) sc_Parts_alone.nd rfl (by first | exact Or.inl rfl | exact Or.inr rfl) (pe_ix ix_list (pe_fl (c_Parts T) (n_Parts_leads T) (pv 0)) (pv 1) (fun _ _ => rfl))) (pss_cons (ps_if (pt_cmpR op_eq (pe_mG g (pe_fl (c_Parts T) (n_Parts_ground T) (pv 0)) (c_Frames T) (m_Frames_owners T) (ok_Frames_owners T) (hr.mono (by decide)) (bd_Frames_owners T) (pa_cons (pv 2) pa_nil)) pe_int (nomark _)) (pss_one (ps_ret pe_bl)) pss_nil) (pss_cons (ps_asg (pe_fG g (ok_f_laid_out T) (hr.mono (by decide)) (by rfl) (g_laid_out T) (fd_f_laid_out T).kp (bd_f_laid_out T) (pa_cons (pe_fl (c_Parts T) (n_Parts_ground T) (pv 0)) (pa_cons (pe_fG g (ok_f_words_at T) (hr.mono (by decide)) (by rfl) (g_words_at T) (fd_f_words_at T).kp (bd_f_words_at T) (pa_cons (pe_fl (c_Parts T) (n_Parts_ground T) (pv 0)) (pa_cons (pv 2) pa_nil))) pa_nil))) (pg_sub (pe_fl (c_Parts T) (n_Parts_leads T) (pv 0)) (pv 1) set_list)) (pss_cons (ps_expr (pe_mG g (pe_fl (c_Parts T) (n_Parts_ground T) (pv 0)) (c_Frames T) (m_Frames_drop T) (ok_Frames_drop T) (hr.mono (by decide)) (bd_Frames_drop T) (pa_cons (pv 2) pa_nil))) (pss_one (ps_ret pe_bl))))))), ?_⟩
  obtain ⟨r, W⟩ := A.wy k o
  have lt := Way.f_lt hf
  have eg := ov_get lt
  rw [hf] at eg
  refine ⟨_, rfl, _, _, _, rfl, W.hp, rfl, _, rfl, n, S, k, p, f, rfl, A, o, hf, ?_⟩
  refine ⟨_, rfl, _, _, _, _, rfl, W.hp, rfl, _, rfl, _, _, _, _, rfl, rfl, SqL.of W.hd, atI_nat eg, ?_⟩
  refine ⟨_, rfl, _, _, _, _, rfl, W.hp, rfl, _, _, _, rfl, A.fr.hg, rfl, _, rfl, S.F, S.c, f, rfl, A.fr, ?_⟩
  rw [o_some hm]
  refine ⟨rfl, _, rfl, ?_⟩
  cases m with
  | zero => exact iteT (q0 rfl)
  | succ m =>
    have ne : decide (nv (m + 1 + 1) = V.int 1) = false := decide_eq_false fun z => by injection z with z; omega
    have q2 := q1 (Nat.succ_ne_zero m)
    obtain ⟨h0, q2⟩ := q2
    refine Eq.mpr (if_neg (by intro z; have z2 : decide (nv (m + 1 + 1) = V.int 1) = true := z; rw [ne] at z2; cases z2)) ?_
    refine ⟨_, rfl, _, _, _, _, rfl, W.hp, rfl, _, rfl, _, _, _, _, rfl, W.hp, rfl, _, rfl, S.F, S.c, f, rfl, A.fr, ⟨m + 1, hm⟩, fun D hD => ?_⟩
    have A1 := A.newC (o := .lst ((S.F.wd f).map nv)) (t := .no) hD
    obtain ⟨_, _, _, h8, hw⟩ := A.fr.fr f (m + 1) hm
    refine ⟨S.F, colS S.c D .no, D, S.F.wd f, rfl, A1.fr, h0, upd_same, by rw [colS_same]; exact fun z => z, h8, hw, fun i a c2 H2 hi A2 k2 => ?_⟩
    have A3 := A1.sf A2 k2
    obtain ⟨r3, W3⟩ := A3.wy k o
    have W3' : WayAt K n S.F.g (S.y k) k r3 c2 H2 := W3
    refine ⟨_, rfl, _, _, _, _, rfl, W3'.hp, rfl, _, rfl, _, _, _, p, rfl, rfl, W3'.hd, ixN_lt (by rw [List.length_map]; exact lt), ?_⟩
    have A4 := A3.sl (k := k) (l := (S.y k).lead.set p (some i)) o (by rw [List.length_set]; rfl)
    have e4 : ((S.y k).lead.map ov).set p (nv i) = ((S.y k).lead.set p (some i)).map ov := ov_set (x := some i)
    rw [e4]
    obtain ⟨r4, W4⟩ := A4.wy k o
    have W4' : WayAt K n S.F.g { S.y k with lead := (S.y k).lead.set p (some i) } k r4 c2 (L2.upd H2 (S.y k).ld (.lst (((S.y k).lead.set p (some i)).map ov))) := by
      have e := sl_same (S := (S.sc (colS S.c D .no)).sf (S.F.lay i a (S.F.wd f)) c2) (k := k) (l := (S.y k).lead.set p (some i))
      rw [e] at W4
      exact W4
    have ne2 : i ≠ f := fun z => by
      rw [z, hm] at hi
      cases hi
    have em : (S.F.lay i a (S.F.wd f)).ow[f]? = some (m + 1 + 1) := by
      show (S.F.ow.set i 1)[f]? = _
      rw [List.getElem?_set_ne ne2]
      exact hm
    refine ⟨_, rfl, _, _, _, _, rfl, W4'.hp, rfl, _, _, _, rfl, A4.fr.hg, rfl, _, rfl, S.F.lay i a (S.F.wd f), c2, f, m + 1, rfl, A4.fr, em, fun H5 A5 k5 => ?_⟩
    have A6 := A4.sf A5 k5
    refine q2 i a c2 H5 hi A6 ?_
    exact ((newU hD).trans (KeepU.isF k2)).trans ((Keep.sl (S := S.sf S.F c2) W3').trans (KeepU.isF k5))
def spPtGive (K : PySem.W.Frag) : Sp := fun vs H Q _ => ∃ (n : Nat) (S : Sy) (k : Bool) (p f m : Nat), vs = [.ref (S.y k).pt, nv p] ∧ At K n S H ∧ S.on k ∧ (S.y k).f p = some f ∧ S.F.ow[f]? = some (m + 1) ∧
  ∀ H', At K n ((S.sf (S.F.own f m) S.c).sl k ((S.y k).lead.set p none)) H' → KeepU S.c H S.c H' → Q .non H'
theorem ok_Parts_give (T : Tx K mg) : FnC P w K mg base 6 (fAd K ("Parts", some "give")) (fdat K ("Parts", some "give")) ["self", "page"] (spPtGive K) := by
  refine fnC (fd_Parts_give T) sc_Parts_give (fun vs H Q E h => ?_) (fun cdv A0 outer s H vs Q E hr h => ?_)
  · obtain ⟨n, S, k, p, f, m, rfl, _⟩ := h
    rfl
  obtain ⟨n, S, k, p, f, m, rfl, A, o, hf, hm, q⟩ := h
  refine ⟨_, (pss_cons (ps_expr (pe_mG (.inl rfl) (pv 0) (c_Parts T) (m_Parts_need T) (ok_Parts_need T) (hr.mono (by decide)) (bd_Parts_need T) (pa_cons (pv 1) pa_nil))) (pss_cons (ps_expr (pe_mG (.inl rfl) (pe_fl (c_Parts T) (n_Parts_ground T) (pv 0)) (c_Frames T) (m_Frames_drop T) (ok_Frames_drop T) (hr.mono (by decide)) (bd_Frames_drop T) (pa_cons (pe_ix ix_list (pe_fl (c_Parts T) (n_Parts_leads T) (pv 0)) (pv 1) (fun _ _ => rfl)) pa_nil))) (pss_one (ps_asg pe_non (pg_sub (pe_fl (c_Parts T) (n_Parts_leads T) (pv 0)) (pv 1) set_list))))), ?_⟩
  obtain ⟨r, W⟩ := A.wy k o
  have lt := Way.f_lt hf
  have eg := ov_get lt
  rw [hf] at eg
  refine ⟨_, rfl, _, _, _, rfl, W.hp, rfl, _, rfl, n, S, k, p, f, rfl, A, o, hf, ?_⟩
  refine ⟨_, rfl, _, _, _, _, rfl, W.hp, rfl, _, _, _, rfl, A.fr.hg, rfl, _, rfl, _, _, _, _, rfl, W.hp, rfl, _, rfl, _, _, _, _, rfl, rfl, SqL.of W.hd, atI_nat eg, S.F, S.c, f, m, rfl, A.fr, hm, fun H2 A2 k2 => ?_⟩
  have A3 := A.sf A2 k2
  obtain ⟨r3, W3⟩ := A3.wy k o
  have W3' : WayAt K n S.F.g (S.y k) k r3 S.c H2 := W3
  refine ⟨_, rfl, _, _, _, _, rfl, W3'.hp, rfl, _, rfl, _, _, _, p, rfl, rfl, W3'.hd, ixN_lt (by rw [List.length_map]; exact lt), ?_⟩
  have A4 := A3.sl (k := k) (l := (S.y k).lead.set p none) o (by rw [List.length_set]; rfl)
  have e4 : ((S.y k).lead.map ov).set p .non = ((S.y k).lead.set p none).map ov := ov_set (x := none)
  rw [e4]
  exact q _ A4 ((KeepU.isF k2).trans (Keep.sl W3'))
def spPtFresh (K : PySem.W.Frag) : Sp := fun vs H Q _ => ∃ (n : Nat) (S : Sy) (k : Bool) (p : Nat), vs = [.ref (S.y k).pt, nv p] ∧ At K n S H ∧ S.on k ∧ p < (S.y k).lead.length ∧ (S.y k).f p = none ∧ 0 ∈ S.F.ow ∧
  ∀ i a c' H', S.F.ow[i]? = some 0 → At K n ((S.sf (S.F.take i a) c').sl k ((S.y k).lead.set p (some i))) H' → KeepU S.c H c' H' → Q .non H'
theorem ok_Parts_fresh (T : Tx K mg) : FnC P w K mg base 3 (fAd K ("Parts", some "fresh")) (fdat K ("Parts", some "fresh")) ["self", "page"] (spPtFresh K) := by
  refine fnC (fd_Parts_fresh T) sc_Parts_fresh (fun vs H Q E h => ?_) (fun cdv A0 outer s H vs Q E hr h => ?_)
  · obtain ⟨n, S, k, p, rfl, _⟩ := h
    rfl
  obtain ⟨n, S, k, p, rfl, A, o, lt, hf, h0, q⟩ := h
  refine ⟨_, (pss_cons (ps_if (PW.pt (pw_or (pt_not (pt_val (pe_fG (.inl rfl) (ok_f_is_below T) (hr.mono (by decide)) (by rfl) (g_is_below T) (fd_f_is_below T).kp (bd_f_is_below T) (pa_cons (pv 1) (pa_cons (pe_callB call_len_seq (by rfl) (b_len T) q_len (pa_cons (pe_fl (c_Parts T) (n_Parts_leads T) (pv 0)) pa_nil)) pa_nil))))) (pw_or1 (pt_cmpR op_notN (pe_ix ix_list (pe_fl (c_Parts T) (n_Parts_leads T) (pv 0)) (pv 1) (fun _ _ => rfl)) pe_non (nomark _))))) (pss_one ps_never) pss_nil) (pss_one (ps_asg (pe_m0G (.inl rfl) (pe_fl (c_Parts T) (n_Parts_ground T) (pv 0)) (c_Frames T) (m_Frames_take T) (ok_Frames_take T) (hr.mono (by decide)) (bd_Frames_take T)) (pg_sub (pe_fl (c_Parts T) (n_Parts_leads T) (pv 0)) (pv 1) set_list)))), ?_⟩
  obtain ⟨r, W⟩ := A.wy k o
  have eg := ov_get lt
  rw [hf] at eg
  refine ⟨_, rfl, _, rfl, _, _, _, _, rfl, W.hp, rfl, _, _, rfl, .inl (SqL.of W.hd), _, _, rfl, _, rfl, ?_⟩
  rw [List.length_map, decide_eq_true (show (0 : Int) ≤ (p : Int) ∧ (p : Int) < ((S.y k).lead.length : Int) by omega)]
  refine iteF ⟨_, rfl, _, _, _, _, rfl, W.hp, rfl, _, rfl, _, _, _, _, rfl, rfl, SqL.of W.hd, atI_nat eg, rfl, _, rfl, iteF ?_⟩
  refine ⟨_, rfl, _, _, _, _, rfl, W.hp, rfl, _, _, _, rfl, A.fr.hg, rfl, S.F, S.c, rfl, A.fr, h0, fun i a c2 H2 hi A2 k2 => ?_⟩
  have A3 := A.sf A2 k2
  obtain ⟨r3, W3⟩ := A3.wy k o
  have W3' : WayAt K n S.F.g (S.y k) k r3 c2 H2 := W3
  refine ⟨_, rfl, _, _, _, _, rfl, W3'.hp, rfl, _, rfl, _, _, _, p, rfl, rfl, W3'.hd, ixN_lt (by rw [List.length_map]; exact lt), ?_⟩
  have A4 := A3.sl (k := k) (l := (S.y k).lead.set p (some i)) o (by rw [List.length_set]; rfl)
  have e4 : ((S.y k).lead.map ov).set p (nv i) = ((S.y k).lead.set p (some i)).map ov := ov_set (x := some i)
  rw [e4]
  exact q i a c2 _ hi A4 ((KeepU.isF k2).trans (Keep.sl (S := S.sf S.F c2) W3'))
def spPtLead (K : PySem.W.Frag) : Sp := fun vs H Q _ => ∃ (n : Nat) (S : Sy) (k : Bool) (p f g a b : Nat), vs = [.ref (S.y k).pt, nv p, nv g] ∧ At K n S H ∧ S.on k ∧ (S.y k).f p = some f ∧ S.F.ow[g]? = some (a + 1) ∧ S.F.ow[f]? = some (b + 1) ∧
  (g = f → Q .non H) ∧ (g ≠ f → ∀ H', At K n ((S.sf ((S.F.own g (a + 2)).own f b) S.c).sl k ((S.y k).lead.set p (some g))) H' → KeepU S.c H S.c H' → Q .non H')
theorem ok_Parts_lead (T : Tx K mg) : FnC P w K mg base 6 (fAd K ("Parts", some "lead")) (fdat K ("Parts", some "lead")) ["self", "page", "frame"] (spPtLead K) := by
  refine fnC (fd_Parts_lead T) sc_Parts_lead (fun vs H Q E h => ?_) (fun cdv A0 outer s H vs Q E hr h => ?_)
  · obtain ⟨n, S, k, p, f, g, a, b, rfl, _⟩ := h
    rfl
  obtain ⟨n, S, k, p, f, g, a, b, rfl, A, o, hf, ha, hb, q0, q1⟩ := h
  refine ⟨_, (pss_cons (ps_expr (pe_mG (.inl rfl) (pv 0) (c_Parts T) (m_Parts_need T) (ok_Parts_need T) (hr.mono (by decide)) (bd_Parts_need T) (pa_cons (pv 1) pa_nil))) (pss_cons (ps_if (pt_not (pt_val (pe_mG (.inl rfl) (pe_fl (c_Parts T) (n_Parts_ground T) (pv 0)) (c_Frames T) (m_Frames_has T) (ok_Frames_has T) (hr.mono (by decide)) (bd_Frames_has T) (pa_cons (pv 2) pa_nil)))) (pss_one ps_never) pss_nil) (pss_cons (ps_set (i := 3) sc_Parts_lead.nd rfl (by first | exact Or.inl rfl | exact Or.inr rfl) (pe_ix ix_list (pe_fl (c_Parts T) (n_Parts_leads T) (pv 0)) (pv 1) (fun _ _ => rfl))) (pss_one (ps_if (pt_cmpR op_ne (pv 2) (pv 3) (nomark _)) (pss_cons (ps_expr (pe_m rfl (pe_fl (c_Parts T) (n_Parts_ground T) (pv 0)) (c_Frames T) (m_Frames_share T) (ok_Frames_share T) (hr.mono (by decide)) (bd_Frames_share T) (E := E0s) (fun _ => passAt0) (pa_cons (pv 2) pa_nil))) (pss_cons (ps_expr (pe_mG (.inl rfl) (pe_fl (c_Parts T) (n_Parts_ground T) (pv 0)) (c_Frames T) (m_Frames_drop T) (ok_Frames_drop T) (hr.mono (by decide)) (bd_Frames_drop T) (pa_cons (pv 3) pa_nil))) (pss_one (ps_asg (pv 2) (pg_sub (pe_fl (c_Parts T) (n_Parts_leads T) (pv 0)) (pv 1) set_list))))) pss_nil))))), ?_⟩
  obtain ⟨r, W⟩ := A.wy k o
  have lt := Way.f_lt hf
  have eg := ov_get lt
  rw [hf] at eg
  refine ⟨_, rfl, _, _, _, rfl, W.hp, rfl, _, rfl, n, S, k, p, f, rfl, A, o, hf, ?_⟩
  refine ⟨_, rfl, _, _, _, _, rfl, W.hp, rfl, _, _, _, rfl, A.fr.hg, rfl, _, rfl, S.F, S.c, g, rfl, A.fr, fun bb hbb => ?_⟩
  obtain rfl : bb = true := hbb.mpr ⟨g, rfl, a, ha⟩
  refine ⟨_, rfl, iteF ?_⟩
  refine ⟨_, rfl, _, _, _, _, rfl, W.hp, rfl, _, rfl, _, _, _, _, rfl, rfl, SqL.of W.hd, atI_nat eg, ?_⟩
  refine ⟨_, rfl, _, rfl, rfl, _, rfl, ?_⟩
  by_cases z : g = f
  · subst z
    have e : (!decide (nv g = nv g)) = false := by rw [decide_eq_true rfl]; rfl
    refine Eq.mpr (if_neg (by intro z; have z2 : (!decide (nv g = nv g)) = true := z; rw [e] at z2; cases z2)) ?_
    exact q0 rfl
  · have e : (!decide (nv g = nv f)) = true := by rw [decide_eq_false fun y => z (by injection y with y; omega)]; rfl
    refine Eq.mpr (if_pos e) ?_
    refine ⟨_, rfl, _, _, _, _, rfl, W.hp, rfl, _, _, _, rfl, A.fr.hg, rfl, _, rfl, S.F, S.c, g, a, rfl, A.fr, ha, fun H2 A2 k2 => ?_⟩
    have A3 := A.sf A2 k2
    obtain ⟨r3, W3⟩ := A3.wy k o
    have W3' : WayAt K n S.F.g (S.y k) k r3 S.c H2 := W3
    have hb2 : (S.F.own g (a + 2)).ow[f]? = some (b + 1) := by
      show (S.F.ow.set g (a + 2))[f]? = _
      rw [List.getElem?_set_ne z]
      exact hb
    refine ⟨_, rfl, _, _, _, _, rfl, W3'.hp, rfl, _, _, _, rfl, A3.fr.hg, rfl, _, rfl, S.F.own g (a + 2), S.c, f, b, rfl, A2, hb2, fun H4 A4 k4 => ?_⟩
    have A5 := A3.sf A4 k4
    obtain ⟨r5, W5⟩ := A5.wy k o
    have W5' : WayAt K n S.F.g (S.y k) k r5 S.c H4 := W5
    refine ⟨_, rfl, _, rfl, _, _, _, _, rfl, W5'.hp, rfl, _, rfl, _, _, _, p, rfl, rfl, W5'.hd, ixN_lt (by rw [List.length_map]; exact lt), ?_⟩
    have A6 := A5.sl (k := k) (l := (S.y k).lead.set p (some g)) o (by rw [List.length_set]; rfl)
    have e4 : ((S.y k).lead.map ov).set p (nv g) = ((S.y k).lead.set p (some g)).map ov := ov_set (x := some g)
    rw [e4]
    exact q1 z _ A6 (((KeepU.isF k2).trans (KeepU.isF k4)).trans (Keep.sl W5'))
end K6
/-! Faults: made, raised, caught. -/
namespace K6
open PySem PySem.Spec PyProof.Rows L2 HotX L2H He
variable {P : Program} {w : World} {K : PySem.W.Frag} {mg : Str → Option Value} {base : Heap}
structure Mo (K : PySem.W.Frag) : Prop where
  oex : OexC K (ga K "Fault")
  xf : XfC K (ga K "Fault")
  iF : PySem.W.findIn K (.ref (ga K "Fault")) "__init__" = some (some (.ref (fAd K ("Fault", some "__init__"))))
  tF : PySem.W.typeIn K (.ref (fAd K ("Fault", some "__init__"))) = some (.type "function")
  rdHouse : ClX.CRead K (ga K "HouseError") (.type "type")
  initHouse : PySem.W.findCls K (.ref (ga K "HouseError")) (.type "type") "__init__" = some (.val (.builtin "ValueError.__init__"))
  rdWays : ClX.CRead K (ga K "Ways") (.type "type")
  initWays : PySem.W.findCls K (.ref (ga K "Ways")) (.type "type") "__init__" = some (.val (.ref (fAd K ("Ways", some "__init__"))))
  rdKept : ClX.CRead K (ga K "Kept") (.type "type")
  initKept : PySem.W.findCls K (.ref (ga K "Kept")) (.type "type") "__init__" = some (.val (.ref (fAd K ("Kept", some "__init__"))))
theorem mo (T : Tx K mg) : Mo K := by
  have h := T.more
  unfold exB at h
  obtain ⟨h1, h⟩ := ba h
  obtain ⟨h2, h⟩ := ba h
  obtain ⟨h3, h⟩ := ba h
  obtain ⟨h4, h⟩ := ba h
  obtain ⟨h5, h⟩ := ba h
  obtain ⟨h6, h⟩ := ba h
  obtain ⟨h7, h⟩ := ba h
  obtain ⟨h8, h⟩ := ba h
  obtain ⟨h9, h⟩ := ba h
  obtain ⟨h10, h⟩ := ba h
  obtain ⟨h11, h⟩ := ba h
  obtain ⟨h12, h⟩ := ba h
  obtain ⟨h13, h14⟩ := ba h
  exact ⟨⟨oexB_ok h1, eqO_ok h2, of_decide_eq_true h3, of_decide_eq_true h4, h5⟩, xfB_ok h6, eqO_ok h7, of_decide_eq_true h8, creadB_ok h9, clsVB_ok h10, creadB_ok h11, clsVB_ok h12, creadB_ok h13, clsVB_ok h14⟩
theorem x_rdHouse (T : Tx K mg) : ClX.CRead K (ga K "HouseError") (.type "type") := (mo T).rdHouse
theorem x_initHouse (T : Tx K mg) : PySem.W.findCls K (.ref (ga K "HouseError")) (.type "type") "__init__" = some (.val (.builtin "ValueError.__init__")) := (mo T).initHouse
theorem x_rdWays (T : Tx K mg) : ClX.CRead K (ga K "Ways") (.type "type") := (mo T).rdWays
theorem x_initWays (T : Tx K mg) : PySem.W.findCls K (.ref (ga K "Ways")) (.type "type") "__init__" = some (.val (.ref (fAd K ("Ways", some "__init__")))) := (mo T).initWays
theorem x_rdKept (T : Tx K mg) : ClX.CRead K (ga K "Kept") (.type "type") := (mo T).rdKept
theorem x_initKept (T : Tx K mg) : PySem.W.findCls K (.ref (ga K "Kept")) (.type "type") "__init__" = some (.val (.ref (fAd K ("Kept", some "__init__")))) := (mo T).initKept
theorem x_xf (T : Tx K mg) : XfC K (ga K "Fault") := (mo T).xf
/-! ### the fault that is made -/
def fltF (k : Str) (p l : V) : List (Str × V) := [("level", l), ("place", p), ("kind", .str k)]
theorem no_attr {C : Addr} {f : Str} (n : NoAttr K C f) : PySem.W.findIn K (.ref C) f = some none := n
def spFltInit (K : PySem.W.Frag) : Sp := fun vs H Q _ => ∃ (a : Addr) (kd : Str) (p l : V), vs = [.ref a, .str kd, p, l] ∧ H a = some (exo a (ga K "Fault") none) ∧
  ∀ d, H d = none → d ≠ a → Q .non (L2.upd (L2.upd H d (exd d (fltF kd p l))) a (exo a (ga K "Fault") (some d)))
theorem ok_Fault_init (T : Tx K mg) : FnC P w K mg base 1 (fAd K ("Fault", some "__init__")) (fdat K ("Fault", some "__init__")) ["self", "kind", "place", "level"] (spFltInit K) := by
  refine fnC (fd_Fault_init T) sc_Fault_init (fun vs H Q E h => ?_) (fun cdv A0 outer s H vs Q E hr h => ?_)
  · obtain ⟨a, kd, p, l, rfl, _⟩ := h
    rfl
  obtain ⟨a, kd, p, l, rfl, ha, k⟩ := h
  refine ⟨_, pss_cons (ps_expr (pe_basei (by rfl) (g_HouseError T) (x_rdHouse T) (x_initHouse T) (pa_cons (pv 0) (pa_cons pe_str pa_nil)))) (pss_cons (ps_ost (pv 0) (pv 1)) (pss_cons (ps_ost (pv 0) (pv 2)) (pss_one (ps_ost (pv 0) (pv 3))))), ?_⟩
  have O := (mo T).oex
  refine ⟨_, rfl, a, ga K "Fault", _, rfl, by show 1 ≤ 1000; decide, O, ha, ?_⟩
  refine ⟨_, rfl, _, rfl, a, ga K "Fault", rfl, O, no_attr (n_Fault_kind T), .inl ⟨ha, fun d hd ne => ?_⟩⟩
  have g1 : ∀ fs, L2.upd (L2.upd H d (exd d fs)) a (exo a (ga K "Fault") (some d)) d = some (exd d fs) := fun fs => by rw [upd_ne ne, upd_same]
  have u1 : ∀ fs fs' : List (Str × V), L2.upd (L2.upd (L2.upd H d (exd d fs)) a (exo a (ga K "Fault") (some d))) d (exd d fs') = L2.upd (L2.upd H d (exd d fs')) a (exo a (ga K "Fault") (some d)) := fun fs fs' => by
    funext b
    by_cases z : b = d
    · rw [z, upd_same, upd_ne ne, upd_same]
    · rw [upd_ne z]
      by_cases z2 : b = a
      · rw [z2, upd_same, upd_same]
      · rw [upd_ne z2, upd_ne z2, upd_ne z, upd_ne z]
  refine ⟨_, rfl, _, rfl, a, ga K "Fault", rfl, O, no_attr (n_Fault_place T), .inr ⟨d, _, upd_same, g1 _, by show 1 ≤ 900; decide, ?_⟩⟩
  rw [u1]
  refine ⟨_, rfl, _, rfl, a, ga K "Fault", rfl, O, no_attr (n_Fault_level T), .inr ⟨d, _, upd_same, g1 _, by show 2 ≤ 900; decide, ?_⟩⟩
  rw [u1]
  exact k d hd ne
/-- Fault(kind, place, level) -/
theorem pmk_fault {X : Cx} {x : Str} {p pos : Pos} {e : Expr} {es : List Expr} {t : TA} (T : Tx X.K X.mg) (c : X.calm = true) (hr : RoomH 2 X.A) (ha : PA X (e :: es) t) (hx : x = "Fault" := by rfl) (hg : Gl X x := by rfl)
    (he : starEach (e :: es) X.env = (false, eval e X.env) :: starEach es X.env := by rfl) (hpl : (backTo pos (starEach es X.env)).any (·.1) = false := by rfl) :
    L2N.PMk X (.Call (.Name x p) (e :: es) [] pos) (tMkO (ga X.K "Fault") (spFltInit X.K) [] t) := by
  subst hx
  exact pmk_n c (mo T).oex (mo T).iF (mo T).tF (ok_Fault_init (P := X.prog) (w := X.w) (base := X.base) T) hr (bd_Fault_init T) hg (g_Fault T) ha (by decide) he hpl
/-- the fault as the one who catches it sees it -/
def FaultK (K : PySem.W.Frag) (E : Value → Option Addr → Hp → Prop) (H : Hp) (kd : Str) (p l : V) : Prop := ∀ d, H d = none → E (.ref (ga K "Fault")) (some d) (L2.upd H d (.xd (fltF kd p l)))
theorem mkfault {H : Hp} {Q : XK} {kd : Str} {p l : V} (h : FaultK K Q H kd p l) : ∀ a, H a = none → spFltInit K (.ref a :: ([.str kd, p, l] ++ [])) (L2.upd H a (exo a (ga K "Fault") none))
    (fun v H2 => v = .non ∧ ∃ (d : Addr) (fs : List (Str × V)), H2 a = some (exo a (ga K "Fault") (some d)) ∧ H2 d = some (exd d fs) ∧ H d = none ∧ Q (.ref (ga K "Fault")) (some d) (L2.upd (del H2 a) d (.xd fs))) (fun _ _ _ => False) := fun a ha =>
  ⟨a, kd, p, l, rfl, upd_same, fun d hd ne => by
    have hd' : H d = none := by rw [upd_ne ne] at hd; exact hd
    refine ⟨rfl, d, fltF kd p l, upd_same, by rw [upd_ne ne, upd_same], hd', ?_⟩
    have e : L2.upd (del (L2.upd (L2.upd (L2.upd H a (exo a (ga K "Fault") none)) d (exd d (fltF kd p l))) a (exo a (ga K "Fault") (some d))) a) d (.xd (fltF kd p l)) = L2.upd H d (.xd (fltF kd p l)) := by
      funext b
      by_cases z : b = d
      · rw [z, upd_same, upd_same]
      · rw [upd_ne z, upd_ne z]
        by_cases z2 : b = a
        · rw [z2, del_same, ha]
        · rw [del_ne z2, upd_ne z2, upd_ne z, upd_ne z2]
    rw [e]
    exact h d hd'⟩
theorem takesN0 {X : Cx} : L2N.Takes X (fun _ _ _ _ => False) := fun _ _ ⟨_, _, _, _, _, _, _, _, _, _, _, _, _, _, _, _, w⟩ => w.elim
/-- the suite that runs while the fault is handled -/
theorem gd_suite {X : Cx} {a : Addr} {oe : Obj} {cls : Value} {d : Option Addr} {pn : List (Addr × Obj)} (hz : L2N.Zn cls d oe) (hf : ∃ vs, oe.data = .fields vs) : Gd (X.suite a ((a, oe) :: pn)) :=
  .inr (by
    obtain ⟨vs, hd⟩ := hf
    exact ⟨(a, oe), ⟨rfl, vs, hd, hz.2.2 vs hd⟩, List.mem_cons_self⟩)
end K6
/-! Looking: what a row lets through. -/
namespace K6
open PySem PySem.Spec PyProof.Rows L2 HotX L2H He
variable {P : Program} {w : World} {K : PySem.W.Frag} {mg : Str → Option Value} {base : Heap}
def LookOk (F : Frs) (r : Nat) (w kn : Bool) : Prop := r % 2 = 1 ∧ Tkn F (r / 256) ∧ (r / 4 % 2 = 1 → kn = true) ∧ (w = true → r / 2 % 2 = 1)
theorem h1_iff {r : Nat} : (r &&& 1 = 1) ↔ r % 2 = 1 := by rw [(low r).a1]
theorem h2_iff {r : Nat} : (r &&& 2 = 2) ↔ r / 2 % 2 = 1 := by rw [(low r).a2]; omega
theorem h4_iff {r : Nat} : (r &&& 4 = 4) ↔ r / 4 % 2 = 1 := by rw [(low r).a4]; omega
theorem h16_iff {r : Nat} : (r &&& 16 = 16) ↔ r / 16 % 2 = 1 := by rw [(low r).a16]; omega
/-! ### while all is well -/
def spLookBy (K : PySem.W.Frag) : Sp := fun vs H Q _ => ∃ (F : Frs) (c : Col) (r p : Nat) (lv : Int) (w : Bool), vs = [.ref F.g, nv r, nv p, .int lv, .bl w, .bl true] ∧ FrAt K F c H ∧ LookOk F r w true ∧ Q (nv (r / 256)) H
theorem ok_f_look_by (T : Tx K mg) : FnG P w K mg base 4 (fAd K ("look_by", none)) (fdat K ("look_by", none)) ["store", "row", "place", "level", "write", "kernel"] (spLookBy K) := by
  refine fnG (fd_f_look_by T) sc_f_look_by (fun vs H Q E h => ?_) (fun cc pn cdv A0 outer s H vs Q E g hr h => ?_)
  · obtain ⟨F, c, r, p, lv, w, rfl, _⟩ := h
    rfl
  obtain ⟨F, c, r, p, lv, w, rfl, A, ok, k⟩ := h
  refine ⟨_, (pss_cons (ps_set (i := 6) sc_f_look_by.nd rfl (by first | exact Or.inl rfl | exact Or.inr rfl) (pe_fG g (ok_f_page_of T) (hr.mono (by decide)) (by rfl) (g_page_of T) (fd_f_page_of T).kp (bd_f_page_of T) (pa_cons (pv 1) pa_nil))) (pss_cons (ps_if (pt_not (pt_val (pe_fG g (ok_f_has T) (hr.mono (by decide)) (by rfl) (g_has T) (fd_f_has T).kp (bd_f_has T) (pa_cons (pv 1) (pa_cons (pe_gi (i_PRESENT T)) pa_nil))))) (pss_one ps_never) pss_nil) (pss_cons (ps_if (pt_not (pt_val (pe_mG g (pv 0) (c_Frames T) (m_Frames_has T) (ok_Frames_has T) (hr.mono (by decide)) (bd_Frames_has T) (pa_cons (pv 6) pa_nil)))) (pss_one ps_never) pss_nil) (pss_cons (ps_if (PW.pt (pw_and (pt_val (pe_fG g (ok_f_has T) (hr.mono (by decide)) (by rfl) (g_has T) (fd_f_has T).kp (bd_f_has T) (pa_cons (pv 1) (pa_cons (pe_gi (i_KERNEL T)) pa_nil)))) (pw_and1 (pt_not (pt_val (pv 5)))))) (pss_one ps_never) pss_nil) (pss_cons (ps_if (PW.pt (pw_and (pt_val (pv 4)) (pw_and1 (pt_not (pt_val (pe_fG g (ok_f_has T) (hr.mono (by decide)) (by rfl) (g_has T) (fd_f_has T).kp (bd_f_has T) (pa_cons (pv 1) (pa_cons (pe_gi (i_WRITABLE T)) pa_nil)))))))) (pss_one ps_never) pss_nil) (pss_one (ps_ret (pv 6)))))))), ?_⟩
  obtain ⟨k1, k2, k3, k4⟩ := ok
  refine ⟨_, rfl, r, rfl, ?_⟩
  refine ⟨_, rfl, r, 1, rfl, ?_⟩
  rw [decide_eq_true (h1_iff.mpr k1)]
  refine ⟨_, rfl, iteF ?_⟩
  refine ⟨_, rfl, _, _, _, rfl, A.hg, rfl, _, rfl, F, c, (r / 256 : Nat), rfl, A, fun b hb => ?_⟩
  obtain rfl : b = true := hb.mpr ⟨r / 256, rfl, k2⟩
  refine ⟨_, rfl, iteF ?_⟩
  refine ⟨_, rfl, r, 4, rfl, _, rfl, ?_⟩
  by_cases h4 : r &&& 4 = 4
  all_goals first | (rw [decide_eq_true h4]; refine iteT ⟨_, rfl, _, rfl, iteF ?_⟩) | (rw [decide_eq_false h4]; refine iteF (iteF ?_))
  all_goals
    cases w with
    | false => exact ⟨_, rfl, false, rfl, iteF (iteF ⟨_, rfl, k⟩)⟩
    | true =>
      refine ⟨_, rfl, true, rfl, iteT ⟨_, rfl, r, 2, rfl, ?_⟩⟩
      rw [decide_eq_true (h2_iff.mpr (k4 rfl))]
      exact ⟨_, rfl, iteF ⟨_, rfl, k⟩⟩
/-! ### when it may be refused -/
def spLookByX (K : PySem.W.Frag) : Sp := fun vs H Q E => ∃ (F : Frs) (c : Col) (r p lv : Nat) (w kn : Bool), vs = [.ref F.g, nv r, nv p, nv lv, .bl w, .bl kn] ∧ FrAt K F c H ∧ (LookOk F r w kn → Q (nv (r / 256)) H) ∧ (¬ LookOk F r w kn → ∀ kd, FaultK K E H kd (nv p) (nv lv))
theorem len3 {a b d : V} : ([a, b, d] : List V).length ≤ 1000 := by show 3 ≤ 1000; decide
theorem okx_look_by_F (T : Tx K mg) : FnX P w K mg base 4 (fAd K ("look_by", none)) (fdat K ("look_by", none)) ["store", "row", "place", "level", "write", "kernel"] (spLookByX K) := by
  refine fnX (fd_f_look_by T) sc_f_look_by (fun vs H Q E h => ?_) (fun cdv A0 outer s H vs Q E hr h => ?_)
  · obtain ⟨F, c, r, p, lv, w, kn, rfl, _⟩ := h
    rfl
  obtain ⟨F, c, r, p, lv, w, kn, rfl, A, k, kx⟩ := h
  refine ⟨_, (pss_cons (ps_set (i := 6) sc_f_look_by.nd rfl (by first | exact Or.inl rfl | exact Or.inr rfl) (pe_fG (.inl rfl) (ok_f_page_of T) (hr.mono (by decide)) (by rfl) (g_page_of T) (fd_f_page_of T).kp (bd_f_page_of T) (pa_cons (pv 1) pa_nil))) (pss_cons (ps_if (pt_not (pt_val (pe_fG (.inl rfl) (ok_f_has T) (hr.mono (by decide)) (by rfl) (g_has T) (fd_f_has T).kp (bd_f_has T) (pa_cons (pv 1) (pa_cons (pe_gi (i_PRESENT T)) pa_nil))))) (pss_one (L2N.ps_raise rfl (L2N.takes_of rfl rfl rfl rfl) (pmk_fault T rfl (hr.mono (by decide)) (pa_cons pe_str (pa_cons (pv 2) (pa_cons (pv 3) pa_nil)))))) pss_nil) (pss_cons (ps_if (pt_not (pt_val (pe_mG (.inl rfl) (pv 0) (c_Frames T) (m_Frames_has T) (ok_Frames_has T) (hr.mono (by decide)) (bd_Frames_has T) (pa_cons (pv 6) pa_nil)))) (pss_one (L2N.ps_raise rfl (L2N.takes_of rfl rfl rfl rfl) (pmk_fault T rfl (hr.mono (by decide)) (pa_cons pe_str (pa_cons (pv 2) (pa_cons (pv 3) pa_nil)))))) pss_nil) (pss_cons (ps_if (PW.pt (pw_and (pt_val (pe_fG (.inl rfl) (ok_f_has T) (hr.mono (by decide)) (by rfl) (g_has T) (fd_f_has T).kp (bd_f_has T) (pa_cons (pv 1) (pa_cons (pe_gi (i_KERNEL T)) pa_nil)))) (pw_and1 (pt_not (pt_val (pv 5)))))) (pss_one (L2N.ps_raise rfl (L2N.takes_of rfl rfl rfl rfl) (pmk_fault T rfl (hr.mono (by decide)) (pa_cons pe_str (pa_cons (pv 2) (pa_cons (pv 3) pa_nil)))))) pss_nil) (pss_cons (ps_if (PW.pt (pw_and (pt_val (pv 4)) (pw_and1 (pt_not (pt_val (pe_fG (.inl rfl) (ok_f_has T) (hr.mono (by decide)) (by rfl) (g_has T) (fd_f_has T).kp (bd_f_has T) (pa_cons (pv 1) (pa_cons (pe_gi (i_WRITABLE T)) pa_nil)))))))) (pss_one (L2N.ps_raise rfl (L2N.takes_of rfl rfl rfl rfl) (pmk_fault T rfl (hr.mono (by decide)) (pa_cons pe_str (pa_cons (pv 2) (pa_cons (pv 3) pa_nil)))))) pss_nil) (pss_one (ps_ret (pv 6)))))))), ?_⟩
  refine ⟨_, rfl, r, rfl, ?_⟩
  refine ⟨_, rfl, r, 1, rfl, ?_⟩
  by_cases k1 : r % 2 = 1
  case neg =>
    rw [decide_eq_false fun z => k1 (h1_iff.mp z)]
    exact ⟨_, rfl, iteT ⟨_, rfl, _, rfl, len3, mkfault (kx (fun z => k1 z.1) _)⟩⟩
  rw [decide_eq_true (h1_iff.mpr k1)]
  refine ⟨_, rfl, iteF ?_⟩
  refine ⟨_, rfl, _, _, _, rfl, A.hg, rfl, _, rfl, F, c, (r / 256 : Nat), rfl, A, fun b hb => ?_⟩
  by_cases k2 : Tkn F (r / 256)
  case neg =>
    have hb' : b = false := by
      cases b with
      | false => rfl
      | true =>
        obtain ⟨j, ej, tj⟩ := hb.mp rfl
        have : r / 256 = j := by omega
        rw [this] at k2
        exact absurd tj k2
    subst hb'
    exact ⟨_, rfl, iteT ⟨_, rfl, _, rfl, len3, mkfault (kx (fun z => k2 z.2.1) _)⟩⟩
  obtain rfl : b = true := hb.mpr ⟨r / 256, rfl, k2⟩
  refine ⟨_, rfl, iteF ?_⟩
  refine ⟨_, rfl, r, 4, rfl, _, rfl, ?_⟩
  by_cases k3 : r / 4 % 2 = 1 → kn = true
  case neg =>
    have k31 : r / 4 % 2 = 1 := Classical.byContradiction fun z => k3 fun y => absurd y z
    have k32 : kn = false := by
      cases kn with
      | false => rfl
      | true => exact absurd (fun _ => rfl) k3
    subst k32
    rw [decide_eq_true (h4_iff.mpr k31)]
    exact iteT ⟨_, rfl, _, rfl, iteT ⟨_, rfl, _, rfl, len3, mkfault (kx (fun z => k3 z.2.2.1) _)⟩⟩
  by_cases k4 : w = true → r / 2 % 2 = 1
  case neg =>
    have k41 : w = true := Classical.byContradiction fun z => k4 fun y => absurd y z
    subst k41
    have k42 : ¬ r / 2 % 2 = 1 := fun z => k4 fun _ => z
    by_cases h4 : r &&& 4 = 4
    · obtain rfl : kn = true := k3 (h4_iff.mp h4)
      rw [decide_eq_true h4]
      refine iteT ⟨_, rfl, _, rfl, iteF ⟨_, rfl, true, rfl, iteT ⟨_, rfl, r, 2, rfl, ?_⟩⟩⟩
      rw [decide_eq_false fun z => k42 (h2_iff.mp z)]
      exact ⟨_, rfl, iteT ⟨_, rfl, _, rfl, len3, mkfault (kx (fun z => k4 z.2.2.2) _)⟩⟩
    · rw [decide_eq_false h4]
      refine iteF (iteF ⟨_, rfl, true, rfl, iteT ⟨_, rfl, r, 2, rfl, ?_⟩⟩)
      rw [decide_eq_false fun z => k42 (h2_iff.mp z)]
      exact ⟨_, rfl, iteT ⟨_, rfl, _, rfl, len3, mkfault (kx (fun z => k4 z.2.2.2) _)⟩⟩
  replace k := k ⟨k1, k2, k3, k4⟩
  by_cases h4 : r &&& 4 = 4
  all_goals first | (obtain rfl : kn = true := k3 (h4_iff.mp h4); rw [decide_eq_true h4]; refine iteT ⟨_, rfl, _, rfl, iteF ?_⟩) | (rw [decide_eq_false h4]; refine iteF (iteF ?_))
  all_goals
    cases w with
    | false => exact ⟨_, rfl, false, rfl, iteF (iteF ⟨_, rfl, k⟩)⟩
    | true =>
      refine ⟨_, rfl, true, rfl, iteT ⟨_, rfl, r, 2, rfl, ?_⟩⟩
      rw [decide_eq_true (h2_iff.mpr (k4 rfl))]
      exact ⟨_, rfl, iteF ⟨_, rfl, k⟩⟩
/-! ### rights -/
def spRights : Sp := fun vs H Q _ => ∃ a b : Nat, vs = [nv a, nv b] ∧ ∀ z : Nat, Q (nv z) H
theorem ok_f_rights_of (T : Tx K mg) : FnG P w K mg base 1 (fAd K ("rights_of", none)) (fdat K ("rights_of", none)) ["high", "low"] spRights := by
  refine fnG (fd_f_rights_of T) sc_f_rights_of (fun vs H Q E h => ?_) (fun cc pn cdv A0 outer s H vs Q E g hr h => ?_)
  · obtain ⟨a, b, rfl, _⟩ := h
    rfl
  obtain ⟨a, b, rfl, k⟩ := h
  refine ⟨_, (pss_cons (ps_set (i := 2) sc_f_rights_of.nd rfl (by first | exact Or.inl rfl | exact Or.inr rfl) (pe_op op_and (pe_op op_and (pv 0) (pv 1)) (pe_gi (i_WRITABLE T)))) (pss_cons (ps_set (i := 2) sc_f_rights_of.nd rfl (by first | exact Or.inl rfl | exact Or.inr rfl) (pe_op op_or (pv 2) (pe_op op_and (pe_op op_or (pv 0) (pv 1)) (pe_gi (i_KERNEL T))))) (pss_one (ps_ret (pe_op op_or (pv 2) (pe_op op_and (pv 1) (pe_gi (i_SOILED T)))))))), ?_⟩
  refine ⟨_, rfl, _, rfl, (a : Int), (b : Int), rfl, rfl, ((a &&& b : Nat) : Int), ((2 : Nat) : Int), rfl, rfl, ?_⟩
  refine ⟨_, rfl, _, rfl, _, rfl, (a : Int), (b : Int), rfl, rfl, ?_⟩
  dsimp only
  rw [bor, band]
  refine ⟨((a ||| b : Nat) : Int), ((4 : Nat) : Int), rfl, rfl, (((a &&& b) &&& 2 : Nat) : Int), (((a ||| b) &&& 4 : Nat) : Int), rfl, rfl, ?_⟩
  dsimp only
  rw [bor]
  refine ⟨_, rfl, _, rfl, (b : Int), ((16 : Nat) : Int), rfl, rfl, (((a &&& b) &&& 2 ||| (a ||| b) &&& 4 : Nat) : Int), ((b &&& 16 : Nat) : Int), rfl, rfl, ?_⟩
  dsimp only
  rw [bor]
  exact k _
end K6
/-! Looking through two levels; stamps. -/
namespace K6
open PySem PySem.Spec PyProof.Rows L2 HotX L2H He
variable {P : Program} {w : World} {K : PySem.W.Frag} {mg : Str → Option Value} {base : Heap}
/-- what looking told: where the rows lie, the page, rights -/
def Trail (c : Col) (H : Hp) (v : V) (root o tb i pg z : Nat) : Prop :=
  ∃ tr a b : Addr, v = .ref tr ∧ H tr = some (.tup [.ref a, .ref b, nv pg, nv z]) ∧ H a = some (.tup [nv root, nv o]) ∧ H b = some (.tup [nv tb, nv i]) ∧ c tr = .no ∧ c a = .no ∧ c b = .no
theorem Trail.keep {c c' : Col} {H H' : Hp} {v : V} {root o tb i pg z : Nat} {T : Tag → Prop} (t : Trail c H v root o tb i pg z) (k : Keep T c H c' H') (h : ¬ T .no) : Trail c' H' v root o tb i pg z := by
  obtain ⟨tr, a, b, e, e1, e2, e3, c1, c2, c3⟩ := t
  have kk : ∀ {a o}, H a = some o → c a = .no → H' a = some o ∧ c' a = .no := fun {a o} q1 q2 => by
    obtain ⟨z1, z2⟩ := k a o q1 (by rw [q2]; exact h)
    exact ⟨z1, z2.trans q2⟩
  exact ⟨tr, a, b, e, (kk e1 c1).1, (kk e2 c2).1, (kk e3 c3).1, (kk e1 c1).2, (kk e2 c2).2, (kk e3 c3).2⟩
abbrev Keep0 (c : Col) (H : Hp) (c' : Col) (H' : Hp) : Prop := Keep (fun _ => False) c H c' H'
theorem len2 {a b : V} : ([a, b] : List V).length ≤ sizeLine := szl (by show 2 ≤ 1000; decide)
theorem len4 {a b d e : V} : ([a, b, d, e] : List V).length ≤ sizeLine := szl (by show 4 ≤ 1000; decide)
/-- the three tuples of a trail are laid -/
theorem trail_new {c : Col} {H : Hp} {a b tr : Addr} {root o tb i pg z : Nat} (ha : H a = none) (hb : L2.upd H a (.tup [nv root, nv o]) b = none) (ht : L2.upd (L2.upd H a (.tup [nv root, nv o])) b (.tup [nv tb, nv i]) tr = none) :
    Keep0 c H (colS (colS (colS c a .no) b .no) tr .no) (L2.upd (L2.upd (L2.upd H a (.tup [nv root, nv o])) b (.tup [nv tb, nv i])) tr (.tup [.ref a, .ref b, nv pg, nv z])) ∧
    Trail (colS (colS (colS c a .no) b .no) tr .no) (L2.upd (L2.upd (L2.upd H a (.tup [nv root, nv o])) b (.tup [nv tb, nv i])) tr (.tup [.ref a, .ref b, nv pg, nv z])) (.ref tr) root o tb i pg z := by
  have nba : b ≠ a := fun y => by rw [y, upd_same] at hb; cases hb
  have ntb : tr ≠ b := fun y => by rw [y, upd_same] at ht; cases ht
  have nta : tr ≠ a := fun y => by rw [y, upd_ne nba.symm, upd_same] at ht; cases ht
  refine ⟨((Keep.newC ha).trans (Keep.newC hb)).trans (Keep.newC ht), tr, a, b, rfl, upd_same, ?_, ?_, colS_same, ?_, ?_⟩
  · rw [upd_ne nta.symm, upd_ne nba.symm, upd_same]
  · rw [upd_ne ntb.symm, upd_same]
  · rw [colS_ne nta.symm, colS_ne nba.symm, colS_same]
  · rw [colS_ne ntb.symm, colS_same]
def spLook (K : PySem.W.Frag) : Sp := fun vs H Q _ => ∃ (F : Frs) (c : Col) (root p x r : Nat) (w : Bool), vs = [.ref F.g, nv root, nv p, .bl w, .bl true] ∧ FrAt K F c H ∧ p ≤ 511 ∧ Tkn F root ∧ (F.wd root)[p / 64]? = some x ∧ LookOk F x w true ∧
  (F.wd (x / 256))[p / 8 % 8]? = some r ∧ LookOk F r w true ∧ ∀ v z c' H', Keep0 c H c' H' → Trail c' H' v root (p / 64) (x / 256) (p / 8 % 8) (r / 256) z → Q v H'
theorem ok_f_look (T : Tx K mg) : FnG P w K mg base 6 (fAd K ("look", none)) (fdat K ("look", none)) ["store", "root", "place", "write", "kernel"] (spLook K) := by
  refine fnG (fd_f_look T) sc_f_look (fun vs H Q E h => ?_) (fun cc pn cdv A0 outer s H vs Q E g hr h => ?_)
  · obtain ⟨F, c, root, p, x, r, w, rfl, _⟩ := h
    rfl
  obtain ⟨F, c, root, p, x, r, w, rfl, A, hp, tr, hx, okx, hr2, okr, k⟩ := h
  refine ⟨_, (pss_cons (ps_if (pt_cmpR op_gt (pv 2) (pe_gi (i_LAST T)) (nomark _)) (pss_one ps_never) pss_nil) (pss_cons (ps_if (pt_not (pt_val (pe_mG g (pv 0) (c_Frames T) (m_Frames_has T) (ok_Frames_has T) (hr.mono (by decide)) (bd_Frames_has T) (pa_cons (pv 1) pa_nil)))) (pss_one ps_never) pss_nil) (pss_cons (ps_asg (pe_fG g (ok_f_parts_of T) (hr.mono (by decide)) (by rfl) (g_parts_of T) (fd_f_parts_of T).kp (bd_f_parts_of T) (pa_cons (pv 2) pa_nil)) (pg_tupG g (pgs_cons (pg_name (i := 5) sc_f_look.nd rfl (by first | exact Or.inl rfl | exact Or.inr rfl)) (pgs_cons (pg_name (i := 6) sc_f_look.nd rfl (by first | exact Or.inl rfl | exact Or.inr rfl)) (pgs_cons (pg_name (i := 7) sc_f_look.nd rfl (by first | exact Or.inl rfl | exact Or.inr rfl)) pgs_nil))))) (pss_cons (ps_set (i := 8) sc_f_look.nd rfl (by first | exact Or.inl rfl | exact Or.inr rfl) (pe_mG g (pv 0) (c_Frames T) (m_Frames_read T) (ok_Frames_read T) (hr.mono (by decide)) (bd_Frames_read T) (pa_cons (pv 1) (pa_cons (pv 5) pa_nil)))) (pss_cons (ps_set (i := 9) sc_f_look.nd rfl (by first | exact Or.inl rfl | exact Or.inr rfl) (pe_fG g (ok_f_look_by T) (hr.mono (by decide)) (by rfl) (g_look_by T) (fd_f_look_by T).kp (bd_f_look_by T) (pa_cons (pv 0) (pa_cons (pv 8) (pa_cons (pv 2) (pa_cons pe_int (pa_cons (pv 3) (pa_cons (pv 4) pa_nil)))))))) (pss_cons (ps_set (i := 10) sc_f_look.nd rfl (by first | exact Or.inl rfl | exact Or.inr rfl) (pe_mG g (pv 0) (c_Frames T) (m_Frames_read T) (ok_Frames_read T) (hr.mono (by decide)) (bd_Frames_read T) (pa_cons (pv 9) (pa_cons (pv 6) pa_nil)))) (pss_cons (ps_set (i := 11) sc_f_look.nd rfl (by first | exact Or.inl rfl | exact Or.inr rfl) (pe_fG g (ok_f_look_by T) (hr.mono (by decide)) (by rfl) (g_look_by T) (fd_f_look_by T).kp (bd_f_look_by T) (pa_cons (pv 0) (pa_cons (pv 10) (pa_cons (pv 2) (pa_cons pe_int (pa_cons (pv 3) (pa_cons (pv 4) pa_nil)))))))) (pss_one (ps_ret (pe_tup (pa_cons (pe_tup (pa_cons (pv 1) (pa_cons (pv 5) pa_nil))) (pa_cons (pe_tup (pa_cons (pv 9) (pa_cons (pv 6) pa_nil))) (pa_cons (pv 11) (pa_cons (pe_fG g (ok_f_rights_of T) (hr.mono (by decide)) (by rfl) (g_rights_of T) (fd_f_rights_of T).kp (bd_f_rights_of T) (pa_cons (pv 8) (pa_cons (pv 10) pa_nil))) pa_nil)))))))))))))), ?_⟩
  refine ⟨_, rfl, _, _, rfl, rfl, _, rfl, ?_⟩
  rw [decide_eq_false (show ¬ ((511 : Int) < (p : Int)) by omega)]
  refine iteF ⟨_, rfl, _, _, _, rfl, A.hg, rfl, _, rfl, F, c, (root : Nat), rfl, A, fun b hb => ?_⟩
  obtain rfl : b = true := hb.mpr ⟨root, rfl, tr⟩
  refine ⟨_, rfl, iteF ⟨_, rfl, p, rfl, hp, fun t H1 s1 ht0 ht => ?_⟩⟩
  have A1 := A.same s1
  refine ⟨_, _, rfl, SqT.of ht, rfl, _, _, rfl, _, _, rfl, _, _, rfl, rfl, ?_⟩
  refine ⟨_, rfl, _, _, _, rfl, A1.hg, rfl, _, rfl, _, rfl, F, c, root, p / 64, x, rfl, A1, tr, hx, ?_⟩
  refine ⟨_, rfl, _, rfl, _, rfl, _, rfl, _, rfl, F, c, x, p, 1, w, rfl, A1, okx, ?_⟩
  refine ⟨_, rfl, _, _, _, rfl, A1.hg, rfl, _, rfl, _, rfl, F, c, x / 256, p / 8 % 8, r, rfl, A1, okx.2.1, hr2, ?_⟩
  refine ⟨_, rfl, _, rfl, _, rfl, _, rfl, _, rfl, F, c, r, p, 2, w, rfl, A1, okr, ?_⟩
  refine ⟨_, rfl, _, rfl, len2, fun a ha => ⟨_, rfl, _, rfl, len2, fun b hb => ⟨_, rfl, _, rfl, _, rfl, x, r, rfl, fun z => ⟨len4, fun tr' htr => ?_⟩⟩⟩⟩
  obtain ⟨q1, q2⟩ := trail_new (c := c) (pg := r / 256) (z := z) ha hb htr
  exact k _ z _ _ ((Keep.same s1).trans q1) q2
def spLookX (K : PySem.W.Frag) : Sp := fun vs H Q E => ∃ (F : Frs) (c : Col) (root p x : Nat) (w : Bool), vs = [.ref F.g, nv root, nv p, .bl w, .bl true] ∧ FrAt K F c H ∧ p ≤ 511 ∧ Tkn F root ∧ (F.wd root)[p / 64]? = some x ∧ LookOk F x w true ∧
  ∃ r, (F.wd (x / 256))[p / 8 % 8]? = some r ∧ (LookOk F r w true → ∀ v z c' H', Keep0 c H c' H' → Trail c' H' v root (p / 64) (x / 256) (p / 8 % 8) (r / 256) z → Q v H') ∧
    (¬ LookOk F r w true → ∀ H', Same H H' → ∀ kd, FaultK K E H' kd (nv p) (nv 2))
theorem okx_look_F (T : Tx K mg) : FnX P w K mg base 6 (fAd K ("look", none)) (fdat K ("look", none)) ["store", "root", "place", "write", "kernel"] (spLookX K) := by
  refine fnX (fd_f_look T) sc_f_look (fun vs H Q E h => ?_) (fun cdv A0 outer s H vs Q E hr h => ?_)
  · obtain ⟨F, c, root, p, x, w, rfl, _⟩ := h
    rfl
  obtain ⟨F, c, root, p, x, w, rfl, A, hp, tr, hx, okx, r, hr2, k, kx⟩ := h
  refine ⟨_, (pss_cons (ps_if (pt_cmpR op_gt (pv 2) (pe_gi (i_LAST T)) (nomark _)) (pss_one (L2N.ps_raise rfl (L2N.takes_of rfl rfl rfl rfl) (pmk_fault T rfl (hr.mono (by decide)) (pa_cons pe_str (pa_cons (pv 2) (pa_cons pe_int pa_nil)))))) pss_nil) (pss_cons (ps_if (pt_not (pt_val (pe_mG (.inl rfl) (pv 0) (c_Frames T) (m_Frames_has T) (ok_Frames_has T) (hr.mono (by decide)) (bd_Frames_has T) (pa_cons (pv 1) pa_nil)))) (pss_one (L2N.ps_raise rfl (L2N.takes_of rfl rfl rfl rfl) (pmk_fault T rfl (hr.mono (by decide)) (pa_cons pe_str (pa_cons (pv 2) (pa_cons pe_int pa_nil)))))) pss_nil) (pss_cons (ps_asg (pe_fG (.inl rfl) (ok_f_parts_of T) (hr.mono (by decide)) (by rfl) (g_parts_of T) (fd_f_parts_of T).kp (bd_f_parts_of T) (pa_cons (pv 2) pa_nil)) (pg_tupG (.inl rfl) (pgs_cons (pg_name (i := 5) sc_f_look.nd rfl (by first | exact Or.inl rfl | exact Or.inr rfl)) (pgs_cons (pg_name (i := 6) sc_f_look.nd rfl (by first | exact Or.inl rfl | exact Or.inr rfl)) (pgs_cons (pg_name (i := 7) sc_f_look.nd rfl (by first | exact Or.inl rfl | exact Or.inr rfl)) pgs_nil))))) (pss_cons (ps_set (i := 8) sc_f_look.nd rfl (by first | exact Or.inl rfl | exact Or.inr rfl) (pe_mG (.inl rfl) (pv 0) (c_Frames T) (m_Frames_read T) (ok_Frames_read T) (hr.mono (by decide)) (bd_Frames_read T) (pa_cons (pv 1) (pa_cons (pv 5) pa_nil)))) (pss_cons (ps_set (i := 9) sc_f_look.nd rfl (by first | exact Or.inl rfl | exact Or.inr rfl) (pe_f rfl (okx_look_by_F T) (hr.mono (by decide)) (by rfl) (g_look_by T) (fd_f_look_by T).kp (bd_f_look_by T) (fun σ => L2N.passAt (L2N.takes_of rfl rfl rfl rfl) σ) (pa_cons (pv 0) (pa_cons (pv 8) (pa_cons (pv 2) (pa_cons pe_int (pa_cons (pv 3) (pa_cons (pv 4) pa_nil)))))))) (pss_cons (ps_set (i := 10) sc_f_look.nd rfl (by first | exact Or.inl rfl | exact Or.inr rfl) (pe_mG (.inl rfl) (pv 0) (c_Frames T) (m_Frames_read T) (ok_Frames_read T) (hr.mono (by decide)) (bd_Frames_read T) (pa_cons (pv 9) (pa_cons (pv 6) pa_nil)))) (pss_cons (ps_set (i := 11) sc_f_look.nd rfl (by first | exact Or.inl rfl | exact Or.inr rfl) (pe_f rfl (okx_look_by_F T) (hr.mono (by decide)) (by rfl) (g_look_by T) (fd_f_look_by T).kp (bd_f_look_by T) (fun σ => L2N.passAt (L2N.takes_of rfl rfl rfl rfl) σ) (pa_cons (pv 0) (pa_cons (pv 10) (pa_cons (pv 2) (pa_cons pe_int (pa_cons (pv 3) (pa_cons (pv 4) pa_nil)))))))) (pss_one (ps_ret (pe_tup (pa_cons (pe_tup (pa_cons (pv 1) (pa_cons (pv 5) pa_nil))) (pa_cons (pe_tup (pa_cons (pv 9) (pa_cons (pv 6) pa_nil))) (pa_cons (pv 11) (pa_cons (pe_fG (.inl rfl) (ok_f_rights_of T) (hr.mono (by decide)) (by rfl) (g_rights_of T) (fd_f_rights_of T).kp (bd_f_rights_of T) (pa_cons (pv 8) (pa_cons (pv 10) pa_nil))) pa_nil)))))))))))))), ?_⟩
  refine ⟨_, rfl, _, _, rfl, rfl, _, rfl, ?_⟩
  rw [decide_eq_false (show ¬ ((511 : Int) < (p : Int)) by omega)]
  refine iteF ⟨_, rfl, _, _, _, rfl, A.hg, rfl, _, rfl, F, c, (root : Nat), rfl, A, fun b hb => ?_⟩
  obtain rfl : b = true := hb.mpr ⟨root, rfl, tr⟩
  refine ⟨_, rfl, iteF ⟨_, rfl, p, rfl, hp, fun t H1 s1 ht0 ht => ?_⟩⟩
  have A1 := A.same s1
  refine ⟨_, _, rfl, SqT.of ht, rfl, _, _, rfl, _, _, rfl, _, _, rfl, rfl, ?_⟩
  refine ⟨_, rfl, _, _, _, rfl, A1.hg, rfl, _, rfl, _, rfl, F, c, root, p / 64, x, rfl, A1, tr, hx, ?_⟩
  refine ⟨_, rfl, _, rfl, _, rfl, _, rfl, _, rfl, F, c, x, p, 1, w, true, rfl, A1, fun _ => ?_, fun z => absurd okx z⟩
  refine ⟨_, rfl, _, _, _, rfl, A1.hg, rfl, _, rfl, _, rfl, F, c, x / 256, p / 8 % 8, r, rfl, A1, okx.2.1, hr2, ?_⟩
  refine ⟨_, rfl, _, rfl, _, rfl, _, rfl, _, rfl, F, c, r, p, 2, w, true, rfl, A1, fun okr => ?_, fun z kd => kx z H1 s1 kd⟩
  refine ⟨_, rfl, _, rfl, len2, fun a ha => ⟨_, rfl, _, rfl, len2, fun b hb => ⟨_, rfl, _, rfl, _, rfl, x, r, rfl, fun z => ⟨len4, fun tr' htr => ?_⟩⟩⟩⟩
  obtain ⟨q1, q2⟩ := trail_new (c := c) (pg := r / 256) (z := z) ha hb htr
  exact k okr _ z _ _ ((Keep.same s1).trans q1) q2
/-- a mark is set in a frame's cell -/
def spStamp (K : PySem.W.Frag) : Sp := fun vs H Q _ => ∃ (F : Frs) (c : Col) (s : Addr) (i o x m : Nat), vs = [.ref F.g, .ref s, nv m] ∧ FrAt K F c H ∧ H s = some (.tup [nv i, nv o]) ∧ c s = .no ∧ Tkn F i ∧ (F.wd i)[o]? = some x ∧ m < 256 ∧
  ∀ H', FrAt K (F.wr i o (x ||| m)) c H' → Keep Tag.isF c H c H' → Q .non H'
theorem or_lt {x m : Nat} (h : x < 2 ^ 48) (hm : m < 256) : x ||| m < 2 ^ 48 := Nat.or_lt_two_pow h (by omega)
theorem or_eq_of_and {x m : Nat} (h : x &&& m = m) : x ||| m = x := by
  have e : (x ||| m) = (x ||| (x &&& m)) := by rw [h]
  rw [e]
  apply Nat.eq_of_testBit_eq
  intro i
  rw [Nat.testBit_or, Nat.testBit_and]
  cases x.testBit i <;> rfl
theorem wr_self {F : Frs} {i o x : Nat} (h : (F.wd i)[o]? = some x) : F.wr i o x = F := by
  unfold Frs.wr
  have e : (fun j => if j = i then (F.wd i).set o x else F.wd j) = F.wd := by
    funext j
    by_cases z : j = i
    · rw [if_pos z, z]
      apply List.ext_getElem?
      intro n
      by_cases y : o = n
      · subst y
        rw [List.getElem?_set_self (List.getElem?_eq_some_iff.mp h).1, h]
      · rw [List.getElem?_set_ne y]
    · rw [if_neg z]
  rw [e]
theorem ok_f_stamp (T : Tx K mg) : FnC P w K mg base 6 (fAd K ("stamp", none)) (fdat K ("stamp", none)) ["store", "spot", "marks"] (spStamp K) := by
  refine fnC (fd_f_stamp T) sc_f_stamp (fun vs H Q E h => ?_) (fun cdv A0 outer s H vs Q E hr h => ?_)
  · obtain ⟨F, c, s, i, o, x, m, rfl, _⟩ := h
    rfl
  obtain ⟨F, c, s, i, o, x, m, rfl, A, hs, cs, t, hx, hm, k⟩ := h
  refine ⟨_, (pss_cons (ps_set (i := 3) sc_f_stamp.nd rfl (by first | exact Or.inl rfl | exact Or.inr rfl) (pe_mG (.inl rfl) (pv 0) (c_Frames T) (m_Frames_read T) (ok_Frames_read T) (hr.mono (by decide)) (bd_Frames_read T) (pa_cons (pe_ix ix_tup (pv 1) pe_int (fun _ _ => rfl)) (pa_cons (pe_ix ix_tup (pv 1) pe_int (fun _ _ => rfl)) pa_nil)))) (pss_one (ps_if (pt_not (pt_val (pe_fG (.inl rfl) (ok_f_has T) (hr.mono (by decide)) (by rfl) (g_has T) (fd_f_has T).kp (bd_f_has T) (pa_cons (pv 3) (pa_cons (pv 2) pa_nil))))) (pss_one (ps_expr (pe_mG (.inl rfl) (pv 0) (c_Frames T) (m_Frames_write T) (ok_Frames_write T) (hr.mono (by decide)) (bd_Frames_write T) (pa_cons (pe_ix ix_tup (pv 1) pe_int (fun _ _ => rfl)) (pa_cons (pe_ix ix_tup (pv 1) pe_int (fun _ _ => rfl)) (pa_cons (pe_fG (.inl rfl) (ok_f_put T) (hr.mono (by decide)) (by rfl) (g_put T) (fd_f_put T).kp (bd_f_put T) (pa_cons (pv 3) (pa_cons (pv 2) pa_nil))) pa_nil)))))) pss_nil))), ?_⟩
  obtain ⟨n, e⟩ := t
  obtain ⟨_, _, _, h8, hw⟩ := A.fr i n e
  have ho : o < 8 := by rw [← h8]; exact (List.getElem?_eq_some_iff.mp hx).1
  have hx48 := hw x (List.mem_of_getElem? hx)
  refine ⟨_, rfl, _, _, _, rfl, A.hg, rfl, _, rfl, _, _, _, _, rfl, rfl, SqT.of hs, rfl, _, rfl, _, _, _, _, rfl, rfl, SqT.of hs, rfl, F, c, i, o, x, rfl, A, ⟨n, e⟩, hx, ?_⟩
  refine ⟨_, rfl, _, rfl, x, m, rfl, _, rfl, ?_⟩
  by_cases h : x &&& m = m
  · rw [decide_eq_true h]
    refine iteF ?_
    refine k H ?_ (fun _ _ h _ => ⟨h, rfl⟩)
    rw [or_eq_of_and h, wr_self hx]
    exact A
  · rw [decide_eq_false h]
    refine iteT ?_
    refine ⟨_, rfl, _, _, _, rfl, A.hg, rfl, _, rfl, _, _, _, _, rfl, rfl, SqT.of hs, rfl, _, rfl, _, _, _, _, rfl, rfl, SqT.of hs, rfl, _, rfl, _, rfl, x, m, rfl, ?_⟩
    exact ⟨F, c, i, o, x ||| m, rfl, A, ⟨n, e⟩, ho, or_lt hx48 hm, fun H' A' k' => k H' A' k'⟩
end K6
/-! THE PLAIN PART: what stays true of both ways and the frames. -/
namespace K6
open PySem PySem.Spec PyProof.Rows L2 HotX L2H He
variable {K : PySem.W.Frag}
/-! ### counting in lists -/
def b1 (p : Prop) [Decidable p] : Nat := if p then 1 else 0
theorem b1_t {p : Prop} [Decidable p] (h : p) : b1 p = 1 := if_pos h
theorem b1_f {p : Prop} [Decidable p] (h : ¬ p) : b1 p = 0 := if_neg h
theorem b1_le {p : Prop} [Decidable p] : b1 p ≤ 1 := by unfold b1; split <;> omega
theorem count_cons' {α : Type} [BEq α] [LawfulBEq α] [DecidableEq α] {l : List α} {a b : α} : (b :: l).count a = l.count a + b1 (b = a) := by
  rw [List.count_cons]
  unfold b1
  by_cases h : b = a
  · rw [if_pos h, if_pos (by rw [h]; exact beq_self_eq_true a)]
  · rw [if_neg h, if_neg (by intro z; exact h (eq_of_beq z))]
theorem count_set' {α : Type} [BEq α] [LawfulBEq α] [DecidableEq α] {a x : α} : ∀ {l : List α} {p : Nat} {old : α}, l[p]? = some old → (l.set p x).count a + b1 (old = a) = l.count a + b1 (x = a)
  | b :: l, 0, old, h => by
    obtain rfl : b = old := Option.some.inj h
    rw [List.set_cons_zero, count_cons', count_cons']
    omega
  | b :: l, p + 1, old, h => by
    have ih := count_set' (a := a) (x := x) (l := l) (p := p) (old := old) h
    rw [List.set_cons_succ, count_cons', count_cons']
    omega
theorem count_pos' {α : Type} [BEq α] [LawfulBEq α] [DecidableEq α] {a : α} {l : List α} {p : Nat} (h : l[p]? = some a) : 1 ≤ l.count a := List.count_pos_iff.mpr (List.mem_of_getElem? h)
theorem count_two {α : Type} [BEq α] [LawfulBEq α] [DecidableEq α] {a x : α} {l : List α} {p q : Nat} (hp : l[p]? = some a) (hq : l[q]? = some a) (ne : p ≠ q) (hx : x ≠ a) : 2 ≤ l.count a := by
  have h := count_set' (a := a) (x := x) hp
  have h2 : (l.set p x)[q]? = some a := by rw [List.getElem?_set_ne ne]; exact hq
  have h3 := count_pos' h2
  rw [b1_t rfl, b1_f hx] at h
  omega
theorem sum_set' : ∀ {l : List Nat} {p old x : Nat}, l[p]? = some old → (l.set p x).sum + old = l.sum + x
  | b :: l, 0, old, x, h => by
    obtain rfl : b = old := Option.some.inj h
    rw [List.set_cons_zero, List.sum_cons, List.sum_cons]
    omega
  | b :: l, p + 1, old, x, h => by
    have ih := sum_set' (l := l) (p := p) (old := old) (x := x) h
    rw [List.set_cons_succ, List.sum_cons, List.sum_cons]
    omega
/-- if the sum is small, or one has two, one is free -/
theorem free_one : ∀ {l : List Nat}, l.sum < l.length → 0 ∈ l
  | [], h => absurd h (Nat.not_lt_zero _)
  | a :: l, h => by
    by_cases z : a = 0
    · rw [z]; exact List.mem_cons_self
    · rw [List.sum_cons, List.length_cons] at h
      exact List.mem_cons_of_mem _ (free_one (by omega))
theorem free_two {l : List Nat} {p m : Nat} (h : l.sum ≤ l.length) (hp : l[p]? = some (m + 2)) : 0 ∈ l := by
  have h1 := sum_set' (x := 1) hp
  have h2 : 0 ∈ l.set p 1 := free_one (by rw [List.length_set]; omega)
  rcases List.mem_or_eq_of_mem_set h2 with z | z
  · exact z
  · cases z
/-! ### owners -/
theorem o_set {F : Frs} {i n m g : Nat} {l : List Nat} (hl : l = F.ow.set i n) (h : F.ow[i]? = some m) : l.getD g 0 + b1 (i = g) * m = F.o g + b1 (i = g) * n := by
  subst hl
  unfold Frs.o
  have lt : i < F.ow.length := (List.getElem?_eq_some_iff.mp h).1
  rw [List.getD_eq_getElem?_getD, List.getD_eq_getElem?_getD]
  by_cases z : i = g
  · subst z
    rw [List.getElem?_set_self lt, h, b1_t rfl]
    show n + 1 * m = m + 1 * n
    omega
  · rw [List.getElem?_set_ne z, b1_f z]
    omega
/-! ### the state -/
def cw (y : Way) (g : Nat) : Nat := b1 (y.t = g) + b1 (y.l = g) + y.lead.count (some g)
def ns (l : List (Option Nat)) : Nat := l.length - l.count none
theorem ns_set {l : List (Option Nat)} {p : Nat} {old x : Option Nat} (h : l[p]? = some old) : ns (l.set p x) + b1 (old ≠ none) = ns l + b1 (x ≠ none) := by
  have h1 := count_set' (a := none) (x := x) h
  have h2 : l.count none ≤ l.length := List.count_le_length
  have h3 : (l.set p x).count none ≤ (l.set p x).length := List.count_le_length
  unfold ns
  rw [List.length_set] at *
  by_cases z : old = none <;> by_cases y : x = none
  · rw [b1_t z, b1_t y] at h1; rw [b1_f (by simp [z]), b1_f (by simp [y])]; omega
  · rw [b1_t z, b1_f y] at h1; rw [b1_f (by simp [z]), b1_t y]; omega
  · rw [b1_f z, b1_t y] at h1; rw [b1_t z, b1_f (by simp [y])]; omega
  · rw [b1_f z, b1_f y] at h1; rw [b1_t z, b1_t y]; omega
def RowOk (F : Frs) (f : Option Nat) (r : Nat) : Prop := match f with
  | none => r = 0 ∨ r = 16
  | some g => r % 2 = 1 ∧ r / 256 = g ∧ (r / 2 % 2 = 1 → F.o g = 1)
structure GoodX (ex : Option (Bool × Nat)) (e : Nat) (S : Sy) : Prop where
  on : ∀ k, S.on k
  top : ∀ k, ∃ x, (S.F.wd (S.y k).t)[0]? = some x ∧ x % 4 = 3 ∧ x / 256 = (S.y k).l
  row : ∀ k p, p < (S.y k).lead.length → ∃ r, (S.F.wd (S.y k).l)[p]? = some r ∧ (ex ≠ some (k, p) → RowOk S.F ((S.y k).f p) r)
  cnt : ∀ g, S.F.o g = cw (S.y true) g + cw (S.y false) g
  tb : ∀ k, S.F.o (S.y k).t = 1 ∧ S.F.o (S.y k).l = 1
  tot : S.F.ow.sum = 4 + ns (S.y true).lead + ns (S.y false).lead
  pl : S.F.pl = ((S.F.ow.sum + e : Nat) : Int)
  le : S.F.ow.sum + e ≤ S.F.ow.length
abbrev Good (S : Sy) : Prop := GoodX none 0 S
section
variable {S : Sy} {ex : Option (Bool × Nat)} {e : Nat} (G : GoodX ex e S)
include G
theorem GoodX.cw_le (k : Bool) (g : Nat) : cw (S.y k) g ≤ S.F.o g := by
  rw [G.cnt g]
  cases k <;> omega
theorem GoodX.two {k j : Bool} {g : Nat} (h : k ≠ j) : S.F.o g = cw (S.y k) g + cw (S.y j) g := by
  rw [G.cnt g]
  cases k <;> cases j <;> first | exact absurd rfl h | omega
theorem f_count {y : Way} {p g : Nat} (h : y.f p = some g) : 1 ≤ y.lead.count (some g) := count_pos' (Way.f_some h)
theorem GoodX.tkn {k : Bool} {p g : Nat} (h : (S.y k).f p = some g) : Tkn S.F g := o_tkn.mpr (by
  have h1 := G.cw_le k g
  have h2 := f_count G h
  unfold cw at h1
  omega)
theorem GoodX.tkn_t (k : Bool) : Tkn S.F (S.y k).t := o_tkn.mpr (by rw [(G.tb k).1]; decide)
theorem GoodX.tkn_l (k : Bool) : Tkn S.F (S.y k).l := o_tkn.mpr (by rw [(G.tb k).2]; decide)
theorem GoodX.cw_t (k : Bool) : 1 ≤ cw (S.y k) (S.y k).t := by
  unfold cw
  rw [b1_t rfl]
  omega
theorem GoodX.cw_l (k : Bool) : 1 ≤ cw (S.y k) (S.y k).l := by
  unfold cw
  rw [b1_t (p := (S.y k).l = (S.y k).l) rfl]
  omega
theorem GoodX.tl (k : Bool) : (S.y k).t ≠ (S.y k).l := fun z => by
  have h1 := G.cw_le k (S.y k).l
  rw [(G.tb k).2] at h1
  unfold cw at h1
  rw [b1_t z, b1_t (p := (S.y k).l = (S.y k).l) rfl] at h1
  omega
theorem GoodX.tt {k j : Bool} (h : k ≠ j) : (S.y k).t ≠ (S.y j).t := fun z => by
  have h1 := G.two (g := (S.y k).t) h
  rw [(G.tb k).1] at h1
  have h2 := G.cw_t k
  have h3 := G.cw_t j
  rw [← z] at h3
  omega
theorem GoodX.ll {k j : Bool} (h : k ≠ j) : (S.y k).l ≠ (S.y j).l := fun z => by
  have h1 := G.two (g := (S.y k).l) h
  rw [(G.tb k).2] at h1
  have h2 := G.cw_l k
  have h3 := G.cw_l j
  rw [← z] at h3
  omega
theorem GoodX.tl2 (k j : Bool) : (S.y k).t ≠ (S.y j).l := by
  by_cases h : k = j
  · subst h; exact G.tl k
  · intro z
    have h1 := G.two (g := (S.y k).t) h
    rw [(G.tb k).1] at h1
    have h2 := G.cw_t k
    have h3 := G.cw_l j
    rw [← z] at h3
    omega
theorem GoodX.ft {j k : Bool} {p : Nat} : (S.y j).f p ≠ some (S.y k).t := fun z => by
  have h0 := f_count G z
  by_cases h : j = k
  · subst h
    have h1 := G.cw_le j (S.y j).t
    rw [(G.tb j).1] at h1
    unfold cw at h1
    rw [b1_t (p := (S.y j).t = (S.y j).t) rfl] at h1
    omega
  · have h1 := G.two (g := (S.y k).t) h
    rw [(G.tb k).1] at h1
    have h2 := G.cw_t k
    unfold cw at h1 h2
    omega
theorem GoodX.fl {j k : Bool} {p : Nat} : (S.y j).f p ≠ some (S.y k).l := fun z => by
  have h0 := f_count G z
  by_cases h : j = k
  · subst h
    have h1 := G.cw_le j (S.y j).l
    rw [(G.tb j).2] at h1
    unfold cw at h1
    rw [b1_t (p := (S.y j).l = (S.y j).l) rfl] at h1
    omega
  · have h1 := G.two (g := (S.y k).l) h
    rw [(G.tb k).2] at h1
    have h2 := G.cw_l k
    unfold cw at h1 h2
    omega
/-- a frame with one owner: one page leads there -/
theorem GoodX.one {j k : Bool} {p q g : Nat} (ho : S.F.o g = 1) (h1 : (S.y k).f p = some g) (h2 : (S.y j).f q = some g) : (j, q) = (k, p) := by
  have c1 := f_count G h1
  have c2 := f_count G h2
  by_cases h : j = k
  · subst h
    by_cases z : q = p
    · rw [z]
    · have h3 := count_two (x := none) (Way.f_some h1) (Way.f_some h2) (fun y => z y.symm) (fun y => nomatch y)
      have h4 := G.cw_le j g
      unfold cw at h4
      omega
  · have h3 := G.two (g := g) h
    unfold cw at h3
    omega
end
/-! ### what is written in frames -/
def page (S : Sy) (k : Bool) (p : Nat) : Option (List Nat) := ((S.y k).f p).map S.F.wd
def Soil (S : Sy) (k : Bool) (p : Nat) : Prop := ∃ r, (S.F.wd (S.y k).l)[p]? = some r ∧ r / 16 % 2 = 1
theorem wr_wd_ne {F : Frs} {i o x j : Nat} (h : j ≠ i) : (F.wr i o x).wd j = F.wd j := if_neg h
theorem wr_wd {F : Frs} {i o x : Nat} : (F.wr i o x).wd i = (F.wd i).set o x := if_pos rfl
theorem RowOk.wr {F : Frs} {i o x : Nat} {f : Option Nat} {r : Nat} (h : RowOk F f r) : RowOk (F.wr i o x) f r := h
/-- a row is written -/
theorem GoodX.wr_row {S : Sy} {ex : Option (Bool × Nat)} {e : Nat} {k : Bool} {p r : Nat} {c : Col} (G : GoodX ex e S) (lt : p < (S.y k).lead.length) (hx : ex = none ∨ ex = some (k, p)) (hr : RowOk S.F ((S.y k).f p) r) :
    GoodX none e (S.sf (S.F.wr (S.y k).l p r) c) := by
  refine ⟨G.on, fun j => ?_, fun j q hq => ?_, G.cnt, G.tb, G.tot, G.pl, G.le⟩
  · obtain ⟨x, h1, h2, h3⟩ := G.top j
    refine ⟨x, ?_, h2, h3⟩
    show ((S.F.wr (S.y k).l p r).wd (S.y j).t)[0]? = _
    rw [wr_wd_ne (G.tl2 j k)]
    exact h1
  · obtain ⟨r0, h1, h2⟩ := G.row j q hq
    show ∃ r1, ((S.F.wr (S.y k).l p r).wd (S.y j).l)[q]? = some r1 ∧ _
    by_cases hj : j = k
    · subst hj
      rw [wr_wd]
      by_cases z : p = q
      · subst z
        exact ⟨r, List.getElem?_set_self (List.getElem?_eq_some_iff.mp h1).1, fun _ => hr⟩
      · rw [List.getElem?_set_ne z]
        refine ⟨r0, h1, fun _ => h2 fun y => ?_⟩
        rcases hx with hx | hx
        · rw [hx] at y; cases y
        · rw [hx] at y; injection y with y; injection y with _ y; exact z y
    · rw [wr_wd_ne (G.ll hj)]
      refine ⟨r0, h1, fun _ => h2 fun y => ?_⟩
      rcases hx with hx | hx
      · rw [hx] at y; cases y
      · rw [hx] at y; injection y with y; injection y with y _; exact hj y.symm
end K6
/-! THE PLAIN PART: how the steps change both ways and the frames. -/
namespace K6
open PySem PySem.Spec PyProof.Rows L2 HotX L2H He
variable {K : PySem.W.Frag}
/-! ### words are written -/
section
variable {S : Sy} {ex : Option (Bool × Nat)} {e : Nat}
theorem GoodX.wr_top {k : Bool} {x x0 : Nat} {c : Col} (G : GoodX ex e S) (h0 : (S.F.wd (S.y k).t)[0]? = some x0) (h1 : x % 4 = 3) (h2 : x / 256 = (S.y k).l) : GoodX ex e (S.sf (S.F.wr (S.y k).t 0 x) c) := by
  refine ⟨G.on, fun j => ?_, fun j q hq => ?_, G.cnt, G.tb, G.tot, G.pl, G.le⟩
  · obtain ⟨y, e1, e2, e3⟩ := G.top j
    show ∃ z, ((S.F.wr (S.y k).t 0 x).wd (S.y j).t)[0]? = some z ∧ _
    by_cases hj : j = k
    · subst hj
      rw [wr_wd]
      exact ⟨x, List.getElem?_set_self (List.getElem?_eq_some_iff.mp h0).1, h1, h2⟩
    · rw [wr_wd_ne (G.tt hj)]
      exact ⟨y, e1, e2, e3⟩
  · obtain ⟨r, e1, e2⟩ := G.row j q hq
    refine ⟨r, ?_, e2⟩
    show ((S.F.wr (S.y k).t 0 x).wd (S.y j).l)[q]? = _
    rw [wr_wd_ne fun z => G.tl2 k j z.symm]
    exact e1
theorem GoodX.wr_data {k : Bool} {p g cell v : Nat} {c : Col} (G : GoodX ex e S) (h : (S.y k).f p = some g) : GoodX ex e (S.sf (S.F.wr g cell v) c) := by
  refine ⟨G.on, fun j => ?_, fun j q hq => ?_, G.cnt, G.tb, G.tot, G.pl, G.le⟩
  · obtain ⟨y, e1, e2, e3⟩ := G.top j
    refine ⟨y, ?_, e2, e3⟩
    show ((S.F.wr g cell v).wd (S.y j).t)[0]? = _
    rw [wr_wd_ne fun z => G.ft (j := k) (k := j) (p := p) (by rw [h, z])]
    exact e1
  · obtain ⟨r, e1, e2⟩ := G.row j q hq
    refine ⟨r, ?_, e2⟩
    show ((S.F.wr g cell v).wd (S.y j).l)[q]? = _
    rw [wr_wd_ne fun z => G.fl (j := k) (k := j) (p := p) (by rw [h, z])]
    exact e1
theorem page_wr {i o x q : Nat} {j : Bool} {c : Col} (h : (S.y j).f q ≠ some i) : page (S.sf (S.F.wr i o x) c) j q = page S j q := by
  show ((S.y j).f q).map (S.F.wr i o x).wd = ((S.y j).f q).map S.F.wd
  cases e : (S.y j).f q with
  | none => rfl
  | some g =>
    rw [e] at h
    show some ((S.F.wr i o x).wd g) = some (S.F.wd g)
    rw [wr_wd_ne fun z => h (by rw [z])]
theorem soil_wr {i o x q : Nat} {j : Bool} {c : Col} (h : (S.y j).l ≠ i) : Soil (S.sf (S.F.wr i o x) c) j q ↔ Soil S j q := by
  show (∃ r, ((S.F.wr i o x).wd (S.y j).l)[q]? = some r ∧ _) ↔ _
  rw [wr_wd_ne h]
  exact Iff.rfl
end
/-! ### what a step keeps -/
structure Rel (k : Bool) (S S' : Sy) : Prop where
  g : S'.F.g = S.F.g
  obj : ∀ j, S'.y j = { S.y j with lead := (S'.y j).lead }
  len : ∀ j, (S'.y j).lead.length = (S.y j).lead.length
  oth : ∀ j q, j ≠ k → page S' j q = page S j q
  chg : ∀ q, q < (S.y k).lead.length → page S' k q ≠ page S k q → Soil S' k q
  soil : ∀ j q, q < (S.y j).lead.length → Soil S j q → Soil S' j q
  sz : S'.F.ow.length = S.F.ow.length
def Pres (S S' : Sy) : Prop := ∀ j q, ((S'.y j).f q).isSome = ((S.y j).f q).isSome
theorem Pres.trans {S S1 S2 : Sy} (a : Pres S S1) (b : Pres S1 S2) : Pres S S2 := fun j q => (b j q).trans (a j q)
theorem Rel.refl {k : Bool} {S : Sy} : Rel k S S := ⟨rfl, fun _ => rfl, fun _ => rfl, fun _ _ _ => rfl, fun _ _ h => absurd rfl h, fun _ _ _ h => h, rfl⟩
theorem Rel.trans {k : Bool} {S S1 S2 : Sy} (a : Rel k S S1) (b : Rel k S1 S2) : Rel k S S2 where
  g := b.g.trans a.g
  obj j := by rw [b.obj j, a.obj j]
  len j := (b.len j).trans (a.len j)
  oth j q h := (b.oth j q h).trans (a.oth j q h)
  chg q hq h := by
    by_cases z : page S2 k q = page S1 k q
    · exact b.soil k q (by rw [a.len]; exact hq) (a.chg q hq (by rw [← z]; exact h))
    · exact b.chg q (by rw [a.len]; exact hq) z
  soil j q hq h := b.soil j q (by rw [a.len]; exact hq) (a.soil j q hq h)
  sz := b.sz.trans a.sz
theorem Rel.t {k : Bool} {S S' : Sy} (r : Rel k S S') (j : Bool) : (S'.y j).t = (S.y j).t := by rw [r.obj j]
theorem Rel.l {k : Bool} {S S' : Sy} (r : Rel k S S') (j : Bool) : (S'.y j).l = (S.y j).l := by rw [r.obj j]
theorem Rel.w {k : Bool} {S S' : Sy} (r : Rel k S S') (j : Bool) : (S'.y j).w = (S.y j).w := by rw [r.obj j]
/-- a row of k's is written: its mark of soil may only come -/
theorem Rel.row {k i : Bool} {S : Sy} {ex : Option (Bool × Nat)} {e p r r0 : Nat} {c : Col} (G : GoodX ex e S) (h0 : (S.F.wd (S.y k).l)[p]? = some r0) (hs : r0 / 16 % 2 = 1 → r / 16 % 2 = 1) : Rel i S (S.sf (S.F.wr (S.y k).l p r) c) where
  g := rfl
  obj _ := rfl
  len _ := rfl
  oth j q _ := page_wr (G.fl)
  chg q hq h := absurd (page_wr G.fl) h
  soil j q hq h := by
    by_cases z : j = k
    · subst z
      obtain ⟨r1, h1, h2⟩ := h
      show ∃ r2, ((S.F.wr (S.y j).l p r).wd (S.y j).l)[q]? = some r2 ∧ _
      rw [wr_wd]
      by_cases y : p = q
      · subst y
        rw [h0] at h1
        obtain rfl := Option.some.inj h1
        exact ⟨r, List.getElem?_set_self (List.getElem?_eq_some_iff.mp h0).1, hs h2⟩
      · rw [List.getElem?_set_ne y]
        exact ⟨r1, h1, h2⟩
    · exact (soil_wr (G.ll z)).mpr h
  sz := rfl
theorem Rel.top {k i : Bool} {S : Sy} {ex : Option (Bool × Nat)} {e x : Nat} {c : Col} (G : GoodX ex e S) : Rel i S (S.sf (S.F.wr (S.y k).t 0 x) c) where
  g := rfl
  obj _ := rfl
  len _ := rfl
  oth j q _ := page_wr G.ft
  chg q hq h := absurd (page_wr G.ft) h
  soil j q hq h := (soil_wr fun z => G.tl2 k j z.symm).mpr h
  sz := rfl
/-- a page's own frame is written; the page is soiled -/
theorem Rel.data {k : Bool} {S : Sy} {ex : Option (Bool × Nat)} {e p g cell v : Nat} {c : Col} (G : GoodX ex e S) (h : (S.y k).f p = some g) (ho : S.F.o g = 1) (hs : Soil S k p) : Rel k S (S.sf (S.F.wr g cell v) c) := by
  have sl : ∀ j, (S.y j).l ≠ g := fun j z => G.fl (j := k) (k := j) (p := p) (by rw [h, z])
  have other : ∀ j q, (j, q) ≠ (k, p) → page (S.sf (S.F.wr g cell v) c) j q = page S j q := fun j q ne => page_wr fun z => ne (G.one ho h z)
  exact ⟨rfl, fun _ => rfl, fun _ => rfl, fun j q ne => other j q fun z => ne (by injection z), fun q hq hc => by
    by_cases z : q = p
    · rw [z]
      exact (soil_wr (sl k)).mpr hs
    · exact absurd (other k q fun y => z (by injection y)) hc, fun j q hq hh => (soil_wr (sl j)).mpr hh, rfl⟩
/-! ### a page leads elsewhere -/
structure Chg (S : Sy) (k : Bool) (p : Nat) (x : Option Nat) (F' : Frs) : Prop where
  ho : ∀ g, F'.o g + b1 ((S.y k).f p = some g) = S.F.o g + b1 (x = some g)
  hw : ∀ g, 0 < S.F.o g → 0 < F'.o g → F'.wd g = S.F.wd g
  hs : F'.ow.sum + b1 ((S.y k).f p ≠ none) = S.F.ow.sum + b1 (x ≠ none)
  hn : F'.ow.length = S.F.ow.length
  hg : F'.g = S.F.g
  hx : ∀ g, x = some g → (∀ j, g ≠ (S.y j).t ∧ g ≠ (S.y j).l) ∧ ∀ j q r, (S.y j).f q = some g → (S.F.wd (S.y j).l)[q]? = some r → r / 2 % 2 = 0
theorem f_sl {S : Sy} {k : Bool} {p : Nat} {x : Option Nat} {F : Frs} {c : Col} (lt : p < (S.y k).lead.length) : (((S.sf F c).sl k ((S.y k).lead.set p x)).y k).f p = x := by
  rw [sl_same]
  show ((S.y k).lead.set p x).getD p none = x
  rw [List.getD_eq_getElem?_getD, List.getElem?_set_self lt]
  rfl
theorem f_sl_ne {S : Sy} {k j : Bool} {p q : Nat} {x : Option Nat} {F : Frs} {c : Col} (h : (j, q) ≠ (k, p)) : (((S.sf F c).sl k ((S.y k).lead.set p x)).y j).f q = (S.y j).f q := by
  by_cases z : j = k
  · subst z
    rw [sl_same]
    show ((S.y j).lead.set p x).getD q none = _
    rw [List.getD_eq_getElem?_getD, List.getElem?_set_ne fun y => h (by rw [y]), ← List.getD_eq_getElem?_getD]
    rfl
  · rw [sl_ne z]
    rfl
theorem sl_obj {S : Sy} {k : Bool} {l : List (Option Nat)} (j : Bool) : (S.sl k l).y j = { S.y j with lead := ((S.sl k l).y j).lead } := by
  by_cases z : j = k
  · subst z
    rw [sl_same]
  · rw [sl_ne z]
theorem cw_sl {S : Sy} {k j : Bool} {p g : Nat} {x : Option Nat} {F : Frs} {c : Col} (lt : p < (S.y k).lead.length) :
    cw (((S.sf F c).sl k ((S.y k).lead.set p x)).y j) g + (if j = k then b1 ((S.y k).f p = some g) else 0) = cw (S.y j) g + (if j = k then b1 (x = some g) else 0) := by
  by_cases z : j = k
  · subst z
    rw [sl_same, if_pos rfl, if_pos rfl]
    have h := count_set' (a := some g) (x := x) (Way.f_at lt)
    unfold cw
    show b1 ((S.y j).t = g) + b1 ((S.y j).l = g) + ((S.y j).lead.set p x).count (some g) + _ = _
    omega
  · rw [sl_ne z, if_neg z, if_neg z]
    rfl
theorem len_sl {S : Sy} {k : Bool} {p : Nat} {x : Option Nat} {F : Frs} {c : Col} (j : Bool) : (((S.sf F c).sl k ((S.y k).lead.set p x)).y j).lead.length = (S.y j).lead.length := by
  by_cases z : j = k
  · subst z
    rw [sl_same]
    exact List.length_set
  · rw [sl_ne z]
    rfl
theorem tl_sl {S : Sy} {k : Bool} {l : List (Option Nat)} {F : Frs} {c : Col} (j : Bool) : (((S.sf F c).sl k l).y j).t = (S.y j).t ∧ (((S.sf F c).sl k l).y j).l = (S.y j).l := by
  rw [sl_obj j]
  exact ⟨rfl, rfl⟩
section
variable {S : Sy} {e e' : Nat} {k : Bool} {p : Nat} {x : Option Nat} {F' : Frs} {c : Col}
theorem Chg.tb (G : GoodX none e S) (C : Chg S k p x F') (j : Bool) : F'.o (S.y j).t = 1 ∧ F'.o (S.y j).l = 1 := by
  have h1 := C.ho (S.y j).t
  have h2 := C.ho (S.y j).l
  rw [(G.tb j).1, b1_f G.ft, b1_f fun z => ((C.hx _ z).1 j).1 rfl] at h1
  rw [(G.tb j).2, b1_f G.fl, b1_f fun z => ((C.hx _ z).1 j).2 rfl] at h2
  exact ⟨h1, h2⟩
theorem Chg.wt (G : GoodX none e S) (C : Chg S k p x F') (j : Bool) : F'.wd (S.y j).t = S.F.wd (S.y j).t := C.hw _ (by rw [(G.tb j).1]; decide) (by rw [(C.tb G j).1]; decide)
theorem Chg.wl (G : GoodX none e S) (C : Chg S k p x F') (j : Bool) : F'.wd (S.y j).l = S.F.wd (S.y j).l := C.hw _ (by rw [(G.tb j).2]; decide) (by rw [(C.tb G j).2]; decide)
theorem GoodX.chg (G : GoodX none e S) (lt : p < (S.y k).lead.length) (C : Chg S k p x F') (pl : F'.pl = ((F'.ow.sum + e' : Nat) : Int)) (le : F'.ow.sum + e' ≤ F'.ow.length) :
    GoodX (some (k, p)) e' ((S.sf F' c).sl k ((S.y k).lead.set p x)) := by
  refine ⟨G.on, fun j => ?_, fun j q hq => ?_, fun g => ?_, fun j => ?_, ?_, pl, le⟩
  · rw [(tl_sl j).1, (tl_sl j).2]
    show ∃ y, (F'.wd (S.y j).t)[0]? = some y ∧ _
    rw [C.wt G j]
    exact G.top j
  · rw [len_sl] at hq
    obtain ⟨r, h1, h2⟩ := G.row j q hq
    rw [(tl_sl j).2]
    show ∃ r, (F'.wd (S.y j).l)[q]? = some r ∧ _
    rw [C.wl G j]
    refine ⟨r, h1, fun ne => ?_⟩
    have ne' : (j, q) ≠ (k, p) := fun z => ne (by rw [z])
    rw [f_sl_ne ne']
    have ok := h2 (fun z => nomatch z)
    show RowOk F' _ r
    cases ef : (S.y j).f q with
    | none => rw [ef] at ok; exact ok
    | some g =>
      rw [ef] at ok
      refine ⟨ok.1, ok.2.1, fun hw => ?_⟩
      have o1 := ok.2.2 hw
      have h3 := C.ho g
      have f1 : ¬ (S.y k).f p = some g := fun z => ne' (G.one o1 z ef)
      have f2 : ¬ x = some g := fun z => by
        have := (C.hx g z).2 j q r ef h1
        omega
      rw [b1_f f1, b1_f f2] at h3
      omega
  · have h1 := C.ho g
    have h2 := cw_sl (S := S) (j := true) (g := g) (x := x) (F := F') (c := c) lt
    have h3 := cw_sl (S := S) (j := false) (g := g) (x := x) (F := F') (c := c) lt
    have h4 := G.cnt g
    show F'.o g = _
    cases k with
    | true =>
      rw [if_pos rfl, if_pos rfl] at h2
      rw [if_neg (by decide), if_neg (by decide)] at h3
      omega
    | false =>
      rw [if_neg (by decide), if_neg (by decide)] at h2
      rw [if_pos rfl, if_pos rfl] at h3
      omega
  · rw [(tl_sl j).1, (tl_sl j).2]
    exact C.tb G j
  · have h1 := ns_set (x := x) (Way.f_at lt)
    have h2 := C.hs
    have h3 := G.tot
    show F'.ow.sum = _
    cases k with
    | true =>
      rw [sl_same, sl_ne (by decide)]
      show F'.ow.sum = 4 + ns ((S.y true).lead.set p x) + ns (S.y false).lead
      omega
    | false =>
      rw [sl_same, sl_ne (by decide)]
      show F'.ow.sum = 4 + ns (S.y true).lead + ns ((S.y false).lead.set p x)
      omega
/-- of all pages but this one nothing changes -/
theorem Chg.pgs (G : GoodX none e S) (lt : p < (S.y k).lead.length) (C : Chg S k p x F') {j : Bool} {q : Nat} (ne : (j, q) ≠ (k, p)) : page ((S.sf F' c).sl k ((S.y k).lead.set p x)) j q = page S j q := by
  unfold K6.page
  rw [f_sl_ne ne]
  show ((S.y j).f q).map F'.wd = _
  cases ef : (S.y j).f q with
  | none => rfl
  | some g =>
    show some (F'.wd g) = some (S.F.wd g)
    have t1 := o_tkn.mp (G.tkn ef)
    have h1 := C.ho g
    by_cases z : (S.y k).f p = some g
    · have t2 : 2 ≤ S.F.o g := Classical.byContradiction fun y => ne (G.one (by omega) z ef)
      rw [b1_t z] at h1
      rw [C.hw g t1 (by omega)]
    · rw [b1_f z] at h1
      rw [C.hw g t1 (by omega)]
theorem Chg.sol (G : GoodX none e S) (C : Chg S k p x F') {j : Bool} {q : Nat} : Soil ((S.sf F' c).sl k ((S.y k).lead.set p x)) j q ↔ Soil S j q := by
  unfold Soil
  rw [(tl_sl j).2]
  show (∃ r, (F'.wd (S.y j).l)[q]? = some r ∧ _) ↔ _
  rw [C.wl G j]
/-- ... then the page's row is written -/
theorem Chg.rel (G : GoodX none e S) (lt : p < (S.y k).lead.length) (C : Chg S k p x F') {S1 : Sy} (e1 : S1 = (S.sf F' c).sl k ((S.y k).lead.set p x)) {r r0 : Nat} {c2 : Col} (G1 : GoodX (some (k, p)) e' S1) (h0 : (S.F.wd (S.y k).l)[p]? = some r0) (hs : r0 / 16 % 2 = 1 → r / 16 % 2 = 1)
    (hp : x.map F'.wd = page S k p ∨ r / 16 % 2 = 1) : Rel k S (S1.sf (S1.F.wr (S1.y k).l p r) c2) := by
  subst e1
  have el : (((S.sf F' c).sl k ((S.y k).lead.set p x)).y k).l = (S.y k).l := (tl_sl k).2
  have h0' : (((S.sf F' c).sl k ((S.y k).lead.set p x)).F.wd (((S.sf F' c).sl k ((S.y k).lead.set p x)).y k).l)[p]? = some r0 := by
    rw [el]
    show (F'.wd (S.y k).l)[p]? = _
    rw [C.wl G k]
    exact h0
  have R := Rel.row (i := k) (c := c2) (r := r) G1 h0' hs
  have soilp : r / 16 % 2 = 1 → Soil (((S.sf F' c).sl k ((S.y k).lead.set p x)).sf (((S.sf F' c).sl k ((S.y k).lead.set p x)).F.wr (((S.sf F' c).sl k ((S.y k).lead.set p x)).y k).l p r) c2) k p := fun h => by
    refine ⟨r, ?_, h⟩
    show ((((S.sf F' c).sl k ((S.y k).lead.set p x)).F.wr (((S.sf F' c).sl k ((S.y k).lead.set p x)).y k).l p r).wd (((S.sf F' c).sl k ((S.y k).lead.set p x)).y k).l)[p]? = some r
    rw [wr_wd]
    exact List.getElem?_set_self (List.getElem?_eq_some_iff.mp h0').1
  have same : ∀ j q, page (((S.sf F' c).sl k ((S.y k).lead.set p x)).sf (((S.sf F' c).sl k ((S.y k).lead.set p x)).F.wr (((S.sf F' c).sl k ((S.y k).lead.set p x)).y k).l p r) c2) j q = page ((S.sf F' c).sl k ((S.y k).lead.set p x)) j q := fun j q => page_wr G1.fl
  refine ⟨C.hg, fun j => ?_, fun j => ?_, fun j q ne => ?_, fun q hq hc => ?_, fun j q hq h => ?_, C.hn⟩
  · exact sl_obj (S := S.sf F' c) j
  · exact len_sl j
  · rw [same]
    exact C.pgs G lt fun z => ne (by injection z)
  · rw [same] at hc
    by_cases z : q = p
    · subst z
      rcases hp with hp | hp
      · exact absurd (by unfold K6.page at hp ⊢; rw [f_sl lt]; exact hp) hc
      · exact soilp hp
    · exact absurd (C.pgs G lt fun y => z (by injection y)) hc
  · exact R.soil j q (by rw [len_sl]; exact hq) ((C.sol G).mpr h)
end
end K6
/-! Pairs: pages, rows. -/
namespace K6
open PySem PySem.Spec PyProof.Rows L2 HotX L2H He
variable {P : Program} {w : World} {K : PySem.W.Frag} {mg : Str → Option Value} {base : Heap}
def spPrSize (K : PySem.W.Frag) : Sp := fun vs H Q _ => ∃ (n : Nat) (S : Sy) (k : Bool), vs = [.ref (S.y k).w] ∧ At K n S H ∧ S.on k ∧ Q (nv (S.y k).lead.length) H
theorem ok_Pairs_size (T : Tx K mg) : FnC P w K mg base 2 (fAd K ("Pairs", some "size")) (fdat K ("Pairs", some "size")) ["self"] (spPrSize K) := by
  refine fnC (fd_Pairs_size T) sc_Pairs_size (fun vs H Q E h => ?_) (fun cdv A0 outer s H vs Q E hrm h => ?_)
  · obtain ⟨n, S, k, rfl, _⟩ := h
    rfl
  obtain ⟨n, S, k, rfl, A, o, q⟩ := h
  refine ⟨_, (pss_one (ps_ret (pe_m0 rfl (pe_fl (c_Pairs T) (n_Pairs_part T) (pv 0)) (c_Parts T) (m_Parts_size T) (ok_Parts_size T) (hrm.mono (by decide)) (bd_Parts_size T) (E := E0s) (fun _ => passAt0)))), ?_⟩
  obtain ⟨r, W⟩ := A.wy k o
  exact ⟨_, rfl, _, _, _, _, rfl, W.hw, rfl, _, _, _, rfl, W.hp, rfl, n, S, k, rfl, A, o, q⟩
def spPrFrame (K : PySem.W.Frag) : Sp := fun vs H Q _ => ∃ (n : Nat) (S : Sy) (k : Bool) (p : Nat), vs = [.ref (S.y k).w, nv p] ∧ At K n S H ∧ S.on k ∧ Q (ov ((S.y k).f p)) H
theorem ok_Pairs_frame (T : Tx K mg) : FnG P w K mg base 4 (fAd K ("Pairs", some "frame")) (fdat K ("Pairs", some "frame")) ["self", "page"] (spPrFrame K) := by
  refine fnG (fd_Pairs_frame T) sc_Pairs_frame (fun vs H Q E h => ?_) (fun cc pn cdv A0 outer s H vs Q E gd0 hrm h => ?_)
  · obtain ⟨n, S, k, p, rfl, _⟩ := h
    rfl
  obtain ⟨n, S, k, p, rfl, A, o, q⟩ := h
  refine ⟨_, (pss_one (ps_ret (pe_mG gd0 (pe_fl (c_Pairs T) (n_Pairs_part T) (pv 0)) (c_Parts T) (m_Parts_frame T) (ok_Parts_frame T) (hrm.mono (by decide)) (bd_Parts_frame T) (pa_cons (pv 1) pa_nil)))), ?_⟩
  obtain ⟨r, W⟩ := A.wy k o
  exact ⟨_, rfl, _, _, _, _, rfl, W.hw, rfl, _, _, _, rfl, W.hp, rfl, _, rfl, n, S, k, p, rfl, A, o, q⟩
def spPrHas (K : PySem.W.Frag) : Sp := fun vs H Q _ => ∃ (n : Nat) (S : Sy) (k : Bool) (p : Nat), vs = [.ref (S.y k).w, nv p] ∧ At K n S H ∧ S.on k ∧ Q (.bl ((S.y k).f p).isSome) H
theorem ok_Pairs_has (T : Tx K mg) : FnC P w K mg base 4 (fAd K ("Pairs", some "has")) (fdat K ("Pairs", some "has")) ["self", "page"] (spPrHas K) := by
  refine fnC (fd_Pairs_has T) sc_Pairs_has (fun vs H Q E h => ?_) (fun cdv A0 outer s H vs Q E hrm h => ?_)
  · obtain ⟨n, S, k, p, rfl, _⟩ := h
    rfl
  obtain ⟨n, S, k, p, rfl, A, o, q⟩ := h
  refine ⟨_, (pss_one (ps_ret (pe_cmpR op_notN (pe_mG (.inl rfl) (pe_fl (c_Pairs T) (n_Pairs_part T) (pv 0)) (c_Parts T) (m_Parts_frame T) (ok_Parts_frame T) (hrm.mono (by decide)) (bd_Parts_frame T) (pa_cons (pv 1) pa_nil)) pe_non (nomark _)))), ?_⟩
  obtain ⟨r, W⟩ := A.wy k o
  refine ⟨_, rfl, _, _, _, _, rfl, W.hw, rfl, _, _, _, rfl, W.hp, rfl, _, rfl, n, S, k, p, rfl, A, o, rfl, ?_⟩
  cases e : (S.y k).f p with
  | none => rw [e] at q; exact q
  | some f => rw [e] at q; exact q
theorem mine1 {p : Nat} (h : p < 8) : (1 : Int) + (p : Int) / 8 = ((1 : Nat) : Int) := by omega
def spPrRowAt (K : PySem.W.Frag) : Sp := fun vs H Q _ => ∃ (n : Nat) (S : Sy) (k : Bool) (p r : Nat), vs = [.ref (S.y k).w, nv p] ∧ At K n S H ∧ S.on k ∧ p < 8 ∧ Tkn S.F (S.y k).l ∧ (S.F.wd (S.y k).l)[p]? = some r ∧ Q (nv r) H
theorem ok_Pairs_row_at (T : Tx K mg) : FnG P w K mg base 6 (fAd K ("Pairs", some "row_at")) (fdat K ("Pairs", some "row_at")) ["self", "page"] (spPrRowAt K) := by
  refine fnG (fd_Pairs_row_at T) sc_Pairs_row_at (fun vs H Q E h => ?_) (fun cc pn cdv A0 outer s H vs Q E gd0 hrm h => ?_)
  · obtain ⟨n, S, k, p, r, rfl, _⟩ := h
    rfl
  obtain ⟨n, S, k, p, r, rfl, A, o, hp, t, hr, q⟩ := h
  refine ⟨_, (pss_one (ps_ret (pe_mG gd0 (pe_fl (c_Pairs T) (n_Pairs_ground T) (pv 0)) (c_Frames T) (m_Frames_read T) (ok_Frames_read T) (hrm.mono (by decide)) (bd_Frames_read T) (pa_cons (pe_ix ix_list (pe_fl (c_Pairs T) (n_Pairs_mine T) (pv 0)) (pe_op op_add pe_int (pe_op op_fdiv (pv 1) (pe_gi (i_EACH T)))) (fun _ _ => rfl)) (pa_cons (pe_op op_mod (pv 1) (pe_gi (i_EACH T))) pa_nil))))), ?_⟩
  obtain ⟨rr, W⟩ := A.wy k o
  refine ⟨_, rfl, _, _, _, _, rfl, W.hw, rfl, _, _, _, rfl, A.fr.hg, rfl, _, rfl, _, _, _, _, rfl, W.hw, rfl, _, rfl, (p : Int), 8, rfl, rfl, ⟨by decide, by decide⟩, (1 : Int), _, rfl, rfl, ?_⟩
  dsimp only
  rw [mine1 hp]
  refine ⟨_, _, _, _, rfl, rfl, SqL.of W.hm, atI_nat (j := 1) rfl, _, rfl, (p : Int), 8, rfl, rfl, (by show (0 : Int) < 8; decide), ?_⟩
  have e : (p : Int) % 8 = (p : Int) := by omega
  dsimp only
  rw [e]
  exact ⟨S.F, S.c, (S.y k).l, p, r, rfl, A.fr, t, hr, q⟩
def spPrLayRow (K : PySem.W.Frag) : Sp := fun vs H Q _ => ∃ (n : Nat) (S : Sy) (k : Bool) (p r : Nat), vs = [.ref (S.y k).w, nv p, nv r] ∧ At K n S H ∧ S.on k ∧ p < 8 ∧ Tkn S.F (S.y k).l ∧ r < 2 ^ 48 ∧
  ∀ H', At K n (S.sf (S.F.wr (S.y k).l p r) S.c) H' → KeepU S.c H S.c H' → Q .non H'
theorem ok_Pairs_lay_row (T : Tx K mg) : FnG P w K mg base 6 (fAd K ("Pairs", some "lay_row")) (fdat K ("Pairs", some "lay_row")) ["self", "page", "row"] (spPrLayRow K) := by
  refine fnG (fd_Pairs_lay_row T) sc_Pairs_lay_row (fun vs H Q E h => ?_) (fun cc pn cdv A0 outer s H vs Q E gd0 hrm h => ?_)
  · obtain ⟨n, S, k, p, r, rfl, _⟩ := h
    rfl
  obtain ⟨n, S, k, p, r, rfl, A, o, hp, t, hr, q⟩ := h
  refine ⟨_, (pss_one (ps_expr (pe_mG gd0 (pe_fl (c_Pairs T) (n_Pairs_ground T) (pv 0)) (c_Frames T) (m_Frames_write T) (ok_Frames_write T) (hrm.mono (by decide)) (bd_Frames_write T) (pa_cons (pe_ix ix_list (pe_fl (c_Pairs T) (n_Pairs_mine T) (pv 0)) (pe_op op_add pe_int (pe_op op_fdiv (pv 1) (pe_gi (i_EACH T)))) (fun _ _ => rfl)) (pa_cons (pe_op op_mod (pv 1) (pe_gi (i_EACH T))) (pa_cons (pv 2) pa_nil)))))), ?_⟩
  obtain ⟨rr, W⟩ := A.wy k o
  refine ⟨_, rfl, _, _, _, _, rfl, W.hw, rfl, _, _, _, rfl, A.fr.hg, rfl, _, rfl, _, _, _, _, rfl, W.hw, rfl, _, rfl, (p : Int), 8, rfl, rfl, ⟨by decide, by decide⟩, (1 : Int), _, rfl, rfl, ?_⟩
  dsimp only
  rw [mine1 hp]
  refine ⟨_, _, _, _, rfl, rfl, SqL.of W.hm, atI_nat (j := 1) rfl, _, rfl, (p : Int), 8, rfl, rfl, (by show (0 : Int) < 8; decide), ?_⟩
  have e : (p : Int) % 8 = (p : Int) := by omega
  dsimp only
  rw [e]
  exact ⟨_, rfl, S.F, S.c, (S.y k).l, p, r, rfl, A.fr, t, hp, hr, fun H' A' k' => q H' (A.sf A' k') (.isF k')⟩
/-- the row of a page that moved -/
def mvRow (f : Option Nat) (r : Nat) : Nat := match f with
  | none => 16
  | some g => if r % 2 = 1 then 256 * g + (r % 256 - (r % 256 &&& 2)) else 256 * g + 17
def spPrMoved (K : PySem.W.Frag) : Sp := fun vs H Q _ => ∃ (n : Nat) (S : Sy) (k : Bool) (p r : Nat), vs = [.ref (S.y k).w, nv p] ∧ At K n S H ∧ S.on k ∧ p < 8 ∧ Tkn S.F (S.y k).l ∧ (S.F.wd (S.y k).l)[p]? = some r ∧ (∀ g, (S.y k).f p = some g → g < 200) ∧
  ∀ H', At K n (S.sf (S.F.wr (S.y k).l p (mvRow ((S.y k).f p) r)) S.c) H' → KeepU S.c H S.c H' → Q .non H'
theorem ok_Pairs_moved (T : Tx K mg) : FnG P w K mg base 7 (fAd K ("Pairs", some "moved")) (fdat K ("Pairs", some "moved")) ["self", "page"] (spPrMoved K) := by
  refine fnG (fd_Pairs_moved T) sc_Pairs_moved (fun vs H Q E h => ?_) (fun cc pn cdv A0 outer s H vs Q E gd0 hrm h => ?_)
  · obtain ⟨n, S, k, p, r, rfl, _⟩ := h
    rfl
  obtain ⟨n, S, k, p, r, rfl, A, o, hp, t, hr, hg, q⟩ := h
  refine ⟨_, (pss_cons (ps_set (i := 2) sc_Pairs_moved.nd rfl (by first | exact Or.inl rfl | exact Or.inr rfl) (pe_mG gd0 (pv 0) (c_Pairs T) (m_Pairs_row_at T) (ok_Pairs_row_at T) (hrm.mono (by decide)) (bd_Pairs_row_at T) (pa_cons (pv 1) pa_nil))) (pss_cons (ps_set (i := 3) sc_Pairs_moved.nd rfl (by first | exact Or.inl rfl | exact Or.inr rfl) (pe_mG gd0 (pv 0) (c_Pairs T) (m_Pairs_frame T) (ok_Pairs_frame T) (hrm.mono (by decide)) (bd_Pairs_frame T) (pa_cons (pv 1) pa_nil))) (pss_one (ps_if (pt_cmpR op_isN (pv 3) pe_non (nomark _)) (pss_one (ps_expr (pe_mG gd0 (pv 0) (c_Pairs T) (m_Pairs_lay_row T) (ok_Pairs_lay_row T) (hrm.mono (by decide)) (bd_Pairs_lay_row T) (pa_cons (pv 1) (pa_cons (pe_gi (i_SOILED T)) pa_nil))))) (pss_one (ps_if (pt_not (pt_val (pe_fG gd0 (ok_f_has T) (hrm.mono (by decide)) (by rfl) (g_has T) (fd_f_has T).kp (bd_f_has T) (pa_cons (pv 2) (pa_cons (pe_gi (i_PRESENT T)) pa_nil))))) (pss_one (ps_expr (pe_mG gd0 (pv 0) (c_Pairs T) (m_Pairs_lay_row T) (ok_Pairs_lay_row T) (hrm.mono (by decide)) (bd_Pairs_lay_row T) (pa_cons (pv 1) (pa_cons (pe_fG gd0 (ok_f_row_of T) (hrm.mono (by decide)) (by rfl) (g_row_of T) (fd_f_row_of T).kp (bd_f_row_of T) (pa_cons (pv 3) (pa_cons (pe_op op_or (pe_gi (i_PRESENT T)) (pe_gi (i_SOILED T))) pa_nil))) pa_nil))))) (pss_one (ps_expr (pe_mG gd0 (pv 0) (c_Pairs T) (m_Pairs_lay_row T) (ok_Pairs_lay_row T) (hrm.mono (by decide)) (bd_Pairs_lay_row T) (pa_cons (pv 1) (pa_cons (pe_fG gd0 (ok_f_row_of T) (hrm.mono (by decide)) (by rfl) (g_row_of T) (fd_f_row_of T).kp (bd_f_row_of T) (pa_cons (pv 3) (pa_cons (pe_fG gd0 (ok_f_taken T) (hrm.mono (by decide)) (by rfl) (g_taken T) (fd_f_taken T).kp (bd_f_taken T) (pa_cons (pe_fG gd0 (ok_f_marks_of T) (hrm.mono (by decide)) (by rfl) (g_marks_of T) (fd_f_marks_of T).kp (bd_f_marks_of T) (pa_cons (pv 2) pa_nil)) (pa_cons (pe_gi (i_WRITABLE T)) pa_nil))) pa_nil))) pa_nil))))))))))), ?_⟩
  obtain ⟨rr, W⟩ := A.wy k o
  refine ⟨_, rfl, _, _, _, rfl, W.hw, rfl, _, rfl, n, S, k, p, r, rfl, A, o, hp, t, hr, ?_⟩
  refine ⟨_, rfl, _, _, _, rfl, W.hw, rfl, _, rfl, n, S, k, p, rfl, A, o, ?_⟩
  cases ef : (S.y k).f p with
  | none =>
    rw [ef] at q
    refine ⟨_, rfl, rfl, _, rfl, iteT ⟨_, rfl, _, _, _, rfl, W.hw, rfl, _, rfl, n, S, k, p, 16, rfl, A, o, hp, t, by decide, q⟩⟩
  | some g =>
    rw [ef] at q
    have g200 := hg g ef
    refine ⟨_, rfl, rfl, _, rfl, iteF ⟨_, rfl, r, 1, rfl, ?_⟩⟩
    by_cases h1 : r % 2 = 1
    · rw [decide_eq_true (h1_iff.mpr h1)]
      have e : mvRow (some g) r = 256 * g + (r % 256 - (r % 256 &&& 2)) := if_pos h1
      rw [e] at q
      refine ⟨_, rfl, iteF ⟨_, rfl, _, _, _, rfl, W.hw, rfl, _, rfl, _, rfl, _, rfl, r, rfl, r % 256, 2, rfl, g, r % 256 - (r % 256 &&& 2), rfl, by omega, by omega, ?_⟩⟩
      exact ⟨n, S, k, p, _, rfl, A, o, hp, t, by omega, q⟩
    · rw [decide_eq_false fun z => h1 (h1_iff.mp z)]
      have e : mvRow (some g) r = 256 * g + 17 := if_neg h1
      rw [e] at q
      refine ⟨_, rfl, iteT ⟨_, rfl, _, _, _, rfl, W.hw, rfl, _, rfl, _, rfl, 1, 16, rfl, rfl, g, 17, rfl, by omega, by decide, ?_⟩⟩
      exact ⟨n, S, k, p, _, rfl, A, o, hp, t, by omega, q⟩
def spPrShut (K : PySem.W.Frag) (m : Nat) : Sp := fun vs H Q _ => ∃ (n : Nat) (S : Sy) (k : Bool) (p r : Nat), vs = [.ref (S.y k).w, nv p] ∧ At K n S H ∧ S.on k ∧ p < 8 ∧ Tkn S.F (S.y k).l ∧ (S.F.wd (S.y k).l)[p]? = some r ∧
  ∀ H', At K n (S.sf (S.F.wr (S.y k).l p (r - (r &&& m))) S.c) H' → KeepU S.c H S.c H' → Q .non H'
theorem At.w48 {n : Nat} {S : Sy} {H : Hp} {i o x : Nat} (A : At K n S H) (t : Tkn S.F i) (h : (S.F.wd i)[o]? = some x) : x < 2 ^ 48 := by
  obtain ⟨m, e⟩ := t
  obtain ⟨_, _, _, _, hw⟩ := A.fr.fr i m e
  exact hw x (List.mem_of_getElem? h)
theorem ok_Pairs_shut (T : Tx K mg) : FnC P w K mg base 7 (fAd K ("Pairs", some "shut")) (fdat K ("Pairs", some "shut")) ["self", "page"] (spPrShut K 2) := by
  refine fnC (fd_Pairs_shut T) sc_Pairs_shut (fun vs H Q E h => ?_) (fun cdv A0 outer s H vs Q E hrm h => ?_)
  · obtain ⟨n, S, k, p, r, rfl, _⟩ := h
    rfl
  obtain ⟨n, S, k, p, r, rfl, A, o, hp, t, hr, q⟩ := h
  refine ⟨_, (pss_one (ps_expr (pe_mG (.inl rfl) (pv 0) (c_Pairs T) (m_Pairs_lay_row T) (ok_Pairs_lay_row T) (hrm.mono (by decide)) (bd_Pairs_lay_row T) (pa_cons (pv 1) (pa_cons (pe_fG (.inl rfl) (ok_f_taken T) (hrm.mono (by decide)) (by rfl) (g_taken T) (fd_f_taken T).kp (bd_f_taken T) (pa_cons (pe_mG (.inl rfl) (pv 0) (c_Pairs T) (m_Pairs_row_at T) (ok_Pairs_row_at T) (hrm.mono (by decide)) (bd_Pairs_row_at T) (pa_cons (pv 1) pa_nil)) (pa_cons (pe_gi (i_WRITABLE T)) pa_nil))) pa_nil))))), ?_⟩
  obtain ⟨rr, W⟩ := A.wy k o
  have := A.w48 t hr
  exact ⟨_, rfl, _, _, _, rfl, W.hw, rfl, _, rfl, _, rfl, _, _, _, rfl, W.hw, rfl, _, rfl, n, S, k, p, r, rfl, A, o, hp, t, hr, r, 2, rfl, n, S, k, p, _, rfl, A, o, hp, t, by omega, q⟩
def spPrLoose (K : PySem.W.Frag) : Sp := fun vs H Q _ => ∃ (n : Nat) (S : Sy) (k : Bool) (p r : Nat), vs = [.ref (S.y k).w, nv p] ∧ At K n S H ∧ S.on k ∧ p < 8 ∧ Tkn S.F (S.y k).l ∧ (S.F.wd (S.y k).l)[p]? = some r ∧ Q (.bl (decide (r / 2 % 2 = 1))) H
theorem ok_Pairs_loose (T : Tx K mg) : FnC P w K mg base 7 (fAd K ("Pairs", some "loose")) (fdat K ("Pairs", some "loose")) ["self", "page"] (spPrLoose K) := by
  refine fnC (fd_Pairs_loose T) sc_Pairs_loose (fun vs H Q E h => ?_) (fun cdv A0 outer s H vs Q E hrm h => ?_)
  · obtain ⟨n, S, k, p, r, rfl, _⟩ := h
    rfl
  obtain ⟨n, S, k, p, r, rfl, A, o, hp, t, hr, q⟩ := h
  refine ⟨_, (pss_one (ps_ret (pe_fG (.inl rfl) (ok_f_has T) (hrm.mono (by decide)) (by rfl) (g_has T) (fd_f_has T).kp (bd_f_has T) (pa_cons (pe_mG (.inl rfl) (pv 0) (c_Pairs T) (m_Pairs_row_at T) (ok_Pairs_row_at T) (hrm.mono (by decide)) (bd_Pairs_row_at T) (pa_cons (pv 1) pa_nil)) (pa_cons (pe_gi (i_WRITABLE T)) pa_nil))))), ?_⟩
  obtain ⟨rr, W⟩ := A.wy k o
  refine ⟨_, rfl, _, _, _, rfl, W.hw, rfl, _, rfl, n, S, k, p, r, rfl, A, o, hp, t, hr, r, 2, rfl, ?_⟩
  rw [decide_eq_decide.mpr (h2_iff (r := r))]
  exact q
def spPrTables (K : PySem.W.Frag) : Sp := fun vs H Q _ => ∃ (n : Nat) (S : Sy) (k : Bool), vs = [.ref (S.y k).w] ∧ At K n S H ∧ S.on k ∧ ∀ D, H D = none → Q (.ref D) (L2.upd H D (.lst [nv (S.y k).t, nv (S.y k).l]))
theorem ok_Pairs_tables (T : Tx K mg) : FnC P w K mg base 1 (fAd K ("Pairs", some "tables")) (fdat K ("Pairs", some "tables")) ["self"] (spPrTables K) := by
  refine fnC (fd_Pairs_tables T) sc_Pairs_tables (fun vs H Q E h => ?_) (fun cdv A0 outer s H vs Q E hrm h => ?_)
  · obtain ⟨n, S, k, rfl, _⟩ := h
    rfl
  obtain ⟨n, S, k, rfl, A, o, q⟩ := h
  refine ⟨_, (pss_one (ps_ret (pe_callTy call_list_of (by rfl) (b_list T) q_list (pa_cons (pe_fl (c_Pairs T) (n_Pairs_mine T) (pv 0)) pa_nil)))), ?_⟩
  obtain ⟨rr, W⟩ := A.wy k o
  exact ⟨_, rfl, _, _, _, _, rfl, W.hw, rfl, _, _, rfl, .inl (SqL.of W.hm), q⟩
end K6
/-! Pairs: alone, open, fetched. -/
namespace K6
open PySem PySem.Spec PyProof.Rows L2 HotX L2H He
variable {P : Program} {w : World} {K : PySem.W.Frag} {mg : Str → Option Value} {base : Heap}
theorem b1_some {f g : Nat} : b1 (some f = some g) = b1 (f = g) := by
  by_cases h : f = g
  · rw [b1_t h, b1_t (by rw [h])]
  · rw [b1_f h, b1_f fun z => h (Option.some.inj z)]
theorem o_minus {a b c m : Nat} (h : a + c * (m + 1) = b + c * m) : a + c = b := by
  have : c * (m + 1) = c * m + c := Nat.mul_succ c m
  omega
theorem o_plus {a b c m : Nat} (h : a + c * (m + 1) = b + c * (m + 2)) : a = b + c := by
  have h1 : c * (m + 1) = c * m + c := Nat.mul_succ c m
  have h2 : c * (m + 2) = c * (m + 1) + c := Nat.mul_succ c (m + 1)
  omega
theorem b1_no {g : Nat} : b1 ((none : Option Nat) = some g) = 0 := b1_f (fun z => nomatch z)
section
variable {S : Sy} {e : Nat} {k : Bool} {p f m i a : Nat} {ad : Addr}
theorem chg_give (hf : (S.y k).f p = some f) (hm : S.F.ow[f]? = some (m + 1)) : Chg S k p none (S.F.own f m) := by
  refine ⟨fun g => ?_, fun _ _ _ => rfl, ?_, List.length_set, rfl, fun g h => nomatch h⟩
  · have h := o_set (g := g) (l := (S.F.own f m).ow) rfl hm
    have h2 : (S.F.own f m).o g + b1 (f = g) * (m + 1) = S.F.o g + b1 (f = g) * m := h
    have h3 := o_minus h2
    rw [hf, b1_some, b1_no]
    omega
  · have h : (S.F.own f m).ow.sum + (m + 1) = S.F.ow.sum + m := sum_set' hm
    rw [hf, b1_t (fun z => nomatch z), b1_f (fun z => z rfl)]
    omega
theorem o_lt (G : GoodX none e S) (hi : S.F.ow[i]? = some 0) : (∀ j, i ≠ (S.y j).t ∧ i ≠ (S.y j).l) ∧ ∀ j q r, (S.y j).f q = some i → (S.F.wd (S.y j).l)[q]? = some r → r / 2 % 2 = 0 := by
  have o0 := o_some hi
  refine ⟨fun j => ⟨fun z => ?_, fun z => ?_⟩, fun j q r h => ?_⟩
  · have := (G.tb j).1
    rw [← z] at this
    omega
  · have := (G.tb j).2
    rw [← z] at this
    omega
  · have := o_tkn.mp (G.tkn h)
    omega
theorem chg_fresh (G : GoodX none e S) (hf : (S.y k).f p = none) (hi : S.F.ow[i]? = some 0) : Chg S k p (some i) (S.F.take i ad) := by
  refine ⟨fun g => ?_, fun g hg _ => ?_, ?_, List.length_set, rfl, fun g h => ?_⟩
  · have h := o_set (g := g) (l := (S.F.take i ad).ow) rfl hi
    have h2 : (S.F.take i ad).o g + b1 (i = g) * 0 = S.F.o g + b1 (i = g) * 1 := h
    rw [hf, b1_some, b1_no]
    omega
  · have o0 := o_some hi
    exact if_neg fun z => by rw [z] at hg; omega
  · have h : (S.F.take i ad).ow.sum + 0 = S.F.ow.sum + 1 := sum_set' hi
    rw [hf, b1_f (fun z => z rfl), b1_t (fun z => nomatch z)]
    omega
  · obtain rfl := Option.some.inj h
    exact o_lt G hi
theorem chg_alone (G : GoodX none e S) (hf : (S.y k).f p = some f) (hm : S.F.ow[f]? = some (m + 1)) (hi : S.F.ow[i]? = some 0) : Chg S k p (some i) ((S.F.lay i ad (S.F.wd f)).own f m) := by
  have ne : i ≠ f := fun z => by
    rw [z, hm] at hi
    cases hi
  have hm2 : (S.F.lay i ad (S.F.wd f)).ow[f]? = some (m + 1) := by
    show (S.F.ow.set i 1)[f]? = _
    rw [List.getElem?_set_ne ne]
    exact hm
  refine ⟨fun g => ?_, fun g hg _ => ?_, ?_, ?_, rfl, fun g h => ?_⟩
  · have h1 : (S.F.lay i ad (S.F.wd f)).o g + b1 (i = g) * 0 = S.F.o g + b1 (i = g) * 1 := o_set (g := g) (l := (S.F.lay i ad (S.F.wd f)).ow) rfl hi
    have h2 : ((S.F.lay i ad (S.F.wd f)).own f m).o g + b1 (f = g) * (m + 1) = (S.F.lay i ad (S.F.wd f)).o g + b1 (f = g) * m := o_set (g := g) (l := ((S.F.lay i ad (S.F.wd f)).own f m).ow) rfl hm2
    have h3 := o_minus h2
    rw [hf, b1_some, b1_some]
    omega
  · have o0 := o_some hi
    exact if_neg fun z => by rw [z] at hg; omega
  · have h1 : (S.F.lay i ad (S.F.wd f)).ow.sum + 0 = S.F.ow.sum + 1 := sum_set' hi
    have h2 : ((S.F.lay i ad (S.F.wd f)).own f m).ow.sum + (m + 1) = (S.F.lay i ad (S.F.wd f)).ow.sum + m := sum_set' hm2
    rw [hf, b1_t (fun z => nomatch z), b1_t (fun z => nomatch z)]
    omega
  · show ((S.F.ow.set i 1).set f m).length = _
    rw [List.length_set, List.length_set]
  · obtain rfl := Option.some.inj h
    exact o_lt G hi
theorem chg_lead {g : Nat} {b : Nat} {j0 : Bool} {q0 : Nat} (G : GoodX none e S) (hf : (S.y k).f p = some f) (ha : S.F.ow[g]? = some (a + 1)) (hb : S.F.ow[f]? = some (b + 1)) (ne : g ≠ f) (h0 : (S.y j0).f q0 = some g)
    (hw : ∀ j q r, (S.y j).f q = some g → (S.F.wd (S.y j).l)[q]? = some r → r / 2 % 2 = 0) : Chg S k p (some g) ((S.F.own g (a + 2)).own f b) := by
  have hb2 : (S.F.own g (a + 2)).ow[f]? = some (b + 1) := by
    show (S.F.ow.set g (a + 2))[f]? = _
    rw [List.getElem?_set_ne ne]
    exact hb
  refine ⟨fun x => ?_, fun _ _ _ => rfl, ?_, ?_, rfl, fun x h => ?_⟩
  · have h1 : (S.F.own g (a + 2)).o x + b1 (g = x) * (a + 1) = S.F.o x + b1 (g = x) * (a + 2) := o_set (g := x) (l := (S.F.own g (a + 2)).ow) rfl ha
    have h2 : ((S.F.own g (a + 2)).own f b).o x + b1 (f = x) * (b + 1) = (S.F.own g (a + 2)).o x + b1 (f = x) * b := o_set (g := x) (l := ((S.F.own g (a + 2)).own f b).ow) rfl hb2
    have h3 := o_minus h2
    have h4 := o_plus h1
    rw [hf, b1_some, b1_some]
    omega
  · have h1 : (S.F.own g (a + 2)).ow.sum + (a + 1) = S.F.ow.sum + (a + 2) := sum_set' ha
    have h2 : ((S.F.own g (a + 2)).own f b).ow.sum + (b + 1) = (S.F.own g (a + 2)).ow.sum + b := sum_set' hb2
    rw [hf, b1_t (fun z => nomatch z), b1_t (fun z => nomatch z)]
    omega
  · show ((S.F.ow.set g (a + 2)).set f b).length = _
    rw [List.length_set, List.length_set]
  · obtain rfl := Option.some.inj h
    exact ⟨fun j => ⟨fun z => G.ft (j := j0) (k := j) (p := q0) (by rw [h0, z]), fun z => G.fl (j := j0) (k := j) (p := q0) (by rw [h0, z])⟩, hw⟩
end
theorem At.lt200 {n : Nat} {S : Sy} {H : Hp} (A : At K n S H) {ex : Option (Bool × Nat)} {e : Nat} (G : GoodX ex e S) {k : Bool} {p g : Nat} (h : (S.y k).f p = some g) : g < 200 := by
  have := A.fr.lt (G.tkn h)
  have := A.fr.sz
  omega
theorem At.p8 {n : Nat} {S : Sy} {H : Hp} (A : At K n S H) {k : Bool} {p : Nat} (o : S.on k) (h : p < (S.y k).lead.length) : p < 8 := by
  obtain ⟨r, W⟩ := A.wy k o
  have := W.hi
  omega
theorem ow_of {F : Frs} {g n : Nat} (h : F.o g = n + 1) : F.ow[g]? = some (n + 1) := by
  obtain ⟨m, e⟩ := o_tkn.mpr (by rw [h]; exact Nat.succ_pos n : 0 < F.o g)
  rw [o_some e] at h
  rw [e, h]
theorem pres_chg {S : Sy} {k : Bool} {p i f : Nat} {F' : Frs} {c : Col} (lt : p < (S.y k).lead.length) (hf : (S.y k).f p = some f) : Pres S ((S.sf F' c).sl k ((S.y k).lead.set p (some i))) := fun j q => by
  by_cases z : (j, q) = (k, p)
  · injection z with z1 z2
    subst z1 z2
    rw [f_sl lt, hf]
    rfl
  · rw [f_sl_ne z]
def spPutAlone (K : PySem.W.Frag) : Sp := fun vs H Q _ => ∃ (n : Nat) (S : Sy) (k : Bool) (p f : Nat), vs = [.ref (S.y k).w, nv p] ∧ At K n S H ∧ Good S ∧ (S.y k).f p = some f ∧
  ∀ S' H', At K n S' H' → Good S' → Rel k S S' → Pres S S' → KeepU S.c H S'.c H' → (∃ f', (S'.y k).f p = some f' ∧ S'.F.o f' = 1) → Q .non H'
theorem ok_Pairs_put_alone (T : Tx K mg) : FnG P w K mg base 8 (fAd K ("Pairs", some "put_alone")) (fdat K ("Pairs", some "put_alone")) ["self", "page"] (spPutAlone K) := by
  refine fnG (fd_Pairs_put_alone T) sc_Pairs_put_alone (fun vs H Q E h => ?_) (fun cc pn cdv A0 outer s H vs Q E gd0 hrm h => ?_)
  · obtain ⟨n, S, k, p, f, rfl, _⟩ := h
    rfl
  obtain ⟨n, S, k, p, f, rfl, A, G, hf, q⟩ := h
  refine ⟨_, (pss_one (ps_if (pt_val (pe_mG gd0 (pe_fl (c_Pairs T) (n_Pairs_part T) (pv 0)) (c_Parts T) (m_Parts_alone T) (ok_Parts_alone T) (hrm.mono (by decide)) (bd_Parts_alone T) (pa_cons (pv 1) pa_nil))) (pss_one (ps_expr (pe_mG gd0 (pv 0) (c_Pairs T) (m_Pairs_moved T) (ok_Pairs_moved T) (hrm.mono (by decide)) (bd_Pairs_moved T) (pa_cons (pv 1) pa_nil)))) pss_nil)), ?_⟩
  have o := G.on k
  obtain ⟨rr, W⟩ := A.wy k o
  have lt := Way.f_lt hf
  obtain ⟨m, hm⟩ := G.tkn hf
  refine ⟨_, rfl, _, _, _, _, rfl, W.hw, rfl, _, _, _, rfl, W.hp, rfl, _, rfl, n, S, k, p, f, m, rfl, A, o, hf, hm, fun m0 => ?_, fun m0 => ⟨?_, fun i a c1 H1 hi A1 k1 => ?_⟩⟩
  · subst m0
    exact ⟨_, rfl, iteF (q S H A G .refl (fun _ _ => rfl) (fun _ _ h _ => ⟨h, rfl⟩) ⟨f, hf, o_some hm⟩)⟩
  · obtain ⟨m', rfl⟩ : ∃ m', m = m' + 1 := ⟨m - 1, by omega⟩
    exact free_two (Nat.le_of_add_right_le G.le) hm
  · refine ⟨_, rfl, iteT ?_⟩
    have C := chg_alone (ad := a) G hf hm hi
    have pl : ((S.F.lay i a (S.F.wd f)).own f m).pl = ((((S.F.lay i a (S.F.wd f)).own f m).ow.sum + 0 : Nat) : Int) := by
      have h2 := C.hs
      rw [hf, b1_t (fun z => nomatch z), b1_t (fun z => nomatch z)] at h2
      have h3 := G.pl
      show S.F.pl = _
      rw [h3]
      omega
    have le : ((S.F.lay i a (S.F.wd f)).own f m).ow.sum + 0 ≤ ((S.F.lay i a (S.F.wd f)).own f m).ow.length := by
      have h2 := C.hs
      rw [hf, b1_t (fun z => nomatch z), b1_t (fun z => nomatch z)] at h2
      have h3 := G.le
      rw [C.hn]
      omega
    have G1 := G.chg (c := c1) lt C pl le
    have lt1 : p < (((S.sf ((S.F.lay i a (S.F.wd f)).own f m) c1).sl k ((S.y k).lead.set p (some i))).y k).lead.length := by rw [len_sl]; exact lt
    obtain ⟨r0, h0, ok0⟩ := G.row k p lt
    have ok0 := ok0 (fun z => nomatch z)
    rw [hf] at ok0
    obtain ⟨r1, h1, _⟩ := G1.row k p lt1
    have e10 : r1 = r0 := by
      rw [(tl_sl k).2] at h1
      have h1' : (((S.F.lay i a (S.F.wd f)).own f m).wd (S.y k).l)[p]? = some r1 := h1
      rw [C.wl G k, h0] at h1'
      exact (Option.some.inj h1').symm
    subst e10
    obtain ⟨rr1, W1⟩ := A1.wy k o
    have ew : (((S.sf ((S.F.lay i a (S.F.wd f)).own f m) c1).sl k ((S.y k).lead.set p (some i))).y k).w = (S.y k).w := by rw [sl_obj k]; rfl
    have hw1 := W1.hw
    rw [ew] at hw1
    refine ⟨_, rfl, _, _, _, rfl, hw1, rfl, _, rfl, n, _, k, p, r1, by rw [ew], A1, o, A1.p8 o lt1, G1.tkn_l k, h1, fun g hg => A1.lt200 G1 hg, fun H2 A2 k2 => ?_⟩
    have fi : (((S.sf ((S.F.lay i a (S.F.wd f)).own f m) c1).sl k ((S.y k).lead.set p (some i))).y k).f p = some i := f_sl lt
    rw [fi] at A2
    have em : mvRow (some i) r1 = 256 * i + (r1 % 256 - (r1 % 256 &&& 2)) := if_pos ok0.1
    have hl := (low (r1 % 256)).a2
    have oi : ((S.F.lay i a (S.F.wd f)).own f m).o i = 1 := by
      have h2 := C.ho i
      have ne : ¬ f = i := fun z => by rw [z, hi] at hm; cases hm
      rw [hf, b1_some, b1_f ne, b1_t rfl, o_some hi] at h2
      exact h2
    have okr : RowOk ((S.F.lay i a (S.F.wd f)).own f m) (some i) (mvRow (some i) r1) := by
      rw [em]
      refine ⟨?_, ?_, fun _ => oi⟩
      · have := ok0.1
        omega
      · omega
    have G2 := G1.wr_row (c := c1) lt1 (.inr rfl) (by rw [fi]; exact okr)
    have s16 : r1 / 16 % 2 = 1 → (mvRow (some i) r1) / 16 % 2 = 1 := by
      rw [em]
      omega
    have R := C.rel G lt rfl (c2 := c1) G1 h0 s16 (.inl (by
      show some (((S.F.lay i a (S.F.wd f)).own f m).wd i) = ((S.y k).f p).map S.F.wd
      rw [hf]
      show some (if i = i then S.F.wd f else S.F.wd i) = some (S.F.wd f)
      rw [if_pos rfl]))
    have ec : ((S.sf ((S.F.lay i a (S.F.wd f)).own f m) c1).sl k ((S.y k).lead.set p (some i))).c = c1 := rfl
    exact q _ H2 A2 G2 R (pres_chg lt hf) (k1.trans k2) ⟨i, fi, oi⟩
def spOpenRow (K : PySem.W.Frag) : Sp := fun vs H Q _ => ∃ (n : Nat) (S : Sy) (k : Bool) (p f : Nat), vs = [.ref (S.y k).w, nv p] ∧ At K n S H ∧ Good S ∧ (S.y k).f p = some f ∧
  ∀ S' H', At K n S' H' → Good S' → Rel k S S' → Pres S S' → KeepU S.c H S'.c H' → (∃ f' r', (S'.y k).f p = some f' ∧ (S'.F.wd (S'.y k).l)[p]? = some r' ∧ r' / 2 % 2 = 1) → Q .non H'
theorem ok_Pairs_open_row (T : Tx K mg) : FnG P w K mg base 9 (fAd K ("Pairs", some "open_row")) (fdat K ("Pairs", some "open_row")) ["self", "page"] (spOpenRow K) := by
  refine fnG (fd_Pairs_open_row T) sc_Pairs_open_row (fun vs H Q E h => ?_) (fun cc pn cdv A0 outer s H vs Q E gd0 hrm h => ?_)
  · obtain ⟨n, S, k, p, f, rfl, _⟩ := h
    rfl
  obtain ⟨n, S, k, p, f, rfl, A, G, hf, q⟩ := h
  refine ⟨_, (pss_cons (ps_expr (pe_mG gd0 (pv 0) (c_Pairs T) (m_Pairs_put_alone T) (ok_Pairs_put_alone T) (hrm.mono (by decide)) (bd_Pairs_put_alone T) (pa_cons (pv 1) pa_nil))) (pss_one (ps_expr (pe_mG gd0 (pv 0) (c_Pairs T) (m_Pairs_lay_row T) (ok_Pairs_lay_row T) (hrm.mono (by decide)) (bd_Pairs_lay_row T) (pa_cons (pv 1) (pa_cons (pe_fG gd0 (ok_f_put T) (hrm.mono (by decide)) (by rfl) (g_put T) (fd_f_put T).kp (bd_f_put T) (pa_cons (pe_mG gd0 (pv 0) (c_Pairs T) (m_Pairs_row_at T) (ok_Pairs_row_at T) (hrm.mono (by decide)) (bd_Pairs_row_at T) (pa_cons (pv 1) pa_nil)) (pa_cons (pe_gi (i_WRITABLE T)) pa_nil))) pa_nil)))))), ?_⟩
  have o := G.on k
  obtain ⟨rr, W⟩ := A.wy k o
  refine ⟨_, rfl, _, _, _, rfl, W.hw, rfl, _, rfl, n, S, k, p, f, rfl, A, G, hf, fun S1 H1 A1 G1 R1 p1 k1 ⟨f1, hf1, o1⟩ => ?_⟩
  have on1 := G1.on k
  obtain ⟨rr1, W1⟩ := A1.wy k on1
  have lt1 := Way.f_lt hf1
  obtain ⟨r, hr, ok⟩ := G1.row k p lt1
  have ok := ok (fun z => nomatch z)
  rw [hf1] at ok
  have hw1 := W1.hw
  have ew := R1.w k
  rw [ew] at hw1
  have r48 := A1.w48 (G1.tkn_l k) hr
  refine ⟨_, rfl, _, _, _, rfl, hw1, rfl, _, rfl, _, rfl, _, _, _, rfl, hw1, rfl, _, rfl, n, S1, k, p, r, by rw [ew], A1, on1, A1.p8 on1 lt1, G1.tkn_l k, hr, r, 2, rfl, n, S1, k, p, r ||| 2, by rw [ew], A1, on1, A1.p8 on1 lt1, G1.tkn_l k, or_lt r48 (by decide), fun H2 A2 k2 => ?_⟩
  have hl := (low r).o2
  have h1 := ok.1
  have h2 := ok.2.1
  have okr : RowOk S1.F ((S1.y k).f p) (r ||| 2) := by
    rw [hf1]
    refine ⟨?_, ?_, fun _ => o1⟩
    · omega
    · omega
  have G2 := G1.wr_row (c := S1.c) lt1 (.inl rfl) okr
  have R2 := Rel.row (i := k) (c := S1.c) (r := r ||| 2) G1 hr (by omega)
  refine q _ H2 A2 G2 (R1.trans R2) (p1.trans fun _ _ => rfl) (k1.trans k2) ⟨f1, r ||| 2, hf1, ?_, by omega⟩
  show ((S1.F.wr (S1.y k).l p (r ||| 2)).wd (S1.y k).l)[p]? = _
  rw [wr_wd]
  exact List.getElem?_set_self (List.getElem?_eq_some_iff.mp hr).1
end K6
/-! Pairs: fetched and deposited. -/
namespace K6
open PySem PySem.Spec PyProof.Rows L2 HotX L2H He
variable {P : Program} {w : World} {K : PySem.W.Frag} {mg : Str → Option Value} {base : Heap}
theorem try_only {X : Cx} {body : List Stmt} {h₀ : ExceptHandler} {hds : List ExceptHandler} {l : List (Value × (Addr → Value → Option Addr → TS))} {pos : Pos} {tb : WX → TS} (hs : X.stack = X.env :: X.outer) (hf : X.env.frame = some X.env.locals) (hh : L2N.HdsOk X (h₀ :: hds) l)
    (hb : ∀ (W : WX) (pn : List (Addr × Obj)) (xe : Value → Shared → Prop), L2N.Takes (X.tr pn xe) W → PassesOwn (model X.prog X.w) X.A X.env xe → PSs (X.tr pn xe) body (tb W)) :
    PS X (.Try body (h₀ :: hds) [] [] pos) (fun D σ H => tb (wMany X.K (fun _ _ _ _ => False) D l) D σ H) := L2N.ps_try_many hs hf takesN0 hb hh
def mkm (w : Bool) : Nat := if w = true then 24 else 8
def spMark (K : PySem.W.Frag) : Sp := fun vs H Q _ => ∃ (F : Frs) (c : Col) (v : V) (root o tb i pg z x r : Nat) (w : Bool), vs = [.ref F.g, v, .bl w] ∧ FrAt K F c H ∧ Trail c H v root o tb i pg z ∧ Tkn F root ∧ Tkn F tb ∧ root ≠ tb ∧ (F.wd root)[o]? = some x ∧ (F.wd tb)[i]? = some r ∧
  ∀ z' H', FrAt K ((F.wr root o (x ||| 8)).wr tb i (r ||| mkm w)) c H' → Keep Tag.isF c H c H' → Q (nv z') H'
theorem ok_f_mark (T : Tx K mg) : FnC P w K mg base 7 (fAd K ("mark", none)) (fdat K ("mark", none)) ["store", "trail", "write"] (spMark K) := by
  refine fnC (fd_f_mark T) sc_f_mark (fun vs H Q E h => ?_) (fun cdv A0 outer s H vs Q E hrm h => ?_)
  · obtain ⟨F, c, v, root, o, tb, i, pg, z, x, r, w, rfl, _⟩ := h
    rfl
  obtain ⟨F, c, v, root, o, tb, i, pg, z, x, r, w, rfl, A, t, tr, tt, ne, hx, hr, k⟩ := h
  refine ⟨_, (pss_cons (ps_expr (pe_f rfl (ok_f_stamp T) (hrm.mono (by decide)) (by rfl) (g_stamp T) (fd_f_stamp T).kp (bd_f_stamp T) (E := E0s) (fun _ => passAt0) (pa_cons (pv 0) (pa_cons (pe_ix ix_tup (pv 1) pe_int (fun _ _ => rfl)) (pa_cons (pe_gi (i_TOUCHED T)) pa_nil))))) (pss_cons (ps_if (pt_not (pt_val (pv 2))) (pss_cons (ps_expr (pe_f rfl (ok_f_stamp T) (hrm.mono (by decide)) (by rfl) (g_stamp T) (fd_f_stamp T).kp (bd_f_stamp T) (E := E0s) (fun _ => passAt0) (pa_cons (pv 0) (pa_cons (pe_ix ix_tup (pv 1) pe_int (fun _ _ => rfl)) (pa_cons (pe_gi (i_TOUCHED T)) pa_nil))))) (pss_one (ps_ret (pe_ix ix_tup (pv 1) pe_int (fun _ _ => rfl))))) pss_nil) (pss_cons (ps_expr (pe_f rfl (ok_f_stamp T) (hrm.mono (by decide)) (by rfl) (g_stamp T) (fd_f_stamp T).kp (bd_f_stamp T) (E := E0s) (fun _ => passAt0) (pa_cons (pv 0) (pa_cons (pe_ix ix_tup (pv 1) pe_int (fun _ _ => rfl)) (pa_cons (pe_op op_or (pe_gi (i_TOUCHED T)) (pe_gi (i_SOILED T))) pa_nil))))) (pss_one (ps_ret (pe_op op_or (pe_ix ix_tup (pv 1) pe_int (fun _ _ => rfl)) (pe_gi (i_SOILED T)))))))), ?_⟩
  obtain ⟨ta, a, b, rfl, h1, h2, h3, c1, c2, c3⟩ := t
  refine ⟨_, rfl, _, rfl, _, _, _, _, rfl, rfl, SqT.of h1, rfl, F, c, a, root, o, x, 8, rfl, A, h2, c2, tr, hx, by decide, fun H1 A1 k1 => ?_⟩
  have n1 : ∀ {y}, c y = .no → ¬ (c y).isF := fun e z => by rw [e] at z; exact z
  have h1' := (k1 ta _ h1 (n1 c1)).1
  have h3' := (k1 b _ h3 (n1 c3)).1
  have hr' : ((F.wr root o (x ||| 8)).wd tb)[i]? = some r := by rw [wr_wd_ne ne.symm]; exact hr
  cases w with
  | false =>
    refine ⟨_, rfl, false, rfl, iteT ?_⟩
    refine ⟨_, rfl, _, rfl, _, _, _, _, rfl, rfl, SqT.of h1', rfl, F.wr root o (x ||| 8), c, b, tb, i, r, 8, rfl, A1, h3', c3, tt, hr', by decide, fun H2 A2 k2 => ?_⟩
    have h1'' := (k2 ta _ h1' (n1 c1)).1
    exact ⟨_, rfl, _, _, _, _, rfl, rfl, SqT.of h1'', rfl, k z H2 A2 (k1.trans k2)⟩
  | true =>
    refine ⟨_, rfl, true, rfl, iteF ?_⟩
    refine ⟨_, rfl, _, rfl, _, _, _, _, rfl, rfl, SqT.of h1', rfl, (8 : Int), (16 : Int), rfl, rfl, F.wr root o (x ||| 8), c, b, tb, i, r, 24, rfl, A1, h3', c3, tt, hr', by decide, fun H2 A2 k2 => ?_⟩
    have h1'' := (k2 ta _ h1' (n1 c1)).1
    refine ⟨_, rfl, _, _, _, _, rfl, rfl, SqT.of h1'', rfl, (z : Int), ((16 : Nat) : Int), rfl, rfl, ?_⟩
    dsimp only
    rw [bor]
    exact k _ H2 A2 (k1.trans k2)
def Quiet (S S' : Sy) : Prop := ∀ i, Rel i S S'
theorem Quiet.trans {S S1 S2 : Sy} (a : Quiet S S1) (b : Quiet S1 S2) : Quiet S S2 := fun i => (a i).trans (b i)
theorem Quiet.refl {S : Sy} : Quiet S S := fun _ => .refl
/-- both marks set: the state -/
theorem marked {S : Sy} {ex : Option (Bool × Nat)} {k : Bool} {p f x r : Nat} {c : Col} {w : Bool} (G : Good S) (hf : (S.y k).f p = some f) (hx : (S.F.wd (S.y k).t)[0]? = some x) (hr : (S.F.wd (S.y k).l)[p]? = some r) :
    Good (S.sf ((S.F.wr (S.y k).t 0 (x ||| 8)).wr (S.y k).l p (r ||| mkm w)) c) ∧ Quiet S (S.sf ((S.F.wr (S.y k).t 0 (x ||| 8)).wr (S.y k).l p (r ||| mkm w)) c) ∧ (w = true → Soil (S.sf ((S.F.wr (S.y k).t 0 (x ||| 8)).wr (S.y k).l p (r ||| mkm w)) c) k p) := by
  have lt := Way.f_lt hf
  obtain ⟨x', h1, h2, h3⟩ := G.top k
  rw [hx] at h1
  obtain rfl := Option.some.inj h1
  obtain ⟨r', h4, ok⟩ := G.row k p lt
  rw [hr] at h4
  obtain rfl := Option.some.inj h4
  have ok := ok (fun z => nomatch z)
  rw [hf] at ok
  obtain ⟨k1, k2, k3⟩ := ok
  have lx := (low x).o8
  have l8 := (low r).o8
  have l24 := (low r).o24
  have em : (r ||| mkm w) % 2 = 1 ∧ (r ||| mkm w) / 256 = f ∧ (r ||| mkm w) / 2 % 2 = r / 2 % 2 ∧ (r / 16 % 2 = 1 → (r ||| mkm w) / 16 % 2 = 1) ∧ (w = true → (r ||| mkm w) / 16 % 2 = 1) := by
    cases w with
    | true =>
      have e : r ||| mkm true = r + 24 - 8 * (r / 8 % 2) - 16 * (r / 16 % 2) := l24
      rw [e]
      refine ⟨by omega, by omega, by omega, by omega, by omega⟩
    | false =>
      have e : r ||| mkm false = r + 8 - 8 * (r / 8 % 2) := l8
      rw [e]
      exact ⟨by omega, by omega, by omega, by omega, fun z => nomatch z⟩
  obtain ⟨m1, m2, m3, m4, m5⟩ := em
  have G1 := G.wr_top (c := c) hx (x := x ||| 8) (by omega) (by omega)
  have Q1 : Quiet S (S.sf (S.F.wr (S.y k).t 0 (x ||| 8)) c) := fun i => Rel.top G
  have hr1 : ((S.F.wr (S.y k).t 0 (x ||| 8)).wd (S.y k).l)[p]? = some r := by rw [wr_wd_ne (G.tl k).symm]; exact hr
  have ok2 : RowOk (S.F.wr (S.y k).t 0 (x ||| 8)) ((S.y k).f p) (r ||| mkm w) := by
    rw [hf]
    exact ⟨m1, m2, fun z => k3 (by rw [← m3]; exact z)⟩
  have G2 := G1.wr_row (k := k) (c := c) lt (.inl rfl) ok2
  have Q2 : Quiet (S.sf (S.F.wr (S.y k).t 0 (x ||| 8)) c) (S.sf ((S.F.wr (S.y k).t 0 (x ||| 8)).wr (S.y k).l p (r ||| mkm w)) c) := fun i => Rel.row (k := k) (c := c) G1 hr1 m4
  refine ⟨G2, Q1.trans Q2, fun hw => ⟨r ||| mkm w, ?_, m5 hw⟩⟩
  show (((S.F.wr (S.y k).t 0 (x ||| 8)).wr (S.y k).l p (r ||| mkm w)).wd (S.y k).l)[p]? = _
  rw [wr_wd]
  exact List.getElem?_set_self (List.getElem?_eq_some_iff.mp hr1).1
theorem place1 {p cell : Nat} (hp : p < 8) (hc : cell < 8) : (8 * p + cell) / 64 = 0 ∧ (8 * p + cell) / 8 % 8 = p ∧ 8 * p + cell ≤ 511 := by omega
theorem place2 {p cell : Nat} : (8 : Int) * (p : Int) + (cell : Int) = ((8 * p + cell : Nat) : Int) := by omega
theorem cell_some {n : Nat} {S : Sy} {H : Hp} (A : At K n S H) {f cell : Nat} (t : Tkn S.F f) (hc : cell < 8) : ∃ x, (S.F.wd f)[cell]? = some x ∧ x < 2 ^ 48 := by
  obtain ⟨m, e⟩ := t
  obtain ⟨_, _, _, h8, hw⟩ := A.fr.fr f m e
  have h : (S.F.wd f)[cell]? = some ((S.F.wd f)[cell]'(by omega)) := List.getElem?_eq_getElem (by omega)
  exact ⟨_, h, hw _ (List.mem_of_getElem? h)⟩
def spFetch (K : PySem.W.Frag) : Sp := fun vs H Q _ => ∃ (n : Nat) (S : Sy) (k : Bool) (p f cell : Nat), vs = [.ref (S.y k).w, nv p, nv cell] ∧ At K n S H ∧ Good S ∧ (S.y k).f p = some f ∧ cell < 8 ∧
  ∀ x S' H', At K n S' H' → Good S' → Quiet S S' → Pres S S' → KeepU S.c H S'.c H' → x < 2 ^ 48 → Q (nv x) H'
theorem ok_Pairs_fetch (T : Tx K mg) : FnC P w K mg base 8 (fAd K ("Pairs", some "fetch")) (fdat K ("Pairs", some "fetch")) ["self", "page", "cell"] (spFetch K) := by
  refine fnC (fd_Pairs_fetch T) sc_Pairs_fetch (fun vs H Q E h => ?_) (fun cdv A0 outer s H vs Q E hrm h => ?_)
  · obtain ⟨n, S, k, p, f, cell, rfl, _⟩ := h
    rfl
  obtain ⟨n, S, k, p, f, cell, rfl, A, G, hf, hc, q⟩ := h
  refine ⟨_, (pss_cons (ps_set (i := 3) sc_Pairs_fetch.nd rfl (by first | exact Or.inl rfl | exact Or.inr rfl) (pe_fG (.inl rfl) (ok_f_look T) (hrm.mono (by decide)) (by rfl) (g_look T) (fd_f_look T).kp (bd_f_look T) (pa_cons (pe_fl (c_Pairs T) (n_Pairs_ground T) (pv 0)) (pa_cons (pe_ix ix_list (pe_fl (c_Pairs T) (n_Pairs_mine T) (pv 0)) pe_int (fun _ _ => rfl)) (pa_cons (pe_op op_add (pe_op op_mul (pe_gi (i_EACH T)) (pv 1)) (pv 2)) (pa_cons pe_bl (pa_cons pe_bl pa_nil))))))) (pss_cons (ps_expr (pe_f rfl (ok_f_mark T) (hrm.mono (by decide)) (by rfl) (g_mark T) (fd_f_mark T).kp (bd_f_mark T) (E := E0s) (fun _ => passAt0) (pa_cons (pe_fl (c_Pairs T) (n_Pairs_ground T) (pv 0)) (pa_cons (pv 3) (pa_cons pe_bl pa_nil))))) (pss_one (ps_ret (pe_mG (.inl rfl) (pe_fl (c_Pairs T) (n_Pairs_ground T) (pv 0)) (c_Frames T) (m_Frames_read T) (ok_Frames_read T) (hrm.mono (by decide)) (bd_Frames_read T) (pa_cons (pe_ix ix_tup (pv 3) pe_int (fun _ _ => rfl)) (pa_cons (pv 2) pa_nil))))))), ?_⟩
  have o := G.on k
  obtain ⟨rr, W⟩ := A.wy k o
  have lt := Way.f_lt hf
  have p8 := A.p8 o lt
  obtain ⟨e1, e2, e3⟩ := place1 p8 hc
  obtain ⟨x, hx, hx1, hx2⟩ := G.top k
  obtain ⟨r, hr, ok⟩ := G.row k p lt
  have ok := ok (fun z => nomatch z)
  rw [hf] at ok
  obtain ⟨k1, k2, k3⟩ := ok
  refine ⟨_, rfl, _, _, _, _, rfl, W.hw, rfl, _, rfl, _, _, _, _, rfl, W.hw, rfl, _, _, _, _, rfl, rfl, SqL.of W.hm, atI_nat (j := 0) rfl, ?_⟩
  refine ⟨_, rfl, (8 : Int), (p : Int), rfl, rfl, .inl ⟨by decide, by decide⟩, _, rfl, _, _, rfl, rfl, ?_⟩
  dsimp only
  rw [place2]
  refine ⟨S.F, S.c, (S.y k).t, 8 * p + cell, x, r, false, rfl, A.fr, e3, G.tkn_t k, by rw [e1]; exact hx, ⟨by omega, by rw [hx2]; exact G.tkn_l k, fun _ => rfl, fun z => nomatch z⟩, by rw [hx2, e2]; exact hr, ⟨k1, by rw [k2]; exact G.tkn hf, fun _ => rfl, fun z => nomatch z⟩, fun v z c1 H1 kp1 tr1 => ?_⟩
  rw [e1, e2, hx2, k2] at tr1
  have A1 : At K n (S.sc c1) H1 := A.keep kp1 (fun _ _ z => z) fun _ _ _ z => z
  obtain ⟨rr1, W1⟩ := A1.wy k o
  have W1' : WayAt K n S.F.g (S.y k) k rr1 c1 H1 := W1
  refine ⟨_, rfl, _, _, _, _, rfl, W1'.hw, rfl, _, rfl, S.F, c1, v, _, _, _, _, _, z, x, r, false, rfl, A1.fr, tr1, G.tkn_t k, G.tkn_l k, G.tl k, hx, hr, fun z' H2 A2 kp2 => ?_⟩
  obtain ⟨G2, Q2, _⟩ := marked (ex := none) (c := c1) (w := false) G hf hx hr
  have A3 := A1.sf A2 kp2
  obtain ⟨rr2, W2⟩ := A3.wy k o
  have W2' : WayAt K n S.F.g (S.y k) k rr2 c1 H2 := W2
  have tr2 := tr1.keep kp2 (fun z => z)
  obtain ⟨ta, a, b, rfl, h1, _⟩ := tr2
  have t2 : Tkn ((S.F.wr (S.y k).t 0 (x ||| 8)).wr (S.y k).l p (r ||| mkm false)) f := G.tkn hf
  obtain ⟨y, hy, y48⟩ := cell_some A3 t2 hc
  refine ⟨_, rfl, _, _, _, _, rfl, W2'.hw, rfl, _, _, _, rfl, A2.hg, rfl, _, rfl, _, _, _, _, rfl, rfl, SqT.of h1, rfl, _, rfl, (S.F.wr (S.y k).t 0 (x ||| 8)).wr (S.y k).l p (r ||| mkm false), c1, f, cell, y, rfl, A2, t2, hy, ?_⟩
  exact q y _ H2 A3 G2 Q2 (fun _ _ => rfl) ((kp1.u fun z => z).trans (KeepU.isF kp2)) y48
theorem GoodX.sc {ex : Option (Bool × Nat)} {e : Nat} {S : Sy} {c : Col} (G : GoodX ex e S) : GoodX ex e (S.sc c) := ⟨G.on, G.top, G.row, G.cnt, G.tb, G.tot, G.pl, G.le⟩
theorem Rel.scl {k : Bool} {S S' : Sy} {c : Col} (R : Rel k (S.sc c) S') : Rel k S S' := ⟨R.g, R.obj, R.len, R.oth, R.chg, R.soil, R.sz⟩
theorem Rel.scr {k : Bool} {S S' : Sy} {c : Col} (R : Rel k S S') : Rel k S (S'.sc c) := ⟨R.g, R.obj, R.len, R.oth, R.chg, R.soil, R.sz⟩
/-- behind the looking: the marks, the word -/
theorem dep_fin {S0 S : Sy} {H0 H : Hp} {c : Col} {n p f cell v x r z : Nat} {k : Bool} {v1 : V} {Q : VK} (A : At K n (S.sc c) H) (G : Good S) (R0 : Rel k S0 S) (P0 : Pres S0 S) (K0 : KeepU S0.c H0 c H) (hf : (S.y k).f p = some f) (hx : (S.F.wd (S.y k).t)[0]? = some x)
    (hr : (S.F.wd (S.y k).l)[p]? = some r) (hw : r / 2 % 2 = 1) (tr : Trail c H v1 (S.y k).t 0 (S.y k).l p f z) (hc : cell < 8) (hv : v < 2 ^ 48) (q : ∀ S' H', At K n S' H' → Good S' → Rel k S0 S' → Pres S0 S' → KeepU S0.c H0 S'.c H' → Q .non H') :
    tSeq (tDrop (tCallS (spMark K) E0s (tCons (tF (ga K "Pairs") "ground" (tVar 0)) (tCons (tVar 4) (tCons (tC (V.bl true)) tNil)))))
      (tDrop (tMethH (ga K "Frames") "write" (spFrWrite K) E0s (tF (ga K "Pairs") "ground" (tVar 0)) (tCons (tOp (rIxT K) (tVar 4) (tC (V.int 2))) (tCons (tVar 2) (tCons (tVar 3) tNil)))))
      { nx := fun _ H' => Q V.non H', rt := Q } [some (.ref (S.y k).w), some (nv p), some (nv cell), some (nv v), some v1] H := by
  have o := G.on k
  obtain ⟨rr, W⟩ := A.wy k o
  have W' : WayAt K n S.F.g (S.y k) k rr c H := W
  have lt := Way.f_lt hf
  refine ⟨_, rfl, _, _, _, _, rfl, W'.hw, rfl, _, rfl, S.F, c, v1, _, _, _, _, _, z, x, r, true, rfl, A.fr, tr, G.tkn_t k, G.tkn_l k, G.tl k, hx, hr, fun z' H2 A2 kp2 => ?_⟩
  obtain ⟨G2, Q2, soil⟩ := marked (ex := none) (c := c) (w := true) G hf hx hr
  have A3 := A.sf A2 kp2
  obtain ⟨rr2, W2⟩ := A3.wy k o
  have W2' : WayAt K n S.F.g (S.y k) k rr2 c H2 := W2
  have tr2 := tr.keep kp2 (fun z => z)
  obtain ⟨ta, a, b, rfl, h1, _⟩ := tr2
  have t2 : Tkn ((S.F.wr (S.y k).t 0 (x ||| 8)).wr (S.y k).l p (r ||| mkm true)) f := G.tkn hf
  obtain ⟨r', hr', ok⟩ := G.row k p lt
  rw [hr] at hr'
  obtain rfl := Option.some.inj hr'
  have ok := ok (fun z => nomatch z)
  rw [hf] at ok
  refine ⟨_, rfl, _, _, _, _, rfl, W2'.hw, rfl, _, _, _, rfl, A2.hg, rfl, _, rfl, _, _, _, _, rfl, rfl, SqT.of h1, rfl, _, rfl, _, rfl, (S.F.wr (S.y k).t 0 (x ||| 8)).wr (S.y k).l p (r ||| mkm true), c, f, cell, v, rfl, A2, t2, hc, hv, fun H4 A4 kp4 => ?_⟩
  have A5 := A3.sf A4 kp4
  have G3 := G2.wr_data (k := k) (p := p) (cell := cell) (v := v) (c := c) hf
  have R3 := Rel.data (k := k) (p := p) (cell := cell) (v := v) (c := c) G2 hf (ok.2.2 hw) (soil rfl)
  exact q _ H4 A5 G3 ((R0.trans (Q2 k)).trans R3) ((P0.trans fun _ _ => rfl).trans fun _ _ => rfl) ((K0.trans (KeepU.isF kp2)).trans (KeepU.isF kp4))
def spDeposit (K : PySem.W.Frag) : Sp := fun vs H Q _ => ∃ (n : Nat) (S : Sy) (k : Bool) (p f cell v : Nat), vs = [.ref (S.y k).w, nv p, nv cell, nv v] ∧ At K n S H ∧ Good S ∧ (S.y k).f p = some f ∧ cell < 8 ∧ v < 2 ^ 48 ∧
  ∀ S' H', At K n S' H' → Good S' → Rel k S S' → Pres S S' → KeepU S.c H S'.c H' → Q .non H'
theorem ok_Pairs_deposit (T : Tx K mg) : FnC P w K mg base 10 (fAd K ("Pairs", some "deposit")) (fdat K ("Pairs", some "deposit")) ["self", "page", "cell", "word"] (spDeposit K) := by
  refine fnC (fd_Pairs_deposit T) sc_Pairs_deposit (fun vs H Q E h => ?_) (fun cdv A0 outer s H vs Q E hrm h => ?_)
  · obtain ⟨n, S, k, p, f, cell, v, rfl, _⟩ := h
    rfl
  obtain ⟨n, S, k, p, f, cell, v, rfl, A, G, hf, hc, hv, q⟩ := h
  refine ⟨_, (pss_cons (try_only rfl rfl (.cons ⟨rfl, by decide, .inl (g_Fault T)⟩ (fun a oe cls d pn hz hf => (pss_cons (ps_expr (pe_mG (gd_suite hz hf) (pv 0) (c_Pairs T) (m_Pairs_open_row T) (ok_Pairs_open_row T) ((roomMark hrm (some (.ref a))).mono (by decide)) (bd_Pairs_open_row T) (pa_cons (pv 1) pa_nil))) (pss_one (ps_set (i := 4) sc_Pairs_deposit.nd rfl (by first | exact Or.inl rfl | exact Or.inr rfl) (pe_fG (gd_suite hz hf) (ok_f_look T) ((roomMark hrm (some (.ref a))).mono (by decide)) (by rfl) (g_look T) (fd_f_look T).kp (bd_f_look T) (pa_cons (pe_fl (c_Pairs T) (n_Pairs_ground T) (pv 0)) (pa_cons (pe_ix (ix_list : IxR _ (rIxL K)) (pe_fl (c_Pairs T) (n_Pairs_mine T) (pv 0)) pe_int (fun _ _ => rfl)) (pa_cons (pe_op op_add (pe_op op_mul (pe_gi (i_EACH T)) (pv 1)) (pv 2)) (pa_cons pe_bl (pa_cons pe_bl pa_nil)))))))))) .nil) (fun W pn xe tk po => (pss_one (ps_set (i := 4) sc_Pairs_deposit.nd rfl (by first | exact Or.inl rfl | exact Or.inr rfl) (pe_f rfl (okx_look_F T) (hrm.mono (by decide)) (by rfl) (g_look T) (fd_f_look T).kp (bd_f_look T) (fun σ => L2N.passAt tk σ) (pa_cons (pe_fl (c_Pairs T) (n_Pairs_ground T) (pv 0)) (pa_cons (pe_ix (ix_list : IxR _ (rIxL K)) (pe_fl (c_Pairs T) (n_Pairs_mine T) (pv 0)) pe_int (fun _ _ => rfl)) (pa_cons (pe_op op_add (pe_op op_mul (pe_gi (i_EACH T)) (pv 1)) (pv 2)) (pa_cons pe_bl (pa_cons pe_bl pa_nil)))))))))) (pss_cons (ps_expr (pe_f rfl (ok_f_mark T) (hrm.mono (by decide)) (by rfl) (g_mark T) (fd_f_mark T).kp (bd_f_mark T) (E := E0s) (fun _ => passAt0) (pa_cons (pe_fl (c_Pairs T) (n_Pairs_ground T) (pv 0)) (pa_cons (pv 4) (pa_cons pe_bl pa_nil))))) (pss_one (ps_expr (pe_mG (.inl rfl) (pe_fl (c_Pairs T) (n_Pairs_ground T) (pv 0)) (c_Frames T) (m_Frames_write T) (ok_Frames_write T) (hrm.mono (by decide)) (bd_Frames_write T) (pa_cons (pe_ix ix_tup (pv 4) pe_int (fun _ _ => rfl)) (pa_cons (pv 2) (pa_cons (pv 3) pa_nil)))))))), ?_⟩
  have o := G.on k
  obtain ⟨rr, W⟩ := A.wy k o
  have lt := Way.f_lt hf
  have p8 := A.p8 o lt
  obtain ⟨e1, e2, e3⟩ := place1 p8 hc
  obtain ⟨x, hx, hx1, hx2⟩ := G.top k
  obtain ⟨r, hr, ok⟩ := G.row k p lt
  have ok := ok (fun z => nomatch z)
  rw [hf] at ok
  obtain ⟨k1, k2, k3⟩ := ok
  refine ⟨_, rfl, _, _, _, _, rfl, W.hw, rfl, _, rfl, _, _, _, _, rfl, W.hw, rfl, _, _, _, _, rfl, rfl, SqL.of W.hm, atI_nat (j := 0) rfl, ?_⟩
  refine ⟨_, rfl, (8 : Int), (p : Int), rfl, rfl, .inl ⟨by decide, by decide⟩, _, rfl, _, _, rfl, rfl, ?_⟩
  dsimp only
  rw [place2]
  refine ⟨S.F, S.c, (S.y k).t, 8 * p + cell, x, true, rfl, A.fr, e3, G.tkn_t k, by rw [e1]; exact hx, ⟨by omega, by rw [hx2]; exact G.tkn_l k, fun _ => rfl, fun _ => by omega⟩, r, by rw [hx2, e2]; exact hr, fun okr v1 z c1 H1 kp1 tr1 => ?_, fun nok H1 s1 kd d hd => ?_⟩
  · rw [e1, e2, hx2, k2] at tr1
    have A1 : At K n (S.sc c1) H1 := A.keep kp1 (fun _ _ z => z) fun _ _ _ z => z
    have k4 := okr.2.2.2 rfl
    have o1 := k3 k4
    exact dep_fin (S0 := S) (r := r) (x := x) A1 G .refl (fun _ _ => rfl) (kp1.u fun z => z) hf hx hr k4 tr1 hc hv q
  · refine ⟨true, x_Fault T, fun _ a ha => ?_, fun z => nomatch z⟩
    have A1 := (A.same s1).newC (o := .xd (fltF kd (nv (8 * p + cell)) (nv 2))) (t := .no) hd
    have A1' : At K n (S.sc (colS S.c d .no)) (L2.upd H1 d (.xd (fltF kd (nv (8 * p + cell)) (nv 2)))) := A1
    obtain ⟨rr1, W1⟩ := A1'.wy k o
    refine ⟨_, rfl, _, _, _, rfl, W1.hw, rfl, _, rfl, n, S.sc (colS S.c d .no), k, p, f, rfl, A1', G.sc, hf, fun S2 H2 A2 G2 R2 P2 kp2 ⟨f2, r2, hf2, hr2, hw2⟩ => ?_⟩
    have o2 := G2.on k
    obtain ⟨rr2, W2⟩ := A2.wy k o2
    have hw2' := W2.hw
    have hm2' := W2.hm
    have ew := R2.w k
    have ew' : (S2.y k).w = (S.y k).w := ew
    rw [ew'] at hw2'
    have lt2 := Way.f_lt hf2
    obtain ⟨x2, hx2, hx21, hx22⟩ := G2.top k
    obtain ⟨r2', hr2', ok2⟩ := G2.row k p lt2
    rw [hr2] at hr2'
    obtain rfl := Option.some.inj hr2'
    have ok2 := ok2 (fun z => nomatch z)
    rw [hf2] at ok2
    obtain ⟨k12, k22, k32⟩ := ok2
    refine ⟨_, rfl, _, _, _, _, rfl, hw2', rfl, _, rfl, _, _, _, _, rfl, hw2', rfl, _, _, _, _, rfl, rfl, SqL.of hm2', atI_nat (j := 0) rfl, ?_⟩
    refine ⟨_, rfl, (8 : Int), (p : Int), rfl, rfl, .inl ⟨by decide, by decide⟩, _, rfl, _, _, rfl, rfl, ?_⟩
    dsimp only
    rw [place2]
    refine ⟨S2.F, S2.c, (S2.y k).t, 8 * p + cell, x2, r2, true, rfl, A2.fr, e3, G2.tkn_t k, by rw [e1]; exact hx2, ⟨by omega, by rw [hx22]; exact G2.tkn_l k, fun _ => rfl, fun _ => by omega⟩, by rw [hx22, e2]; exact hr2, ⟨k12, by rw [k22]; exact G2.tkn hf2, fun _ => rfl, fun _ => hw2⟩, fun v1 z c3 H3 kp3 tr3 => ?_⟩
    rw [e1, e2, hx22, k22] at tr3
    have A3 : At K n (S2.sc c3) H3 := A2.keep kp3 (fun _ _ z => z) fun _ _ _ z => z
    have R2' : Rel k S S2 := ⟨R2.g, R2.obj, R2.len, R2.oth, R2.chg, R2.soil, R2.sz⟩
    have kk : KeepU S.c H c3 H3 := (((Keep.same s1).trans (newU hd)).trans kp2).trans (kp3.u fun z => z)
    have fin := dep_fin (S0 := S) (r := r2) (x := x2) A3 G2 R2' P2 kk hf2 hx2 hr2 hw2 tr3 hc hv q
    rw [ew'] at fin
    exact fin
end K6
/-! Pairs: read, write, grants, pages that come and go. -/
namespace K6
open PySem PySem.Spec PyProof.Rows L2 HotX L2H He
variable {P : Program} {w : World} {K : PySem.W.Frag} {mg : Str → Option Value} {base : Heap}
section
variable {n m : Nat} {g : Addr} {y : Way} {k : Bool} {r : Rest} {c : Col} {H : Hp}
theorem WayAt.kk (W : WayAt K n g y k r c H) {a b : Addr} {i j : Nat} {o v : HO} (ha : c a = .way k i) (hb : H b = some o) (cb : c b = .way k j) (ne : j ≠ i) : L2.upd H a v b = some o := by
  rw [upd_ne fun z => ne (by rw [z, ha] at cb; injection cb with _ z; exact z.symm)]
  exact hb
theorem WayAt.rw8 (W : WayAt K n g y k r c H) {a : Addr} {i : Nat} {o : HO} (ha : c a = .way k i) (ne : 8 ≠ i) : ∀ v ∈ r.line, RowAt k c (L2.upd H a o) v := fun v hv => by
  obtain ⟨p, x1, x2, x3, e, e1, e2⟩ := W.rows v hv
  exact ⟨p, x1, x2, x3, e, W.kk ha e1 e2 ne, e2⟩
theorem WayAt.up_an (W : WayAt K n g y k r c H) {l : List V} (h : l.length ≤ m) (hn : n ≤ m) : WayAt K m g y k { r with ans := l } c (L2.upd H r.an (.lst l)) :=
  ⟨W.kk W.ta W.hw W.tw (by decide), W.kk W.ta W.hs W.ts (by decide), W.kk W.ta W.hp W.tp (by decide), W.kk W.ta W.hd W.td (by decide), W.kk W.ta W.hm W.tm (by decide), W.kk W.ta W.hl W.tl (by decide), W.kk W.ta W.hc W.tc (by decide), upd_same,
    W.tw, W.ts, W.tp, W.td, W.tm, W.tl, W.tc, W.ta, W.lo, W.hi, W.m1, W.ml, W.mo, W.rw8 W.ta (by decide), h, Nat.le_trans W.nc hn⟩
theorem WayAt.up_ch (W : WayAt K n g y k r c H) {l : List (Key × V)} (h : l.length ≤ m) (hn : n ≤ m) : WayAt K m g y k { r with chg := l } c (L2.upd H r.ch (.dK l)) :=
  ⟨W.kk W.tc W.hw W.tw (by decide), W.kk W.tc W.hs W.ts (by decide), W.kk W.tc W.hp W.tp (by decide), W.kk W.tc W.hd W.td (by decide), W.kk W.tc W.hm W.tm (by decide), W.kk W.tc W.hl W.tl (by decide), upd_same, W.kk W.tc W.ha W.ta (by decide),
    W.tw, W.ts, W.tp, W.td, W.tm, W.tl, W.tc, W.ta, W.lo, W.hi, W.m1, W.ml, W.mo, W.rw8 W.tc (by decide), Nat.le_trans W.na hn, h⟩
theorem WayAt.up_ln (W : WayAt K n g y k r c H) {l : List V} (h : l.length ≤ r.most) (hr : ∀ v ∈ l, RowAt k c H v) : WayAt K n g y k { r with line := l } c (L2.upd H r.ln (.lst l)) :=
  ⟨W.kk W.tl W.hw W.tw (by decide), W.kk W.tl W.hs W.ts (by decide), W.kk W.tl W.hp W.tp (by decide), W.kk W.tl W.hd W.td (by decide), W.kk W.tl W.hm W.tm (by decide), upd_same, W.kk W.tl W.hc W.tc (by decide), W.kk W.tl W.ha W.ta (by decide),
    W.tw, W.ts, W.tp, W.td, W.tm, W.tl, W.tc, W.ta, W.lo, W.hi, W.m1, h, W.mo, fun v hv => by
      obtain ⟨p, x1, x2, x3, e, e1, e2⟩ := hr v hv
      exact ⟨p, x1, x2, x3, e, W.kk W.tl e1 e2 (by decide), e2⟩, W.na, W.nc⟩
theorem WayAt.up_base (W : WayAt K n g y k r c H) {b : Nat} : WayAt K n g y k { r with base := b } c (L2.upd H y.w (.ins (ga K "Pairs") y.dw (wayF y { r with base := b } g))) :=
  ⟨upd_same, W.kk W.tw W.hs W.ts (by decide), W.kk W.tw W.hp W.tp (by decide), W.kk W.tw W.hd W.td (by decide), W.kk W.tw W.hm W.tm (by decide), W.kk W.tw W.hl W.tl (by decide), W.kk W.tw W.hc W.tc (by decide), W.kk W.tw W.ha W.ta (by decide),
    W.tw, W.ts, W.tp, W.td, W.tm, W.tl, W.tc, W.ta, W.lo, W.hi, W.m1, W.ml, W.mo, W.rw8 W.tw (by decide), W.na, W.nc⟩
/-- a new dict for changed -/
theorem WayAt.new_ch (W : WayAt K n g y k r c H) {p : Addr} (hp : H p = none) : WayAt K n g y k { r with ch := p, chg := [] } (colS c p (.way k 6)) (L2.upd (L2.upd H p (.dK [])) y.w (.ins (ga K "Pairs") y.dw (wayF y { r with ch := p } g))) := by
  have W1 := W.keep (T := fun _ => False) (Keep.newC (o := .dK []) (t := .way k 6) hp) (fun _ z => z)
  have hp1 : colS c p (.way k 6) p = .way k 6 := colS_same
  have e1 : L2.upd H p (.dK []) p = some (.dK []) := upd_same
  exact ⟨upd_same, W1.kk W1.tw W1.hs W1.ts (by decide), W1.kk W1.tw W1.hp W1.tp (by decide), W1.kk W1.tw W1.hd W1.td (by decide), W1.kk W1.tw W1.hm W1.tm (by decide), W1.kk W1.tw W1.hl W1.tl (by decide), W1.kk W1.tw e1 hp1 (by decide), W1.kk W1.tw W1.ha W1.ta (by decide),
    W1.tw, W1.ts, W1.tp, W1.td, W1.tm, W1.tl, hp1, W1.ta, W1.lo, W1.hi, W1.m1, W1.ml, W1.mo, W1.rw8 W1.tw (by decide), W1.na, Nat.zero_le _⟩
/-- a new list for the shelf's line -/
theorem WayAt.new_ln (W : WayAt K n g y k r c H) {p : Addr} (hp : H p = none) : WayAt K n g y k { r with ln := p, line := [] } (colS c p (.way k 5)) (L2.upd (L2.upd H p (.lst [])) y.sh (.ins (ga K "Shelf") y.ds (shF { r with ln := p }))) := by
  have W1 := W.keep (T := fun _ => False) (Keep.newC (o := .lst []) (t := .way k 5) hp) (fun _ z => z)
  have hp1 : colS c p (.way k 5) p = .way k 5 := colS_same
  have e1 : L2.upd H p (.lst []) p = some (.lst []) := upd_same
  exact ⟨W1.kk W1.ts W1.hw W1.tw (by decide), upd_same, W1.kk W1.ts W1.hp W1.tp (by decide), W1.kk W1.ts W1.hd W1.td (by decide), W1.kk W1.ts W1.hm W1.tm (by decide), W1.kk W1.ts e1 hp1 (by decide), W1.kk W1.ts W1.hc W1.tc (by decide), W1.kk W1.ts W1.ha W1.ta (by decide),
    W1.tw, W1.ts, W1.tp, W1.td, W1.tm, hp1, W1.tc, W1.ta, W1.lo, W1.hi, W1.m1, Nat.zero_le _, W1.mo, (fun v hv => nomatch hv), W1.na, W1.nc⟩
end
theorem KeepU.bt {k : Bool} {c c' : Col} {H H' : Hp} (kp : Keep (BT k) c H c' H') : KeepU c H c' H' := kp.u fun z => z
theorem at_c {n : Nat} {S : Sy} {H : Hp} (A : At K n (S.sc S.c) H) : At K n S H := A
/-! ### read, write -/
def spPrLookFor (K : PySem.W.Frag) : Sp := fun vs H Q _ => ∃ (n : Nat) (S : Sy) (k : Bool) (p f cell : Nat), vs = [.ref (S.y k).w, nv p, nv cell] ∧ At K n S H ∧ S.on k ∧ (S.y k).f p = some f ∧ cell < 8 ∧ Q .non H
theorem ok_Pairs_look_for (T : Tx K mg) : FnC P w K mg base 5 (fAd K ("Pairs", some "look_for")) (fdat K ("Pairs", some "look_for")) ["self", "page", "cell"] (spPrLookFor K) := by
  refine fnC (fd_Pairs_look_for T) sc_Pairs_look_for (fun vs H Q E h => ?_) (fun cdv A0 outer s H vs Q E hrm h => ?_)
  · obtain ⟨n, S, k, p, f, cell, rfl, _⟩ := h
    rfl
  obtain ⟨n, S, k, p, f, cell, rfl, A, o, hf, hc, q⟩ := h
  refine ⟨_, (pss_cons (ps_if (pt_not (pt_val (pe_m rfl (pv 0) (c_Pairs T) (m_Pairs_has T) (ok_Pairs_has T) (hrm.mono (by decide)) (bd_Pairs_has T) (E := E0s) (fun _ => passAt0) (pa_cons (pv 1) pa_nil)))) (pss_one ps_never) pss_nil) (pss_one (ps_if (pt_not (pt_val (pe_fG (.inl rfl) (ok_f_is_below T) (hrm.mono (by decide)) (by rfl) (g_is_below T) (fd_f_is_below T).kp (bd_f_is_below T) (pa_cons (pv 2) (pa_cons (pe_gi (i_CELLS T)) pa_nil))))) (pss_one ps_never) pss_nil))), ?_⟩
  obtain ⟨r, W⟩ := A.wy k o
  refine ⟨_, rfl, _, _, _, rfl, W.hw, rfl, _, rfl, n, S, k, p, rfl, A, o, ?_⟩
  rw [hf]
  refine ⟨_, rfl, iteF ⟨_, rfl, _, _, rfl, _, rfl, ?_⟩⟩
  rw [decide_eq_true (show (0 : Int) ≤ (cell : Int) ∧ (cell : Int) < 8 by omega)]
  exact iteF q
theorem ok_Pairs_read (T : Tx K mg) : FnC P w K mg base 9 (fAd K ("Pairs", some "read")) (fdat K ("Pairs", some "read")) ["self", "page", "cell"] (spFetch K) := by
  refine fnC (fd_Pairs_read T) sc_Pairs_read (fun vs H Q E h => ?_) (fun cdv A0 outer s H vs Q E hrm h => ?_)
  · obtain ⟨n, S, k, p, f, cell, rfl, _⟩ := h
    rfl
  obtain ⟨n, S, k, p, f, cell, rfl, A, G, hf, hc, q⟩ := h
  refine ⟨_, (pss_cons (ps_expr (pe_m rfl (pv 0) (c_Pairs T) (m_Pairs_look_for T) (ok_Pairs_look_for T) (hrm.mono (by decide)) (bd_Pairs_look_for T) (E := E0s) (fun _ => passAt0) (pa_cons (pv 1) (pa_cons (pv 2) pa_nil)))) (pss_one (ps_ret (pe_m rfl (pv 0) (c_Pairs T) (m_Pairs_fetch T) (ok_Pairs_fetch T) (hrm.mono (by decide)) (bd_Pairs_fetch T) (E := E0s) (fun _ => passAt0) (pa_cons (pv 1) (pa_cons (pv 2) pa_nil)))))), ?_⟩
  obtain ⟨r, W⟩ := A.wy k (G.on k)
  exact ⟨_, rfl, _, _, _, rfl, W.hw, rfl, _, rfl, _, rfl, n, S, k, p, f, cell, rfl, A, G.on k, hf, hc, _, rfl, _, _, _, rfl, W.hw, rfl, _, rfl, _, rfl, n, S, k, p, f, cell, rfl, A, G, hf, hc, q⟩
theorem ok_Pairs_write (T : Tx K mg) : FnC P w K mg base 11 (fAd K ("Pairs", some "write")) (fdat K ("Pairs", some "write")) ["self", "page", "cell", "word"] (spDeposit K) := by
  refine fnC (fd_Pairs_write T) sc_Pairs_write (fun vs H Q E h => ?_) (fun cdv A0 outer s H vs Q E hrm h => ?_)
  · obtain ⟨n, S, k, p, f, cell, v, rfl, _⟩ := h
    rfl
  obtain ⟨n, S, k, p, f, cell, v, rfl, A, G, hf, hc, hv, q⟩ := h
  refine ⟨_, (pss_cons (ps_expr (pe_m rfl (pv 0) (c_Pairs T) (m_Pairs_look_for T) (ok_Pairs_look_for T) (hrm.mono (by decide)) (bd_Pairs_look_for T) (E := E0s) (fun _ => passAt0) (pa_cons (pv 1) (pa_cons (pv 2) pa_nil)))) (pss_cons (ps_if (pt_not (pt_val (pe_fG (.inl rfl) (ok_f_is_word T) (hrm.mono (by decide)) (by rfl) (g_is_word T) (fd_f_is_word T).kp (bd_f_is_word T) (pa_cons (pv 3) pa_nil)))) (pss_one ps_never) pss_nil) (pss_one (ps_expr (pe_m rfl (pv 0) (c_Pairs T) (m_Pairs_deposit T) (ok_Pairs_deposit T) (hrm.mono (by decide)) (bd_Pairs_deposit T) (E := E0s) (fun _ => passAt0) (pa_cons (pv 1) (pa_cons (pv 2) (pa_cons (pv 3) pa_nil)))))))), ?_⟩
  obtain ⟨r, W⟩ := A.wy k (G.on k)
  refine ⟨_, rfl, _, _, _, rfl, W.hw, rfl, _, rfl, _, rfl, n, S, k, p, f, cell, rfl, A, G.on k, hf, hc, _, rfl, (v : Int), rfl, _, rfl, ?_⟩
  rw [decide_eq_true (show (0 : Int) ≤ (v : Int) ∧ (v : Int) < 2 ^ 48 by omega)]
  exact iteF ⟨_, rfl, _, _, _, rfl, W.hw, rfl, _, rfl, _, rfl, _, rfl, n, S, k, p, f, cell, v, rfl, A, G, hf, hc, hv, q⟩
/-! ### a frame is granted; a page comes, a page goes -/
def spGranted (K : PySem.W.Frag) : Sp := fun vs H Q _ => ∃ (n : Nat) (S : Sy) (k : Bool), vs = [.ref (S.y k).w] ∧ At K n S H ∧ Good S ∧ n ≤ 500 ∧
  (∀ H', At K (n + 1) (S.sf (S.F.pledge (S.F.pl + 1)) S.c) H' → GoodX none 1 (S.sf (S.F.pledge (S.F.pl + 1)) S.c) → KeepU S.c H S.c H' → Q (.bl true) H') ∧ (∀ H', At K (n + 1) S H' → KeepU S.c H S.c H' → Q (.bl false) H')
theorem ans_step {n : Nat} {S : Sy} {H : Hp} {k : Bool} {r : Rest} {v : V} (A : At K n S H) (W : WayAt K n S.F.g (S.y k) k r S.c H) : At K (n + 1) S (L2.upd H r.an (.lst (r.ans ++ [v]))) ∧ KeepU S.c H S.c (L2.upd H r.an (.lst (r.ans ++ [v]))) := by
  have kp : Keep (BT k) S.c H S.c (L2.upd H r.an (.lst (r.ans ++ [v]))) := .upd (by rw [W.ta]; rfl)
  refine ⟨at_c (A.rest kp (Nat.le_succ n) fun _ => W.up_an (by rw [List.length_append]; exact Nat.succ_le_succ W.na) (Nat.le_succ n)), KeepU.bt kp⟩
theorem ok_Pairs_granted (T : Tx K mg) : FnC P w K mg base 2 (fAd K ("Pairs", some "granted")) (fdat K ("Pairs", some "granted")) ["self"] (spGranted K) := by
  refine fnC (fd_Pairs_granted T) sc_Pairs_granted (fun vs H Q E h => ?_) (fun cdv A0 outer s H vs Q E hrm h => ?_)
  · obtain ⟨n, S, k, rfl, _⟩ := h
    rfl
  obtain ⟨n, S, k, rfl, A, G, hn, q1, q2⟩ := h
  refine ⟨_, (pss_cons (ps_set (i := 1) sc_Pairs_granted.nd rfl (by first | exact Or.inl rfl | exact Or.inr rfl) (pe_m rfl (pe_fl (c_Pairs T) (n_Pairs_ground T) (pv 0)) (c_Frames T) (m_Frames_ask T) (ok_Frames_ask T) (hrm.mono (by decide)) (bd_Frames_ask T) (E := E0s) (fun _ => passAt0) (pa_cons pe_int pa_nil))) (pss_cons (ps_expr (pe_bm PySem.F.plainAttrs_list PySem.F.slot_list_append PySem.F.type_list_append mt_append (pe_fl (c_Pairs T) (n_Pairs_answers T) (pv 0)) (pa_cons (pv 1) pa_nil))) (pss_one (ps_ret (pv 1))))), ?_⟩
  have o := G.on k
  obtain ⟨r, W⟩ := A.wy k o
  refine ⟨_, rfl, _, _, _, _, rfl, W.hw, rfl, _, _, _, rfl, A.fr.hg, rfl, S.F, S.c, 1, rfl, A.fr, fun le H1 A1 k1 => ?_, fun le => ?_⟩
  · have A2 := A.sf A1 k1
    obtain ⟨r2, W2⟩ := A2.wy k o
    have W2' : WayAt K n S.F.g (S.y k) k r2 S.c H1 := W2
    obtain ⟨A3, k3⟩ := ans_step (v := .bl true) A2 W2
    have hl := W2'.na
    refine ⟨_, rfl, _, _, _, _, rfl, W2'.hw, rfl, .inl ⟨rfl, _, SqL.of W2'.ha⟩, _, rfl, _, _, _, rfl, rfl, W2'.ha, by rw [sizeLine_eq]; omega, ?_⟩
    refine ⟨_, rfl, q1 _ A3 ⟨G.on, G.top, G.row, G.cnt, G.tb, G.tot, ?_, ?_⟩ ((KeepU.isF k1).trans k3)⟩
    · have := G.pl
      show S.F.pl + 1 = _
      rw [this]
      rfl
    · have h1 := G.pl
      show S.F.ow.sum + 1 ≤ S.F.ow.length
      rw [h1] at le
      omega
  · obtain ⟨A3, k3⟩ := ans_step (v := .bl false) A W
    have hl := W.na
    exact ⟨_, rfl, _, _, _, _, rfl, W.hw, rfl, .inl ⟨rfl, _, SqL.of W.ha⟩, _, rfl, _, _, _, rfl, rfl, W.ha, by rw [sizeLine_eq]; omega, _, rfl, q2 _ A3 k3⟩
theorem chg_step {n : Nat} {S : Sy} {H : Hp} {k : Bool} {r : Rest} {key : Key} {v : V} (A : At K n S H) (W : WayAt K n S.F.g (S.y k) k r S.c H) : At K (n + 1) S (L2.upd H r.ch (.dK (putK r.chg key v))) ∧ KeepU S.c H S.c (L2.upd H r.ch (.dK (putK r.chg key v))) := by
  have kp : Keep (BT k) S.c H S.c (L2.upd H r.ch (.dK (putK r.chg key v))) := .upd (by rw [W.tc]; rfl)
  refine ⟨at_c (A.rest kp (Nat.le_succ n) fun _ => W.up_ch (Nat.le_trans (length_putK _ _ _) (Nat.succ_le_succ W.nc)) (Nat.le_succ n)), KeepU.bt kp⟩
def spBring (K : PySem.W.Frag) : Sp := fun vs H Q _ => ∃ (n : Nat) (S : Sy) (k : Bool) (p : Nat), vs = [.ref (S.y k).w, nv p] ∧ At K n S H ∧ GoodX none 1 S ∧ n ≤ 500 ∧ p < (S.y k).lead.length ∧ (S.y k).f p = none ∧
  ∀ S' H', At K (n + 1) S' H' → Good S' → Rel k S S' → KeepU S.c H S'.c H' → Q .non H'
theorem ok_Pairs_bring (T : Tx K mg) : FnC P w K mg base 8 (fAd K ("Pairs", some "bring")) (fdat K ("Pairs", some "bring")) ["self", "page"] (spBring K) := by
  refine fnC (fd_Pairs_bring T) sc_Pairs_bring (fun vs H Q E h => ?_) (fun cdv A0 outer s H vs Q E hrm h => ?_)
  · obtain ⟨n, S, k, p, rfl, _⟩ := h
    rfl
  obtain ⟨n, S, k, p, rfl, A, G, hn, lt, hf, q⟩ := h
  refine ⟨_, (pss_cons (ps_expr (pe_m rfl (pe_fl (c_Pairs T) (n_Pairs_part T) (pv 0)) (c_Parts T) (m_Parts_fresh T) (ok_Parts_fresh T) (hrm.mono (by decide)) (bd_Parts_fresh T) (E := E0s) (fun _ => passAt0) (pa_cons (pv 1) pa_nil))) (pss_cons (ps_dput (hu1 hrm) (pe_fl (c_Pairs T) (n_Pairs_changed T) (pv 0)) (pv 1) pe_bl rfl) (pss_one (ps_expr (pe_mG (.inl rfl) (pv 0) (c_Pairs T) (m_Pairs_moved T) (ok_Pairs_moved T) (hrm.mono (by decide)) (bd_Pairs_moved T) (pa_cons (pv 1) pa_nil)))))), ?_⟩
  have o := G.on k
  obtain ⟨r, W⟩ := A.wy k o
  have h0 : 0 ∈ S.F.ow := free_one (by have := G.le; omega)
  refine ⟨_, rfl, _, _, _, _, rfl, W.hw, rfl, _, _, _, rfl, W.hp, rfl, _, rfl, n, S, k, p, rfl, A, o, lt, hf, h0, fun i a c1 H1 hi A1 k1 => ?_⟩
  have C := chg_fresh (ad := a) G hf hi
  have hs := C.hs
  rw [hf, b1_f (fun z => z rfl), b1_t (fun z => nomatch z)] at hs
  have pl : (S.F.take i a).pl = (((S.F.take i a).ow.sum + 0 : Nat) : Int) := by
    have h3 := G.pl
    show S.F.pl = _
    rw [h3]
    omega
  have le : (S.F.take i a).ow.sum + 0 ≤ (S.F.take i a).ow.length := by
    have h3 := G.le
    rw [C.hn]
    omega
  have G1 := G.chg (c := c1) lt C pl le
  obtain ⟨S1, hS1⟩ : ∃ S1, S1 = (S.sf (S.F.take i a) c1).sl k ((S.y k).lead.set p (some i)) := ⟨_, rfl⟩
  have ec : S1.c = c1 := by rw [hS1]; rfl
  have fi : (S1.y k).f p = some i := by rw [hS1]; exact f_sl lt
  have lt1 : p < (S1.y k).lead.length := by rw [hS1, len_sl]; exact lt
  have ew : (S1.y k).w = (S.y k).w := by rw [hS1, sl_obj k]; rfl
  have oi : S1.F.o i = 1 := by
    rw [hS1]
    have h2 := C.ho i
    rw [hf, b1_no, b1_t rfl, o_some hi] at h2
    exact h2
  have el : (S1.y k).l = (S.y k).l := by rw [hS1]; exact (tl_sl k).2
  have ewl : S1.F.wd (S.y k).l = S.F.wd (S.y k).l := by rw [hS1]; exact C.wl G k
  have R := fun r r0 c2 h h2 h3 => C.rel (r := r) (r0 := r0) (c2 := c2) G lt hS1 (by rw [hS1]; exact G1) h h2 h3
  rw [← hS1] at A1 G1
  have o1 := G1.on k
  obtain ⟨r1, W1⟩ := A1.wy k o1
  obtain ⟨A2, k2⟩ := chg_step (key := .inl (p : Int)) (v := .bl true) A1 W1
  obtain ⟨r2, W2⟩ := A2.wy k o1
  have hl := W1.nc
  have hw1 := W1.hw
  have hw2 := W2.hw
  rw [ew] at hw1 hw2
  refine ⟨_, rfl, _, _, _, _, rfl, hw1, rfl, _, rfl, _, _, rfl, .inl ⟨_, .inl (p : Int), W1.hc, rfl, by rw [sizeLine_eq]; omega, rfl⟩, ?_⟩
  obtain ⟨r0, hr0, ok0⟩ := G.row k p lt
  have ok0 := ok0 (fun z => nomatch z)
  rw [hf] at ok0
  have hr1 : (S1.F.wd (S1.y k).l)[p]? = some r0 := by rw [el, ewl]; exact hr0
  refine ⟨_, rfl, _, _, _, rfl, hw2, rfl, _, rfl, n + 1, S1, k, p, r0, by rw [ew], A2, o1, A1.p8 o1 lt1, G1.tkn_l k, hr1, fun g hg => A1.lt200 G1 hg, fun H3 A3 k3 => ?_⟩
  rw [fi] at A3
  have em : mvRow (some i) r0 = 256 * i + 17 := if_neg (by rcases ok0 with z | z <;> omega)
  rw [em] at A3
  have okr : RowOk S1.F ((S1.y k).f p) (256 * i + 17) := by
    rw [fi]
    exact ⟨by omega, by omega, fun _ => oi⟩
  have G2 := G1.wr_row (c := S1.c) lt1 (.inr rfl) okr
  exact q _ H3 A3 G2 (R _ r0 _ hr0 (fun _ => by omega) (.inr (by omega))) (((ec ▸ k1).trans k2).trans k3)
def spYield (K : PySem.W.Frag) : Sp := fun vs H Q _ => ∃ (n : Nat) (S : Sy) (k : Bool) (p f : Nat), vs = [.ref (S.y k).w, nv p] ∧ At K n S H ∧ Good S ∧ n ≤ 500 ∧ (S.y k).f p = some f ∧
  ∀ S' H', At K (n + 1) S' H' → Good S' → Rel k S S' → KeepU S.c H S'.c H' → Q .non H'
theorem ok_Pairs_yield_up (T : Tx K mg) : FnC P w K mg base 8 (fAd K ("Pairs", some "yield_up")) (fdat K ("Pairs", some "yield_up")) ["self", "page"] (spYield K) := by
  refine fnC (fd_Pairs_yield_up T) sc_Pairs_yield_up (fun vs H Q E h => ?_) (fun cdv A0 outer s H vs Q E hrm h => ?_)
  · obtain ⟨n, S, k, p, f, rfl, _⟩ := h
    rfl
  obtain ⟨n, S, k, p, f, rfl, A, G, hn, hf, q⟩ := h
  refine ⟨_, (pss_cons (ps_expr (pe_m rfl (pe_fl (c_Pairs T) (n_Pairs_part T) (pv 0)) (c_Parts T) (m_Parts_give T) (ok_Parts_give T) (hrm.mono (by decide)) (bd_Parts_give T) (E := E0s) (fun _ => passAt0) (pa_cons (pv 1) pa_nil))) (pss_cons (ps_expr (pe_m rfl (pe_fl (c_Pairs T) (n_Pairs_ground T) (pv 0)) (c_Frames T) (m_Frames_back T) (ok_Frames_back T) (hrm.mono (by decide)) (bd_Frames_back T) (E := E0s) (fun _ => passAt0) (pa_cons pe_int pa_nil))) (pss_cons (ps_dput (hu1 hrm) (pe_fl (c_Pairs T) (n_Pairs_changed T) (pv 0)) (pv 1) pe_bl rfl) (pss_one (ps_expr (pe_mG (.inl rfl) (pv 0) (c_Pairs T) (m_Pairs_moved T) (ok_Pairs_moved T) (hrm.mono (by decide)) (bd_Pairs_moved T) (pa_cons (pv 1) pa_nil))))))), ?_⟩
  have o := G.on k
  obtain ⟨r, W⟩ := A.wy k o
  have lt := Way.f_lt hf
  obtain ⟨m, hm⟩ := G.tkn hf
  refine ⟨_, rfl, _, _, _, _, rfl, W.hw, rfl, _, _, _, rfl, W.hp, rfl, _, rfl, n, S, k, p, f, m, rfl, A, o, hf, hm, fun H1 A1 k1 => ?_⟩
  have C := chg_give hf hm
  have hs := C.hs
  rw [hf, b1_t (fun z => nomatch z), b1_f (fun z => z rfl)] at hs
  have pl : (S.F.own f m).pl = (((S.F.own f m).ow.sum + 1 : Nat) : Int) := by
    have h3 := G.pl
    show S.F.pl = _
    rw [h3]
    omega
  have le : (S.F.own f m).ow.sum + 1 ≤ (S.F.own f m).ow.length := by
    have h3 := G.le
    rw [C.hn]
    omega
  have G1 := G.chg (c := S.c) lt C pl le
  have g1 : (S.F.own f m).g = S.F.g := rfl
  obtain ⟨r1, W1⟩ := A1.wy k o
  have ew0 : ((((S.sf (S.F.own f m) S.c).sl k ((S.y k).lead.set p none))).y k).w = (S.y k).w := by rw [sl_obj k]; rfl
  have hw1 := W1.hw
  rw [ew0] at hw1
  refine ⟨_, rfl, _, _, _, _, rfl, hw1, rfl, _, _, _, rfl, A1.fr.hg, rfl, S.F.own f m, S.c, 1, rfl, A1.fr, fun H2 A2 k2 => ?_⟩
  have A3 := A1.sf A2 k2
  obtain ⟨F1, hF1⟩ : ∃ F1, F1 = (S.F.own f m).pledge ((S.F.own f m).pl - 1) := ⟨_, rfl⟩
  have C1 : Chg S k p none F1 := by
    rw [hF1]
    exact ⟨C.ho, C.hw, C.hs, C.hn, C.hg, C.hx⟩
  have pl1 : F1.pl = ((F1.ow.sum + 0 : Nat) : Int) := by
    rw [hF1]
    show (S.F.own f m).pl - 1 = (((S.F.own f m).ow.sum + 0 : Nat) : Int)
    rw [pl]
    omega
  have le1 : F1.ow.sum + 0 ≤ F1.ow.length := by
    rw [hF1]
    show (S.F.own f m).ow.sum + 0 ≤ (S.F.own f m).ow.length
    omega
  have G2 := G.chg (c := S.c) lt C1 pl1 le1
  rw [← hF1] at A3
  have A3' : At K n ((S.sf F1 S.c).sl k ((S.y k).lead.set p none)) H2 := A3
  obtain ⟨S1, hS1⟩ : ∃ S1, S1 = (S.sf F1 S.c).sl k ((S.y k).lead.set p none) := ⟨_, rfl⟩
  have ec : S1.c = S.c := by rw [hS1]; rfl
  have fi : (S1.y k).f p = none := by rw [hS1]; exact f_sl lt
  have lt1 : p < (S1.y k).lead.length := by rw [hS1, len_sl]; exact lt
  have ew : (S1.y k).w = (S.y k).w := by rw [hS1, sl_obj k]; rfl
  have el : (S1.y k).l = (S.y k).l := by rw [hS1]; exact (tl_sl k).2
  have ewl : S1.F.wd (S.y k).l = S.F.wd (S.y k).l := by rw [hS1]; exact C1.wl G k
  have R := fun r r0 c2 h h2 h3 => C1.rel (r := r) (r0 := r0) (c2 := c2) G lt hS1 (by rw [hS1]; exact G2) h h2 h3
  rw [← hS1] at A3' G2
  have o1 := G2.on k
  obtain ⟨r1', W1'⟩ := A3'.wy k o1
  obtain ⟨A4, k4⟩ := chg_step (key := .inl (p : Int)) (v := .bl true) A3' W1'
  obtain ⟨r2, W2⟩ := A4.wy k o1
  have hl := W1'.nc
  have hw1' := W1'.hw
  have hw2 := W2.hw
  rw [ew] at hw1' hw2
  refine ⟨_, rfl, _, _, _, _, rfl, hw1', rfl, _, rfl, _, _, rfl, .inl ⟨_, .inl (p : Int), W1'.hc, rfl, by rw [sizeLine_eq]; omega, rfl⟩, ?_⟩
  obtain ⟨r0, hr0, ok0⟩ := G.row k p lt
  have hr1 : (S1.F.wd (S1.y k).l)[p]? = some r0 := by rw [el, ewl]; exact hr0
  refine ⟨_, rfl, _, _, _, rfl, hw2, rfl, _, rfl, n + 1, S1, k, p, r0, by rw [ew], A4, o1, A3'.p8 o1 lt1, G2.tkn_l k, hr1, fun g hg => A3'.lt200 G2 hg, fun H5 A5 k5 => ?_⟩
  rw [fi] at A5
  have okr : RowOk S1.F ((S1.y k).f p) 16 := by
    rw [fi]
    exact .inr rfl
  have G3 := G2.wr_row (c := S1.c) lt1 (.inr rfl) okr
  refine q _ H5 A5 G3 (R 16 r0 S1.c hr0 (fun _ => by decide) (.inr (by decide))) ?_
  have k12 : KeepU S.c H S1.c H2 := by rw [ec]; exact k1.trans (KeepU.isF k2)
  exact (k12.trans k4).trans k5
end K6
/-! The shelf. -/
namespace K6
open PySem PySem.Spec PyProof.Rows L2 HotX L2H He
variable {P : Program} {w : World} {K : PySem.W.Frag} {mg : Str → Option Value} {base : Heap}
theorem Same.refl' {H : Hp} : Same H H := fun _ _ e => e
theorem Same.trans' {H H1 H2 : Hp} (a : Same H H1) (b : Same H1 H2) : Same H H2 := fun x o e => b x o (a x o e)
theorem same_new {H : Hp} {a : Addr} {o : HO} (h : H a = none) : Same H (L2.upd H a o) := fun b v e => by rw [upd_ne (ne_of_none e h)]; exact e
theorem WayAt.same {n : Nat} {g : Addr} {y : Way} {k : Bool} {r : Rest} {c : Col} {H H' : Hp} (W : WayAt K n g y k r c H) (s : Same H H') : WayAt K n g y k r c H' := W.keep (T := fun _ => False) (.same s) fun _ z => z
def spSeat (K : PySem.W.Frag) : Sp := fun vs H Q _ => ∃ (n : Nat) (g : Addr) (y : Way) (k : Bool) (r : Rest) (c : Col) (x : Nat), vs = [.ref y.sh, nv x] ∧ WayAt K n g y k r c H ∧ ∀ i H', i ≤ r.line.length → Same H H' → Q (nv i) H'
theorem ok_Shelf_seat (T : Tx K mg) : FnC P w K mg base 1 (fAd K ("Shelf", some "seat")) (fdat K ("Shelf", some "seat")) ["self", "number"] (spSeat K) := by
  refine fnC (fd_Shelf_seat T) sc_Shelf_seat (fun vs H Q E h => ?_) (fun cdv A0 outer s H vs Q E hrm h => ?_)
  · obtain ⟨n, g, y, k, r, c, x, rfl, _⟩ := h
    rfl
  obtain ⟨n, g, y, k, r, c, x, rfl, W, q⟩ := h
  refine ⟨_, (pss_cons (ps_for (passes_of rfl) rfl (pi_enum (by rfl) (b_enumerate T) (pa_cons (pe_fl (c_Shelf T) (n_Shelf_line T) (pv 0)) pa_nil)) (pg_tupG (.inl rfl) (pgs_cons (pg_name (i := 2) sc_Shelf_seat.nd rfl (by first | exact Or.inl rfl | exact Or.inr rfl)) (pgs_cons (pg_name (i := 3) sc_Shelf_seat.nd rfl (by first | exact Or.inl rfl | exact Or.inr rfl)) pgs_nil))) (pss_one (ps_if (pt_cmpR op_eq (pe_ix ix_tup (pv 3) pe_int (fun _ _ => rfl)) (pv 1) (nomark _)) (pss_one (ps_ret (pv 2))) pss_nil))) (pss_one (ps_ret (pe_callB call_len_seq (by rfl) (b_len T) q_len (pa_cons (pe_fl (c_Shelf T) (n_Shelf_line T) (pv 0)) pa_nil))))), ?_⟩
  refine ⟨_, rfl, _, _, _, _, rfl, W.hs, rfl, _, _, rfl, SqL.of W.hl, ?_⟩
  refine for_it (walk_enum (xs := r.line)) (fun m σ H2 => ∃ (x2 x3 : Option V), σ = [some (.ref y.sh), some (nv x), x2, x3] ∧ Same H H2) ?_ ?_ ?_ ?_
  · exact ⟨none, none, rfl, Same.refl'⟩
  · rintro m σ H2 hm ⟨x2, x3, rfl, s2⟩
    exact SqL.of (W.same s2).hl
  · rintro m v σ H2 H3 hm ⟨x2, x3, rfl, s2⟩ ⟨t, a, b, rfl, ht, rfl, ha, hb⟩
    have W2 := W.same s2
    obtain rfl : nv m = a := Option.some.inj ha
    obtain ⟨p, b1, b2, b3, rfl, ep, _⟩ := W2.rows b (List.mem_of_getElem? hb)
    have ep' : L2.upd H2 t (.tup [nv m, .ref p]) p = some (.tup [nv b1, nv b2, nv b3]) := by rw [upd_ne (ne_of_none ep ht)]; exact ep
    refine ⟨_, _, rfl, SqT.of upd_same, rfl, _, _, rfl, _, _, rfl, rfl, ?_⟩
    refine ⟨_, rfl, _, _, _, _, rfl, rfl, SqT.of ep', rfl, _, rfl, rfl, _, rfl, ?_⟩
    by_cases e : b1 = x
    · refine Eq.mpr (if_pos (show decide (nv b1 = nv x) = true from decide_eq_true (by rw [e]))) ?_
      exact ⟨_, rfl, q m _ (Nat.le_of_lt hm) (Same.trans' s2 (same_new ht))⟩
    · refine Eq.mpr (if_neg (show ¬ decide (nv b1 = nv x) = true from fun z => e (by have := of_decide_eq_true z; injection this with this; omega))) ?_
      exact ⟨_, _, rfl, Same.trans' s2 (same_new ht)⟩
  · rintro σ H2 ⟨x2, x3, rfl, s2⟩
    have W2 := W.same s2
    exact ⟨_, rfl, _, _, _, _, rfl, W2.hs, rfl, _, _, rfl, .inl (SqL.of W2.hl), q _ H2 (Nat.le_refl _) s2⟩
def spSeek (K : PySem.W.Frag) : Sp := fun vs H Q _ => ∃ (n : Nat) (g : Addr) (y : Way) (k : Bool) (r : Rest) (c : Col) (x : Nat), vs = [.ref y.sh, nv x] ∧ WayAt K n g y k r c H ∧
  (∀ H', Same H H' → Q .non H') ∧ ∀ t a b H', Same H H' → H' t = some (.tup [nv a, nv b]) → Q (.ref t) H'
theorem line_at {n : Nat} {g : Addr} {y : Way} {k : Bool} {r : Rest} {c : Col} {H : Hp} (W : WayAt K n g y k r c H) {i : Nat} (h : i < r.line.length) : ∃ p a b d, r.line[i]? = some (V.ref p) ∧ H p = some (.tup [nv a, nv b, nv d]) := by
  have e : r.line[i]? = some r.line[i] := List.getElem?_eq_getElem h
  obtain ⟨p, a, b, d, ev, ep, _⟩ := W.rows _ (List.mem_of_getElem? e)
  exact ⟨p, a, b, d, by rw [e, ev], ep⟩
theorem eq_nv {a b : Nat} : decide (nv a = nv b) = decide (a = b) := decide_eq_decide.mpr ⟨fun z => by injection z with z; omega, fun z => by rw [z]⟩
theorem ok_Shelf_seek (T : Tx K mg) : FnC P w K mg base 2 (fAd K ("Shelf", some "seek")) (fdat K ("Shelf", some "seek")) ["self", "number"] (spSeek K) := by
  refine fnC (fd_Shelf_seek T) sc_Shelf_seek (fun vs H Q E h => ?_) (fun cdv A0 outer s H vs Q E hrm h => ?_)
  · obtain ⟨n, g, y, k, r, c, x, rfl, _⟩ := h
    rfl
  obtain ⟨n, g, y, k, r, c, x, rfl, W, q1, q2⟩ := h
  refine ⟨_, (pss_cons (ps_set (i := 2) sc_Shelf_seek.nd rfl (by first | exact Or.inl rfl | exact Or.inr rfl) (pe_m rfl (pv 0) (c_Shelf T) (m_Shelf_seat T) (ok_Shelf_seat T) (hrm.mono (by decide)) (bd_Shelf_seat T) (E := E0s) (fun _ => passAt0) (pa_cons (pv 1) pa_nil))) (pss_cons (ps_if (pt_cmpR op_eq (pv 2) (pe_callB call_len_seq (by rfl) (b_len T) q_len (pa_cons (pe_fl (c_Shelf T) (n_Shelf_line T) (pv 0)) pa_nil)) (nomark _)) (pss_one (ps_ret pe_non)) pss_nil) (pss_one (ps_ret (pe_tup (pa_cons (pe_ix ix_tup (pe_ix ix_list (pe_fl (c_Shelf T) (n_Shelf_line T) (pv 0)) (pv 2) (fun _ _ => rfl)) pe_int (fun _ _ => rfl)) (pa_cons (pe_ix ix_tup (pe_ix ix_list (pe_fl (c_Shelf T) (n_Shelf_line T) (pv 0)) (pv 2) (fun _ _ => rfl)) pe_int (fun _ _ => rfl)) pa_nil))))))), ?_⟩
  refine ⟨_, rfl, _, _, _, rfl, W.hs, rfl, _, rfl, n, g, y, k, r, c, x, rfl, W, fun i H1 hi s1 => ?_⟩
  have W1 := W.same s1
  refine ⟨_, rfl, _, rfl, _, _, _, _, rfl, W1.hs, rfl, _, _, rfl, .inl (SqL.of W1.hl), rfl, _, rfl, ?_⟩
  by_cases e : i = r.line.length
  · refine Eq.mpr (if_pos (show decide (nv i = nv r.line.length) = true from decide_eq_true (by rw [e]))) ?_
    exact q1 H1 s1
  · refine Eq.mpr (if_neg (show ¬ decide (nv i = nv r.line.length) = true by rw [eq_nv]; exact fun z => e (of_decide_eq_true z))) ?_
    obtain ⟨p, a, b, d, e1, e2⟩ := line_at W1 (i := i) (by omega)
    refine ⟨_, rfl, _, _, _, _, rfl, W1.hs, rfl, _, rfl, _, _, _, _, rfl, rfl, SqL.of W1.hl, atI_nat e1, _, _, _, _, rfl, rfl, SqT.of e2, rfl, ?_⟩
    refine ⟨_, rfl, _, _, _, _, rfl, W1.hs, rfl, _, rfl, _, _, _, _, rfl, rfl, SqL.of W1.hl, atI_nat e1, _, _, _, _, rfl, rfl, SqT.of e2, rfl, len2, fun t ht => ?_⟩
    exact q2 t b d _ (Same.trans' s1 (same_new ht)) upd_same
theorem seqIx {i n : Nat} (h : i < n) : seqIndex? (i : Int) n = some i := by
  have h0 : ¬ ((i : Int) < 0) := by omega
  have h1 : (0 : Int) ≤ (i : Int) := by omega
  have h2 : (i : Int) < (n : Int) := by omega
  unfold seqIndex?
  rw [if_neg h0]
  dsimp only
  rw [decide_eq_true h1, decide_eq_true h2]
  rfl
/-- a row laid on the shelf: what it tells is a number or nothing -/
def spKeep (K : PySem.W.Frag) : Sp := fun vs H Q _ => ∃ (n : Nat) (S : Sy) (k : Bool) (a b d : Nat), vs = [.ref (S.y k).sh, nv a, nv b, nv d] ∧ At K n S H ∧ S.on k ∧
  ∀ v c' H', At K n (S.sc c') H' → KeepU S.c H c' H' → (v = .non ∨ ∃ z : Nat, v = nv z) → Q v H'
theorem line_step {n : Nat} {S : Sy} {k : Bool} {r : Rest} {c : Col} {H : Hp} {l : List V} (A : At K n (S.sc c) H) (W : WayAt K n S.F.g (S.y k) k r c H) (h : l.length ≤ r.most) (hr : ∀ v ∈ l, RowAt k c H v) : At K n (S.sc c) (L2.upd H r.ln (.lst l)) ∧ KeepU c H c (L2.upd H r.ln (.lst l)) := by
  have kp : Keep (BT k) c H c (L2.upd H r.ln (.lst l)) := .upd (by rw [W.tl]; rfl)
  exact ⟨A.rest (c := c) kp (Nat.le_refl n) fun _ => W.up_ln h hr, KeepU.bt kp⟩
theorem mem_set' {l : List V} {i : Nat} {v x : V} (h : x ∈ l.set i v) : x ∈ l ∨ x = v := List.mem_or_eq_of_mem_set h
theorem ok_Shelf_keep (T : Tx K mg) : FnC P w K mg base 2 (fAd K ("Shelf", some "keep")) (fdat K ("Shelf", some "keep")) ["self", "number", "page", "rights"] (spKeep K) := by
  refine fnC (fd_Shelf_keep T) sc_Shelf_keep (fun vs H Q E h => ?_) (fun cdv A0 outer s H vs Q E hrm h => ?_)
  · obtain ⟨n, S, k, a, b, d, rfl, _⟩ := h
    rfl
  obtain ⟨n, S, k, a, b, d, rfl, A, o, q⟩ := h
  refine ⟨_, (pss_cons (ps_set (i := 4) sc_Shelf_keep.nd rfl (by first | exact Or.inl rfl | exact Or.inr rfl) (pe_m rfl (pv 0) (c_Shelf T) (m_Shelf_seat T) (ok_Shelf_seat T) (hrm.mono (by decide)) (bd_Shelf_seat T) (E := E0s) (fun _ => passAt0) (pa_cons (pv 1) pa_nil))) (pss_cons (ps_if (pt_cmpR op_lt (pv 4) (pe_callB call_len_seq (by rfl) (b_len T) q_len (pa_cons (pe_fl (c_Shelf T) (n_Shelf_line T) (pv 0)) pa_nil)) (nomark _)) (pss_cons (ps_asg (pe_tup (pa_cons (pv 1) (pa_cons (pv 2) (pa_cons (pv 3) pa_nil)))) (pg_sub (pe_fl (c_Shelf T) (n_Shelf_line T) (pv 0)) (pv 4) set_list)) (pss_one (ps_ret pe_non))) pss_nil) (pss_cons (ps_expr (pe_bm PySem.F.plainAttrs_list PySem.F.slot_list_append PySem.F.type_list_append mt_append (pe_fl (c_Shelf T) (n_Shelf_line T) (pv 0)) (pa_cons (pe_tup (pa_cons (pv 1) (pa_cons (pv 2) (pa_cons (pv 3) pa_nil)))) pa_nil))) (pss_cons (ps_if (pt_cmpR op_le (pe_callB call_len_seq (by rfl) (b_len T) q_len (pa_cons (pe_fl (c_Shelf T) (n_Shelf_line T) (pv 0)) pa_nil)) (pe_fl (c_Shelf T) (n_Shelf_most T) (pv 0)) (nomark _)) (pss_one (ps_ret pe_non)) pss_nil) (pss_one (ps_ret (pe_ix ix_tup (pe_bm PySem.F.plainAttrs_list PySem.F.slot_list_pop PySem.F.type_list_pop mt_popAt (pe_fl (c_Shelf T) (n_Shelf_line T) (pv 0)) (pa_cons pe_int pa_nil)) pe_int (fun _ _ => rfl)))))))), ?_⟩
  obtain ⟨r, W⟩ := A.wy k o
  refine ⟨_, rfl, _, _, _, rfl, W.hs, rfl, _, rfl, n, S.F.g, S.y k, k, r, S.c, a, rfl, W, fun i H1 hi s1 => ?_⟩
  have W1 := W.same s1
  have A1 := A.same s1
  have tup : ∀ {t}, H1 t = none → At K n (S.sc (colS S.c t (.way k 8))) (L2.upd H1 t (.tup [nv a, nv b, nv d])) ∧ WayAt K n S.F.g (S.y k) k r (colS S.c t (.way k 8)) (L2.upd H1 t (.tup [nv a, nv b, nv d])) ∧
      KeepU S.c H (colS S.c t (.way k 8)) (L2.upd H1 t (.tup [nv a, nv b, nv d])) ∧ RowAt k (colS S.c t (.way k 8)) (L2.upd H1 t (.tup [nv a, nv b, nv d])) (.ref t) := fun {t} ht =>
    ⟨A1.newC ht, W1.keep (T := fun _ => False) (.newC ht) (fun _ z => z), (Keep.same s1).trans (.newC ht), t, a, b, d, rfl, upd_same, colS_same⟩
  refine ⟨_, rfl, _, rfl, _, _, _, _, rfl, W1.hs, rfl, _, _, rfl, .inl (SqL.of W1.hl), _, _, rfl, rfl, _, rfl, ?_⟩
  by_cases e : i < r.line.length
  · rw [decide_eq_true (show ((i : Nat) : Int) < ((r.line.length : Nat) : Int) by omega)]
    refine iteT ⟨_, rfl, _, rfl, _, rfl, szl len3, fun t ht => ?_⟩
    obtain ⟨A2, W2, k2, r2⟩ := tup ht
    refine ⟨_, rfl, _, _, _, _, rfl, W2.hs, rfl, _, rfl, _, _, _, i, rfl, rfl, W2.hl, ixN_lt e, ?_⟩
    obtain ⟨A3, k3⟩ := line_step (l := r.line.set i (.ref t)) A2 W2 (by rw [List.length_set]; exact W2.ml) (fun v hv => by
      rcases mem_set' hv with z | z
      · exact W2.rows v z
      · rw [z]; exact r2)
    exact q _ _ _ A3 (k2.trans k3) (.inl rfl)
  · rw [decide_eq_false (show ¬ ((i : Nat) : Int) < ((r.line.length : Nat) : Int) by omega)]
    refine iteF ⟨_, rfl, _, _, _, _, rfl, W1.hs, rfl, .inl ⟨rfl, _, SqL.of W1.hl⟩, _, rfl, _, rfl, _, rfl, szl len3, fun t ht => ?_⟩
    obtain ⟨A2, W2, k2, r2⟩ := tup ht
    have hml := W.ml
    have hmo := W.mo
    refine ⟨_, _, _, rfl, rfl, W2.hl, by rw [sizeLine_eq]; omega, ?_⟩
    have hs3 := W2.kk (v := .lst (r.line ++ [V.ref t])) W2.tl W2.hs W2.ts (by decide)
    refine ⟨_, rfl, _, _, _, _, rfl, hs3, rfl, _, _, rfl, .inl (SqL.of upd_same), _, rfl, _, _, _, _, rfl, hs3, rfl, _, _, rfl, rfl, _, rfl, ?_⟩
    have el : (r.line ++ [V.ref t]).length = r.line.length + 1 := by rw [List.length_append]; rfl
    rw [el]
    have rows : ∀ v ∈ r.line ++ [V.ref t], RowAt k (colS S.c t (.way k 8)) (L2.upd H1 t (.tup [nv a, nv b, nv d])) v := fun v hv => by
      rcases List.mem_append.mp hv with z | z
      · exact W2.rows v z
      · rw [List.mem_singleton.mp z]; exact r2
    by_cases e2 : r.line.length + 1 ≤ r.most
    · rw [decide_eq_true (show ((r.line.length + 1 : Nat) : Int) ≤ ((r.most : Nat) : Int) by omega)]
      refine iteT ?_
      obtain ⟨A3, k3⟩ := line_step (l := r.line ++ [V.ref t]) A2 W2 (by rw [el]; exact e2) rows
      exact q _ _ _ A3 (k2.trans k3) (.inl rfl)
    · rw [decide_eq_false (show ¬ ((r.line.length + 1 : Nat) : Int) ≤ ((r.most : Nat) : Int) by omega)]
      refine iteF ?_
      have z0 : ∃ v, (r.line ++ [V.ref t])[0]? = some v := ⟨_, List.getElem?_eq_getElem (by rw [el]; omega)⟩
      obtain ⟨v, hv⟩ := z0
      obtain ⟨p, x1, x2, x3, rfl, ep, cp⟩ := rows v (List.mem_of_getElem? hv)
      refine ⟨_, rfl, _, _, _, _, rfl, hs3, rfl, .inl ⟨rfl, _, SqL.of upd_same⟩, _, _, 0, 0, _, rfl, rfl, upd_same, by decide, by decide, ?_, hv, ?_⟩
      · exact seqIx (i := 0) (by rw [el]; omega)
      · rw [upd_upd]
        obtain ⟨A3, k3⟩ := line_step (l := (r.line ++ [V.ref t]).eraseIdx 0) A2 W2 (by rw [List.length_eraseIdx, el]; split <;> omega) (fun v hv => rows v (List.mem_of_mem_eraseIdx hv))
        have ep' := W2.kk (v := .lst ((r.line ++ [V.ref t]).eraseIdx 0)) W2.tl ep cp (by decide)
        exact ⟨_, _, _, _, rfl, rfl, SqT.of ep', rfl, q _ _ _ A3 (k2.trans k3) (.inr ⟨x1, rfl⟩)⟩
def spShDrop (K : PySem.W.Frag) : Sp := fun vs H Q _ => ∃ (n : Nat) (S : Sy) (k : Bool) (a : Nat), vs = [.ref (S.y k).sh, nv a] ∧ At K n S H ∧ S.on k ∧ ∀ b H', At K n S H' → KeepU S.c H S.c H' → Q (.bl b) H'
theorem ok_Shelf_drop (T : Tx K mg) : FnC P w K mg base 2 (fAd K ("Shelf", some "drop")) (fdat K ("Shelf", some "drop")) ["self", "number"] (spShDrop K) := by
  refine fnC (fd_Shelf_drop T) sc_Shelf_drop (fun vs H Q E h => ?_) (fun cdv A0 outer s H vs Q E hrm h => ?_)
  · obtain ⟨n, S, k, a, rfl, _⟩ := h
    rfl
  obtain ⟨n, S, k, a, rfl, A, o, q⟩ := h
  refine ⟨_, (pss_cons (ps_set (i := 2) sc_Shelf_drop.nd rfl (by first | exact Or.inl rfl | exact Or.inr rfl) (pe_m rfl (pv 0) (c_Shelf T) (m_Shelf_seat T) (ok_Shelf_seat T) (hrm.mono (by decide)) (bd_Shelf_seat T) (E := E0s) (fun _ => passAt0) (pa_cons (pv 1) pa_nil))) (pss_cons (ps_if (pt_cmpR op_eq (pv 2) (pe_callB call_len_seq (by rfl) (b_len T) q_len (pa_cons (pe_fl (c_Shelf T) (n_Shelf_line T) (pv 0)) pa_nil)) (nomark _)) (pss_one (ps_ret pe_bl)) pss_nil) (pss_cons (ps_expr (pe_bm PySem.F.plainAttrs_list PySem.F.slot_list_pop PySem.F.type_list_pop mt_popAt (pe_fl (c_Shelf T) (n_Shelf_line T) (pv 0)) (pa_cons (pv 2) pa_nil))) (pss_one (ps_ret pe_bl))))), ?_⟩
  obtain ⟨r, W⟩ := A.wy k o
  refine ⟨_, rfl, _, _, _, rfl, W.hs, rfl, _, rfl, n, S.F.g, S.y k, k, r, S.c, a, rfl, W, fun i H1 hi s1 => ?_⟩
  have W1 := W.same s1
  have A1 := A.same s1
  refine ⟨_, rfl, _, rfl, _, _, _, _, rfl, W1.hs, rfl, _, _, rfl, .inl (SqL.of W1.hl), rfl, _, rfl, ?_⟩
  by_cases e : i = r.line.length
  · refine Eq.mpr (if_pos (show decide (nv i = nv r.line.length) = true from decide_eq_true (by rw [e]))) ?_
    exact q _ H1 A1 (.same s1)
  · refine Eq.mpr (if_neg (show ¬ decide (nv i = nv r.line.length) = true by rw [eq_nv]; exact fun z => e (of_decide_eq_true z))) ?_
    obtain ⟨p, x1, x2, x3, e1, e2⟩ := line_at W1 (i := i) (by omega)
    have hml := W.ml
    have hmo := W.mo
    refine ⟨_, rfl, _, _, _, _, rfl, W1.hs, rfl, .inl ⟨rfl, _, SqL.of W1.hl⟩, _, rfl, _, _, (i : Int), i, _, rfl, rfl, W1.hl, by omega, by omega, ?_, e1, ?_⟩
    · exact seqIx (by omega)
    · obtain ⟨A3, k3⟩ := line_step (l := r.line.eraseIdx i) A1 W1 (by rw [List.length_eraseIdx]; have := W1.ml; split <;> omega) (fun v hv => W1.rows v (List.mem_of_mem_eraseIdx hv))
      exact q _ _ A3 ((Keep.same s1).trans k3)
def spShEmpty (K : PySem.W.Frag) : Sp := fun vs H Q _ => ∃ (n : Nat) (S : Sy) (k : Bool), vs = [.ref (S.y k).sh] ∧ At K n S H ∧ S.on k ∧ ∀ c' H', At K n (S.sc c') H' → KeepU S.c H c' H' → Q .non H'
theorem ok_Shelf_empty (T : Tx K mg) : FnC P w K mg base 1 (fAd K ("Shelf", some "empty")) (fdat K ("Shelf", some "empty")) ["self"] (spShEmpty K) := by
  refine fnC (fd_Shelf_empty T) sc_Shelf_empty (fun vs H Q E h => ?_) (fun cdv A0 outer s H vs Q E hrm h => ?_)
  · obtain ⟨n, S, k, rfl, _⟩ := h
    rfl
  obtain ⟨n, S, k, rfl, A, o, q⟩ := h
  refine ⟨_, (pss_one (ps_fl (c_Shelf T) (n_Shelf_line T) (pv 0) (pe_lst pa_nil))), ?_⟩
  obtain ⟨r, W⟩ := A.wy k o
  refine ⟨szl (by show 0 ≤ 1000; decide), fun p hp => ?_⟩
  have kp : Keep (BT k) S.c H (colS S.c p (.way k 5)) (L2.upd (L2.upd H p (.lst [])) (S.y k).sh (.ins (ga K "Shelf") (S.y k).ds (shF { r with ln := p }))) :=
    (Keep.newC hp).trans (.upd (by rw [colS_ne (ne_of_none W.hs hp), W.ts]; rfl))
  have hs1 : L2.upd H p (.lst []) (S.y k).sh = some (.ins (ga K "Shelf") (S.y k).ds (shF r)) := by rw [upd_ne (ne_of_none W.hs hp)]; exact W.hs
  refine ⟨_, rfl, _, _, _, rfl, hs1, by show 2 < 1000; decide, ?_⟩
  exact q _ _ (A.rest kp (Nat.le_refl n) fun _ => W.new_ln hp) (KeepU.bt kp)
end K6
/-! Pairs, looked at as a store. -/
namespace K6
open PySem PySem.Spec PyProof.Rows L2 HotX L2H He
variable {P : Program} {w : World} {K : PySem.W.Frag} {mg : Str → Option Value} {base : Heap}
def spLets : Sp := fun vs H Q _ => ∃ (r : Nat) (w kn : Bool), vs = [nv r, .bl w, .bl kn] ∧ ∀ b, Q (.bl b) H
theorem ok_f_lets (T : Tx K mg) : FnC P w K mg base 2 (fAd K ("lets", none)) (fdat K ("lets", none)) ["rights", "write", "kernel"] spLets := by
  refine fnC (fd_f_lets T) sc_f_lets (fun vs H Q E h => ?_) (fun cdv A0 outer s H vs Q E hrm h => ?_)
  · obtain ⟨r, w, kn, rfl, _⟩ := h
    rfl
  obtain ⟨r, w, kn, rfl, q⟩ := h
  refine ⟨_, (pss_cons (ps_if (PW.pt (pw_and (pt_val (pe_fG (.inl rfl) (ok_f_has T) (hrm.mono (by decide)) (by rfl) (g_has T) (fd_f_has T).kp (bd_f_has T) (pa_cons (pv 0) (pa_cons (pe_gi (i_KERNEL T)) pa_nil)))) (pw_and1 (pt_not (pt_val (pv 2)))))) (pss_one (ps_ret pe_bl)) pss_nil) (pss_one (ps_ret (pe_or (pe_not (pv 1)) (pe_one (pe_fG (.inl rfl) (ok_f_has T) (hrm.mono (by decide)) (by rfl) (g_has T) (fd_f_has T).kp (bd_f_has T) (pa_cons (pv 0) (pa_cons (pe_op op_or (pe_gi (i_WRITABLE T)) (pe_gi (i_SOILED T))) pa_nil)))))))), ?_⟩
  refine ⟨_, rfl, r, 4, rfl, _, rfl, ?_⟩
  cases h4 : decide (r &&& 4 = 4) <;> cases kn <;> cases w
  all_goals try (exact iteT ⟨_, rfl, _, rfl, iteT (q false)⟩)
  all_goals first | refine iteF (iteF ?_) | refine iteT ⟨_, rfl, _, rfl, iteF ?_⟩
  all_goals first | exact ⟨_, rfl, _, rfl, _, rfl, iteT (q true)⟩ | exact ⟨_, rfl, _, rfl, _, rfl, iteF ⟨_, rfl, (2 : Int), (16 : Int), rfl, rfl, r, 18, rfl, q _⟩⟩
/-- a place that the shelf knows -/
def spOnShelf (K : PySem.W.Frag) : Sp := fun vs H Q _ => ∃ (n : Nat) (S : Sy) (k : Bool) (p : Nat) (w kn : Bool), vs = [.ref (S.y k).w, nv p, .bl w, .bl kn] ∧ At K n S H ∧ S.on k ∧
  (∀ H', Same H H' → Q .non H') ∧ ∀ pg H', Same H H' → ((S.y k).f pg).isSome = true → Q (nv pg) H'
theorem ok_Pairs_on_shelf (T : Tx K mg) : FnC P w K mg base 5 (fAd K ("Pairs", some "on_shelf")) (fdat K ("Pairs", some "on_shelf")) ["self", "place", "write", "kernel"] (spOnShelf K) := by
  refine fnC (fd_Pairs_on_shelf T) sc_Pairs_on_shelf (fun vs H Q E h => ?_) (fun cdv A0 outer s H vs Q E hrm h => ?_)
  · obtain ⟨n, S, k, p, w, kn, rfl, _⟩ := h
    rfl
  obtain ⟨n, S, k, p, w, kn, rfl, A, o, q1, q2⟩ := h
  refine ⟨_, (pss_cons (ps_if (pt_cmpR op_ge (pv 1) (pe_gi (i_PLACES T)) (nomark _)) (pss_one (ps_ret pe_non)) pss_nil) (pss_cons (ps_set (i := 4) sc_Pairs_on_shelf.nd rfl (by first | exact Or.inl rfl | exact Or.inr rfl) (pe_m rfl (pe_fl (c_Pairs T) (n_Pairs_held T) (pv 0)) (c_Shelf T) (m_Shelf_seek T) (ok_Shelf_seek T) (hrm.mono (by decide)) (bd_Shelf_seek T) (E := E0s) (fun _ => passAt0) (pa_cons (pe_op op_fdiv (pv 1) pe_int) pa_nil))) (pss_cons (ps_if (PW.pt (pw_or (pt_cmpR op_isN (pv 4) pe_non (nomark _)) (pw_or (pt_not (pt_val (pe_m rfl (pv 0) (c_Pairs T) (m_Pairs_has T) (ok_Pairs_has T) (hrm.mono (by decide)) (bd_Pairs_has T) (E := E0s) (fun _ => passAt0) (pa_cons (pe_ix ix_tup (pv 4) pe_int (fun _ _ => rfl)) pa_nil)))) (pw_or1 (pt_not (pt_val (pe_f rfl (ok_f_lets T) (hrm.mono (by decide)) (by rfl) (g_lets T) (fd_f_lets T).kp (bd_f_lets T) (E := E0s) (fun _ => passAt0) (pa_cons (pe_ix ix_tup (pv 4) pe_int (fun _ _ => rfl)) (pa_cons (pv 2) (pa_cons (pv 3) pa_nil)))))))))) (pss_one (ps_ret pe_non)) pss_nil) (pss_one (ps_ret (pe_ix ix_tup (pv 4) pe_int (fun _ _ => rfl))))))), ?_⟩
  obtain ⟨r, W⟩ := A.wy k o
  refine ⟨_, rfl, _, _, rfl, rfl, _, rfl, ?_⟩
  by_cases h : (512 : Int) ≤ (p : Int)
  · rw [decide_eq_true h]
    exact iteT (q1 H Same.refl')
  rw [decide_eq_false h]
  refine iteF ⟨_, rfl, _, _, _, _, rfl, W.hw, rfl, _, _, _, rfl, W.hs, rfl, _, rfl, (p : Int), 8, rfl, rfl, ⟨by decide, by decide⟩, ?_⟩
  have e8 : (p : Int) / 8 = ((p / 8 : Nat) : Int) := by omega
  dsimp only
  rw [e8]
  refine ⟨n, S.F.g, S.y k, k, r, S.c, p / 8, rfl, W, fun H1 s1 => ?_, fun t a b H1 s1 ht => ?_⟩
  · exact ⟨_, rfl, rfl, _, rfl, iteT (q1 H1 s1)⟩
  · have A1 := A.same s1
    obtain ⟨r1, W1⟩ := A1.wy k o
    refine ⟨_, rfl, rfl, _, rfl, iteF ⟨_, rfl, _, _, _, rfl, W1.hw, rfl, _, rfl, _, _, _, _, rfl, rfl, SqT.of ht, rfl, n, S, k, a, rfl, A1, o, ?_⟩⟩
    cases hs : ((S.y k).f a).isSome with
    | false => exact ⟨_, rfl, iteT (q1 H1 s1)⟩
    | true =>
      refine ⟨_, rfl, iteF ?_⟩
      refine ⟨_, rfl, _, _, _, _, rfl, rfl, SqT.of ht, rfl, _, rfl, _, rfl, b, w, kn, rfl, fun bb => ?_⟩
      cases bb with
      | false => exact ⟨_, rfl, iteT (q1 H1 s1)⟩
      | true => exact ⟨_, rfl, iteF ⟨_, rfl, _, _, _, _, rfl, rfl, SqT.of ht, rfl, q2 a H1 s1 hs⟩⟩
/-- a row is looked at: a page that is there, or any fault -/
def spLookByP (K : PySem.W.Frag) : Sp := fun vs H Q E => ∃ (n : Nat) (S : Sy) (k : Bool) (r p lv : Nat) (w kn : Bool), vs = [.ref (S.y k).w, nv r, nv p, nv lv, .bl w, .bl kn] ∧ At K n S H ∧ S.on k ∧ (((S.y k).f (r / 256)).isSome = true → Q (nv (r / 256)) H) ∧ ∀ kd, FaultK K E H kd (nv p) (nv lv)
theorem okx_look_by_P (T : Tx K mg) : FnX P w K mg base 5 (fAd K ("look_by", none)) (fdat K ("look_by", none)) ["store", "row", "place", "level", "write", "kernel"] (spLookByP K) := by
  refine fnX (fd_f_look_by T) sc_f_look_by (fun vs H Q E h => ?_) (fun cdv A0 outer s H vs Q E hrm h => ?_)
  · obtain ⟨n, S, k, r, p, lv, w, kn, rfl, _⟩ := h
    rfl
  obtain ⟨n, S, k, r, p, lv, w, kn, rfl, A, o, q, kx⟩ := h
  refine ⟨_, (pss_cons (ps_set (i := 6) sc_f_look_by.nd rfl (by first | exact Or.inl rfl | exact Or.inr rfl) (pe_fG (.inl rfl) (ok_f_page_of T) (hrm.mono (by decide)) (by rfl) (g_page_of T) (fd_f_page_of T).kp (bd_f_page_of T) (pa_cons (pv 1) pa_nil))) (pss_cons (ps_if (pt_not (pt_val (pe_fG (.inl rfl) (ok_f_has T) (hrm.mono (by decide)) (by rfl) (g_has T) (fd_f_has T).kp (bd_f_has T) (pa_cons (pv 1) (pa_cons (pe_gi (i_PRESENT T)) pa_nil))))) (pss_one (L2N.ps_raise rfl (L2N.takes_of rfl rfl rfl rfl) (pmk_fault T rfl (hrm.mono (by decide)) (pa_cons pe_str (pa_cons (pv 2) (pa_cons (pv 3) pa_nil)))))) pss_nil) (pss_cons (ps_if (pt_not (pt_val (pe_m rfl (pv 0) (c_Pairs T) (m_Pairs_has T) (ok_Pairs_has T) (hrm.mono (by decide)) (bd_Pairs_has T) (E := E0s) (fun _ => passAt0) (pa_cons (pv 6) pa_nil)))) (pss_one (L2N.ps_raise rfl (L2N.takes_of rfl rfl rfl rfl) (pmk_fault T rfl (hrm.mono (by decide)) (pa_cons pe_str (pa_cons (pv 2) (pa_cons (pv 3) pa_nil)))))) pss_nil) (pss_cons (ps_if (PW.pt (pw_and (pt_val (pe_fG (.inl rfl) (ok_f_has T) (hrm.mono (by decide)) (by rfl) (g_has T) (fd_f_has T).kp (bd_f_has T) (pa_cons (pv 1) (pa_cons (pe_gi (i_KERNEL T)) pa_nil)))) (pw_and1 (pt_not (pt_val (pv 5)))))) (pss_one (L2N.ps_raise rfl (L2N.takes_of rfl rfl rfl rfl) (pmk_fault T rfl (hrm.mono (by decide)) (pa_cons pe_str (pa_cons (pv 2) (pa_cons (pv 3) pa_nil)))))) pss_nil) (pss_cons (ps_if (PW.pt (pw_and (pt_val (pv 4)) (pw_and1 (pt_not (pt_val (pe_fG (.inl rfl) (ok_f_has T) (hrm.mono (by decide)) (by rfl) (g_has T) (fd_f_has T).kp (bd_f_has T) (pa_cons (pv 1) (pa_cons (pe_gi (i_WRITABLE T)) pa_nil)))))))) (pss_one (L2N.ps_raise rfl (L2N.takes_of rfl rfl rfl rfl) (pmk_fault T rfl (hrm.mono (by decide)) (pa_cons pe_str (pa_cons (pv 2) (pa_cons (pv 3) pa_nil)))))) pss_nil) (pss_one (ps_ret (pv 6)))))))), ?_⟩
  obtain ⟨rr, W⟩ := A.wy k o
  refine ⟨_, rfl, r, rfl, ?_⟩
  refine ⟨_, rfl, r, 1, rfl, ?_⟩
  cases h1 : decide (r &&& 1 = 1) with
  | false => exact ⟨_, rfl, iteT ⟨_, rfl, _, rfl, len3, mkfault (kx _)⟩⟩
  | true =>
  refine ⟨_, rfl, iteF ⟨_, rfl, _, _, _, rfl, W.hw, rfl, _, rfl, n, S, k, r / 256, rfl, A, o, ?_⟩⟩
  cases h2 : ((S.y k).f (r / 256)).isSome with
  | false => exact ⟨_, rfl, iteT ⟨_, rfl, _, rfl, len3, mkfault (kx _)⟩⟩
  | true =>
  have q := q h2
  refine ⟨_, rfl, iteF ⟨_, rfl, r, 4, rfl, _, rfl, ?_⟩⟩
  cases h4 : decide (r &&& 4 = 4) <;> cases kn <;> cases w
  all_goals try (exact iteT ⟨_, rfl, _, rfl, iteT ⟨_, rfl, _, rfl, len3, mkfault (kx _)⟩⟩)
  all_goals first | refine iteF (iteF ?_) | refine iteT ⟨_, rfl, _, rfl, iteF ?_⟩
  all_goals try (exact ⟨_, rfl, false, rfl, iteF (iteF ⟨_, rfl, q⟩)⟩)
  all_goals
    refine ⟨_, rfl, true, rfl, iteT ⟨_, rfl, r, 2, rfl, ?_⟩⟩
    cases h5 : decide (r &&& 2 = 2) with
    | false => exact ⟨_, rfl, iteT ⟨_, rfl, _, rfl, len3, mkfault (kx _)⟩⟩
    | true => exact ⟨_, rfl, iteF ⟨_, rfl, q⟩⟩
/-- what a fault leaves behind -/
def Fx (K : PySem.W.Frag) (E : Value → Option Addr → Hp → Prop) (n : Nat) (k : Bool) (S : Sy) (H : Hp) (p : Nat) : Prop := ∀ (S' : Sy) (H' : Hp) (kd : Str) (lv : Nat), At K n S' H' → Good S' → Rel k S S' → KeepU S.c H S'.c H' → FaultK K E H' kd (nv p) (nv lv)
def Spot (S : Sy) (k : Bool) (i o : Nat) : Prop := ((S.y k).f i).isSome = true ∧ o < 8
theorem Spot.pres {S S' : Sy} {k : Bool} {i o : Nat} (s : Spot S k i o) (p : Pres S S') : Spot S' k i o := ⟨by rw [p k i]; exact s.1, s.2⟩
theorem isS {o : Option Nat} (h : o.isSome = true) : ∃ f, o = some f := Option.isSome_iff_exists.mp h
def spLookP (K : PySem.W.Frag) : Sp := fun vs H Q E => ∃ (n : Nat) (S : Sy) (k : Bool) (root p : Nat) (w kn : Bool), vs = [.ref (S.y k).w, nv root, nv p, .bl w, .bl kn] ∧ At K n S H ∧ Good S ∧ Fx K E n k S H p ∧
  ∀ v o tb i pg z S' H', At K n S' H' → Good S' → Rel k S S' → Pres S S' → KeepU S.c H S'.c H' → Trail S'.c H' v root o tb i pg z → Spot S' k root o → Spot S' k tb i → ((S'.y k).f pg).isSome = true → Q v H'
theorem okx_look_P (T : Tx K mg) : FnX P w K mg base 10 (fAd K ("look", none)) (fdat K ("look", none)) ["store", "root", "place", "write", "kernel"] (spLookP K) := by
  refine fnX (fd_f_look T) sc_f_look (fun vs H Q E h => ?_) (fun cdv A0 outer s H vs Q E hrm h => ?_)
  · obtain ⟨n, S, k, root, p, w, kn, rfl, _⟩ := h
    rfl
  obtain ⟨n, S, k, root, p, w, kn, rfl, A, G, fx, q⟩ := h
  refine ⟨_, (pss_cons (ps_if (pt_cmpR op_gt (pv 2) (pe_gi (i_LAST T)) (nomark _)) (pss_one (L2N.ps_raise rfl (L2N.takes_of rfl rfl rfl rfl) (pmk_fault T rfl (hrm.mono (by decide)) (pa_cons pe_str (pa_cons (pv 2) (pa_cons pe_int pa_nil)))))) pss_nil) (pss_cons (ps_if (pt_not (pt_val (pe_m rfl (pv 0) (c_Pairs T) (m_Pairs_has T) (ok_Pairs_has T) (hrm.mono (by decide)) (bd_Pairs_has T) (E := E0s) (fun _ => passAt0) (pa_cons (pv 1) pa_nil)))) (pss_one (L2N.ps_raise rfl (L2N.takes_of rfl rfl rfl rfl) (pmk_fault T rfl (hrm.mono (by decide)) (pa_cons pe_str (pa_cons (pv 2) (pa_cons pe_int pa_nil)))))) pss_nil) (pss_cons (ps_asg (pe_fG (.inl rfl) (ok_f_parts_of T) (hrm.mono (by decide)) (by rfl) (g_parts_of T) (fd_f_parts_of T).kp (bd_f_parts_of T) (pa_cons (pv 2) pa_nil)) (pg_tupG (.inl rfl) (pgs_cons (pg_name (i := 5) sc_f_look.nd rfl (by first | exact Or.inl rfl | exact Or.inr rfl)) (pgs_cons (pg_name (i := 6) sc_f_look.nd rfl (by first | exact Or.inl rfl | exact Or.inr rfl)) (pgs_cons (pg_name (i := 7) sc_f_look.nd rfl (by first | exact Or.inl rfl | exact Or.inr rfl)) pgs_nil))))) (pss_cons (ps_set (i := 8) sc_f_look.nd rfl (by first | exact Or.inl rfl | exact Or.inr rfl) (pe_m rfl (pv 0) (c_Pairs T) (m_Pairs_read T) (ok_Pairs_read T) (hrm.mono (by decide)) (bd_Pairs_read T) (E := E0s) (fun _ => passAt0) (pa_cons (pv 1) (pa_cons (pv 5) pa_nil)))) (pss_cons (ps_set (i := 9) sc_f_look.nd rfl (by first | exact Or.inl rfl | exact Or.inr rfl) (pe_f rfl (okx_look_by_P T) (hrm.mono (by decide)) (by rfl) (g_look_by T) (fd_f_look_by T).kp (bd_f_look_by T) (fun σ => L2N.passAt (L2N.takes_of rfl rfl rfl rfl) σ) (pa_cons (pv 0) (pa_cons (pv 8) (pa_cons (pv 2) (pa_cons pe_int (pa_cons (pv 3) (pa_cons (pv 4) pa_nil)))))))) (pss_cons (ps_set (i := 10) sc_f_look.nd rfl (by first | exact Or.inl rfl | exact Or.inr rfl) (pe_m rfl (pv 0) (c_Pairs T) (m_Pairs_read T) (ok_Pairs_read T) (hrm.mono (by decide)) (bd_Pairs_read T) (E := E0s) (fun _ => passAt0) (pa_cons (pv 9) (pa_cons (pv 6) pa_nil)))) (pss_cons (ps_set (i := 11) sc_f_look.nd rfl (by first | exact Or.inl rfl | exact Or.inr rfl) (pe_f rfl (okx_look_by_P T) (hrm.mono (by decide)) (by rfl) (g_look_by T) (fd_f_look_by T).kp (bd_f_look_by T) (fun σ => L2N.passAt (L2N.takes_of rfl rfl rfl rfl) σ) (pa_cons (pv 0) (pa_cons (pv 10) (pa_cons (pv 2) (pa_cons pe_int (pa_cons (pv 3) (pa_cons (pv 4) pa_nil)))))))) (pss_one (ps_ret (pe_tup (pa_cons (pe_tup (pa_cons (pv 1) (pa_cons (pv 5) pa_nil))) (pa_cons (pe_tup (pa_cons (pv 9) (pa_cons (pv 6) pa_nil))) (pa_cons (pv 11) (pa_cons (pe_fG (.inl rfl) (ok_f_rights_of T) (hrm.mono (by decide)) (by rfl) (g_rights_of T) (fd_f_rights_of T).kp (bd_f_rights_of T) (pa_cons (pv 8) (pa_cons (pv 10) pa_nil))) pa_nil)))))))))))))), ?_⟩
  have on := G.on k
  obtain ⟨rr, W⟩ := A.wy k on
  have ku : KeepU S.c H S.c H := fun _ _ h _ => ⟨h, rfl⟩
  refine ⟨_, rfl, _, _, rfl, rfl, _, rfl, ?_⟩
  by_cases hp : (511 : Int) < (p : Int)
  · rw [decide_eq_true hp]
    exact iteT ⟨_, rfl, len3, mkfault (fx S H _ 0 A G .refl ku)⟩
  rw [decide_eq_false hp]
  refine iteF ⟨_, rfl, _, _, _, rfl, W.hw, rfl, _, rfl, n, S, k, root, rfl, A, on, ?_⟩
  cases hr : ((S.y k).f root).isSome with
  | false => exact ⟨_, rfl, iteT ⟨_, rfl, len3, mkfault (fx S H _ 0 A G .refl ku)⟩⟩
  | true =>
  refine ⟨_, rfl, iteF ⟨_, rfl, p, rfl, by omega, fun t H1 s1 ht0 ht => ?_⟩⟩
  have A1 := A.same s1
  obtain ⟨r1, W1⟩ := A1.wy k on
  refine ⟨_, _, rfl, SqT.of ht, rfl, _, _, rfl, _, _, rfl, _, _, rfl, rfl, ?_⟩
  obtain ⟨f, hf⟩ := isS hr
  refine ⟨_, rfl, _, _, _, rfl, W1.hw, rfl, _, rfl, _, rfl, n, S, k, root, f, p / 64, rfl, A1, G, hf, by omega, fun x S2 H2 A2 G2 Q2 P2 k2 x48 => ?_⟩
  have o2 := G2.on k
  obtain ⟨r2, W2⟩ := A2.wy k o2
  have ew2 := (Q2 k).w k
  have kk2 := (Keep.same s1).trans k2
  refine ⟨_, rfl, _, rfl, _, rfl, _, rfl, _, rfl, n, S2, k, x, p, 1, w, kn, by rw [ew2]; rfl, A2, o2, fun h2 => ?_, fun kd => fx S2 H2 kd 1 A2 G2 (Q2 k) kk2⟩
  have hw2 := W2.hw
  rw [ew2] at hw2
  obtain ⟨f2, hf2⟩ := isS h2
  refine ⟨_, rfl, _, _, _, rfl, hw2, rfl, _, rfl, _, rfl, n, S2, k, x / 256, f2, p / 8 % 8, by rw [ew2], A2, G2, hf2, by omega, fun y S3 H3 A3 G3 Q3 P3 k3 y48 => ?_⟩
  have o3 := G3.on k
  obtain ⟨r3, W3⟩ := A3.wy k o3
  have ew3 := ((Q2 k).trans (Q3 k)).w k
  have kk3 := kk2.trans k3
  refine ⟨_, rfl, _, rfl, _, rfl, _, rfl, _, rfl, n, S3, k, y, p, 2, w, kn, by rw [ew3]; rfl, A3, o3, fun h3 => ?_, fun kd => fx S3 H3 kd 2 A3 G3 ((Q2 k).trans (Q3 k)) kk3⟩
  refine ⟨_, rfl, _, rfl, len2, fun a ha => ⟨_, rfl, _, rfl, len2, fun b hb => ⟨_, rfl, _, rfl, _, rfl, x, y, rfl, fun z => ⟨len4, fun tr' htr => ?_⟩⟩⟩⟩
  obtain ⟨q1, q2⟩ := trail_new (c := S3.c) (pg := y / 256) (z := z) ha hb htr
  have A4 := A3.keep q1 (fun _ _ z => z) fun _ _ _ z => z
  have sp1 : Spot S3 k root (p / 64) := ⟨by rw [P3 k, P2 k]; exact hr, by omega⟩
  have sp2 : Spot S3 k (x / 256) (p / 8 % 8) := ⟨by rw [P3 k]; exact h2, by omega⟩
  exact q _ (p / 64) (x / 256) (p / 8 % 8) (y / 256) z _ _ A4 G3.sc ((Q2 k).trans (Q3 k)).scr (P2.trans P3) (kk3.trans (q1.u fun z => z)) q2 sp1 sp2 h3
def spStampP (K : PySem.W.Frag) : Sp := fun vs H Q _ => ∃ (n : Nat) (S : Sy) (k : Bool) (s : Addr) (i o m : Nat), vs = [.ref (S.y k).w, .ref s, nv m] ∧ At K n S H ∧ Good S ∧ H s = some (.tup [nv i, nv o]) ∧ S.c s = .no ∧ Spot S k i o ∧ m < 256 ∧
  ∀ S' H', At K n S' H' → Good S' → Rel k S S' → Pres S S' → KeepU S.c H S'.c H' → Q .non H'
theorem ok_stamp_P (T : Tx K mg) : FnC P w K mg base 12 (fAd K ("stamp", none)) (fdat K ("stamp", none)) ["store", "spot", "marks"] (spStampP K) := by
  refine fnC (fd_f_stamp T) sc_f_stamp (fun vs H Q E h => ?_) (fun cdv A0 outer s H vs Q E hrm h => ?_)
  · obtain ⟨n, S, k, s, i, o, m, rfl, _⟩ := h
    rfl
  obtain ⟨n, S, k, s, i, o, m, rfl, A, G, hs, cs, sp, hm, q⟩ := h
  refine ⟨_, (pss_cons (ps_set (i := 3) sc_f_stamp.nd rfl (by first | exact Or.inl rfl | exact Or.inr rfl) (pe_m rfl (pv 0) (c_Pairs T) (m_Pairs_read T) (ok_Pairs_read T) (hrm.mono (by decide)) (bd_Pairs_read T) (E := E0s) (fun _ => passAt0) (pa_cons (pe_ix ix_tup (pv 1) pe_int (fun _ _ => rfl)) (pa_cons (pe_ix ix_tup (pv 1) pe_int (fun _ _ => rfl)) pa_nil)))) (pss_one (ps_if (pt_not (pt_val (pe_fG (.inl rfl) (ok_f_has T) (hrm.mono (by decide)) (by rfl) (g_has T) (fd_f_has T).kp (bd_f_has T) (pa_cons (pv 3) (pa_cons (pv 2) pa_nil))))) (pss_one (ps_expr (pe_m rfl (pv 0) (c_Pairs T) (m_Pairs_write T) (ok_Pairs_write T) (hrm.mono (by decide)) (bd_Pairs_write T) (E := E0s) (fun _ => passAt0) (pa_cons (pe_ix ix_tup (pv 1) pe_int (fun _ _ => rfl)) (pa_cons (pe_ix ix_tup (pv 1) pe_int (fun _ _ => rfl)) (pa_cons (pe_fG (.inl rfl) (ok_f_put T) (hrm.mono (by decide)) (by rfl) (g_put T) (fd_f_put T).kp (bd_f_put T) (pa_cons (pv 3) (pa_cons (pv 2) pa_nil))) pa_nil)))))) pss_nil))), ?_⟩
  have on := G.on k
  obtain ⟨rr, W⟩ := A.wy k on
  obtain ⟨f, hf⟩ := isS sp.1
  refine ⟨_, rfl, _, _, _, rfl, W.hw, rfl, _, rfl, _, _, _, _, rfl, rfl, SqT.of hs, rfl, _, rfl, _, _, _, _, rfl, rfl, SqT.of hs, rfl, n, S, k, i, f, o, rfl, A, G, hf, sp.2, fun x S1 H1 A1 G1 Q1 P1 k1 x48 => ?_⟩
  obtain ⟨hs1, cs1⟩ := k1 s _ hs (by rw [cs]; exact fun z => z rfl)
  refine ⟨_, rfl, _, rfl, x, m, rfl, _, rfl, ?_⟩
  cases h : decide (x &&& m = m) with
  | true => exact iteF (q S1 H1 A1 G1 (Q1 k) P1 k1)
  | false =>
    refine iteT ?_
    obtain ⟨f1, hf1⟩ := isS (sp.pres P1).1
    obtain ⟨r1, W1⟩ := A1.wy k (G1.on k)
    have ew := (Q1 k).w k
    have hw1 := W1.hw
    rw [ew] at hw1
    refine ⟨_, rfl, _, _, _, rfl, hw1, rfl, _, rfl, _, _, _, _, rfl, rfl, SqT.of hs1, rfl, _, rfl, _, _, _, _, rfl, rfl, SqT.of hs1, rfl, _, rfl, _, rfl, x, m, rfl, ?_⟩
    exact ⟨n, S1, k, i, f1, o, x ||| m, by rw [ew], A1, G1, hf1, sp.2, or_lt x48 hm, fun S2 H2 A2 G2 R2 P2 k2 => q S2 H2 A2 G2 ((Q1 k).trans R2) (P1.trans P2) (k1.trans k2)⟩
def spMarkP (K : PySem.W.Frag) : Sp := fun vs H Q _ => ∃ (n : Nat) (S : Sy) (k : Bool) (v : V) (root o tb i pg z : Nat) (w : Bool), vs = [.ref (S.y k).w, v, .bl w] ∧ At K n S H ∧ Good S ∧ Trail S.c H v root o tb i pg z ∧ Spot S k root o ∧ Spot S k tb i ∧
  ∀ z' S' H', At K n S' H' → Good S' → Rel k S S' → Pres S S' → KeepU S.c H S'.c H' → Q (nv z') H'
theorem ok_mark_P (T : Tx K mg) : FnC P w K mg base 13 (fAd K ("mark", none)) (fdat K ("mark", none)) ["store", "trail", "write"] (spMarkP K) := by
  refine fnC (fd_f_mark T) sc_f_mark (fun vs H Q E h => ?_) (fun cdv A0 outer s H vs Q E hrm h => ?_)
  · obtain ⟨n, S, k, v, root, o, tb, i, pg, z, w, rfl, _⟩ := h
    rfl
  obtain ⟨n, S, k, v, root, o, tb, i, pg, z, w, rfl, A, G, t, s1, s2, q⟩ := h
  refine ⟨_, (pss_cons (ps_expr (pe_f rfl (ok_stamp_P T) (hrm.mono (by decide)) (by rfl) (g_stamp T) (fd_f_stamp T).kp (bd_f_stamp T) (E := E0s) (fun _ => passAt0) (pa_cons (pv 0) (pa_cons (pe_ix ix_tup (pv 1) pe_int (fun _ _ => rfl)) (pa_cons (pe_gi (i_TOUCHED T)) pa_nil))))) (pss_cons (ps_if (pt_not (pt_val (pv 2))) (pss_cons (ps_expr (pe_f rfl (ok_stamp_P T) (hrm.mono (by decide)) (by rfl) (g_stamp T) (fd_f_stamp T).kp (bd_f_stamp T) (E := E0s) (fun _ => passAt0) (pa_cons (pv 0) (pa_cons (pe_ix ix_tup (pv 1) pe_int (fun _ _ => rfl)) (pa_cons (pe_gi (i_TOUCHED T)) pa_nil))))) (pss_one (ps_ret (pe_ix ix_tup (pv 1) pe_int (fun _ _ => rfl))))) pss_nil) (pss_cons (ps_expr (pe_f rfl (ok_stamp_P T) (hrm.mono (by decide)) (by rfl) (g_stamp T) (fd_f_stamp T).kp (bd_f_stamp T) (E := E0s) (fun _ => passAt0) (pa_cons (pv 0) (pa_cons (pe_ix ix_tup (pv 1) pe_int (fun _ _ => rfl)) (pa_cons (pe_op op_or (pe_gi (i_TOUCHED T)) (pe_gi (i_SOILED T))) pa_nil))))) (pss_one (ps_ret (pe_op op_or (pe_ix ix_tup (pv 1) pe_int (fun _ _ => rfl)) (pe_gi (i_SOILED T)))))))), ?_⟩
  obtain ⟨ta, a, b, rfl, h1, h2, h3, c1, c2, c3⟩ := t
  refine ⟨_, rfl, _, rfl, _, _, _, _, rfl, rfl, SqT.of h1, rfl, n, S, k, a, root, o, 8, rfl, A, G, h2, c2, s1, by decide, fun S1 H1 A1 G1 R1 P1 k1 => ?_⟩
  have nn : ∀ {t : Tag}, t = .no → ¬ (t ≠ .no) := fun e z => z e
  obtain ⟨h1', c1'⟩ := k1 ta _ h1 (nn c1)
  obtain ⟨h3', c3'⟩ := k1 b _ h3 (nn c3)
  have ew := R1.w k
  cases w with
  | false =>
    refine ⟨_, rfl, false, rfl, iteT ?_⟩
    refine ⟨_, rfl, _, rfl, _, _, _, _, rfl, rfl, SqT.of h1', rfl, n, S1, k, b, tb, i, 8, by rw [ew]; rfl, A1, G1, h3', c3'.trans c3, s2.pres P1, by decide, fun S2 H2 A2 G2 R2 P2 k2 => ?_⟩
    obtain ⟨h1'', _⟩ := k2 ta _ h1' (nn (c1'.trans c1))
    exact ⟨_, rfl, _, _, _, _, rfl, rfl, SqT.of h1'', rfl, q z S2 H2 A2 G2 (R1.trans R2) (P1.trans P2) (k1.trans k2)⟩
  | true =>
    refine ⟨_, rfl, true, rfl, iteF ?_⟩
    refine ⟨_, rfl, _, rfl, _, _, _, _, rfl, rfl, SqT.of h1', rfl, (8 : Int), (16 : Int), rfl, rfl, n, S1, k, b, tb, i, 24, by rw [ew]; rfl, A1, G1, h3', c3'.trans c3, s2.pres P1, by decide, fun S2 H2 A2 G2 R2 P2 k2 => ?_⟩
    obtain ⟨h1'', _⟩ := k2 ta _ h1' (nn (c1'.trans c1))
    refine ⟨_, rfl, _, _, _, _, rfl, rfl, SqT.of h1'', rfl, (z : Int), ((16 : Nat) : Int), rfl, rfl, ?_⟩
    dsimp only
    rw [bor]
    exact q _ S2 H2 A2 G2 (R1.trans R2) (P1.trans P2) (k1.trans k2)
end K6
/-! Pairs: the deeds. -/
namespace K6
open PySem PySem.Spec PyProof.Rows L2 HotX L2H He
variable {P : Program} {w : World} {K : PySem.W.Frag} {mg : Str → Option Value} {base : Heap}
def spLeft : Sp := fun vs H Q _ => ∃ a b : V, vs = [a, b] ∧ Q .non H
theorem ok_Pairs_left (T : Tx K mg) : FnC P w K mg base 1 (fAd K ("Pairs", some "left")) (fdat K ("Pairs", some "left")) ["self", "number"] spLeft := by
  refine fnC (fd_Pairs_left T) sc_Pairs_left (fun vs H Q E h => ?_) (fun cdv A0 outer s H vs Q E hrm h => ?_)
  · obtain ⟨a, b, rfl, _⟩ := h
    rfl
  obtain ⟨a, b, rfl, q⟩ := h
  refine ⟨_, (pss_one ps_pass), ?_⟩
  exact q
def spLeftAll : Sp := fun vs H Q _ => ∃ a : V, vs = [a] ∧ Q .non H
theorem ok_Pairs_left_all (T : Tx K mg) : FnC P w K mg base 1 (fAd K ("Pairs", some "left_all")) (fdat K ("Pairs", some "left_all")) ["self"] spLeftAll := by
  refine fnC (fd_Pairs_left_all T) sc_Pairs_left_all (fun vs H Q E h => ?_) (fun cdv A0 outer s H vs Q E hrm h => ?_)
  · obtain ⟨a, rfl, _⟩ := h
    rfl
  obtain ⟨a, rfl, q⟩ := h
  refine ⟨_, (pss_one ps_pass), ?_⟩
  exact q
theorem div8 {p : Nat} : (p : Int) / 8 = ((p / 8 : Nat) : Int) := by omega
theorem mod8 {p : Nat} : (p : Int) % 8 = ((p % 8 : Nat) : Int) := by omega
theorem p08 : (0 : Int) < 8 := by decide
theorem c8 {p : Int} : CDiv p 8 := ⟨by decide, by decide⟩
theorem Rel.sh {k : Bool} {S S' : Sy} (r : Rel k S S') (j : Bool) : (S'.y j).sh = (S.y j).sh := by rw [r.obj j]
def spReach (K : PySem.W.Frag) : Sp := fun vs H Q E => ∃ (n : Nat) (S : Sy) (k : Bool) (p : Nat) (w kn : Bool), vs = [.ref (S.y k).w, nv p, .bl w, .bl kn] ∧ At K n S H ∧ Good S ∧ Fx K E n k S H p ∧
  ∀ pg S' H', At K n S' H' → Good S' → Rel k S S' → Pres S S' → KeepU S.c H S'.c H' → ((S'.y k).f pg).isSome = true → Q (nv pg) H'
theorem ok_Pairs_reach (T : Tx K mg) : FnX P w K mg base 14 (fAd K ("Pairs", some "reach")) (fdat K ("Pairs", some "reach")) ["self", "place", "write", "kernel"] (spReach K) := by
  refine fnX (fd_Pairs_reach T) sc_Pairs_reach (fun vs H Q E h => ?_) (fun cdv A0 outer s H vs Q E hrm h => ?_)
  · obtain ⟨n, S, k, p, w, kn, rfl, _⟩ := h
    rfl
  obtain ⟨n, S, k, p, w, kn, rfl, A, G, fx, q⟩ := h
  refine ⟨_, (pss_cons (ps_set (i := 4) sc_Pairs_reach.nd rfl (by first | exact Or.inl rfl | exact Or.inr rfl) (pe_m rfl (pv 0) (c_Pairs T) (m_Pairs_on_shelf T) (ok_Pairs_on_shelf T) (hrm.mono (by decide)) (bd_Pairs_on_shelf T) (E := E0s) (fun _ => passAt0) (pa_cons (pv 1) (pa_cons (pv 2) (pa_cons (pv 3) pa_nil))))) (pss_cons (ps_if (pt_cmpR op_notN (pv 4) pe_non (nomark _)) (pss_one (ps_ret (pv 4))) pss_nil) (pss_cons (ps_set (i := 5) sc_Pairs_reach.nd rfl (by first | exact Or.inl rfl | exact Or.inr rfl) (pe_f rfl (okx_look_P T) (hrm.mono (by decide)) (by rfl) (g_look T) (fd_f_look T).kp (bd_f_look T) (fun σ => L2N.passAt (L2N.takes_of rfl rfl rfl rfl) σ) (pa_cons (pv 0) (pa_cons (pe_fl (c_Pairs T) (n_Pairs_base T) (pv 0)) (pa_cons (pv 1) (pa_cons (pv 2) (pa_cons (pv 3) pa_nil))))))) (pss_cons (ps_set (i := 6) sc_Pairs_reach.nd rfl (by first | exact Or.inl rfl | exact Or.inr rfl) (pe_f rfl (ok_mark_P T) (hrm.mono (by decide)) (by rfl) (g_mark T) (fd_f_mark T).kp (bd_f_mark T) (E := E0s) (fun _ => passAt0) (pa_cons (pv 0) (pa_cons (pv 5) (pa_cons (pv 2) pa_nil))))) (pss_cons (ps_set (i := 7) sc_Pairs_reach.nd rfl (by first | exact Or.inl rfl | exact Or.inr rfl) (pe_m rfl (pe_fl (c_Pairs T) (n_Pairs_held T) (pv 0)) (c_Shelf T) (m_Shelf_keep T) (ok_Shelf_keep T) (hrm.mono (by decide)) (bd_Shelf_keep T) (E := E0s) (fun _ => passAt0) (pa_cons (pe_op op_fdiv (pv 1) pe_int) (pa_cons (pe_ix ix_tup (pv 5) pe_int (fun _ _ => rfl)) (pa_cons (pv 6) pa_nil))))) (pss_cons (ps_if (pt_cmpR op_notN (pv 7) pe_non (nomark _)) (pss_one (ps_expr (pe_m rfl (pv 0) (c_Pairs T) (m_Pairs_left T) (ok_Pairs_left T) (hrm.mono (by decide)) (bd_Pairs_left T) (E := E0s) (fun _ => passAt0) (pa_cons (pv 7) pa_nil)))) pss_nil) (pss_one (ps_ret (pe_ix ix_tup (pv 5) pe_int (fun _ _ => rfl)))))))))), ?_⟩
  have on := G.on k
  obtain ⟨rr, W⟩ := A.wy k on
  refine ⟨_, rfl, _, _, _, rfl, W.hw, rfl, _, rfl, _, rfl, _, rfl, n, S, k, p, w, kn, rfl, A, on, fun H1 s1 => ?_, fun pg H1 s1 hs => ?_⟩
  case refine_2 => exact ⟨_, rfl, rfl, _, rfl, iteT ⟨_, rfl, q pg S H1 (A.same s1) G .refl (fun _ _ => rfl) (.same s1) hs⟩⟩
  have A1 := A.same s1
  obtain ⟨r1, W1⟩ := A1.wy k on
  refine ⟨_, rfl, rfl, _, rfl, iteF ?_⟩
  refine ⟨_, rfl, _, rfl, _, _, _, _, rfl, W1.hw, rfl, _, rfl, _, rfl, _, rfl, n, S, k, r1.base, p, w, kn, rfl, A1, G, fun S' H' kd lv a b c d => fx S' H' kd lv a b c ((Keep.same s1).trans d), ?_⟩
  intro v o tb i pg z S2 H2 A2 G2 R2 P2 k2 t2 sp1 sp2 hs2
  have ew2 := R2.w k
  have kk2 := (Keep.same s1).trans k2
  refine ⟨_, rfl, _, rfl, _, rfl, n, S2, k, v, _, _, _, _, pg, z, w, by rw [ew2], A2, G2, t2, sp1, sp2, fun z' S3 H3 A3 G3 R3 P3 k3 => ?_⟩
  have o3 := G3.on k
  obtain ⟨r3, W3⟩ := A3.wy k o3
  have R23 := R2.trans R3
  have hw3 := W3.hw
  rw [R23.w k] at hw3
  have t3 := t2.keep k3 (fun z => z rfl)
  obtain ⟨ta, a, b, rfl, h1, _, _, c1, _⟩ := t3
  refine ⟨_, rfl, _, _, _, _, rfl, hw3, rfl, _, _, _, rfl, W3.hs, rfl, _, rfl, (p : Int), 8, rfl, rfl, c8, _, rfl, _, _, _, _, rfl, rfl, SqT.of h1, rfl, _, rfl, ?_⟩
  dsimp only
  rw [div8]
  refine ⟨n, S3, k, p / 8, pg, z', rfl, A3, o3, fun v4 c4 H4 A4 k4 hv => ?_⟩
  obtain ⟨h4, _⟩ := k4 ta _ h1 (by rw [c1]; exact fun z => z rfl)
  have fin : Q (nv pg) H4 := q pg _ H4 A4 G3.sc R23.scr (P2.trans P3) ((kk2.trans k3).trans k4) (by
    show ((S3.y k).f pg).isSome = true
    rw [P3 k pg]
    exact hs2)
  have k4' : KeepU S3.c H3 c4 H4 := k4
  have o4 : (S3.sc c4).on k := o3
  obtain ⟨r4, W4⟩ := A4.wy k o4
  have hw4 : H4 (S.y k).w = some (.ins (ga K "Pairs") (S3.y k).dw (wayF (S3.y k) r4 S3.F.g)) := by
    rw [← R23.w k]
    exact W4.hw
  rcases hv with rfl | ⟨zz, rfl⟩
  · exact ⟨_, rfl, rfl, _, rfl, iteF ⟨_, rfl, _, _, _, _, rfl, rfl, SqT.of h4, rfl, fin⟩⟩
  · exact ⟨_, rfl, rfl, _, rfl, iteT ⟨_, rfl, _, _, _, rfl, hw4, rfl, _, rfl, _, _, rfl, _, rfl, _, _, _, _, rfl, rfl, SqT.of h4, rfl, fin⟩⟩
def spLoad (K : PySem.W.Frag) : Sp := fun vs H Q E => ∃ (n : Nat) (S : Sy) (k : Bool) (p : Nat) (kn : Bool), vs = [.ref (S.y k).w, nv p, .bl kn] ∧ At K n S H ∧ Good S ∧ Fx K E n k S H p ∧
  ∀ (x : Nat) S' H', At K n S' H' → Good S' → Rel k S S' → KeepU S.c H S'.c H' → Q (nv x) H'
theorem ok_Pairs_load (T : Tx K mg) : FnX P w K mg base 15 (fAd K ("Pairs", some "load")) (fdat K ("Pairs", some "load")) ["self", "place", "kernel"] (spLoad K) := by
  refine fnX (fd_Pairs_load T) sc_Pairs_load (fun vs H Q E h => ?_) (fun cdv A0 outer s H vs Q E hrm h => ?_)
  · obtain ⟨n, S, k, p, kn, rfl, _⟩ := h
    rfl
  obtain ⟨n, S, k, p, kn, rfl, A, G, fx, q⟩ := h
  refine ⟨_, (pss_one (ps_ret (pe_m rfl (pv 0) (c_Pairs T) (m_Pairs_read T) (ok_Pairs_read T) (hrm.mono (by decide)) (bd_Pairs_read T) (E := E0s) (fun _ => passAt0) (pa_cons (pe_m rfl (pv 0) (c_Pairs T) (m_Pairs_reach T) (ok_Pairs_reach T) (hrm.mono (by decide)) (bd_Pairs_reach T) (fun σ => L2N.passAt (L2N.takes_of rfl rfl rfl rfl) σ) (pa_cons (pv 1) (pa_cons pe_bl (pa_cons (pv 2) pa_nil)))) (pa_cons (pe_op op_mod (pv 1) pe_int) pa_nil))))), ?_⟩
  have on := G.on k
  obtain ⟨rr, W⟩ := A.wy k on
  refine ⟨_, rfl, _, _, _, rfl, W.hw, rfl, _, rfl, _, _, _, rfl, W.hw, rfl, _, rfl, _, rfl, n, S, k, p, false, kn, rfl, A, G, fx, fun pg S1 H1 A1 G1 R1 P1 k1 hs => ?_⟩
  obtain ⟨f, hf⟩ := isS hs
  refine ⟨_, rfl, (p : Int), 8, rfl, rfl, p08, ?_⟩
  dsimp only
  rw [mod8]
  exact ⟨n, S1, k, pg, f, p % 8, by rw [R1.w k], A1, G1, hf, by omega, fun x S2 H2 A2 G2 Q2 P2 k2 _ => q x S2 H2 A2 G2 (R1.trans (Q2 k)) (k1.trans k2)⟩
def spSave (K : PySem.W.Frag) : Sp := fun vs H Q E => ∃ (n : Nat) (S : Sy) (k : Bool) (p v : Nat) (kn : Bool), vs = [.ref (S.y k).w, nv p, nv v, .bl kn] ∧ At K n S H ∧ Good S ∧ v < 2 ^ 48 ∧ Fx K E n k S H p ∧
  ∀ S' H', At K n S' H' → Good S' → Rel k S S' → KeepU S.c H S'.c H' → Q .non H'
theorem ok_Pairs_save (T : Tx K mg) : FnX P w K mg base 15 (fAd K ("Pairs", some "save")) (fdat K ("Pairs", some "save")) ["self", "place", "word", "kernel"] (spSave K) := by
  refine fnX (fd_Pairs_save T) sc_Pairs_save (fun vs H Q E h => ?_) (fun cdv A0 outer s H vs Q E hrm h => ?_)
  · obtain ⟨n, S, k, p, v, kn, rfl, _⟩ := h
    rfl
  obtain ⟨n, S, k, p, v, kn, rfl, A, G, hv, fx, q⟩ := h
  refine ⟨_, (pss_one (ps_expr (pe_m rfl (pv 0) (c_Pairs T) (m_Pairs_write T) (ok_Pairs_write T) (hrm.mono (by decide)) (bd_Pairs_write T) (E := E0s) (fun _ => passAt0) (pa_cons (pe_m rfl (pv 0) (c_Pairs T) (m_Pairs_reach T) (ok_Pairs_reach T) (hrm.mono (by decide)) (bd_Pairs_reach T) (fun σ => L2N.passAt (L2N.takes_of rfl rfl rfl rfl) σ) (pa_cons (pv 1) (pa_cons pe_bl (pa_cons (pv 3) pa_nil)))) (pa_cons (pe_op op_mod (pv 1) pe_int) (pa_cons (pv 2) pa_nil)))))), ?_⟩
  have on := G.on k
  obtain ⟨rr, W⟩ := A.wy k on
  refine ⟨_, rfl, _, _, _, rfl, W.hw, rfl, _, rfl, _, _, _, rfl, W.hw, rfl, _, rfl, _, rfl, n, S, k, p, true, kn, rfl, A, G, fx, fun pg S1 H1 A1 G1 R1 P1 k1 hs => ?_⟩
  obtain ⟨f, hf⟩ := isS hs
  refine ⟨_, rfl, (p : Int), 8, rfl, rfl, p08, ?_⟩
  dsimp only
  rw [mod8]
  exact ⟨_, rfl, n, S1, k, pg, f, p % 8, v, by rw [R1.w k], A1, G1, hf, by omega, hv, fun S2 H2 A2 G2 R2 P2 k2 => q S2 H2 A2 G2 (R1.trans R2) (k1.trans k2)⟩
def spPageAt (K : PySem.W.Frag) : Sp := fun vs H Q E => ∃ (n : Nat) (S : Sy) (k : Bool) (p : Nat), vs = [.ref (S.y k).w, nv p] ∧ At K n S H ∧ S.on k ∧ (∀ kd, FaultK K E H kd (nv p) (nv 0)) ∧ (((S.y k).f (p / 8)).isSome = true → Q (nv (p / 8)) H)
theorem ok_Pairs_page_at (T : Tx K mg) : FnX P w K mg base 5 (fAd K ("Pairs", some "page_at")) (fdat K ("Pairs", some "page_at")) ["self", "spot"] (spPageAt K) := by
  refine fnX (fd_Pairs_page_at T) sc_Pairs_page_at (fun vs H Q E h => ?_) (fun cdv A0 outer s H vs Q E hrm h => ?_)
  · obtain ⟨n, S, k, p, rfl, _⟩ := h
    rfl
  obtain ⟨n, S, k, p, rfl, A, o, kx, q⟩ := h
  refine ⟨_, (pss_cons (ps_set (i := 2) sc_Pairs_page_at.nd rfl (by first | exact Or.inl rfl | exact Or.inr rfl) (pe_op op_fdiv (pv 1) pe_int)) (pss_cons (ps_if (pt_not (pt_val (pe_m rfl (pv 0) (c_Pairs T) (m_Pairs_has T) (ok_Pairs_has T) (hrm.mono (by decide)) (bd_Pairs_has T) (E := E0s) (fun _ => passAt0) (pa_cons (pv 2) pa_nil)))) (pss_one (L2N.ps_raise rfl (L2N.takes_of rfl rfl rfl rfl) (pmk_fault T rfl (hrm.mono (by decide)) (pa_cons pe_str (pa_cons (pv 1) (pa_cons pe_int pa_nil)))))) pss_nil) (pss_one (ps_ret (pv 2))))), ?_⟩
  obtain ⟨rr, W⟩ := A.wy k o
  refine ⟨_, rfl, (p : Int), 8, rfl, rfl, c8, ?_⟩
  dsimp only
  rw [div8]
  refine ⟨_, rfl, _, _, _, rfl, W.hw, rfl, _, rfl, n, S, k, p / 8, rfl, A, o, ?_⟩
  cases hs : ((S.y k).f (p / 8)).isSome with
  | false => exact ⟨_, rfl, iteT ⟨_, rfl, len3, mkfault (kx _)⟩⟩
  | true => exact ⟨_, rfl, iteF ⟨_, rfl, q hs⟩⟩
def spPeek (K : PySem.W.Frag) : Sp := fun vs H Q E => ∃ (n : Nat) (S : Sy) (k : Bool) (p : Nat), vs = [.ref (S.y k).w, nv p] ∧ At K n S H ∧ Good S ∧ Fx K E n k S H p ∧
  ∀ (x : Nat) S' H', At K n S' H' → Good S' → Rel k S S' → KeepU S.c H S'.c H' → Q (nv x) H'
theorem ok_Pairs_peek (T : Tx K mg) : FnX P w K mg base 10 (fAd K ("Pairs", some "peek")) (fdat K ("Pairs", some "peek")) ["self", "spot"] (spPeek K) := by
  refine fnX (fd_Pairs_peek T) sc_Pairs_peek (fun vs H Q E h => ?_) (fun cdv A0 outer s H vs Q E hrm h => ?_)
  · obtain ⟨n, S, k, p, rfl, _⟩ := h
    rfl
  obtain ⟨n, S, k, p, rfl, A, G, fx, q⟩ := h
  refine ⟨_, (pss_one (ps_ret (pe_m rfl (pv 0) (c_Pairs T) (m_Pairs_read T) (ok_Pairs_read T) (hrm.mono (by decide)) (bd_Pairs_read T) (E := E0s) (fun _ => passAt0) (pa_cons (pe_m rfl (pv 0) (c_Pairs T) (m_Pairs_page_at T) (ok_Pairs_page_at T) (hrm.mono (by decide)) (bd_Pairs_page_at T) (fun σ => L2N.passAt (L2N.takes_of rfl rfl rfl rfl) σ) (pa_cons (pv 1) pa_nil)) (pa_cons (pe_op op_mod (pv 1) pe_int) pa_nil))))), ?_⟩
  have on := G.on k
  obtain ⟨rr, W⟩ := A.wy k on
  refine ⟨_, rfl, _, _, _, rfl, W.hw, rfl, _, rfl, _, _, _, rfl, W.hw, rfl, _, rfl, n, S, k, p, rfl, A, on, fun kd => fx S H kd 0 A G .refl (fun _ _ h _ => ⟨h, rfl⟩), fun hs => ?_⟩
  obtain ⟨f, hf⟩ := isS hs
  refine ⟨_, rfl, (p : Int), 8, rfl, rfl, p08, ?_⟩
  dsimp only
  rw [mod8]
  exact ⟨n, S, k, p / 8, f, p % 8, rfl, A, G, hf, by omega, fun x S2 H2 A2 G2 Q2 P2 k2 _ => q x S2 H2 A2 G2 (Q2 k) k2⟩
def spPoke (K : PySem.W.Frag) : Sp := fun vs H Q E => ∃ (n : Nat) (S : Sy) (k : Bool) (p v : Nat), vs = [.ref (S.y k).w, nv p, nv v] ∧ At K n S H ∧ Good S ∧ v < 2 ^ 48 ∧ Fx K E n k S H p ∧
  ∀ S' H', At K n S' H' → Good S' → Rel k S S' → KeepU S.c H S'.c H' → Q .non H'
theorem ok_Pairs_poke (T : Tx K mg) : FnX P w K mg base 12 (fAd K ("Pairs", some "poke")) (fdat K ("Pairs", some "poke")) ["self", "spot", "word"] (spPoke K) := by
  refine fnX (fd_Pairs_poke T) sc_Pairs_poke (fun vs H Q E h => ?_) (fun cdv A0 outer s H vs Q E hrm h => ?_)
  · obtain ⟨n, S, k, p, v, rfl, _⟩ := h
    rfl
  obtain ⟨n, S, k, p, v, rfl, A, G, hv, fx, q⟩ := h
  refine ⟨_, (pss_one (ps_expr (pe_m rfl (pv 0) (c_Pairs T) (m_Pairs_write T) (ok_Pairs_write T) (hrm.mono (by decide)) (bd_Pairs_write T) (E := E0s) (fun _ => passAt0) (pa_cons (pe_m rfl (pv 0) (c_Pairs T) (m_Pairs_page_at T) (ok_Pairs_page_at T) (hrm.mono (by decide)) (bd_Pairs_page_at T) (fun σ => L2N.passAt (L2N.takes_of rfl rfl rfl rfl) σ) (pa_cons (pv 1) pa_nil)) (pa_cons (pe_op op_mod (pv 1) pe_int) (pa_cons (pv 2) pa_nil)))))), ?_⟩
  have on := G.on k
  obtain ⟨rr, W⟩ := A.wy k on
  refine ⟨_, rfl, _, _, _, rfl, W.hw, rfl, _, rfl, _, _, _, rfl, W.hw, rfl, _, rfl, n, S, k, p, rfl, A, on, fun kd => fx S H kd 0 A G .refl (fun _ _ h _ => ⟨h, rfl⟩), fun hs => ?_⟩
  obtain ⟨f, hf⟩ := isS hs
  refine ⟨_, rfl, (p : Int), 8, rfl, rfl, p08, ?_⟩
  dsimp only
  rw [mod8]
  exact ⟨_, rfl, n, S, k, p / 8, f, p % 8, v, rfl, A, G, hf, by omega, hv, fun S2 H2 A2 G2 R2 P2 k2 => q S2 H2 A2 G2 R2 k2⟩
def spTurn (K : PySem.W.Frag) : Sp := fun vs H Q _ => ∃ (n : Nat) (S : Sy) (k : Bool) (p : Nat), vs = [.ref (S.y k).w, nv p] ∧ At K n S H ∧ S.on k ∧ ∀ c' H', At K n (S.sc c') H' → KeepU S.c H c' H' → Q .non H'
theorem ok_Pairs_turn_root (T : Tx K mg) : FnC P w K mg base 2 (fAd K ("Pairs", some "turn_root")) (fdat K ("Pairs", some "turn_root")) ["self", "root"] (spTurn K) := by
  refine fnC (fd_Pairs_turn_root T) sc_Pairs_turn_root (fun vs H Q E h => ?_) (fun cdv A0 outer s H vs Q E hrm h => ?_)
  · obtain ⟨n, S, k, p, rfl, _⟩ := h
    rfl
  obtain ⟨n, S, k, p, rfl, A, o, q⟩ := h
  refine ⟨_, (pss_cons (ps_fl (c_Pairs T) (n_Pairs_base T) (pv 0) (pv 1)) (pss_cons (ps_expr (pe_m0 rfl (pe_fl (c_Pairs T) (n_Pairs_held T) (pv 0)) (c_Shelf T) (m_Shelf_empty T) (ok_Shelf_empty T) (hrm.mono (by decide)) (bd_Shelf_empty T) (E := E0s) (fun _ => passAt0))) (pss_one (ps_expr (pe_m0 rfl (pv 0) (c_Pairs T) (m_Pairs_left_all T) (ok_Pairs_left_all T) (hrm.mono (by decide)) (bd_Pairs_left_all T) (E := E0s) (fun _ => passAt0)))))), ?_⟩
  obtain ⟨r, W⟩ := A.wy k o
  refine ⟨_, rfl, _, rfl, _, _, _, rfl, W.hw, by show 7 < 1000; decide, ?_⟩
  have kp : Keep (BT k) S.c H S.c (L2.upd H (S.y k).w (.ins (ga K "Pairs") (S.y k).dw (wayF (S.y k) { r with base := p } S.F.g))) := .upd (by rw [W.tw]; rfl)
  have A1 : At K n (S.sc S.c) _ := A.rest kp (Nat.le_refl n) fun _ => W.up_base
  obtain ⟨r1, W1⟩ := A1.wy k o
  refine ⟨_, rfl, _, _, _, _, rfl, W1.hw, rfl, _, _, _, rfl, W1.hs, rfl, n, S, k, rfl, A1, o, fun c2 H2 A2 k2 => ?_⟩
  obtain ⟨r2, W2⟩ := A2.wy k o
  exact ⟨_, rfl, _, _, _, rfl, W2.hw, rfl, _, rfl, q c2 H2 A2 ((KeepU.bt kp).trans k2)⟩
def spPrDrop (K : PySem.W.Frag) : Sp := fun vs H Q _ => ∃ (n : Nat) (S : Sy) (k : Bool) (p : Nat), vs = [.ref (S.y k).w, nv p] ∧ At K n S H ∧ S.on k ∧ ∀ H', At K n S H' → KeepU S.c H S.c H' → Q .non H'
theorem ok_Pairs_drop (T : Tx K mg) : FnC P w K mg base 3 (fAd K ("Pairs", some "drop")) (fdat K ("Pairs", some "drop")) ["self", "place"] (spPrDrop K) := by
  refine fnC (fd_Pairs_drop T) sc_Pairs_drop (fun vs H Q E h => ?_) (fun cdv A0 outer s H vs Q E hrm h => ?_)
  · obtain ⟨n, S, k, p, rfl, _⟩ := h
    rfl
  obtain ⟨n, S, k, p, rfl, A, o, q⟩ := h
  refine ⟨_, (pss_one (ps_if (PW.pt (pw_and (pt_cmpR op_lt (pv 1) (pe_gi (i_PLACES T)) (nomark _)) (pw_and1 (pt_val (pe_m rfl (pe_fl (c_Pairs T) (n_Pairs_held T) (pv 0)) (c_Shelf T) (m_Shelf_drop T) (ok_Shelf_drop T) (hrm.mono (by decide)) (bd_Shelf_drop T) (E := E0s) (fun _ => passAt0) (pa_cons (pe_op op_fdiv (pv 1) pe_int) pa_nil)))))) (pss_one (ps_expr (pe_m rfl (pv 0) (c_Pairs T) (m_Pairs_left T) (ok_Pairs_left T) (hrm.mono (by decide)) (bd_Pairs_left T) (E := E0s) (fun _ => passAt0) (pa_cons (pe_op op_fdiv (pv 1) pe_int) pa_nil)))) pss_nil)), ?_⟩
  obtain ⟨r, W⟩ := A.wy k o
  refine ⟨_, rfl, _, _, rfl, rfl, _, rfl, ?_⟩
  by_cases h : (p : Int) < (512 : Int)
  · rw [decide_eq_true h]
    refine iteT ⟨_, rfl, _, _, _, _, rfl, W.hw, rfl, _, _, _, rfl, W.hs, rfl, _, rfl, (p : Int), 8, rfl, rfl, c8, ?_⟩
    dsimp only
    rw [div8]
    refine ⟨n, S, k, p / 8, rfl, A, o, fun b H1 A1 k1 => ?_⟩
    obtain ⟨r1, W1⟩ := A1.wy k o
    cases b with
    | true =>
      refine ⟨_, rfl, iteT ⟨_, rfl, _, _, _, rfl, W1.hw, rfl, _, rfl, (p : Int), 8, rfl, rfl, c8, _, _, rfl, q H1 A1 k1⟩⟩
    | false => exact ⟨_, rfl, iteF (q H1 A1 k1)⟩
  · rw [decide_eq_false h]
    exact iteF (iteF (q H A (fun _ _ h _ => ⟨h, rfl⟩)))
def spGive (K : PySem.W.Frag) : Sp := fun vs H Q _ => ∃ (n : Nat) (S : Sy) (k : Bool) (p : Nat), vs = [.ref (S.y k).w, nv p] ∧ At K n S H ∧ Good S ∧ n ≤ 400 ∧ ∀ b S' H', At K (n + 2) S' H' → Good S' → Rel k S S' → KeepU S.c H S'.c H' → Q (.bl b) H'
theorem ok_Pairs_give (T : Tx K mg) : FnC P w K mg base 9 (fAd K ("Pairs", some "give")) (fdat K ("Pairs", some "give")) ["self", "page"] (spGive K) := by
  refine fnC (fd_Pairs_give T) sc_Pairs_give (fun vs H Q E h => ?_) (fun cdv A0 outer s H vs Q E hrm h => ?_)
  · obtain ⟨n, S, k, p, rfl, _⟩ := h
    rfl
  obtain ⟨n, S, k, p, rfl, A, G, hn, q⟩ := h
  refine ⟨_, (pss_cons (ps_if (pt_not (pt_val (pe_m rfl (pv 0) (c_Pairs T) (m_Pairs_has T) (ok_Pairs_has T) (hrm.mono (by decide)) (bd_Pairs_has T) (E := E0s) (fun _ => passAt0) (pa_cons (pv 1) pa_nil)))) (pss_one (ps_ret pe_bl)) pss_nil) (pss_cons (ps_expr (pe_m rfl (pv 0) (c_Pairs T) (m_Pairs_yield_up T) (ok_Pairs_yield_up T) (hrm.mono (by decide)) (bd_Pairs_yield_up T) (E := E0s) (fun _ => passAt0) (pa_cons (pv 1) pa_nil))) (pss_one (ps_ret pe_bl)))), ?_⟩
  have on := G.on k
  obtain ⟨r, W⟩ := A.wy k on
  refine ⟨_, rfl, _, _, _, rfl, W.hw, rfl, _, rfl, n, S, k, p, rfl, A, on, ?_⟩
  cases hs : ((S.y k).f p).isSome with
  | false => exact ⟨_, rfl, iteT (q false S H (A.mono (by omega)) G .refl (fun _ _ h _ => ⟨h, rfl⟩))⟩
  | true =>
    obtain ⟨f, hf⟩ := isS hs
    exact ⟨_, rfl, iteF ⟨_, rfl, _, _, _, rfl, W.hw, rfl, _, rfl, n, S, k, p, f, rfl, A, G, by omega, hf, fun S' H' A' G' R' k' => q true S' H' (A'.mono (by omega)) G' R' k'⟩⟩
theorem ok_Pairs_want (T : Tx K mg) : FnC P w K mg base 9 (fAd K ("Pairs", some "want")) (fdat K ("Pairs", some "want")) ["self", "page"] (spGive K) := by
  refine fnC (fd_Pairs_want T) sc_Pairs_want (fun vs H Q E h => ?_) (fun cdv A0 outer s H vs Q E hrm h => ?_)
  · obtain ⟨n, S, k, p, rfl, _⟩ := h
    rfl
  obtain ⟨n, S, k, p, rfl, A, G, hn, q⟩ := h
  refine ⟨_, (pss_cons (ps_if (PW.pt (pw_or (pt_cmpR op_ge (pv 1) (pe_m0 rfl (pv 0) (c_Pairs T) (m_Pairs_size T) (ok_Pairs_size T) (hrm.mono (by decide)) (bd_Pairs_size T) (E := E0s) (fun _ => passAt0)) (nomark _)) (pw_or (pt_val (pe_m rfl (pv 0) (c_Pairs T) (m_Pairs_has T) (ok_Pairs_has T) (hrm.mono (by decide)) (bd_Pairs_has T) (E := E0s) (fun _ => passAt0) (pa_cons (pv 1) pa_nil))) (pw_or1 (pt_not (pt_val (pe_m0 rfl (pv 0) (c_Pairs T) (m_Pairs_granted T) (ok_Pairs_granted T) (hrm.mono (by decide)) (bd_Pairs_granted T) (E := E0s) (fun _ => passAt0)))))))) (pss_one (ps_ret pe_bl)) pss_nil) (pss_cons (ps_expr (pe_m rfl (pv 0) (c_Pairs T) (m_Pairs_bring T) (ok_Pairs_bring T) (hrm.mono (by decide)) (bd_Pairs_bring T) (E := E0s) (fun _ => passAt0) (pa_cons (pv 1) pa_nil))) (pss_one (ps_ret pe_bl)))), ?_⟩
  have on := G.on k
  obtain ⟨r, W⟩ := A.wy k on
  have ku : KeepU S.c H S.c H := fun _ _ h _ => ⟨h, rfl⟩
  refine ⟨_, rfl, _, rfl, _, _, _, rfl, W.hw, rfl, n, S, k, rfl, A, on, _, _, rfl, rfl, _, rfl, ?_⟩
  by_cases h : ((S.y k).lead.length : Int) ≤ (p : Int)
  · rw [decide_eq_true h]
    exact iteT (iteT (q false S H (A.mono (by omega)) G .refl ku))
  rw [decide_eq_false h]
  refine iteF ⟨_, rfl, _, _, _, rfl, W.hw, rfl, _, rfl, n, S, k, p, rfl, A, on, ?_⟩
  cases hs : ((S.y k).f p).isSome with
  | true => exact ⟨_, rfl, iteT (iteT (q false S H (A.mono (by omega)) G .refl ku))⟩
  | false =>
    refine ⟨_, rfl, iteF ⟨_, rfl, _, _, _, rfl, W.hw, rfl, n, S, k, rfl, A, G, by omega, fun H1 A1 G1 k1 => ?_, fun H1 A1 k1 => ?_⟩⟩
    · obtain ⟨r1, W1⟩ := A1.wy k on
      have hf : (S.y k).f p = none := by
        cases e : (S.y k).f p with
        | none => rfl
        | some f => rw [e] at hs; cases hs
      refine ⟨_, rfl, iteF ⟨_, rfl, _, _, _, rfl, W1.hw, rfl, _, rfl, n + 1, S.sf (S.F.pledge (S.F.pl + 1)) S.c, k, p, rfl, A1, G1, by omega, by show p < (S.y k).lead.length; omega, hf, fun S' H' A' G' R' k' => ?_⟩⟩
      have R0 : Rel k S S' := ⟨R'.g, R'.obj, R'.len, R'.oth, R'.chg, R'.soil, R'.sz⟩
      exact q true S' H' A' G' R0 (k1.trans k')
    · exact ⟨_, rfl, iteT (q false S H1 (A1.mono (by omega)) G .refl k1)⟩
end K6
/-! Pairs: told and tended. -/
namespace K6
open PySem PySem.Spec PyProof.Rows L2 HotX L2H He
variable {P : Program} {w : World} {K : PySem.W.Frag} {mg : Str → Option Value} {base : Heap}
def row (S : Sy) (k : Bool) (q : Nat) : Nat := (S.F.wd (S.y k).l).getD q 0
theorem row_at' {S : Sy} {k : Bool} {q r : Nat} (h : (S.F.wd (S.y k).l)[q]? = some r) : row S k q = r := by
  unfold row
  rw [List.getD_eq_getElem?_getD, h]
  rfl
structure PgS (S S' : Sy) : Prop where
  g : S'.F.g = S.F.g
  obj : ∀ j, S'.y j = { S.y j with lead := (S'.y j).lead }
  len : ∀ j, (S'.y j).lead.length = (S.y j).lead.length
  pg : ∀ j q, page S' j q = page S j q
  sz : S'.F.ow.length = S.F.ow.length
theorem PgS.refl {S : Sy} : PgS S S := ⟨rfl, fun _ => rfl, fun _ => rfl, fun _ _ => rfl, rfl⟩
theorem PgS.trans {S S1 S2 : Sy} (a : PgS S S1) (b : PgS S1 S2) : PgS S S2 := ⟨b.g.trans a.g, fun j => by rw [b.obj j, a.obj j], fun j => (b.len j).trans (a.len j), fun j q => (b.pg j q).trans (a.pg j q), b.sz.trans a.sz⟩
theorem PgS.ww {S S' : Sy} (r : PgS S S') (j : Bool) : (S'.y j).w = (S.y j).w := by rw [r.obj j]
theorem PgS.row {S : Sy} {k : Bool} {ex : Option (Bool × Nat)} {e p r : Nat} {c : Col} (G : GoodX ex e S) : PgS S (S.sf (S.F.wr (S.y k).l p r) c) := ⟨rfl, fun _ => rfl, fun _ => rfl, fun _ _ => page_wr G.fl, rfl⟩
/-- a row that lets write -/
def Wr (S : Sy) (j : Bool) (q : Nat) : Prop := ∃ r, (S.F.wd (S.y j).l)[q]? = some r ∧ r / 2 % 2 = 1
theorem wr_shut {S : Sy} {k : Bool} {p r : Nat} {c : Col} (G : Good S) (hr : (S.F.wd (S.y k).l)[p]? = some r) : (∀ j q, Wr (S.sf (S.F.wr (S.y k).l p (r - (r &&& 2))) c) j q → Wr S j q) ∧ ¬ Wr (S.sf (S.F.wr (S.y k).l p (r - (r &&& 2))) c) k p := by
  have hl := (low r).a2
  have pt : p < (S.F.wd (S.y k).l).length := (List.getElem?_eq_some_iff.mp hr).1
  have z0 : ¬ Wr (S.sf (S.F.wr (S.y k).l p (r - (r &&& 2))) c) k p := fun ⟨x, h1, h2⟩ => by
    have h3 : ((S.F.wr (S.y k).l p (r - (r &&& 2))).wd (S.y k).l)[p]? = some x := h1
    rw [wr_wd, List.getElem?_set_self pt] at h3
    have := Option.some.inj h3
    omega
  refine ⟨fun j q h => ?_, z0⟩
  by_cases hj : j = k
  · subst hj
    by_cases hq : q = p
    · subst hq
      exact absurd h z0
    · obtain ⟨x, h1, h2⟩ := h
      have h3 : ((S.F.wr (S.y j).l p (r - (r &&& 2))).wd (S.y j).l)[q]? = some x := h1
      rw [wr_wd, List.getElem?_set_ne fun z => hq z.symm] at h3
      exact ⟨x, h3, h2⟩
  · obtain ⟨x, h1, h2⟩ := h
    have h3 : ((S.F.wr (S.y k).l p (r - (r &&& 2))).wd (S.y j).l)[q]? = some x := h1
    rw [wr_wd_ne (G.ll hj)] at h3
    exact ⟨x, h3, h2⟩
theorem ok_shut {S : Sy} {r : Nat} {f : Option Nat} (ok : RowOk S.F f r) : RowOk S.F f (r - (r &&& 2)) := by
  have hl := (low r).a2
  cases f with
  | none =>
    rcases ok with z | z
    · exact .inl (by omega)
    · exact .inr (by subst z; decide)
  | some g => exact ⟨by have := ok.1; omega, by have := ok.2.1; omega, fun z => by omega⟩
def spGuard (K : PySem.W.Frag) : Sp := fun vs H Q _ => ∃ (n : Nat) (S : Sy) (k : Bool) (p f : Nat), vs = [.ref (S.y k).w, nv p] ∧ At K n S H ∧ Good S ∧ (S.y k).f p = some f ∧
  ∀ S' H', At K n S' H' → Good S' → S'.y = S.y → PgS S S' → (∀ j q, Wr S' j q → Wr S j q) → ¬ Wr S' k p → KeepU S.c H S'.c H' → Q .non H'
theorem ok_Pairs_guard (T : Tx K mg) : FnC P w K mg base 8 (fAd K ("Pairs", some "guard")) (fdat K ("Pairs", some "guard")) ["self", "page"] (spGuard K) := by
  refine fnC (fd_Pairs_guard T) sc_Pairs_guard (fun vs H Q E h => ?_) (fun cdv A0 outer s H vs Q E hrm h => ?_)
  · obtain ⟨n, S, k, p, f, rfl, _⟩ := h
    rfl
  obtain ⟨n, S, k, p, f, rfl, A, G, hf, q⟩ := h
  refine ⟨_, (pss_cons (ps_if (pt_not (pt_val (pe_m rfl (pv 0) (c_Pairs T) (m_Pairs_has T) (ok_Pairs_has T) (hrm.mono (by decide)) (bd_Pairs_has T) (E := E0s) (fun _ => passAt0) (pa_cons (pv 1) pa_nil)))) (pss_one ps_never) pss_nil) (pss_one (ps_expr (pe_m rfl (pv 0) (c_Pairs T) (m_Pairs_shut T) (ok_Pairs_shut T) (hrm.mono (by decide)) (bd_Pairs_shut T) (E := E0s) (fun _ => passAt0) (pa_cons (pv 1) pa_nil))))), ?_⟩
  have o := G.on k
  obtain ⟨rr, W⟩ := A.wy k o
  have lt := Way.f_lt hf
  obtain ⟨r, hr, ok⟩ := G.row k p lt
  have ok := ok (fun z => nomatch z)
  refine ⟨_, rfl, _, _, _, rfl, W.hw, rfl, _, rfl, n, S, k, p, rfl, A, o, ?_⟩
  rw [hf]
  refine ⟨_, rfl, iteF ⟨_, rfl, _, _, _, rfl, W.hw, rfl, _, rfl, n, S, k, p, r, rfl, A, o, A.p8 o lt, G.tkn_l k, hr, fun H1 A1 k1 => ?_⟩⟩
  obtain ⟨w1, w2⟩ := wr_shut (c := S.c) G hr
  exact q _ H1 A1 (G.wr_row (c := S.c) lt (.inl rfl) (ok_shut ok)) rfl (.row G) w1 w2 k1
def spWashed (K : PySem.W.Frag) : Sp := fun vs H Q _ => ∃ (n : Nat) (S : Sy) (k : Bool), vs = [.ref (S.y k).w] ∧ At K n S H ∧ Good S ∧ ∀ S' H', At K n S' H' → Good S' → PgS S S' → KeepU S.c H S'.c H' → Q .non H'
theorem ok_wash {S : Sy} {r : Nat} {f : Option Nat} (ok : RowOk S.F f r) : RowOk S.F f (r - (r &&& 16)) := by
  have hl := (low r).a16
  cases f with
  | none =>
    rcases ok with z | z
    · exact .inl (by omega)
    · exact .inl (by subst z; decide)
  | some g => exact ⟨by have := ok.1; omega, by have := ok.2.1; omega, fun z => ok.2.2 (by omega)⟩
theorem ok_Pairs_washed (T : Tx K mg) : FnC P w K mg base 7 (fAd K ("Pairs", some "washed")) (fdat K ("Pairs", some "washed")) ["self"] (spWashed K) := by
  refine fnC (fd_Pairs_washed T) sc_Pairs_washed (fun vs H Q E h => ?_) (fun cdv A0 outer s H vs Q E hrm h => ?_)
  · obtain ⟨n, S, k, rfl, _⟩ := h
    rfl
  obtain ⟨n, S, k, rfl, A, G, q⟩ := h
  refine ⟨_, (pss_one (ps_for (passes_of rfl) rfl (pi_range1 (by rfl) (b_range T) (pa_cons (pe_m0 rfl (pv 0) (c_Pairs T) (m_Pairs_size T) (ok_Pairs_size T) (hrm.mono (by decide)) (bd_Pairs_size T) (E := E0s) (fun _ => passAt0)) pa_nil)) (pg_name (i := 1) sc_Pairs_washed.nd rfl (by first | exact Or.inl rfl | exact Or.inr rfl)) (pss_one (ps_expr (pe_mG (.inl rfl) (pv 0) (c_Pairs T) (m_Pairs_lay_row T) (ok_Pairs_lay_row T) (hrm.mono (by decide)) (bd_Pairs_lay_row T) (pa_cons (pv 1) (pa_cons (pe_fG (.inl rfl) (ok_f_taken T) (hrm.mono (by decide)) (by rfl) (g_taken T) (fd_f_taken T).kp (bd_f_taken T) (pa_cons (pe_mG (.inl rfl) (pv 0) (c_Pairs T) (m_Pairs_row_at T) (ok_Pairs_row_at T) (hrm.mono (by decide)) (bd_Pairs_row_at T) (pa_cons (pv 1) pa_nil)) (pa_cons (pe_gi (i_SOILED T)) pa_nil))) pa_nil))))))), ?_⟩
  have o := G.on k
  obtain ⟨rr, W⟩ := A.wy k o
  have h6 := W.hi
  refine ⟨_, rfl, _, _, _, rfl, W.hw, rfl, n, S, k, rfl, A, o, ((S.y k).lead.length : Int), rfl, by omega, by omega, ?_⟩
  have en : (((S.y k).lead.length : Nat) : Int).toNat = (S.y k).lead.length := Int.toNat_natCast _
  rw [en]
  refine for_it (walk_range (lo := 0) (n := (S.y k).lead.length)) (fun i σ H2 => ∃ (x : Option V) (S2 : Sy), σ = [some (.ref (S.y k).w), x] ∧ At K n S2 H2 ∧ Good S2 ∧ S2.y = S.y ∧ PgS S S2 ∧ KeepU S.c H S2.c H2) ⟨none, S, rfl, A, G, rfl, .refl, fun _ _ h _ => ⟨h, rfl⟩⟩ (fun _ _ _ _ _ => trivial) ?_ ?_
  · rintro i x σ H2 H3 hi ⟨x0, S2, rfl, A2, G2, y2, R2, k2⟩ ⟨rfl, rfl⟩
    have ez : (0 : Int) + (i : Int) = (i : Int) := by omega
    dsimp only
    rw [ez]
    have o2 := G2.on k
    obtain ⟨r2, W2⟩ := A2.wy k o2
    have hw2 := W2.hw
    rw [R2.ww k] at hw2
    have lt2 : i < (S2.y k).lead.length := by rw [y2]; exact hi
    obtain ⟨r, hr, ok⟩ := G2.row k i lt2
    have ok := ok (fun z => nomatch z)
    have r48 := A2.w48 (G2.tkn_l k) hr
    have p8 := A2.p8 o2 lt2
    refine ⟨_, rfl, _, _, _, rfl, hw2, rfl, _, rfl, _, rfl, _, _, _, rfl, hw2, rfl, _, rfl, n, S2, k, i, r, by rw [R2.ww k], A2, o2, p8, G2.tkn_l k, hr, r, 16, rfl, n, S2, k, i, r - (r &&& 16), by rw [R2.ww k], A2, o2, p8, G2.tkn_l k, by omega, fun H4 A4 k4 => ?_⟩
    exact ⟨_, _, rfl, A4, G2.wr_row (c := S2.c) lt2 (.inl rfl) (ok_wash ok), y2, R2.trans (.row G2), k2.trans k4⟩
  · rintro σ H2 ⟨x0, S2, rfl, A2, G2, y2, R2, k2⟩
    exact q S2 H2 A2 G2 R2 k2
theorem ok_Pairs_clean (T : Tx K mg) : FnC P w K mg base 8 (fAd K ("Pairs", some "clean")) (fdat K ("Pairs", some "clean")) ["self"] (spWashed K) := by
  refine fnC (fd_Pairs_clean T) sc_Pairs_clean (fun vs H Q E h => ?_) (fun cdv A0 outer s H vs Q E hrm h => ?_)
  · obtain ⟨n, S, k, rfl, _⟩ := h
    rfl
  obtain ⟨n, S, k, rfl, A, G, q⟩ := h
  refine ⟨_, (pss_cons (ps_fl (c_Pairs T) (n_Pairs_changed T) (pv 0) pe_dnewK) (pss_one (ps_expr (pe_m0 rfl (pv 0) (c_Pairs T) (m_Pairs_washed T) (ok_Pairs_washed T) (hrm.mono (by decide)) (bd_Pairs_washed T) (E := E0s) (fun _ => passAt0))))), ?_⟩
  have o := G.on k
  obtain ⟨r, W⟩ := A.wy k o
  refine fun p hp => ?_
  have kp : Keep (BT k) S.c H (colS S.c p (.way k 6)) (L2.upd (L2.upd H p (.dK [])) (S.y k).w (.ins (ga K "Pairs") (S.y k).dw (wayF (S.y k) { r with ch := p } S.F.g))) :=
    (Keep.newC hp).trans (.upd (by rw [colS_ne (ne_of_none W.hw hp), W.tw]; rfl))
  have hw1 : L2.upd H p (.dK []) (S.y k).w = some (.ins (ga K "Pairs") (S.y k).dw (wayF (S.y k) r S.F.g)) := by rw [upd_ne (ne_of_none W.hw hp)]; exact W.hw
  refine ⟨_, rfl, _, _, _, rfl, hw1, by show 7 < 1000; decide, ?_⟩
  have A1 := A.rest kp (Nat.le_refl n) fun _ => W.new_ch hp
  obtain ⟨r1, W1⟩ := A1.wy k o
  exact ⟨_, rfl, _, _, _, rfl, W1.hw, rfl, n, S.sc (colS S.c p (.way k 6)), k, rfl, A1, G.sc, fun S' H' A' G' R' k' => q S' H' A' G' ⟨R'.g, R'.obj, R'.len, R'.pg, R'.sz⟩ ((KeepU.bt kp).trans k')⟩
/-- a page is led to a frame that holds the same -/
def spPrLead (K : PySem.W.Frag) : Sp := fun vs H Q _ => ∃ (n : Nat) (S : Sy) (k : Bool) (p f g : Nat) (j0 : Bool) (q0 : Nat), vs = [.ref (S.y k).w, nv p, nv g] ∧ At K n S H ∧ Good S ∧ (S.y k).f p = some f ∧ (S.y j0).f q0 = some g ∧ S.F.wd g = S.F.wd f ∧
  (∀ j q, (S.y j).f q = some g → ¬ Wr S j q) ∧ ∀ S' H', At K n S' H' → Good S' → PgS S S' → KeepU S.c H S'.c H' → Q .non H'
theorem ok_Pairs_lead (T : Tx K mg) : FnC P w K mg base 8 (fAd K ("Pairs", some "lead")) (fdat K ("Pairs", some "lead")) ["self", "page", "frame"] (spPrLead K) := by
  refine fnC (fd_Pairs_lead T) sc_Pairs_lead (fun vs H Q E h => ?_) (fun cdv A0 outer s H vs Q E hrm h => ?_)
  · obtain ⟨n, S, k, p, f, g, j0, q0, rfl, _⟩ := h
    rfl
  obtain ⟨n, S, k, p, f, g, j0, q0, rfl, A, G, hf, h0, hwd, hnw, q⟩ := h
  refine ⟨_, (pss_cons (ps_set (i := 3) sc_Pairs_lead.nd rfl (by first | exact Or.inl rfl | exact Or.inr rfl) (pe_mG (.inl rfl) (pe_fl (c_Pairs T) (n_Pairs_part T) (pv 0)) (c_Parts T) (m_Parts_frame T) (ok_Parts_frame T) (hrm.mono (by decide)) (bd_Parts_frame T) (pa_cons (pv 1) pa_nil))) (pss_cons (ps_expr (pe_m rfl (pe_fl (c_Pairs T) (n_Pairs_part T) (pv 0)) (c_Parts T) (m_Parts_lead T) (ok_Parts_lead T) (hrm.mono (by decide)) (bd_Parts_lead T) (E := E0s) (fun _ => passAt0) (pa_cons (pv 1) (pa_cons (pv 2) pa_nil)))) (pss_cons (ps_if (pt_cmpR op_ne (pv 2) (pv 3) (nomark _)) (pss_one (ps_expr (pe_mG (.inl rfl) (pv 0) (c_Pairs T) (m_Pairs_moved T) (ok_Pairs_moved T) (hrm.mono (by decide)) (bd_Pairs_moved T) (pa_cons (pv 1) pa_nil)))) pss_nil) (pss_one (ps_expr (pe_m rfl (pv 0) (c_Pairs T) (m_Pairs_shut T) (ok_Pairs_shut T) (hrm.mono (by decide)) (bd_Pairs_shut T) (E := E0s) (fun _ => passAt0) (pa_cons (pv 1) pa_nil))))))), ?_⟩
  have o := G.on k
  obtain ⟨rr, W⟩ := A.wy k o
  have lt := Way.f_lt hf
  obtain ⟨a, ha⟩ := G.tkn h0
  obtain ⟨b, hb⟩ := G.tkn hf
  obtain ⟨r, hr, ok⟩ := G.row k p lt
  have ok := ok (fun z => nomatch z)
  refine ⟨_, rfl, _, _, _, _, rfl, W.hw, rfl, _, _, _, rfl, W.hp, rfl, _, rfl, n, S, k, p, rfl, A, o, ?_⟩
  rw [hf]
  refine ⟨_, rfl, _, _, _, _, rfl, W.hw, rfl, _, _, _, rfl, W.hp, rfl, _, rfl, _, rfl, n, S, k, p, f, g, a, b, rfl, A, o, hf, ha, hb, fun e => ?_, fun ne H1 A1 k1 => ?_⟩
  · subst e
    refine ⟨_, rfl, _, rfl, rfl, _, rfl, ?_⟩
    have e : (!decide (nv g = nv g)) = false := by rw [decide_eq_true rfl]; rfl
    refine Eq.mpr (if_neg (by intro z; have z2 : (!decide (nv g = nv g)) = true := z; rw [e] at z2; cases z2)) ?_
    refine ⟨_, rfl, _, _, _, rfl, W.hw, rfl, _, rfl, n, S, k, p, r, rfl, A, o, A.p8 o lt, G.tkn_l k, hr, fun H1 A1 k1 => ?_⟩
    exact q _ H1 A1 (G.wr_row (c := S.c) lt (.inl rfl) (ok_shut ok)) (.row G) k1
  · have hw0 : ∀ j q r, (S.y j).f q = some g → (S.F.wd (S.y j).l)[q]? = some r → r / 2 % 2 = 0 := fun j q r h1 h2 => by
      have := hnw j q h1
      by_cases z : r / 2 % 2 = 1
      · exact absurd ⟨r, h2, z⟩ this
      · omega
    have C := chg_lead G hf ha hb ne h0 hw0
    have hs := C.hs
    rw [hf, b1_t (fun z => nomatch z), b1_t (fun z => nomatch z)] at hs
    have pl : ((S.F.own g (a + 2)).own f b).pl = ((((S.F.own g (a + 2)).own f b).ow.sum + 0 : Nat) : Int) := by
      have h3 := G.pl
      show S.F.pl = _
      rw [h3]
      omega
    have le : ((S.F.own g (a + 2)).own f b).ow.sum + 0 ≤ ((S.F.own g (a + 2)).own f b).ow.length := by
      have h3 := G.le
      rw [C.hn]
      omega
    have G1 := G.chg (c := S.c) lt C pl le
    obtain ⟨S1, hS1⟩ : ∃ S1, S1 = (S.sf ((S.F.own g (a + 2)).own f b) S.c).sl k ((S.y k).lead.set p (some g)) := ⟨_, rfl⟩
    have ec : S1.c = S.c := by rw [hS1]; rfl
    have fi : (S1.y k).f p = some g := by rw [hS1]; exact f_sl lt
    have lt1 : p < (S1.y k).lead.length := by rw [hS1, len_sl]; exact lt
    have ew : (S1.y k).w = (S.y k).w := by rw [hS1, sl_obj k]; rfl
    have el : (S1.y k).l = (S.y k).l := by rw [hS1]; exact (tl_sl k).2
    have ewl : S1.F.wd (S.y k).l = S.F.wd (S.y k).l := by rw [hS1]; exact C.wl G k
    have R1 : PgS S S1 := by
      refine ⟨by rw [hS1]; exact C.hg, fun j => by rw [hS1]; exact sl_obj (S := S.sf _ S.c) j, fun j => by rw [hS1]; exact len_sl j, fun j q => ?_, by rw [hS1]; exact C.hn⟩
      by_cases z : (j, q) = (k, p)
      · injection z with z1 z2
        subst z1 z2
        unfold page
        rw [fi, hf]
        show some (S1.F.wd g) = some (S.F.wd f)
        rw [hS1]
        show some (S.F.wd g) = some (S.F.wd f)
        rw [hwd]
      · rw [hS1]
        exact C.pgs G lt z
    rw [← hS1] at A1 G1
    have o1 := G1.on k
    obtain ⟨r1, W1⟩ := A1.wy k o1
    have hw1 := W1.hw
    rw [ew] at hw1
    have hr1 : (S1.F.wd (S1.y k).l)[p]? = some r := by rw [el, ewl]; exact hr
    refine ⟨_, rfl, _, rfl, rfl, _, rfl, ?_⟩
    have e : (!decide (nv g = nv f)) = true := by rw [decide_eq_false fun y => ne (by injection y with y; omega)]; rfl
    refine Eq.mpr (if_pos e) ?_
    refine ⟨_, rfl, _, _, _, rfl, hw1, rfl, _, rfl, n, S1, k, p, r, by rw [ew], A1, o1, A1.p8 o1 lt1, G1.tkn_l k, hr1, fun x hx => A1.lt200 G1 hx, fun H2 A2 k2 => ?_⟩
    rw [fi] at A2
    rw [hf] at ok
    have em : mvRow (some g) r = 256 * g + (r % 256 - (r % 256 &&& 2)) := if_pos ok.1
    have hl := (low (r % 256)).a2
    have okr : RowOk S1.F ((S1.y k).f p) (mvRow (some g) r) := by
      rw [fi, em]
      exact ⟨by have := ok.1; omega, by omega, fun z => by omega⟩
    have G2 := G1.wr_row (c := S1.c) lt1 (.inr rfl) okr
    have o2 := G2.on k
    obtain ⟨r2, W2⟩ := A2.wy k o2
    have hw2 : H2 (S.y k).w = some (.ins (ga K "Pairs") (S1.y k).dw (wayF (S1.y k) r2 S1.F.g)) := by
      rw [← ew]
      exact W2.hw
    have R2 : PgS S1 (S1.sf (S1.F.wr (S1.y k).l p (mvRow (some g) r)) S1.c) := .row G1
    obtain ⟨S2, hS2⟩ : ∃ S2, S2 = S1.sf (S1.F.wr (S1.y k).l p (mvRow (some g) r)) S1.c := ⟨_, rfl⟩
    have ew2 : (S2.y k).w = (S.y k).w := by rw [hS2]; exact ew
    have lt2 : p < (S2.y k).lead.length := by rw [hS2]; exact lt1
    have ec2 : S2.c = S1.c := by rw [hS2]; rfl
    rw [← hS2] at A2 G2 R2
    obtain ⟨r', hr', ok'⟩ := G2.row k p lt2
    have ok' := ok' (fun z => nomatch z)
    refine ⟨_, rfl, _, _, _, rfl, hw2, rfl, _, rfl, n, S2, k, p, r', by rw [ew2], A2, G2.on k, A2.p8 (G2.on k) lt2, G2.tkn_l k, hr', fun H3 A3 k3 => ?_⟩
    refine q _ H3 A3 (G2.wr_row (c := S2.c) lt2 (.inl rfl) (ok_shut ok')) ((R1.trans R2).trans (.row G2)) ?_
    have k1' : KeepU S.c H S1.c H1 := by rw [ec]; exact k1
    have k2' : KeepU S1.c H1 S2.c H2 := by rw [ec2]; exact k2
    exact (k1'.trans k2').trans k3
end K6
/-! Pairs: all its pages, rows, soiled ones. -/
namespace K6
open PySem PySem.Spec PyProof.Rows L2 HotX L2H He
variable {P : Program} {w : World} {K : PySem.W.Frag} {mg : Str → Option Value} {base : Heap}
def PV (c : Col) (H : Hp) (v : V) (o : Option (List Nat)) : Prop := match o with
  | none => v = .non
  | some ws => ∃ a, v = .ref a ∧ H a = some (.lst (ws.map nv)) ∧ c a = .no
theorem PV.keep {c c' : Col} {H H' : Hp} {v : V} {o : Option (List Nat)} {T : Tag → Prop} (p : PV c H v o) (k : Keep T c H c' H') (h : ¬ T .no) : PV c' H' v o := by
  cases o with
  | none => exact p
  | some ws =>
    obtain ⟨a, e, e1, e2⟩ := p
    obtain ⟨z1, z2⟩ := k a _ e1 (by rw [e2]; exact h)
    exact ⟨a, e, z1, z2.trans e2⟩
/-- a list of pages -/
def PgsAt (c : Col) (H : Hp) (D : Addr) (ps : List (Option (List Nat))) : Prop := ∃ vs, H D = some (.lst vs) ∧ c D = .no ∧ vs.length = ps.length ∧ ∀ (q : Nat) (v : V) (o : Option (List Nat)), vs[q]? = some v → ps[q]? = some o → PV c H v o
theorem PgsAt.keep {c c' : Col} {H H' : Hp} {D : Addr} {ps : List (Option (List Nat))} {T : Tag → Prop} (p : PgsAt c H D ps) (k : Keep T c H c' H') (h : ¬ T .no) : PgsAt c' H' D ps := by
  obtain ⟨vs, e1, e2, e3, e4⟩ := p
  obtain ⟨z1, z2⟩ := k D _ e1 (by rw [e2]; exact h)
  exact ⟨vs, z1, z2.trans e2, e3, fun q v o a b => (e4 q v o a b).keep k h⟩
def pgs (S : Sy) (k : Bool) : List (Option (List Nat)) := (S.y k).lead.map (Option.map S.F.wd)
theorem pgs_len {S : Sy} {k : Bool} : (pgs S k).length = (S.y k).lead.length := List.length_map _
theorem pgs_at {S : Sy} {k : Bool} {q : Nat} (h : q < (S.y k).lead.length) : (pgs S k)[q]? = some (page S k q) := by
  unfold pgs page
  rw [List.getElem?_map, Way.f_at h]
  rfl
theorem pgs_eq {S S' : Sy} {k : Bool} (hl : (S'.y k).lead.length = (S.y k).lead.length) (h : ∀ q, page S' k q = page S k q) : pgs S' k = pgs S k := by
  apply List.ext_getElem?
  intro q
  by_cases z : q < (S.y k).lead.length
  · rw [pgs_at z, pgs_at (by rw [hl]; exact z), h q]
  · rw [List.getElem?_eq_none (by rw [pgs_len]; omega), List.getElem?_eq_none (by rw [pgs_len]; omega)]
def spWordsOf (K : PySem.W.Frag) : Sp := fun vs H Q _ => ∃ (n : Nat) (S : Sy) (k : Bool) (p : Nat), vs = [.ref (S.y k).w, nv p] ∧ At K n S H ∧ Good S ∧ ((S.y k).f p = none → Q .non H) ∧
  ∀ f, (S.y k).f p = some f → ∀ D, H D = none → Q (.ref D) (L2.upd H D (.lst ((S.F.wd f).map nv)))
theorem ok_Pairs_words_of (T : Tx K mg) : FnC P w K mg base 7 (fAd K ("Pairs", some "words_of")) (fdat K ("Pairs", some "words_of")) ["self", "page"] (spWordsOf K) := by
  refine fnC (fd_Pairs_words_of T) sc_Pairs_words_of (fun vs H Q E h => ?_) (fun cdv A0 outer s H vs Q E hrm h => ?_)
  · obtain ⟨n, S, k, p, rfl, _⟩ := h
    rfl
  obtain ⟨n, S, k, p, rfl, A, G, q0, q1⟩ := h
  refine ⟨_, (pss_cons (ps_set (i := 2) sc_Pairs_words_of.nd rfl (by first | exact Or.inl rfl | exact Or.inr rfl) (pe_mG (.inl rfl) (pv 0) (c_Pairs T) (m_Pairs_frame T) (ok_Pairs_frame T) (hrm.mono (by decide)) (bd_Pairs_frame T) (pa_cons (pv 1) pa_nil))) (pss_cons (ps_if (pt_cmpR op_isN (pv 2) pe_non (nomark _)) (pss_one (ps_ret pe_non)) pss_nil) (pss_one (ps_ret (pe_fG (.inl rfl) (ok_f_words_at T) (hrm.mono (by decide)) (by rfl) (g_words_at T) (fd_f_words_at T).kp (bd_f_words_at T) (pa_cons (pe_fl (c_Pairs T) (n_Pairs_ground T) (pv 0)) (pa_cons (pv 2) pa_nil))))))), ?_⟩
  have o := G.on k
  obtain ⟨rr, W⟩ := A.wy k o
  refine ⟨_, rfl, _, _, _, rfl, W.hw, rfl, _, rfl, n, S, k, p, rfl, A, o, ?_⟩
  cases hf : (S.y k).f p with
  | none => exact ⟨_, rfl, rfl, _, rfl, iteT (q0 hf)⟩
  | some f => exact ⟨_, rfl, rfl, _, rfl, iteF ⟨_, rfl, _, _, _, _, rfl, W.hw, rfl, _, rfl, S.F, S.c, f, rfl, A.fr, G.tkn hf, q1 f hf⟩⟩
def PVn (D : Addr) (c : Col) (H : Hp) (v : V) (o : Option (List Nat)) : Prop := PV c H v o ∧ v ≠ .ref D
theorem Keep0.updD {c0 c : Col} {H0 H : Hp} {D : Addr} {o : HO} (k : Keep0 c0 H0 c H) (h : H0 D = none) : Keep0 c0 H0 c (L2.upd H D o) := fun b u e t => by
  obtain ⟨z1, z2⟩ := k b u e t
  exact ⟨by rw [upd_ne (ne_of_none e h)]; exact z1, z2⟩
theorem PVn.updD {D : Addr} {c : Col} {H : Hp} {v : V} {o : Option (List Nat)} {u : HO} (p : PVn D c H v o) : PVn D c (L2.upd H D u) v o := by
  refine ⟨?_, p.2⟩
  cases o with
  | none => exact p.1
  | some ws =>
    obtain ⟨a, e, e1, e2⟩ := p.1
    exact ⟨a, e, by rw [upd_ne fun z => p.2 (by rw [e, z])]; exact e1, e2⟩
theorem getElem?_snoc {α : Type} {l : List α} {x v : α} {q : Nat} (h : (l ++ [x])[q]? = some v) : (q < l.length ∧ l[q]? = some v) ∨ (q = l.length ∧ x = v) := by
  by_cases z : q < l.length
  · rw [List.getElem?_append_left z] at h
    exact .inl ⟨z, h⟩
  · have lt : q < (l ++ [x]).length := (List.getElem?_eq_some_iff.mp h).1
    rw [List.length_append, List.length_singleton] at lt
    have e : q = l.length := by omega
    subst e
    rw [List.getElem?_append_right (Nat.le_refl _), Nat.sub_self] at h
    exact .inr ⟨rfl, Option.some.inj h⟩
def spPages (K : PySem.W.Frag) : Sp := fun vs H Q _ => ∃ (n : Nat) (S : Sy) (k : Bool), vs = [.ref (S.y k).w] ∧ At K n S H ∧ Good S ∧ ∀ D c' H', H D = none → Keep0 S.c H c' H' → PgsAt c' H' D (pgs S k) → Q (.ref D) H'
theorem ok_Pairs_pages (T : Tx K mg) : FnC P w K mg base 8 (fAd K ("Pairs", some "pages")) (fdat K ("Pairs", some "pages")) ["self"] (spPages K) := by
  refine fnC (fd_Pairs_pages T) sc_Pairs_pages (fun vs H Q E h => ?_) (fun cdv A0 outer s H vs Q E hrm h => ?_)
  · obtain ⟨n, S, k, rfl, _⟩ := h
    rfl
  obtain ⟨n, S, k, rfl, A, G, q⟩ := h
  refine ⟨_, (pss_one (ps_ret (pe_lc (own := [("page", 1)]) (g := gName 1) rfl sc_Pairs_pages.nd (pi_range1 (by rfl) (b_range T) (pa_cons (pe_m0 rfl (pv 0) (c_Pairs T) (m_Pairs_size T) (ok_Pairs_size T) (hrm.mono (by decide)) (bd_Pairs_size T) (E := E0s) (fun _ => passAt0)) pa_nil)) (blkOk_by (own := [("page", 1)]) (N := ["self", "page"]) (sc := (defScope s_Pairs_pages)) (by decide +kernel)) (fun _ _ _ _ _ => pg_name (i := 1) sc_Pairs_pages.nd rfl (by first | exact Or.inl rfl | exact Or.inr rfl)) (fun _ _ _ _ _ => pts_nil) (fun _ _ _ _ _ => (pe_m rfl (pv 0) (c_Pairs T) (m_Pairs_words_of T) (ok_Pairs_words_of T) (hrm.mono (by decide)) (bd_Pairs_words_of T) (E := E0s) (fun _ => passAt0) (pa_cons (pv 1) pa_nil)))))), ?_⟩
  have o := G.on k
  obtain ⟨rr, W⟩ := A.wy k o
  have h6 := W.hi
  refine ⟨_, rfl, _, _, _, rfl, W.hw, rfl, n, S, k, rfl, A, o, ((S.y k).lead.length : Int), rfl, by omega, by omega, fun D hD => ?_⟩
  have en : (((S.y k).lead.length : Nat) : Int).toNat = (S.y k).lead.length := Int.toNat_natCast _
  rw [en]
  refine lc_it (walk_range (lo := 0) (n := (S.y k).lead.length)) (fun i H2 => ∃ (c : Col) (vs : List V), At K n (S.sc c) H2 ∧ Keep0 S.c H c H2 ∧ H2 D = some (.lst vs) ∧ c D = .no ∧ vs.length = i ∧ ∀ q v, vs[q]? = some v → PVn D c H2 v (page S k q)) ?_ (fun _ _ _ _ => trivial) ?_ ?_
  · exact ⟨colS S.c D .no, [], A.newC hD, .newC hD, upd_same, colS_same, rfl, fun q v h => by cases h⟩
  · rintro i x H3 H2 hi ⟨c, vs, A2, k2, hD2, cD, hl, hv⟩ ⟨rfl, rfl⟩
    refine ⟨rfl, ?_⟩
    have ez : (0 : Int) + (i : Int) = (i : Int) := by omega
    dsimp only
    rw [ez]
    obtain ⟨r2, W2⟩ := A2.wy k o
    have lim : vs.length < sizeLine := by rw [sizeLine_eq]; omega
    refine ⟨_, rfl, _, _, _, rfl, W2.hw, rfl, _, rfl, n, S.sc c, k, i, rfl, A2, G.sc, fun hf => ?_, fun f hf D2 hD2' => ?_⟩
    · refine ⟨vs, hD2, lim, c, vs ++ [.non], A2.updN cD, Keep0.updD k2 hD, upd_same, cD, by rw [List.length_append]; show vs.length + 1 = _; rw [hl], fun q v h => ?_⟩
      rcases getElem?_snoc h with ⟨z1, z2⟩ | ⟨z1, z2⟩
      · exact (hv q v z2).updD
      · subst z1 z2
        rw [hl]
        have e : page S k i = none := by
          have hf' : (S.y k).f i = none := hf
          unfold page
          rw [hf']
          rfl
        rw [e]
        exact ⟨rfl, fun z => nomatch z⟩
    · have nD : D2 ≠ D := fun z => by rw [z, hD2] at hD2'; cases hD2'
      have A3 : At K n (S.sc (colS c D2 .no)) (L2.upd H2 D2 (.lst ((S.F.wd f).map nv))) := A2.newC hD2'
      have cD3 : colS c D2 .no D = .no := (colS_ne nD.symm).trans cD
      have k3 : Keep0 c H2 (colS c D2 .no) (L2.upd H2 D2 (.lst ((S.F.wd f).map nv))) := .newC hD2'
      refine ⟨vs, by rw [upd_ne nD.symm]; exact hD2, lim, colS c D2 .no, vs ++ [.ref D2], A3.updN cD3, Keep0.updD (k2.trans k3) hD, upd_same, cD3, by rw [List.length_append]; show vs.length + 1 = _; rw [hl], fun q v h => ?_⟩
      rcases getElem?_snoc h with ⟨z1, z2⟩ | ⟨z1, z2⟩
      · exact PVn.updD ⟨(hv q v z2).1.keep k3 (fun z => z), (hv q v z2).2⟩
      · subst z1 z2
        rw [hl]
        have e : page S k i = some (S.F.wd f) := by
          have hf' : (S.y k).f i = some f := hf
          unfold page
          rw [hf']
          rfl
        rw [e]
        exact PVn.updD ⟨⟨D2, rfl, upd_same, colS_same⟩, fun z => nD (by injection z)⟩
  · rintro H2 ⟨c, vs, A2, k2, hD2, cD, hl, hv⟩
    refine q D c H2 hD k2 ⟨vs, hD2, cD, by rw [hl, pgs_len], fun q v o' h1 h2 => ?_⟩
    have lt : q < (S.y k).lead.length := by rw [← hl]; exact (List.getElem?_eq_some_iff.mp h1).1
    rw [pgs_at lt] at h2
    rw [← Option.some.inj h2]
    exact (hv q v h1).1
/-! ### rows -/
def spRows (K : PySem.W.Frag) : Sp := fun vs H Q _ => ∃ (n : Nat) (S : Sy) (k : Bool), vs = [.ref (S.y k).w] ∧ At K n S H ∧ Good S ∧ ∀ D, H D = none → Q (.ref D) (L2.upd H D (.lst ((List.range (S.y k).lead.length).map fun q => nv (row S k q))))
theorem range_snoc {f : Nat → V} {i : Nat} : (List.range i).map f ++ [f i] = (List.range (i + 1)).map f := by rw [List.range_succ, List.map_append]; rfl
theorem range_lim {f : Nat → V} {i n : Nat} (h : i < n) (h6 : n ≤ 6) : ((List.range i).map f).length < sizeLine := by rw [List.length_map, List.length_range, sizeLine_eq]; omega
theorem ok_Pairs_rows (T : Tx K mg) : FnC P w K mg base 7 (fAd K ("Pairs", some "rows")) (fdat K ("Pairs", some "rows")) ["self"] (spRows K) := by
  refine fnC (fd_Pairs_rows T) sc_Pairs_rows (fun vs H Q E h => ?_) (fun cdv A0 outer s H vs Q E hrm h => ?_)
  · obtain ⟨n, S, k, rfl, _⟩ := h
    rfl
  obtain ⟨n, S, k, rfl, A, G, q⟩ := h
  refine ⟨_, (pss_one (ps_ret (pe_lc (own := [("page", 1)]) (g := gName 1) rfl sc_Pairs_rows.nd (pi_range1 (by rfl) (b_range T) (pa_cons (pe_m0 rfl (pv 0) (c_Pairs T) (m_Pairs_size T) (ok_Pairs_size T) (hrm.mono (by decide)) (bd_Pairs_size T) (E := E0s) (fun _ => passAt0)) pa_nil)) (blkOk_by (own := [("page", 1)]) (N := ["self", "page"]) (sc := (defScope s_Pairs_rows)) (by decide +kernel)) (fun _ _ _ _ _ => pg_name (i := 1) sc_Pairs_rows.nd rfl (by first | exact Or.inl rfl | exact Or.inr rfl)) (fun _ _ _ _ _ => pts_nil) (fun _ _ _ _ _ => (pe_mG (.inl rfl) (pv 0) (c_Pairs T) (m_Pairs_row_at T) (ok_Pairs_row_at T) (hrm.mono (by decide)) (bd_Pairs_row_at T) (pa_cons (pv 1) pa_nil)))))), ?_⟩
  have o := G.on k
  obtain ⟨rr, W⟩ := A.wy k o
  have h6 := W.hi
  refine ⟨_, rfl, _, _, _, rfl, W.hw, rfl, n, S, k, rfl, A, o, ((S.y k).lead.length : Int), rfl, by omega, by omega, fun D hD => ?_⟩
  have en : (((S.y k).lead.length : Nat) : Int).toNat = (S.y k).lead.length := Int.toNat_natCast _
  rw [en]
  refine lc_it (walk_range (lo := 0) (n := (S.y k).lead.length)) (fun i H2 => H2 = L2.upd H D (.lst ((List.range i).map fun q => nv (row S k q)))) rfl (fun _ _ _ _ => trivial) ?_ ?_
  · rintro i x H2 H3 hi rfl ⟨rfl, rfl⟩
    refine ⟨rfl, ?_⟩
    have ez : (0 : Int) + (i : Int) = (i : Int) := by omega
    dsimp only
    rw [ez]
    have A2 := A.same (same_new (o := .lst ((List.range i).map fun q => nv (row S k q))) hD)
    obtain ⟨r2, W2⟩ := A2.wy k o
    obtain ⟨r, hr, _⟩ := G.row k i hi
    refine ⟨_, rfl, _, _, _, rfl, W2.hw, rfl, _, rfl, n, S, k, i, r, rfl, A2, o, A.p8 o hi, G.tkn_l k, hr, _, upd_same, range_lim hi h6, ?_⟩
    rw [upd_upd, ← row_at' hr]
    exact congrArg (fun l => L2.upd H D (.lst l)) range_snoc
  · rintro H2 rfl
    exact q D hD
def soilL (S : Sy) (k : Bool) : List Nat := (List.range (S.y k).lead.length).filter fun q => decide (row S k q / 16 % 2 = 1)
def spSoiled (K : PySem.W.Frag) : Sp := fun vs H Q _ => ∃ (n : Nat) (S : Sy) (k : Bool), vs = [.ref (S.y k).w] ∧ At K n S H ∧ Good S ∧ ∀ D, H D = none → Q (.ref D) (L2.upd H D (.lst ((soilL S k).map nv)))
theorem ok_Pairs_soiled (T : Tx K mg) : FnC P w K mg base 7 (fAd K ("Pairs", some "soiled")) (fdat K ("Pairs", some "soiled")) ["self"] (spSoiled K) := by
  refine fnC (fd_Pairs_soiled T) sc_Pairs_soiled (fun vs H Q E h => ?_) (fun cdv A0 outer s H vs Q E hrm h => ?_)
  · obtain ⟨n, S, k, rfl, _⟩ := h
    rfl
  obtain ⟨n, S, k, rfl, A, G, q⟩ := h
  refine ⟨_, (pss_one (ps_ret (pe_lc (own := [("page", 1)]) (g := gName 1) rfl sc_Pairs_soiled.nd (pi_range1 (by rfl) (b_range T) (pa_cons (pe_m0 rfl (pv 0) (c_Pairs T) (m_Pairs_size T) (ok_Pairs_size T) (hrm.mono (by decide)) (bd_Pairs_size T) (E := E0s) (fun _ => passAt0)) pa_nil)) (blkOk_by (own := [("page", 1)]) (N := ["self", "page"]) (sc := (defScope s_Pairs_soiled)) (by decide +kernel)) (fun _ _ _ _ _ => pg_name (i := 1) sc_Pairs_soiled.nd rfl (by first | exact Or.inl rfl | exact Or.inr rfl)) (fun _ _ _ _ _ => (pts_one (pt_val (pe_fG (.inl rfl) (ok_f_has T) (hrm.mono (by decide)) (by rfl) (g_has T) (fd_f_has T).kp (bd_f_has T) (pa_cons (pe_mG (.inl rfl) (pv 0) (c_Pairs T) (m_Pairs_row_at T) (ok_Pairs_row_at T) (hrm.mono (by decide)) (bd_Pairs_row_at T) (pa_cons (pv 1) pa_nil)) (pa_cons (pe_gi (i_SOILED T)) pa_nil)))))) (fun _ _ _ _ _ => (pv 1))))), ?_⟩
  have o := G.on k
  obtain ⟨rr, W⟩ := A.wy k o
  have h6 := W.hi
  refine ⟨_, rfl, _, _, _, rfl, W.hw, rfl, n, S, k, rfl, A, o, ((S.y k).lead.length : Int), rfl, by omega, by omega, fun D hD => ?_⟩
  have en : (((S.y k).lead.length : Nat) : Int).toNat = (S.y k).lead.length := Int.toNat_natCast _
  rw [en]
  refine lc_it (walk_range (lo := 0) (n := (S.y k).lead.length)) (fun i H2 => H2 = L2.upd H D (.lst (((List.range i).filter fun q => decide (row S k q / 16 % 2 = 1)).map nv))) rfl (fun _ _ _ _ => trivial) ?_ ?_
  · rintro i x H2 H3 hi rfl ⟨rfl, rfl⟩
    refine ⟨rfl, ?_⟩
    have ez : (0 : Int) + (i : Int) = (i : Int) := by omega
    dsimp only
    rw [ez]
    have A2 := A.same (same_new (o := .lst (((List.range i).filter fun q => decide (row S k q / 16 % 2 = 1)).map nv)) hD)
    obtain ⟨r2, W2⟩ := A2.wy k o
    obtain ⟨r, hr, _⟩ := G.row k i hi
    refine ⟨_, rfl, _, _, _, rfl, W2.hw, rfl, _, rfl, n, S, k, i, r, rfl, A2, o, A.p8 o hi, G.tkn_l k, hr, r, 16, rfl, ?_⟩
    rw [decide_eq_decide.mpr (h16_iff (r := r))]
    refine ⟨_, rfl, ?_⟩
    have lim : (((List.range i).filter fun q => decide (row S k q / 16 % 2 = 1)).map nv).length < sizeLine := by
      rw [List.length_map, sizeLine_eq]
      have := List.length_filter_le (fun q => decide (row S k q / 16 % 2 = 1)) (List.range i)
      rw [List.length_range] at this
      omega
    by_cases h : r / 16 % 2 = 1
    · rw [decide_eq_true h]
      refine iteT ⟨_, rfl, _, upd_same, lim, ?_⟩
      rw [upd_upd]
      refine congrArg (fun l => L2.upd H D (.lst l)) ?_
      rw [List.range_succ, List.filter_append, List.map_append]
      congr 1
      rw [List.filter_cons_of_pos (by rw [row_at' hr, decide_eq_true h])]
      rfl
    · rw [decide_eq_false h]
      refine iteF ?_
      refine congrArg (fun l => L2.upd H D (.lst l)) ?_
      rw [List.range_succ, List.filter_append, List.map_append]
      have e : List.filter (fun q => decide (row S k q / 16 % 2 = 1)) [i] = [] := by
        rw [List.filter_cons_of_neg]
        · rfl
        · rw [row_at' hr, decide_eq_false h]
          decide
      rw [e]
      exact (List.append_nil _).symm
  · rintro H2 rfl
    exact q D hD
end K6
/-! Making: images are checked; Parts, Shelf, Ways. -/
namespace K6
open PySem PySem.Spec PyProof.Rows L2 HotX L2H He
variable {P : Program} {w : World} {K : PySem.W.Frag} {mg : Str → Option Value} {base : Heap}
theorem rep_snoc {b : Bool} {i : Nat} : (List.replicate i b).map V.bl ++ [V.bl b] = (List.replicate (i + 1) b).map V.bl := by
  rw [List.replicate_succ', List.map_append]
  rfl
theorem all_rep {i : Nat} : (List.replicate i true).all id = true := List.all_eq_true.mpr fun x hx => List.eq_of_mem_replicate hx
def spAreWords (K : PySem.W.Frag) : Sp := fun vs H Q _ => ∃ (a : Addr) (ws : List Nat), vs = [.ref a] ∧ H a = some (.lst (ws.map nv)) ∧ ws.length = 8 ∧ (∀ x ∈ ws, x < 2 ^ 48) ∧ ∀ H', Same H H' → Q (.bl true) H'
theorem ok_f_are_words (T : Tx K mg) : FnC P w K mg base 3 (fAd K ("are_words", none)) (fdat K ("are_words", none)) ["thing"] (spAreWords K) := by
  refine fnC (fd_f_are_words T) sc_f_are_words (fun vs H Q E h => ?_) (fun cdv A0 outer s H vs Q E hrm h => ?_)
  · obtain ⟨a, ws, rfl, _⟩ := h
    rfl
  obtain ⟨a, ws, rfl, ha, h8, hw, q⟩ := h
  refine ⟨_, (pss_one (ps_ret (pe_and (pe_callB call_isi (by rfl) (b_isinstance T) q_isinstance (pa_cons (pv 0) (pa_cons (pe_bltn (v := .ty "list") (by rfl) (b_list T) q_list rfl) pa_nil))) (pe_and (pe_cmpR op_eq (pe_callB call_len_seq (by rfl) (b_len T) q_len (pa_cons (pv 0) pa_nil)) (pe_gi (i_CELLS T)) (nomark _)) (pe_one (pe_callB (cr_all rfl) (by rfl) (b_all T) q_all (pa_cons (pe_lc (own := [("word", 1)]) (g := gName 1) rfl sc_f_are_words.nd (pi_list (pv 0)) (blkOk_by (own := [("word", 1)]) (N := ["thing", "word"]) (sc := (defScope s_f_are_words)) (by decide +kernel)) (fun _ _ _ _ _ => pg_name (i := 1) sc_f_are_words.nd rfl (by first | exact Or.inl rfl | exact Or.inr rfl)) (fun _ _ _ _ _ => pts_nil) (fun _ _ _ _ _ => (pe_fG (.inl rfl) (ok_f_is_word T) (hrm.mono (by decide)) (by rfl) (g_is_word T) (fd_f_is_word T).kp (bd_f_is_word T) (pa_cons (pv 1) pa_nil)))) pa_nil))))))), ?_⟩
  refine ⟨_, rfl, _, _, _, _, true, rfl, .ty _, .base (.lst ha), kit_ll, true, rfl, iteT ?_⟩
  refine ⟨_, rfl, _, _, rfl, .inl (SqL.of ha), (by rfl), _, rfl, ?_⟩
  have e8 : decide (V.int (ws.map nv).length = V.int 8) = true := by rw [List.length_map, h8]; rfl
  refine Eq.mpr (if_pos e8) ?_
  refine ⟨_, rfl, a, rfl, ⟨_, SqL.of ha⟩, fun D hD => ?_⟩
  have na : a ≠ D := ne_of_none ha hD
  refine lc_it (walk_list (xs := ws.map nv)) (fun i H2 => H2 = L2.upd H D (.lst ((List.replicate i true).map V.bl))) rfl (fun i H2 _ e => by rw [e]; exact SqL.of (by rw [upd_ne na]; exact ha)) ?_ ?_
  · rintro i x H2 H3 hi rfl ⟨rfl, hx⟩
    refine ⟨rfl, ?_⟩
    rw [List.getElem?_map] at hx
    cases hx' : ws[i]? with
    | none => rw [hx'] at hx; cases hx
    | some y =>
      rw [hx'] at hx
      obtain rfl : nv y = x := Option.some.inj hx
      have y48 := hw y (List.mem_of_getElem? hx')
      refine ⟨_, rfl, (y : Int), rfl, ?_⟩
      rw [decide_eq_true (show (0 : Int) ≤ (y : Int) ∧ (y : Int) < 2 ^ 48 by omega)]
      refine ⟨_, upd_same, by rw [List.length_map, List.length_replicate, sizeLine_eq]; rw [List.length_map] at hi; omega, ?_⟩
      rw [upd_upd, rep_snoc]
  · rintro H2 rfl
    refine ⟨D, List.replicate (ws.map nv).length true, rfl, SqL.of upd_same, ?_⟩
    rw [all_rep]
    exact q _ (same_new hD)
/-- a page of an image -/
def ImgV (H : Hp) (v : V) (o : Option (List Nat)) : Prop := match o with
  | none => v = .non
  | some ws => ∃ a, v = .ref a ∧ H a = some (.lst (ws.map nv)) ∧ ws.length = 8 ∧ ∀ x ∈ ws, x < 2 ^ 48
def okW (ps : List (Option (List Nat))) : Prop := ∀ ws, some ws ∈ ps → ws.length = 8 ∧ ∀ x ∈ ws, x < 2 ^ 48
def spIsImage (K : PySem.W.Frag) : Sp := fun vs H Q _ => ∃ (c : Col) (a : Addr) (ps : List (Option (List Nat))), vs = [.ref a] ∧ PgsAt c H a ps ∧ okW ps ∧ 1 ≤ ps.length ∧ ps.length ≤ 24 ∧ ∀ H', Same H H' → Q (.bl true) H'
theorem ok_f_is_image (T : Tx K mg) : FnC P w K mg base 4 (fAd K ("is_image", none)) (fdat K ("is_image", none)) ["thing"] (spIsImage K) := by
  refine fnC (fd_f_is_image T) sc_f_is_image (fun vs H Q E h => ?_) (fun cdv A0 outer s H vs Q E hrm h => ?_)
  · obtain ⟨c, a, ps, rfl, _⟩ := h
    rfl
  obtain ⟨c, a, ps, rfl, ⟨us, ha, ca, hl, hv⟩, ok, l1, l2, q⟩ := h
  refine ⟨_, (pss_cons (ps_if (PW.pt (pw_or (pt_not (pt_val (pe_callB call_isi (by rfl) (b_isinstance T) q_isinstance (pa_cons (pv 0) (pa_cons (pe_bltn (v := .ty "list") (by rfl) (b_list T) q_list rfl) pa_nil))))) (pw_or (pt_cmpR op_lt (pe_callB call_len_seq (by rfl) (b_len T) q_len (pa_cons (pv 0) pa_nil)) pe_int (nomark _)) (pw_or1 (pt_cmpR op_gt (pe_callB call_len_seq (by rfl) (b_len T) q_len (pa_cons (pv 0) pa_nil)) (pe_gi (i_MOST_PAGES T)) (nomark _)))))) (pss_one (ps_ret pe_bl)) pss_nil) (pss_one (ps_ret (pe_callB (cr_all rfl) (by rfl) (b_all T) q_all (pa_cons (pe_lc (own := [("words", 1)]) (g := gName 1) rfl sc_f_is_image.nd (pi_list (pv 0)) (blkOk_by (own := [("words", 1)]) (N := ["thing", "words"]) (sc := (defScope s_f_is_image)) (by decide +kernel)) (fun _ _ _ _ _ => pg_name (i := 1) sc_f_is_image.nd rfl (by first | exact Or.inl rfl | exact Or.inr rfl)) (fun _ _ _ _ _ => pts_nil) (fun _ _ _ _ _ => (pe_or (pe_cmpR op_isN (pv 1) pe_non (nomark _)) (pe_one (pe_f rfl (ok_f_are_words T) (hrm.mono (by decide)) (by rfl) (g_are_words T) (fd_f_are_words T).kp (bd_f_are_words T) (E := E0s) (fun _ => passAt0) (pa_cons (pv 1) pa_nil)))))) pa_nil))))), ?_⟩
  refine ⟨_, rfl, _, _, _, _, true, rfl, .ty _, .base (.lst ha), kit_ll, _, rfl, iteF ?_⟩
  refine ⟨_, rfl, _, _, rfl, .inl (SqL.of ha), _, _, rfl, rfl, _, rfl, ?_⟩
  rw [decide_eq_false (show ¬ ((us.length : Nat) : Int) < 1 by omega)]
  refine iteF ⟨_, rfl, _, _, rfl, .inl (SqL.of ha), _, _, rfl, rfl, _, rfl, ?_⟩
  rw [decide_eq_false (show ¬ (24 : Int) < ((us.length : Nat) : Int) by omega)]
  refine iteF ⟨_, rfl, a, rfl, ⟨_, SqL.of ha⟩, fun D hD => ?_⟩
  have na : a ≠ D := ne_of_none ha hD
  refine lc_it (walk_list (xs := us)) (fun i H2 => (∀ b o, H b = some o → H2 b = some o) ∧ H2 D = some (.lst ((List.replicate i true).map V.bl))) ⟨fun b o e => by rw [upd_ne (ne_of_none e hD)]; exact e, upd_same⟩ (fun i H2 _ e => SqL.of (e.1 a _ ha)) ?_ ?_
  · rintro i x H3 H2 hi ⟨s2, hD2⟩ ⟨rfl, hx⟩
    refine ⟨rfl, ?_⟩
    have lim : ((List.replicate i true).map V.bl).length < sizeLine := by rw [List.length_map, List.length_replicate, sizeLine_eq]; omega
    have hp : ps[i]? = some (ps[i]'(by omega)) := List.getElem?_eq_getElem (by omega)
    have pvx := hv i x _ hx hp
    have fin : ∀ H4 : Hp, (∀ b o, H2 b = some o → H4 b = some o) → ∃ acc, H4 D = some (.lst acc) ∧ acc.length < sizeLine ∧ ((∀ b o, H b = some o → L2.upd H4 D (.lst (acc ++ [V.bl true])) b = some o) ∧ L2.upd H4 D (.lst (acc ++ [V.bl true])) D = some (.lst ((List.replicate (i + 1) true).map V.bl))) := fun H4 s4 =>
      ⟨_, s4 _ _ hD2, lim, fun b o e => by rw [upd_ne (ne_of_none e hD)]; exact s4 _ _ (s2 _ _ e), by rw [upd_same, rep_snoc]⟩
    cases ho : ps[i]'(by omega) with
    | none =>
      rw [ho] at pvx
      obtain rfl : x = .non := pvx
      exact ⟨_, rfl, rfl, _, rfl, iteT (fin H2 fun _ _ e => e)⟩
    | some ws =>
      rw [ho] at pvx hp
      obtain ⟨b, rfl, hb, cb⟩ := pvx
      obtain ⟨h8, hw⟩ := ok ws (List.mem_of_getElem? hp)
      exact ⟨_, rfl, rfl, _, rfl, iteF ⟨_, rfl, b, ws, rfl, s2 _ _ hb, h8, hw, fun H4 s4 => fin H4 s4⟩⟩
  · rintro H2 ⟨s2, hD2⟩
    refine ⟨D, List.replicate us.length true, rfl, SqL.of hD2, ?_⟩
    rw [all_rep]
    exact q H2 s2
/-! ### counting an image -/
def nsO {α : Type} (l : List (Option α)) : Nat := l.countP Option.isSome
theorem nsO_take {α : Type} {l : List (Option α)} {i : Nat} {x : Option α} (h : l[i]? = some x) : nsO (l.take (i + 1)) = nsO (l.take i) + (if x.isSome = true then 1 else 0) := by
  unfold nsO
  rw [List.take_add_one, h, List.countP_append]
  congr 1
  cases x <;> rfl
theorem nsO_le {α : Type} {l : List (Option α)} {i : Nat} : nsO (l.take i) ≤ nsO l := List.Sublist.countP_le (List.take_sublist i l)
theorem ns_snoc {l : List (Option Nat)} {x : Option Nat} : ns (l ++ [x]) = ns l + (if x.isSome = true then 1 else 0) := by
  have h : l.count none ≤ l.length := List.count_le_length
  unfold ns
  rw [List.length_append, List.count_append]
  cases x with
  | none =>
    show l.length + 1 - (l.count none + 1) = _ + 0
    omega
  | some y =>
    show l.length + 1 - (l.count none + 0) = _ + 1
    omega
/-! ### frames that are taken one after another -/
structure Inc (F0 F : Frs) (l : List (Option Nat)) : Prop where
  o : ∀ g, F.o g = F0.o g + l.count (some g)
  wd : ∀ g, 0 < F0.o g → F.wd g = F0.wd g
  pl : F.pl = F0.pl
  g : F.g = F0.g
  n : F.ow.length = F0.ow.length
  sum : F.ow.sum = F0.ow.sum + ns l
  one : ∀ g, some g ∈ l → F.o g = 1
theorem Inc.refl {F : Frs} : Inc F F [] := ⟨fun _ => rfl, fun _ _ => rfl, rfl, rfl, rfl, rfl, fun _ h => nomatch h⟩
theorem ns_app {a b : List (Option Nat)} : ns (a ++ b) = ns a + ns b := by
  have h1 : a.count none ≤ a.length := List.count_le_length
  have h2 : b.count none ≤ b.length := List.count_le_length
  unfold ns
  rw [List.length_append, List.count_append]
  omega
theorem Inc.trans {F0 F1 F2 : Frs} {l1 l2 : List (Option Nat)} (a : Inc F0 F1 l1) (b : Inc F1 F2 l2) : Inc F0 F2 (l1 ++ l2) := by
  refine ⟨fun g => by rw [b.o, a.o, List.count_append]; omega, fun g hg => ?_, b.pl.trans a.pl, b.g.trans a.g, b.n.trans a.n, by rw [b.sum, a.sum, ns_app]; omega, fun g hg => ?_⟩
  · rw [b.wd g (by rw [a.o]; omega), a.wd g hg]
  · rcases List.mem_append.mp hg with h | h
    · have h1 := a.one g h
      have h2 := b.o g
      by_cases z : some g ∈ l2
      · exact b.one g z
      · rw [List.count_eq_zero.mpr z] at h2
        omega
    · exact b.one g h
theorem Inc.none {F0 F : Frs} {l : List (Option Nat)} (a : Inc F0 F l) : Inc F0 F (l ++ [none]) :=
  ⟨fun g => by rw [a.o, List.count_append]; rfl, a.wd, a.pl, a.g, a.n, by rw [a.sum, ns_snoc]; rfl, fun g h => a.one g ((List.mem_append.mp h).resolve_right fun z => nomatch List.mem_singleton.mp z)⟩
theorem Inc.lay {F0 F : Frs} {l : List (Option Nat)} {i : Nat} {p : Addr} {ws : List Nat} (a : Inc F0 F l) (hi : F.ow[i]? = some 0) : Inc F0 (F.lay i p ws) (l ++ [some i]) := by
  refine ⟨fun g => ?_, fun g hg => ?_, a.pl, a.g, ?_, ?_, fun g hg => ?_⟩
  · have h1 : (F.lay i p ws).o g + b1 (i = g) * 0 = F.o g + b1 (i = g) * 1 := o_set (g := g) (l := (F.lay i p ws).ow) rfl hi
    rw [List.count_append, count_cons', b1_some]
    have := a.o g
    have e0 : List.count (some g) ([] : List (Option Nat)) = 0 := rfl
    rw [e0]
    omega
  · have o0 := o_some hi
    have := a.o g
    rw [← a.wd g hg]
    exact if_neg fun z => by subst z; omega
  · show (F.ow.set i 1).length = _
    rw [List.length_set]
    exact a.n
  · have h1 : (F.lay i p ws).ow.sum + 0 = F.ow.sum + 1 := sum_set' hi
    rw [ns_snoc]
    have := a.sum
    show _ = _ + (ns l + 1)
    omega
  · have h1 : (F.lay i p ws).o g + b1 (i = g) * 0 = F.o g + b1 (i = g) * 1 := o_set (g := g) (l := (F.lay i p ws).ow) rfl hi
    rcases List.mem_append.mp hg with h | h
    · have h2 := a.one g h
      have ne : ¬ i = g := fun z => by rw [← z, o_some hi] at h2; cases h2
      rw [b1_f ne] at h1
      omega
    · have e : i = g := by
        have := List.mem_singleton.mp h
        exact (Option.some.inj this).symm
      subst e
      rw [b1_t rfl, o_some hi] at h1
      omega
/-- what making a way k may change -/
def PT (k : Bool) (t : Tag) : Prop := t = .way k 2 ∨ t = .way k 3
theorem PT.f {k : Bool} : ∀ t, t.isF → ¬ PT k t := fun t f z => by rcases z with z | z <;> rw [z] at f <;> exact f
def Tk (k : Bool) (t : Tag) : Prop := PT k t ∨ t.isF
theorem Keep.tkF {k : Bool} {c c' : Col} {H H' : Hp} (a : Keep Tag.isF c H c' H') : Keep (Tk k) c H c' H' := a.mono fun _ h => .inr h
theorem Keep.tkB {k : Bool} {c c' : Col} {H H' : Hp} (a : Keep (PT k) c H c' H') : Keep (Tk k) c H c' H' := a.mono fun _ h => .inl h
theorem tk_no {k : Bool} : ¬ Tk k .no := fun z => z.elim (fun y => y.elim (fun x => nomatch x) (fun x => nomatch x)) (fun y => y)
/-- all stands but x (and what T tells of) -/
def KA (T : Tag → Prop) (x : Addr) (c : Col) (H : Hp) (c' : Col) (H' : Hp) : Prop := ∀ b o, H b = some o → b ≠ x → ¬ T (c b) → H' b = some o ∧ c' b = c b
section
variable {T T' : Tag → Prop} {x a : Addr} {c c1 c2 : Col} {H H1 H2 : Hp} {o : HO} {t : Tag}
theorem KA.trans (p : KA T x c H c1 H1) (q : KA T x c1 H1 c2 H2) : KA T x c H c2 H2 := fun b u e ne nt => by
  obtain ⟨z1, z2⟩ := p b u e ne nt
  obtain ⟨y1, y2⟩ := q b u z1 ne (by rw [z2]; exact nt)
  exact ⟨y1, y2.trans z2⟩
theorem KA.of (p : Keep T c H c1 H1) : KA T x c H c1 H1 := fun b u e _ nt => p b u e nt
theorem KA.mono (p : KA T x c H c1 H1) (h : ∀ t, T t → T' t) : KA T' x c H c1 H1 := fun b u e ne nt => p b u e ne fun z => nt (h _ z)
theorem KA.updx : KA T x c H c (L2.upd H x o) := fun b u e ne _ => ⟨by rw [upd_ne ne]; exact e, rfl⟩
theorem KA.updD (p : KA T x c H c1 H1) (h : H a = none) : KA T x c H c1 (L2.upd H1 a o) := fun b u e ne nt => by
  obtain ⟨z1, z2⟩ := p b u e ne nt
  exact ⟨by rw [upd_ne (ne_of_none e h)]; exact z1, z2⟩
theorem KA.new (h : H a = none) : KA T x c H (colS c a t) (L2.upd H a o) := .of (.newC h)
theorem none_of_upd {y : Addr} {v u : HO} (hy : H y = some u) (h : L2.upd H y v a = none) : H a = none := by
  by_cases z : a = y
  · rw [z, upd_same] at h; cases h
  · rw [upd_ne z] at h; exact h
theorem none_of_same (s : Same H H1) (h : H1 a = none) : H a = none := by
  cases e : H a with
  | none => rfl
  | some u => rw [s a u e] at h; cases h
end
def spPtInit (K : PySem.W.Frag) : Sp := fun vs H Q _ => ∃ (F : Frs) (c : Col) (x dx a : Addr) (k : Bool) (ps : List (Option (List Nat))), vs = [.ref x, .ref F.g, .ref a] ∧ FrAt K F c H ∧ H x = some (.ins (ga K "Parts") dx []) ∧ c x = .way k 2 ∧ PgsAt c H a ps ∧ okW ps ∧
  1 ≤ ps.length ∧ ps.length ≤ 24 ∧ F.ow.sum + nsO ps ≤ F.ow.length ∧
  ∀ F' l D c' H', FrAt K F' c' H' → Inc F F' l → l.length = ps.length → ns l = nsO ps → H' x = some (.ins (ga K "Parts") dx [("ground", .ref F.g), ("leads", .ref D)]) → c' x = .way k 2 → H' D = some (.lst (l.map ov)) → c' D = .way k 3 → KA Tag.isF x c H c' H' → Q .non H'
theorem ok_Parts_init (T : Tx K mg) : FnC P w K mg base 7 (fAd K ("Parts", some "__init__")) (fdat K ("Parts", some "__init__")) ["self", "frames", "pages"] (spPtInit K) := by
  refine fnC (fd_Parts_init T) sc_Parts_init (fun vs H Q E h => ?_) (fun cdv A0 outer s H vs Q E hrm h => ?_)
  · obtain ⟨F, c, x, dx, a, k, ps, rfl, _⟩ := h
    rfl
  obtain ⟨F, c, x, dx, a, k, ps, rfl, A, hx, cx, hp, okw, l1, l2, room, q⟩ := h
  refine ⟨_, (pss_cons (ps_if (pt_not (pt_val (pe_f rfl (ok_f_is_image T) (hrm.mono (by decide)) (by rfl) (g_is_image T) (fd_f_is_image T).kp (bd_f_is_image T) (E := E0s) (fun _ => passAt0) (pa_cons (pv 2) pa_nil)))) (pss_one ps_never) pss_nil) (pss_cons (ps_fl (c_Parts T) (n_Parts_ground T) (pv 0) (pv 1)) (pss_one (ps_fl (c_Parts T) (n_Parts_leads T) (pv 0) (pe_lc (own := [("words", 3)]) (g := gName 3) rfl sc_Parts_init.nd (pi_list (pv 2)) (blkOk_by (own := [("words", 3)]) (N := ["self", "frames", "pages", "words"]) (sc := (defScope s_Parts_init)) (by decide +kernel)) (fun _ _ _ _ _ => pg_name (i := 3) sc_Parts_init.nd rfl (by first | exact Or.inl rfl | exact Or.inr rfl)) (fun _ _ _ _ _ => pts_nil) (fun _ _ _ _ _ => (pe_ifExp (pt_cmpR op_isN (pv 3) pe_non (nomark _)) pe_non (pe_fG (.inl rfl) (ok_f_laid_out T) (hrm.mono (by decide)) (by rfl) (g_laid_out T) (fd_f_laid_out T).kp (bd_f_laid_out T) (pa_cons (pv 1) (pa_cons (pv 3) pa_nil)))))))))), ?_⟩
  refine ⟨_, rfl, c, a, ps, rfl, hp, okw, l1, l2, fun H1 s1 => ⟨_, rfl, iteF ?_⟩⟩
  have A1 := A.same s1
  have hx1 := s1 _ _ hx
  refine ⟨_, rfl, _, rfl, _, _, _, rfl, hx1, by show 0 < 1000; decide, ?_⟩
  have k2 : Keep (PT k) c H1 c (L2.upd H1 x (.ins (ga K "Parts") dx (putF "ground" (.ref F.g) []))) := .upd (by rw [cx]; exact .inl rfl)
  have A2 := A1.keep k2 PT.f
  have k02 : KA Tag.isF x c H c (L2.upd H1 x (.ins (ga K "Parts") dx (putF "ground" (.ref F.g) []))) := (KA.of (.same s1)).trans .updx
  obtain ⟨us, ha0, ca0, hl, hv0⟩ := hp
  have nt' : ∀ {b : Addr}, c b = .no → ¬ (c b).isF := fun e z => by rw [e] at z; exact z
  have nx : ∀ {b l}, H b = some (.lst l) → b ≠ x := fun e z => by rw [z, hx] at e; cases e
  have ha := (k02 a _ ha0 (nx ha0) (nt' ca0)).1
  refine ⟨_, rfl, a, rfl, ⟨_, SqL.of ha⟩, fun D hD => ?_⟩
  have xD : x ≠ D := ne_of_none upd_same hD
  have hD0 : H D = none := none_of_same s1 (none_of_upd hx1 hD)
  refine lc_it (walk_list (xs := us)) (fun i H2 => ∃ (F2 : Frs) (c2 : Col) (l : List (Option Nat)), FrAt K F2 c2 H2 ∧ Inc F F2 l ∧ l.length = i ∧ ns l = nsO (ps.take i) ∧ H2 D = some (.lst (l.map ov)) ∧ c2 D = .way k 3 ∧
    H2 x = some (.ins (ga K "Parts") dx [("ground", .ref F.g)]) ∧ c2 x = .way k 2 ∧ KA Tag.isF x c H c2 H2) ?_ ?_ ?_ ?_
  · have kn : Keep (fun _ => False) c _ (colS c D (.way k 3)) (L2.upd (L2.upd H1 x (.ins (ga K "Parts") dx (putF "ground" (.ref F.g) []))) D (.lst [])) := .newC hD
    exact ⟨F, colS c D (.way k 3), [], A2.keep kn (fun _ _ z => z), .refl, rfl, rfl, upd_same, colS_same, by rw [upd_ne xD, upd_same]; rfl, by rw [colS_ne xD]; exact cx, k02.trans (.of (kn.mono fun _ z => z.elim))⟩
  · rintro i H2 _ ⟨F2, c2, l, A3, inc, hl2, hn, hD2, cD2, hx2, cx2, k3⟩
    exact SqL.of (k3 a _ ha0 (nx ha0) (nt' ca0)).1
  · rintro i v H3 H2 hi ⟨F2, c2, l, A3, inc, hl2, hn, hD2, cD2, hx2, cx2, k3⟩ ⟨rfl, hv⟩
    refine ⟨rfl, ?_⟩
    have hp : ps[i]? = some (ps[i]'(by omega)) := List.getElem?_eq_getElem (by omega)
    have pvx := hv0 i v _ hv hp
    have lim : (l.map ov).length < sizeLine := by rw [List.length_map, sizeLine_eq]; omega
    have nt := nsO_take hp
    have kD : ∀ {o : HO}, Keep (PT k) c2 H2 c2 (L2.upd H2 D o) := fun {o} => .upd (by rw [cD2]; exact .inr rfl)
    have em : ∀ {y : Option Nat}, l.map ov ++ [ov y] = (l ++ [y]).map ov := fun {y} => by rw [List.map_append]; rfl
    cases ho : ps[i]'(by omega) with
    | none =>
      rw [ho] at pvx nt
      obtain rfl : v = .non := pvx
      refine ⟨_, rfl, rfl, _, rfl, iteT ⟨_, hD2, lim, F2, c2, l ++ [none], A3.keep kD PT.f, inc.none, by rw [List.length_append, hl2]; rfl, by rw [ns_snoc, hn, nt]; rfl, ?_, cD2, by rw [upd_ne xD]; exact hx2, cx2, k3.updD hD0⟩⟩
      rw [upd_same, ← em]
      rfl
    | some ws =>
      rw [ho] at pvx nt hp
      obtain ⟨b, rfl, hb, cb⟩ := pvx
      obtain ⟨h8, hw⟩ := okw ws (List.mem_of_getElem? hp)
      obtain ⟨hb2, cb2⟩ := k3 b _ hb (nx hb) (nt' cb)
      have h0 : 0 ∈ F2.ow := free_one (by
        have e1 := inc.sum
        have e2 := inc.n
        have e3 := nsO_le (l := ps) (i := i + 1)
        have e4 : nsO (ps.take (i + 1)) = nsO (ps.take i) + 1 := nt
        omega)
      refine ⟨_, rfl, rfl, _, rfl, iteF ⟨_, rfl, _, rfl, F2, c2, b, ws, by rw [inc.g], A3, h0, hb2, by rw [cb2, cb]; exact fun z => z, h8, hw, fun j p c4 H4 hj A4 k4 => ?_⟩⟩
      obtain ⟨hD4, cD4⟩ := k4 D _ hD2 (by rw [cD2]; exact fun z => z)
      obtain ⟨hx4, cx4⟩ := k4 x _ hx2 (by rw [cx2]; exact fun z => z)
      have kD4 : ∀ {o : HO}, Keep (PT k) c4 H4 c4 (L2.upd H4 D o) := fun {o} => .upd (by rw [cD4, cD2]; exact .inr rfl)
      refine ⟨_, hD4, lim, F2.lay j p ws, c4, l ++ [some j], A4.keep kD4 PT.f, inc.lay hj, by rw [List.length_append, hl2]; rfl, by rw [ns_snoc, hn, nt]; rfl, ?_, cD4.trans cD2, by rw [upd_ne xD]; exact hx4, cx4.trans cx2, KA.updD (k3.trans (.of k4)) hD0⟩
      rw [upd_same, ← em]
      rfl
  · rintro H2 ⟨F2, c2, l, A3, inc, hl2, hn, hD2, cD2, hx2, cx2, k3⟩
    have et : ps.take us.length = ps := by rw [hl, List.take_length]
    rw [et] at hn
    refine ⟨_, rfl, _, _, _, rfl, hx2, by show 1 < 1000; decide, ?_⟩
    have k4 : Keep (PT k) c2 H2 c2 (L2.upd H2 x (.ins (ga K "Parts") dx [("ground", .ref F.g), ("leads", .ref D)])) := .upd (by rw [cx2]; exact .inl rfl)
    exact q F2 l D c2 _ (A3.keep k4 PT.f) inc (by rw [hl2, hl]) hn upd_same cx2 (by rw [upd_ne xD.symm]; exact hD2) cD2 (k3.trans .updx)
end K6
/-! Making: Shelf, Ways, Kept. -/
namespace K6
open PySem PySem.Spec PyProof.Rows L2 HotX L2H He
variable {P : Program} {w : World} {K : PySem.W.Frag} {mg : Str → Option Value} {base : Heap}
abbrev F0 : Tag → Prop := fun _ => False
theorem KA.fresh {T : Tag → Prop} {x y : Addr} {c c1 c1' c2 : Col} {H H1 H1' H2 : Hp} (p : KA T x c H c1 H1) (hy : H1 y = none) (m : KA T x c1 H1 c1' H1') (q : KA T y c1' H1' c2 H2) : KA T x c H c2 H2 := fun b u e ne nt => by
  obtain ⟨z1, z2⟩ := p b u e ne nt
  obtain ⟨w1, w2⟩ := m b u z1 ne (by rw [z2]; exact nt)
  obtain ⟨y1, y2⟩ := q b u w1 (ne_of_none z1 hy) (by rw [w2, z2]; exact nt)
  exact ⟨y1, y2.trans (w2.trans z2)⟩
theorem KA.refl {T : Tag → Prop} {x : Addr} {c : Col} {H : Hp} : KA T x c H c H := fun _ _ e _ _ => ⟨e, rfl⟩
theorem KA.keep {T : Tag → Prop} {x : Addr} {c c1 : Col} {H H1 : Hp} (p : KA T x c H c1 H1) : Keep (fun t => T t ∨ t = c x) c H c1 H1 := fun b o e nt => p b o e (fun z => nt (.inr (by rw [z]))) (fun z => nt (.inl z))
theorem KA.frat {F : Frs} {x : Addr} {c c1 : Col} {H H1 : Hp} (p : KA (fun _ => False) x c H c1 H1) (A : FrAt K F c H) (hx : ¬ (c x).isF) : FrAt K F c1 H1 := A.keep p.keep fun t f z => z.elim id fun e => hx (by rw [← e]; exact f)
/-- an object of a class is made: it and its dict -/
theorem KA.made {T : Tag → Prop} {x y dy C : Addr} {c : Col} {H : Hp} {t : Tag} (hy : H y = none) (hdy : H dy = none) (ne : dy ≠ y) : KA T x c H (colS (colS c dy .no) y t) (L2.upd (L2.upd H dy (.own y)) y (.ins C dy [])) :=
  (KA.new hdy).trans (.new (by rw [upd_ne ne.symm]; exact hy))
def spShInit (K : PySem.W.Frag) : Sp := fun vs H Q _ => ∃ (x dx : Addr) (m : Nat) (c : Col) (k : Bool), vs = [.ref x, nv m] ∧ 1 ≤ m ∧ m ≤ 12 ∧ H x = some (.ins (ga K "Shelf") dx []) ∧ c x = .way k 1 ∧
  ∀ p c' H', H' x = some (.ins (ga K "Shelf") dx [("most", nv m), ("line", .ref p)]) → c' x = .way k 1 → H' p = some (.lst []) → c' p = .way k 5 → KA F0 x c H c' H' → Q .non H'
theorem ok_Shelf_init (T : Tx K mg) : FnC P w K mg base 3 (fAd K ("Shelf", some "__init__")) (fdat K ("Shelf", some "__init__")) ["self", "most"] (spShInit K) := by
  refine fnC (fd_Shelf_init T) sc_Shelf_init (fun vs H Q E h => ?_) (fun cdv A0 outer s H vs Q E hrm h => ?_)
  · obtain ⟨x, dx, m, c, k, rfl, _⟩ := h
    rfl
  obtain ⟨x, dx, m, c, k, rfl, h1, h2, hx, cx, q⟩ := h
  refine ⟨_, (pss_cons (ps_if (PW.pt (pw_or (pt_not (pt_val (pe_fG (.inl rfl) (ok_f_is_whole T) (hrm.mono (by decide)) (by rfl) (g_is_whole T) (fd_f_is_whole T).kp (bd_f_is_whole T) (pa_cons (pv 1) pa_nil)))) (pw_or (pt_cmpR op_lt (pv 1) pe_int (nomark _)) (pw_or1 (pt_cmpR op_gt (pv 1) (pe_gi (i_MOST T)) (nomark _)))))) (pss_one ps_never) pss_nil) (pss_cons (ps_fl (c_Shelf T) (n_Shelf_most T) (pv 0) (pv 1)) (pss_one (ps_fl (c_Shelf T) (n_Shelf_line T) (pv 0) (pe_lst pa_nil))))), ?_⟩
  refine ⟨_, rfl, _, rfl, true, rfl, iteF ⟨_, rfl, _, _, rfl, rfl, _, rfl, ?_⟩⟩
  rw [decide_eq_false (show ¬ ((m : Int) < 1) by omega)]
  refine iteF ⟨_, rfl, _, _, rfl, rfl, _, rfl, ?_⟩
  rw [decide_eq_false (show ¬ ((12 : Int) < (m : Int)) by omega)]
  refine iteF ⟨_, rfl, _, rfl, _, _, _, rfl, hx, by show 0 < 1000; decide, ?_⟩
  refine ⟨szl (by show 0 ≤ 1000; decide), fun p hp => ?_⟩
  have xp : x ≠ p := ne_of_none upd_same hp
  refine ⟨_, rfl, _, _, _, rfl, by rw [upd_ne xp, upd_same], by show 1 < 1000; decide, ?_⟩
  have cx2 : colS c p (.way k 5) x = .way k 1 := (colS_ne xp).trans cx
  exact q p (colS c p (.way k 5)) _ upd_same cx2 (by rw [upd_ne xp.symm, upd_same]) colS_same ((KA.updx.trans (.new hp)).trans .updx)
def spWaInit (K : PySem.W.Frag) : Sp := fun vs H Q _ => ∃ (x dx : Addr) (m : Nat) (c : Col) (k : Bool), vs = [.ref x, nv m] ∧ 1 ≤ m ∧ m ≤ 12 ∧ H x = some (.ins (ga K "Pairs") dx []) ∧ c x = .way k 0 ∧
  ∀ sh ds p c' H', H' x = some (.ins (ga K "Pairs") dx [("held", .ref sh), ("base", nv 0)]) → c' x = .way k 0 → H' sh = some (.ins (ga K "Shelf") ds [("most", nv m), ("line", .ref p)]) → c' sh = .way k 1 → H' p = some (.lst []) → c' p = .way k 5 →
    KA F0 x c H c' H' → Q .non H'
theorem ok_Ways_init (T : Tx K mg) : FnC P w K mg base 5 (fAd K ("Ways", some "__init__")) (fdat K ("Ways", some "__init__")) ["self", "most"] (spWaInit K) := by
  refine fnC (fd_Ways_init T) sc_Ways_init (fun vs H Q E h => ?_) (fun cdv A0 outer s H vs Q E hrm h => ?_)
  · obtain ⟨x, dx, m, c, k, rfl, _⟩ := h
    rfl
  obtain ⟨x, dx, m, c, k, rfl, h1, h2, hx, cx, q⟩ := h
  refine ⟨_, (pss_cons (ps_fl (c_Pairs T) (n_Pairs_held T) (pv 0) (pe_mk rfl (k_Shelf T) (ok_Shelf_init T) (hrm.mono (by decide)) (by rfl) (g_Shelf T) (bd_Shelf_init T) (pa_cons (pv 1) pa_nil))) (pss_one (ps_fl (c_Pairs T) (n_Pairs_base T) (pv 0) pe_int))), ?_⟩
  refine ⟨_, rfl, fun y dy hy hdy ne => ?_⟩
  have xy : x ≠ y := ne_of_none hx hy
  have xd : x ≠ dy := ne_of_none hx hdy
  have nF : ∀ {t : Tag}, ¬ F0 t := fun z => z
  refine ⟨y, dy, m, colS (colS c dy .no) y (.way k 1), k, rfl, h1, h2, upd_same, colS_same, fun p c' H' e1 e2 e3 e4 kc => ⟨rfl, ?_⟩⟩
  have hx1 : L2.upd (L2.upd H dy (.own y)) y (.ins (ga K "Shelf") dy []) x = some (.ins (ga K "Pairs") dx []) := by rw [upd_ne xy, upd_ne xd]; exact hx
  have cx1 : colS (colS c dy .no) y (.way k 1) x = .way k 0 := by rw [colS_ne xy, colS_ne xd]; exact cx
  obtain ⟨hx2, cx2⟩ := kc x _ hx1 xy nF
  rw [cx1] at cx2
  have yx := xy.symm
  have px : p ≠ x := fun z => by rw [z, cx2] at e4; injection e4 with _ e4; cases e4
  have kk : KA F0 x c H c' H' := KA.refl.fresh hy (KA.made hy hdy ne) kc
  refine ⟨_, rfl, _, _, _, rfl, hx2, by show 0 < 1000; decide, ?_⟩
  refine ⟨_, rfl, _, _, _, rfl, upd_same, by show 1 < 1000; decide, ?_⟩
  rw [upd_upd]
  exact q y dy p c' _ upd_same cx2 (by rw [upd_ne yx]; exact e1) e2 (by rw [upd_ne px]; exact e3) e4 (kk.trans .updx)
/-! ### Kept -/
theorem nv_int {z : Int} {n : Nat} (h : z = (n : Int)) : V.int z = nv n := by rw [h]
structure Mine (F : Frs) (l : List (Option Nat)) : Prop where
  z : ∀ g, some g ∈ l → F.wd g = List.replicate 8 0
/-- what Kept leaves: a way, its frames taken -/
def spKpInit (K : PySem.W.Frag) : Sp := fun vs H Q _ => ∃ (n : Nat) (F : Frs) (c : Col) (x dx a : Addr) (m : Nat) (k : Bool) (ps : List (Option (List Nat))), vs = [.ref x, .ref F.g, .ref a, nv m, .int 2] ∧ FrAt K F c H ∧ H x = some (.ins (ga K "Pairs") dx []) ∧ c x = .way k 0 ∧
  PgsAt c H a ps ∧ okW ps ∧ 3 ≤ ps.length ∧ ps.length ≤ 6 ∧ 1 ≤ m ∧ m ≤ 12 ∧ F.ow.sum + 2 + nsO ps ≤ F.ow.length ∧ F.pl + 2 + nsO ps ≤ F.ow.length ∧
  ∀ y r F' c' H', y.w = x → WayAt K n F.g y k r c' H' → FrAt K F' c' H' → Inc (F.pledge (F.pl + (2 + nsO ps))) F' (some y.t :: some y.l :: y.lead) → F'.wd y.t = List.replicate 8 0 → F'.wd y.l = List.replicate 8 0 → y.lead.length = ps.length → ns y.lead = nsO ps →
    KA Tag.isF x c H c' H' → Q .non H'
theorem ok_Kept_init (T : Tx K mg) : FnC P w K mg base 9 (fAd K ("Kept", some "__init__")) (fdat K ("Kept", some "__init__")) ["self", "frames", "pages", "most", "many"] (spKpInit K) := by
  refine fnC (fd_Kept_init T) sc_Kept_init (fun vs H Q E h => ?_) (fun cdv A0 outer s H vs Q E hrm h => ?_)
  · obtain ⟨n, F, c, x, dx, a, m, k, ps, rfl, _⟩ := h
    rfl
  obtain ⟨n, F, c, x, dx, a, m, k, ps, rfl, A, hx, cx, hp, okw, l3, l6, m1, m2, room, roomp, q⟩ := h
  refine ⟨_, (pss_cons (ps_if (pt_not (pt_val (pe_f rfl (ok_f_is_image T) (hrm.mono (by decide)) (by rfl) (g_is_image T) (fd_f_is_image T).kp (bd_f_is_image T) (E := E0s) (fun _ => passAt0) (pa_cons (pv 2) pa_nil)))) (pss_one ps_never) pss_nil) (pss_cons (ps_expr (pe_cls rfl (by rfl) (g_Ways T) (x_rdWays T) (x_initWays T) (ok_Ways_init T) (hrm.mono (by decide)) (fd_Ways_init T).kp (bd_Ways_init T) (E := E0s) (fun _ => passAt0) (pa_cons (pv 0) (pa_cons (pv 3) pa_nil)))) (pss_cons (ps_if (pt_not (pt_val (pe_m rfl (pv 1) (c_Frames T) (m_Frames_ask T) (ok_Frames_ask T) (hrm.mono (by decide)) (bd_Frames_ask T) (E := E0s) (fun _ => passAt0) (pa_cons (pe_op op_add (pv 4) (pe_callB call_len_seq (by rfl) (b_len T) q_len (pa_cons (pe_lc (own := [("words", 5)]) (g := gName 5) rfl sc_Kept_init.nd (pi_list (pv 2)) (blkOk_by (own := [("words", 5)]) (N := ["self", "frames", "pages", "most", "many", "words", "k"]) (sc := (defScope s_Kept_init)) (by decide +kernel)) (fun _ _ _ _ _ => pg_name (i := 5) sc_Kept_init.nd rfl (by first | exact Or.inl rfl | exact Or.inr rfl)) (fun _ _ _ _ _ => (pts_one (pt_cmpR op_notN (pv 5) pe_non (nomark _)))) (fun _ _ _ _ _ => (pv 5))) pa_nil))) pa_nil)))) (pss_one ps_never) pss_nil) (pss_cons (ps_fl (c_Pairs T) (n_Pairs_ground T) (pv 0) (pv 1)) (pss_cons (ps_fl (c_Pairs T) (n_Pairs_mine T) (pv 0) (pe_lc (own := [("k", 6)]) (g := gName 6) rfl sc_Kept_init.nd (pi_range1 (by rfl) (b_range T) (pa_cons (pv 4) pa_nil)) (blkOk_by (own := [("k", 6)]) (N := ["self", "frames", "pages", "most", "many", "words", "k"]) (sc := (defScope s_Kept_init)) (by decide +kernel)) (fun _ _ _ _ _ => pg_name (i := 6) sc_Kept_init.nd rfl (by first | exact Or.inl rfl | exact Or.inr rfl)) (fun _ _ _ _ _ => pts_nil) (fun _ _ _ _ _ => (pe_m0G (.inl rfl) (pv 1) (c_Frames T) (m_Frames_take T) (ok_Frames_take T) (hrm.mono (by decide)) (bd_Frames_take T))))) (pss_cons (ps_fl (c_Pairs T) (n_Pairs_part T) (pv 0) (pe_mk rfl (k_Parts T) (ok_Parts_init T) (hrm.mono (by decide)) (by rfl) (g_Parts T) (bd_Parts_init T) (pa_cons (pv 1) (pa_cons (pv 2) pa_nil)))) (pss_cons (ps_fl (c_Pairs T) (n_Pairs_changed T) (pv 0) pe_dnewK) (pss_one (ps_fl (c_Pairs T) (n_Pairs_answers T) (pv 0) (pe_lst pa_nil)))))))))), ?_⟩
  obtain ⟨us, ha0, ca0, hl, hv0⟩ := hp
  have hp : PgsAt c H a ps := ⟨us, ha0, ca0, hl, hv0⟩
  refine ⟨_, rfl, c, a, ps, rfl, hp, okw, by omega, by omega, fun H1 s1 => ⟨_, rfl, iteF ?_⟩⟩
  have A1 := A.same s1
  refine ⟨_, rfl, _, rfl, x, dx, m, c, k, rfl, m1, m2, s1 _ _ hx, cx, fun sh ds ln c2 H2 hx2 cx2 hs2 cs2 hl2 cl2 k12 => ?_⟩
  have nF : ∀ {t : Tag}, ¬ F0 t := fun z => z
  have cxF : ∀ {c' : Col}, c' x = .way k 0 → ¬ (c' x).isF := fun e z => by rw [e] at z; exact z
  have A2 : FrAt K F c2 H2 := k12.frat A1 (cxF cx)
  have nt' : ∀ {b : Addr}, c b = .no → ¬ (c b).isF := fun e z => by rw [e] at z; exact z
  have nx : ∀ {b l}, H b = some (.lst l) → b ≠ x := fun e z => by rw [z, hx] at e; cases e
  have p2 : KA Tag.isF x c H c2 H2 := (KA.of (.same s1)).trans (k12.mono fun _ z => z.elim)
  have ha2 := (p2 a _ ha0 (nx ha0) (nt' ca0)).1
  refine ⟨_, rfl, _, _, _, rfl, A2.hg, rfl, _, rfl, _, rfl, a, rfl, ⟨_, SqL.of ha2⟩, fun D hD => ?_⟩
  have na : a ≠ D := ne_of_none ha2 hD
  refine lc_it (walk_list (xs := us)) (fun i H3 => Same H2 H3 ∧ ∃ fl : List V, H3 D = some (.lst fl) ∧ fl.length = nsO (ps.take i)) ⟨same_new hD, [], upd_same, rfl⟩ (fun i H3 _ e => SqL.of (e.1 a _ ha2)) ?_ ?_
  · rintro i v H4 H3 hi ⟨s3, fl, hD3, hfl⟩ ⟨rfl, hv⟩
    refine ⟨rfl, ?_⟩
    have hpi : ps[i]? = some (ps[i]'(by omega)) := List.getElem?_eq_getElem (by omega)
    have pvx := hv0 i v _ hv hpi
    have nt2 := nsO_take hpi
    have lim : fl.length < sizeLine := by
      have := nsO_le (l := ps) (i := i)
      have h2 : nsO ps ≤ ps.length := List.countP_le_length
      rw [sizeLine_eq]
      omega
    cases ho : ps[i]'(by omega) with
    | none =>
      rw [ho] at pvx nt2
      obtain rfl : v = .non := pvx
      exact ⟨_, rfl, rfl, _, rfl, iteF ⟨s3, fl, hD3, by rw [hfl, nt2]; rfl⟩⟩
    | some ws =>
      rw [ho] at pvx nt2
      obtain ⟨b, rfl, hb, cb⟩ := pvx
      refine ⟨_, rfl, rfl, _, rfl, iteT ⟨_, rfl, fl, hD3, lim, fun b o e => ?_, fl ++ [.ref b], upd_same, by rw [List.length_append, hfl, nt2]; rfl⟩⟩
      rw [upd_ne (ne_of_none e hD)]
      exact s3 _ _ e
  rintro H3 ⟨s3, fl, hD3, hfl⟩
  have et : ps.take us.length = ps := by rw [hl, List.take_length]
  rw [et] at hfl
  have A3 := A2.same s3
  refine ⟨D, fl, rfl, .inl (SqL.of hD3), _, _, rfl, rfl, F, c2, (2 : Int) + (fl.length : Nat), rfl, A3, fun _ H4 A4 k4 => ?_, fun no => absurd (by omega) no⟩
  rw [hfl] at A4
  obtain ⟨Fp, hFp⟩ : ∃ Fp, Fp = F.pledge (F.pl + (2 + (nsO ps : Nat))) := ⟨_, rfl⟩
  have A4' : FrAt K Fp c2 H4 := by rw [hFp]; exact A4
  have gp : Fp.g = F.g := by rw [hFp]; rfl
  have np : Fp.ow.length = F.ow.length := by rw [hFp]; rfl
  have sp : Fp.ow.sum = F.ow.sum := by rw [hFp]; rfl
  have p4 : KA Tag.isF x c2 H2 c2 H4 := (KA.of (.same s3)).trans (.of k4)
  have hx4 := (k4 x _ (s3 _ _ hx2) (cxF cx2)).1
  refine ⟨_, rfl, iteF ⟨_, rfl, _, rfl, _, _, _, rfl, hx4, by show 2 < 1000; decide, ?_⟩⟩
  have A5 := (KA.updx (T := fun _ => False) (x := x) (o := .ins (ga K "Pairs") dx [("held", V.ref sh), ("base", nv 0), ("ground", .ref F.g)])).frat A4' (cxF cx2)
  have p5 := p4.trans (KA.updx (T := Tag.isF) (x := x) (o := .ins (ga K "Pairs") dx [("held", V.ref sh), ("base", nv 0), ("ground", .ref F.g)]))
  obtain ⟨H5, hH5⟩ : ∃ H5, H5 = L2.upd H4 x (.ins (ga K "Pairs") dx [("held", V.ref sh), ("base", nv 0), ("ground", .ref F.g)]) := ⟨_, rfl⟩
  have hx5 : H5 x = some (.ins (ga K "Pairs") dx [("held", V.ref sh), ("base", nv 0), ("ground", .ref F.g)]) := by rw [hH5]; exact upd_same
  rw [← hH5] at A5 p5
  show (fun H5' => _) (L2.upd H4 x (.ins (ga K "Pairs") dx [("held", V.ref sh), ("base", nv 0), ("ground", .ref F.g)]))
  rw [← hH5]
  have room1 : Fp.ow.sum + 2 + nsO ps ≤ Fp.ow.length := by rw [sp, np]; exact room
  refine ⟨_, rfl, (2 : Int), rfl, by decide, by decide, fun D6 hD6 => ?_⟩
  have xD6 : x ≠ D6 := ne_of_none hx5 hD6
  refine lc_it (walk_range (lo := 0) (n := 2)) (fun i H6 => ∃ (F6 : Frs) (c6 : Col) (l : List (Option Nat)), FrAt K F6 c6 H6 ∧ Inc Fp F6 l ∧ l.length = i ∧ ns l = i ∧ Mine F6 l ∧ H6 D6 = some (.lst (l.map ov)) ∧ c6 D6 = .way k 4 ∧
    H6 x = some (.ins (ga K "Pairs") dx [("held", V.ref sh), ("base", nv 0), ("ground", .ref F.g)]) ∧ c6 x = .way k 0 ∧ KA Tag.isF x c2 H5 c6 H6) ?_ (fun _ _ _ _ => trivial) ?_ ?_
  · exact ⟨Fp, colS c2 D6 (.way k 4), [], A5.keep (T := fun _ => False) (.newC hD6) (fun _ _ z => z), .refl, rfl, rfl, ⟨fun _ h => nomatch h⟩, upd_same, colS_same, by rw [upd_ne xD6]; exact hx5, by rw [colS_ne xD6]; exact cx2, .new hD6⟩
  · rintro i v H7 H6 hi ⟨F6, c6, l, A6, inc, hl6, hn6, mine, hD6', cD6, hx6, cx6, k6⟩ ⟨rfl, rfl⟩
    refine ⟨rfl, ?_⟩
    have h0 : 0 ∈ F6.ow := free_one (by
      have e1 := inc.sum
      have e2 := inc.n
      omega)
    refine ⟨_, rfl, _, _, _, rfl, by rw [← gp, ← inc.g]; exact A6.hg, rfl, F6, c6, by rw [inc.g, gp], A6, h0, fun j p c8 H8 hj A8 k8 => ?_⟩
    obtain ⟨hD8, cD8⟩ := k8 D6 _ hD6' (by rw [cD6]; exact fun z => z)
    obtain ⟨hx8, cx8⟩ := k8 x _ hx6 (by rw [cx6]; exact fun z => z)
    have kD8 : ∀ {o : HO}, Keep (BT k) c8 H8 c8 (L2.upd H8 D6 o) := fun {o} => .upd (by rw [cD8, cD6]; rfl)
    have em : ∀ {y : Option Nat}, l.map ov ++ [ov y] = (l ++ [y]).map ov := fun {y} => by rw [List.map_append]; rfl
    refine ⟨_, hD8, by rw [List.length_map, sizeLine_eq]; omega, F6.take j p, c8, l ++ [some j], A8.keep kD8 BT.f, inc.lay hj, by rw [List.length_append, hl6]; rfl, by rw [ns_snoc, hn6]; rfl, ⟨fun g hg => ?_⟩, ?_, cD8.trans cD6, by rw [upd_ne xD6]; exact hx8, cx8.trans cx6, KA.updD (k6.trans (.of k8)) hD6⟩
    · rcases List.mem_append.mp hg with h | h
      · have e1 := inc.one g h
        have ne : ¬ g = j := fun z => by rw [z, o_some hj] at e1; cases e1
        show (if g = j then List.replicate 8 0 else F6.wd g) = _
        rw [if_neg ne]
        exact mine.z g h
      · have e : g = j := Option.some.inj (List.mem_singleton.mp h)
        show (if g = j then List.replicate 8 0 else F6.wd g) = _
        rw [if_pos e]
    · rw [upd_same, ← em]
      rfl
  rintro H6 ⟨F6, c6, l, A6, inc, hl6, hn6, mine, hD6', cD6, hx6, cx6, k6⟩
  obtain ⟨t, l', rfl⟩ : ∃ t l', l = [some t, some l'] := by
    match l, hl6, hn6 with
    | [some t, some l'], _, _ => exact ⟨t, l', rfl⟩
    | [none, some _], _, h => exact absurd (show (1 : Nat) = 2 from h) (by decide)
    | [some _, none], _, h => exact absurd (show (1 : Nat) = 2 from h) (by decide)
    | [none, none], _, h => exact absurd (show (0 : Nat) = 2 from h) (by decide)
  have g6 : F6.g = F.g := inc.g.trans gp
  refine ⟨_, rfl, _, _, _, rfl, hx6, by show 3 < 1000; decide, ?_⟩
  obtain ⟨H7, hH7⟩ : ∃ H7, H7 = L2.upd H6 x (.ins (ga K "Pairs") dx [("held", V.ref sh), ("base", nv 0), ("ground", .ref F.g), ("mine", .ref D6)]) := ⟨_, rfl⟩
  show (fun H7' => _) (L2.upd H6 x (.ins (ga K "Pairs") dx [("held", V.ref sh), ("base", nv 0), ("ground", .ref F.g), ("mine", .ref D6)]))
  rw [← hH7]
  have hx7 : H7 x = some (.ins (ga K "Pairs") dx [("held", V.ref sh), ("base", nv 0), ("ground", .ref F.g), ("mine", .ref D6)]) := by rw [hH7]; exact upd_same
  have k67 : KA Tag.isF x c6 H6 c6 H7 := by rw [hH7]; exact .updx
  have A7 : FrAt K F6 c6 H7 := by rw [hH7]; exact (KA.updx (T := fun _ => False) (x := x)).frat A6 (cxF cx6)
  have p7 : KA Tag.isF x c H c6 H7 := ((p2.trans p5).trans k6).trans k67
  have q7 : KA Tag.isF x c2 H2 c6 H7 := (p5.trans k6).trans k67
  have ha7 := p7 a _ ha0 (nx ha0) (nt' ca0)
  refine ⟨_, rfl, _, rfl, fun y dy hy hdy ne => ?_⟩
  have xy : x ≠ y := ne_of_none hx7 hy
  have xd : x ≠ dy := ne_of_none hx7 hdy
  have mk : ∀ {T : Tag → Prop}, KA T x c6 H7 (colS (colS c6 dy .no) y (.way k 2)) (L2.upd (L2.upd H7 dy (.own y)) y (.ins (ga K "Parts") dy [])) := fun {T} => KA.made hy hdy ne
  have A8 : FrAt K F6 (colS (colS c6 dy .no) y (.way k 2)) (L2.upd (L2.upd H7 dy (.own y)) y (.ins (ga K "Parts") dy [])) := mk.frat A7 (cxF cx6)
  have p8 := p7.trans mk
  have hp8 : PgsAt (colS (colS c6 dy .no) y (.way k 2)) (L2.upd (L2.upd H7 dy (.own y)) y (.ins (ga K "Parts") dy [])) a ps := by
    refine ⟨us, (p8 a _ ha0 (nx ha0) (nt' ca0)).1, (p8 a _ ha0 (nx ha0) (nt' ca0)).2.trans ca0, hl, fun qq v o e1 e2 => ?_⟩
    have z := hv0 qq v o e1 e2
    cases o with
    | none => exact z
    | some ws =>
      obtain ⟨b, eb, hb, cb⟩ := z
      obtain ⟨z1, z2⟩ := p8 b _ hb (nx hb) (nt' cb)
      exact ⟨b, eb, z1, z2.trans cb⟩
  have s6 := inc.sum
  have n6 := inc.n
  have e2 : ns [some t, some l'] = 2 := rfl
  rw [e2] at s6
  refine ⟨F6, colS (colS c6 dy .no) y (.way k 2), y, dy, a, k, ps, by rw [g6], A8, upd_same, colS_same, hp8, okw, by omega, by omega, by omega, fun F9 ld D9 c9 H9 A9 inc9 hl9 hn9 hy9 cy9 hD9 cD9 k9 => ⟨rfl, ?_⟩⟩
  rw [g6] at hy9
  have m8 := KA.made (T := Tag.isF) (x := x) (C := ga K "Parts") (t := Tag.way k 2) (c := c6) hy hdy ne
  have fresh : ∀ {c0 : Col} {H0 : Hp}, KA Tag.isF x c0 H0 c6 H7 → KA Tag.isF x c0 H0 c9 H9 := fun p => p.fresh hy m8 k9
  have hx8 : L2.upd (L2.upd H7 dy (.own y)) y (.ins (ga K "Parts") dy []) x = some (.ins (ga K "Pairs") dx [("held", V.ref sh), ("base", nv 0), ("ground", .ref F.g), ("mine", .ref D6)]) := by rw [upd_ne xy, upd_ne xd]; exact hx7
  have cx8 : colS (colS c6 dy .no) y (.way k 2) x = .way k 0 := by rw [colS_ne xy, colS_ne xd]; exact cx6
  obtain ⟨hx9, cx9⟩ := k9 x _ hx8 xy (by rw [cx8]; exact fun z => z)
  rw [cx8] at cx9
  have p9 := fresh p7
  have q9 := fresh q7
  have r9 := fresh k67
  have yx := xy.symm
  have D9x : D9 ≠ x := fun z => by rw [z, hx9] at hD9; cases hD9
  refine ⟨_, rfl, _, _, _, rfl, hx9, by show 4 < 1000; decide, fun p hp => ?_⟩
  have xp : x ≠ p := ne_of_none upd_same hp
  refine ⟨_, rfl, _, _, _, rfl, by rw [upd_ne xp, upd_same], by show 5 < 1000; decide, szl (by show 0 ≤ 1000; decide), fun p' hp' => ?_⟩
  have xp' : x ≠ p' := ne_of_none upd_same hp'
  refine ⟨_, rfl, _, _, _, rfl, by rw [upd_ne xp', upd_same], by show 6 < 1000; decide, ?_⟩
  have p'p : p' ≠ p := fun z => by rw [z, upd_ne xp.symm, upd_same] at hp'; cases hp'
  have fin : ∀ {T : Tag → Prop}, KA T x c9 H9 (colS (colS c9 p (.way k 6)) p' (.way k 7)) (L2.upd (L2.upd (L2.upd (L2.upd (L2.upd H9 x (HO.ins (ga K "Pairs") dx [("held", V.ref sh), ("base", nv 0), ("ground", V.ref F.g), ("mine", V.ref D6), ("part", V.ref y)])) p (.dK [])) x (HO.ins (ga K "Pairs") dx [("held", V.ref sh), ("base", nv 0), ("ground", V.ref F.g), ("mine", V.ref D6), ("part", V.ref y), ("changed", V.ref p)])) p' (.lst [])) x (HO.ins (ga K "Pairs") dx [("held", V.ref sh), ("base", nv 0), ("ground", V.ref F.g), ("mine", V.ref D6), ("part", V.ref y), ("changed", V.ref p), ("answers", V.ref p')])) := fun {T} => ((((KA.updx (x := x)).trans (.new hp)).trans .updx).trans (.new hp')).trans .updx
  have nF : ∀ {t : Tag} {j : Nat}, t = .way k j → ¬ t.isF := fun e z => by rw [e] at z; exact z
  have shx : sh ≠ x := fun z => by rw [z, cx2] at cs2; injection cs2 with _ e; cases e
  have lnx : ln ≠ x := fun z => by rw [z, cx2] at cl2; injection cl2 with _ e; cases e
  obtain ⟨hs', cs'⟩ := (q9.trans fin) sh _ hs2 shx (nF cs2)
  obtain ⟨hl', cl'⟩ := (q9.trans fin) ln _ hl2 lnx (nF cl2)
  obtain ⟨hm', cm'⟩ := (r9.trans fin) D6 _ hD6' xD6.symm (nF cD6)
  obtain ⟨hy', cy'⟩ := (fin (T := fun _ => False)) y _ hy9 yx (fun z => z)
  obtain ⟨hd', cd'⟩ := (fin (T := fun _ => False)) D9 _ hD9 D9x (fun z => z)
  have px : p ≠ x := xp.symm
  have p'x : p' ≠ x := xp'.symm
  have cxf : colS (colS c9 p (.way k 6)) p' (.way k 7) x = .way k 0 := by rw [colS_ne xp', colS_ne xp]; exact cx9
  have cpf : colS (colS c9 p (.way k 6)) p' (.way k 7) p = .way k 6 := by rw [colS_ne p'p.symm]; exact colS_same
  refine q ⟨x, dx, sh, ds, y, dy, D9, D6, t, l', ld⟩ ⟨0, m, ln, [], p, [], p', []⟩ F9 _ _ rfl ⟨upd_same, hs', hy', hd', hm', hl', ?_, ?_, cxf, cs'.trans cs2, cy'.trans cy9, cd'.trans cD9, cm'.trans cD6, cl'.trans cl2, cpf, colS_same, by rw [hl9]; exact l3, by rw [hl9]; exact l6, m1, Nat.zero_le _, m2, (fun v hv => nomatch hv), Nat.zero_le _, Nat.zero_le _⟩ ?_ ?_ ?_ ?_ hl9 hn9 (p9.trans fin)
  · rw [upd_ne px, upd_ne p'p.symm, upd_ne px, upd_same]
  · rw [upd_ne p'x, upd_same]
  · exact (fin (T := fun _ => False)).frat A9 (cxF cx9)
  · have := inc.trans inc9
    rw [← hFp]
    exact this
  · show F9.wd t = _
    rw [inc9.wd t (by rw [inc.one t List.mem_cons_self]; decide)]
    exact mine.z t List.mem_cons_self
  · show F9.wd l' = _
    rw [inc9.wd l' (by rw [inc.one l' (List.mem_cons_of_mem _ List.mem_cons_self)]; decide)]
    exact mine.z l' (List.mem_cons_of_mem _ List.mem_cons_self)
end K6
/-! Making: Pairs. -/
namespace K6
open PySem PySem.Spec PyProof.Rows L2 HotX L2H He
variable {P : Program} {w : World} {K : PySem.W.Frag} {mg : Str → Option Value} {base : Heap}
def iRow : Option Nat → Nat
  | none => 0
  | some f => 256 * f + 1
structure Made (S S' : Sy) (k : Bool) (ps : List (Option (List Nat))) : Prop where
  on : ∀ j, S'.on j ↔ (j = k ∨ S.on j)
  oth : ∀ j, j ≠ k → S'.y j = S.y j
  o : ∀ g, S'.F.o g = S.F.o g + cw (S'.y k) g
  tb : S'.F.o (S'.y k).t = 1 ∧ S'.F.o (S'.y k).l = 1
  wd : ∀ g, 0 < S.F.o g → S'.F.wd g = S.F.wd g
  pl : S'.F.pl = S.F.pl + (2 + (nsO ps : Nat))
  g : S'.F.g = S.F.g
  n : S'.F.ow.length = S.F.ow.length
  sum : S'.F.ow.sum = S.F.ow.sum + 2 + nsO ps
  len : (S'.y k).lead.length = ps.length
  nsl : ns (S'.y k).lead = nsO ps
  top : (S'.F.wd (S'.y k).t)[0]? = some (256 * (S'.y k).l + 3)
  row : ∀ p, p < (S'.y k).lead.length → (S'.F.wd (S'.y k).l)[p]? = some (iRow ((S'.y k).f p))
  one : ∀ g, 0 < cw (S'.y k) g → S'.F.o g = 1
theorem KA.u {x : Addr} {c c' : Col} {H H' : Hp} (p : KA Tag.isF x c H c' H') (hx : c x ≠ .no) : KeepU c H c' H' := fun b o e nt => p b o e (fun z => nt (by rw [z]; exact hx)) (fun z => nt (fun y => by rw [y] at z; exact z))
def spPrInit (K : PySem.W.Frag) : Sp := fun vs H Q _ => ∃ (n : Nat) (S : Sy) (k : Bool) (x dx a : Addr) (m : Nat) (ps : List (Option (List Nat))), vs = [.ref x, .ref S.F.g, .ref a, nv m] ∧ At K n S H ∧ ¬ S.on k ∧ H x = some (.ins (ga K "Pairs") dx []) ∧ S.c x = .way k 0 ∧
  PgsAt S.c H a ps ∧ okW ps ∧ 3 ≤ ps.length ∧ ps.length ≤ 6 ∧ 1 ≤ m ∧ m ≤ 12 ∧ S.F.ow.sum + 2 + nsO ps ≤ S.F.ow.length ∧ S.F.pl + 2 + nsO ps ≤ S.F.ow.length ∧
  ∀ S' H', At K n S' H' → Made S S' k ps → (S'.y k).w = x → KeepU S.c H S'.c H' → Q .non H'
theorem ok_Pairs_init (T : Tx K mg) : FnC P w K mg base 10 (fAd K ("Pairs", some "__init__")) (fdat K ("Pairs", some "__init__")) ["self", "frames", "pages", "most"] (spPrInit K) := by
  refine fnC (fd_Pairs_init T) sc_Pairs_init (fun vs H Q E h => ?_) (fun cdv A0 outer s H vs Q E hrm h => ?_)
  · obtain ⟨n, S, k, x, dx, a, m, ps, rfl, _⟩ := h
    rfl
  obtain ⟨n, S, k, x, dx, a, m, ps, rfl, A, nk, hx, cx, hp, okw, l3, l6, m1, m2, room, roomp, q⟩ := h
  refine ⟨_, (pss_cons (ps_if (pt_not (pt_val (pe_f rfl (ok_f_is_image T) (hrm.mono (by decide)) (by rfl) (g_is_image T) (fd_f_is_image T).kp (bd_f_is_image T) (E := E0s) (fun _ => passAt0) (pa_cons (pv 2) pa_nil)))) (pss_one ps_never) pss_nil) (pss_cons (ps_expr (pe_cls rfl (by rfl) (g_Kept T) (x_rdKept T) (x_initKept T) (ok_Kept_init T) (hrm.mono (by decide)) (fd_Kept_init T).kp (bd_Kept_init T) (E := E0s) (fun _ => passAt0) (pa_cons (pv 0) (pa_cons (pv 1) (pa_cons (pv 2) (pa_cons (pv 3) (pa_cons (pe_op op_add pe_int (pe_op op_fdiv (pe_op op_sub (pe_op op_add (pe_callB call_len_seq (by rfl) (b_len T) q_len (pa_cons (pv 2) pa_nil)) (pe_gi (i_EACH T))) pe_int) (pe_gi (i_EACH T)))) pa_nil))))))) (pss_cons (ps_for (passes_of rfl) rfl (pi_enum (by rfl) (b_enumerate T) (pa_cons (pe_slice sl_list (pe_fl (c_Pairs T) (n_Pairs_mine T) (pv 0)) (po_some pe_int) po_none) pa_nil)) (pg_tupG (.inl rfl) (pgs_cons (pg_name (i := 4) sc_Pairs_init.nd rfl (by first | exact Or.inl rfl | exact Or.inr rfl)) (pgs_cons (pg_name (i := 5) sc_Pairs_init.nd rfl (by first | exact Or.inl rfl | exact Or.inr rfl)) pgs_nil))) (pss_one (ps_expr (pe_mG (.inl rfl) (pe_fl (c_Pairs T) (n_Pairs_ground T) (pv 0)) (c_Frames T) (m_Frames_write T) (ok_Frames_write T) (hrm.mono (by decide)) (bd_Frames_write T) (pa_cons (pe_ix ix_list (pe_fl (c_Pairs T) (n_Pairs_mine T) (pv 0)) pe_int (fun _ _ => rfl)) (pa_cons (pv 4) (pa_cons (pe_fG (.inl rfl) (ok_f_row_of T) (hrm.mono (by decide)) (by rfl) (g_row_of T) (fd_f_row_of T).kp (bd_f_row_of T) (pa_cons (pv 5) (pa_cons (pe_op op_or (pe_gi (i_PRESENT T)) (pe_gi (i_WRITABLE T))) pa_nil))) pa_nil))))))) (pss_one (ps_for (passes_of rfl) rfl (pi_range1 (by rfl) (b_range T) (pa_cons (pe_m0 rfl (pv 0) (c_Pairs T) (m_Pairs_size T) (ok_Pairs_size T) (hrm.mono (by decide)) (bd_Pairs_size T) (E := E0s) (fun _ => passAt0)) pa_nil)) (pg_name (i := 6) sc_Pairs_init.nd rfl (by first | exact Or.inl rfl | exact Or.inr rfl)) (pss_one (ps_if (pt_val (pe_m rfl (pv 0) (c_Pairs T) (m_Pairs_has T) (ok_Pairs_has T) (hrm.mono (by decide)) (bd_Pairs_has T) (E := E0s) (fun _ => passAt0) (pa_cons (pv 6) pa_nil))) (pss_one (ps_expr (pe_mG (.inl rfl) (pv 0) (c_Pairs T) (m_Pairs_lay_row T) (ok_Pairs_lay_row T) (hrm.mono (by decide)) (bd_Pairs_lay_row T) (pa_cons (pv 6) (pa_cons (pe_fG (.inl rfl) (ok_f_row_of T) (hrm.mono (by decide)) (by rfl) (g_row_of T) (fd_f_row_of T).kp (bd_f_row_of T) (pa_cons (pe_mG (.inl rfl) (pv 0) (c_Pairs T) (m_Pairs_frame T) (ok_Pairs_frame T) (hrm.mono (by decide)) (bd_Pairs_frame T) (pa_cons (pv 6) pa_nil)) (pa_cons (pe_gi (i_PRESENT T)) pa_nil))) pa_nil))))) pss_nil))))))), ?_⟩
  obtain ⟨us, ha0, ca0, hl, hv0⟩ := hp
  have hp : PgsAt S.c H a ps := ⟨us, ha0, ca0, hl, hv0⟩
  refine ⟨_, rfl, S.c, a, ps, rfl, hp, okw, by omega, by omega, fun H1 s1 => ⟨_, rfl, iteF ?_⟩⟩
  have A1 := A.same s1
  have hp1 := hp.keep (T := fun _ => False) (c' := S.c) (.same s1) (fun z => z)
  have ha1 := s1 _ _ ha0
  refine ⟨_, rfl, _, rfl, _, rfl, _, rfl, _, rfl, a, us, rfl, .inl (SqL.of ha1), (us.length : Int), 8, rfl, rfl, (us.length : Int) + 8, 1, rfl, rfl, (us.length : Int) + 8 - 1, 8, rfl, rfl, c8, (1 : Int), _, rfl, rfl, ?_⟩
  have e2 : (1 : Int) + ((us.length : Int) + 8 - 1) / 8 = 2 := by omega
  dsimp only
  rw [e2]
  refine ⟨n, S.F, S.c, x, dx, a, m, k, ps, rfl, A1.fr, s1 _ _ hx, cx, hp1, okw, l3, l6, m1, m2, room, roomp, fun y r F1 c1 H2 yw W2 A2 inc zt zl len nsl k2 => ?_⟩
  have px : x = y.w := yw.symm
  subst px
  have W2s := W2
  obtain ⟨S1, hS1⟩ : ∃ S1 : Sy, S1 = { F := F1, y := fun j => if j = k then y else S.y j, on := fun j => j = k ∨ S.on j, c := c1 } := ⟨_, rfl⟩
  have y1 : S1.y k = y := by rw [hS1]; exact if_pos rfl
  have o1 : S1.on k := by rw [hS1]; exact .inl rfl
  have g1 : F1.g = S.F.g := inc.g
  have eF : S1.F = F1 := by rw [hS1]
  have ec : S1.c = c1 := by rw [hS1]
  have AS : At K n S1 H2 := by
    rw [hS1]
    refine ⟨A2, fun j oj => ?_⟩
    by_cases z : j = k
    · subst z
      refine ⟨r, ?_⟩
      show WayAt K n F1.g (if j = j then y else S.y j) j r c1 H2
      rw [if_pos rfl, g1]
      exact W2
    · obtain ⟨r', W'⟩ := A1.wy j (oj.resolve_left z)
      refine ⟨r', ?_⟩
      show WayAt K n F1.g (if j = k then y else S.y j) j r' c1 H2
      rw [if_neg z, g1]
      refine W'.keep k2.keep fun i h => ?_
      rcases h with h | h
      · exact h
      · have h' : Tag.way j i = S.c y.w := h
        rw [cx] at h'
        injection h' with h' _
        exact z h'
  have ku0 : KeepU S.c H c1 H2 := (Keep.same s1).trans (k2.u (by rw [cx]; exact fun z => nomatch z))
  have ot : F1.o y.t = 1 := inc.one _ List.mem_cons_self
  have ol : F1.o y.l = 1 := inc.one _ (List.mem_cons_of_mem _ List.mem_cons_self)
  have tt : Tkn F1 y.t := o_tkn.mpr (by rw [ot]; decide)
  have tl : Tkn F1 y.l := o_tkn.mpr (by rw [ol]; decide)
  have cwo : ∀ g, F1.o g = S.F.o g + cw y g := fun g => by
    have h := inc.o g
    rw [count_cons', count_cons', b1_some, b1_some] at h
    unfold cw
    have e : (S.F.pledge (S.F.pl + (2 + (nsO ps : Nat)))).o g = S.F.o g := rfl
    rw [e] at h
    omega
  have ntl : y.t ≠ y.l := fun z => by
    have h := cwo y.l
    rw [ol] at h
    unfold cw at h
    rw [b1_t z, b1_t (p := y.l = y.l) rfl] at h
    omega
  have l200 := A2.lt tl
  have sz := A2.sz
  -- the table
  have hw2 := W2.hw
  refine ⟨_, rfl, _, _, _, _, rfl, hw2, rfl, _, rfl, _, _, rfl, SqL.of W2.hm, fun p hp => ?_⟩
  refine ⟨_, _, rfl, SqL.of (xs := [nv y.l]) upd_same, ?_⟩
  obtain ⟨Ft, hFt⟩ : ∃ Ft, Ft = F1.wr y.t 0 (256 * y.l + 3) := ⟨_, rfl⟩
  obtain ⟨cp, hcp⟩ : ∃ cp, cp = colS c1 p .no := ⟨_, rfl⟩
  have cpp : cp p = .no := by rw [hcp]; exact colS_same
  have kp : KeepU c1 H2 cp (L2.upd H2 p (.lst [nv y.l])) := by rw [hcp]; exact newU hp
  have ASp : At K n (S1.sf F1 cp) (L2.upd H2 p (.lst [nv y.l])) := by
    have z := AS.newC (o := .lst [nv y.l]) (t := .no) hp
    rw [ec, ← hcp] at z
    have e : S1.sc cp = S1.sf F1 cp := by rw [hS1]; rfl
    rw [e] at z
    exact z
  have wof : ∀ {F2 : Frs} {c2 : Col} {H3 : Hp}, At K n (S1.sf F2 c2) H3 → ∃ r3, WayAt K n F2.g y k r3 c2 H3 := fun {F2 c2 H3} A3 => by
    obtain ⟨r3, W3⟩ := A3.wy k o1
    have e : (S1.sf F2 c2).y k = y := y1
    rw [e] at W3
    exact ⟨r3, W3⟩
  refine for_it (walk_enum (xs := [nv y.l])) (fun i σ H3 => ∃ (x4 x5 x6 : Option V), σ = [some (.ref y.w), some (.ref S.F.g), some (.ref a), some (nv m), x4, x5, x6] ∧ At K n (S1.sf (if i = 0 then F1 else Ft) cp) H3 ∧ KeepU cp (L2.upd H2 p (.lst [nv y.l])) cp H3) ?_ ?_ ?_ ?_
  · exact ⟨none, none, none, rfl, by rw [if_pos rfl]; exact ASp, fun _ _ h _ => ⟨h, rfl⟩⟩
  · rintro i σ H3 hi ⟨x4, x5, x6, rfl, A3, k3⟩
    exact SqL.of (k3 p _ upd_same (by rw [cpp]; exact fun z => z rfl)).1
  · rintro i v σ H3 H4 hi ⟨x4, x5, x6, rfl, A3, k3⟩ ⟨tp, u1, u2, rfl, htp, rfl, h1, h2⟩
    obtain rfl : i = 0 := by have : i < 1 := hi; omega
    rw [if_pos rfl] at A3
    obtain rfl : nv 0 = u1 := Option.some.inj h1
    obtain rfl : nv y.l = u2 := Option.some.inj h2
    have A4 : At K n (S1.sf F1 cp) (L2.upd H3 tp (.tup [nv 0, nv y.l])) := A3.same (same_new htp)
    obtain ⟨r4, W4⟩ := wof A4
    refine ⟨_, _, rfl, SqT.of upd_same, rfl, _, _, rfl, _, _, rfl, rfl, ?_⟩
    refine ⟨_, rfl, _, _, _, _, rfl, W4.hw, rfl, _, _, _, rfl, A4.fr.hg, rfl, _, rfl, _, _, _, _, rfl, W4.hw, rfl, _, _, _, _, rfl, rfl, SqL.of W4.hm, atI_nat (j := 0) rfl, _, rfl, _, rfl, (1 : Int), (2 : Int), rfl, rfl, y.l, 3, rfl, by omega, by decide, ?_⟩
    refine ⟨F1, cp, y.t, 0, 256 * y.l + 3, rfl, A4.fr, tt, by decide, by omega, fun H5 A5 k5 => ?_⟩
    refine ⟨_, _, _, rfl, ?_, (k3.trans (.same (same_new htp))).trans (KeepU.isF k5)⟩
    have z := A4.sf A5 k5
    have e : (if 0 + 1 = 0 then F1 else Ft) = F1.wr y.t 0 (256 * y.l + 3) := by rw [if_neg (by decide), hFt]
    rw [e]
    exact z
  rintro σ H3 ⟨x4, x5, x6, rfl, A3, k3⟩
  have e1 : (if [nv y.l].length = 0 then F1 else Ft) = Ft := if_neg (show ¬ (1 : Nat) = 0 by decide)
  rw [e1] at A3
  obtain ⟨r3, W3⟩ := wof A3
  have ft_wl : Ft.wd y.l = List.replicate 8 0 := by rw [hFt, wr_wd_ne ntl.symm]; exact zl
  have tl' : Tkn Ft y.l := by rw [hFt]; exact tl
  -- the rows
  refine ⟨_, rfl, _, _, _, rfl, W3.hw, rfl, n, S1.sf Ft cp, k, by rw [show (S1.sf Ft cp).y k = y from y1], A3, o1, ?_⟩
  have el : ((S1.sf Ft cp).y k).lead.length = y.lead.length := by rw [show (S1.sf Ft cp).y k = y from y1]
  rw [el]
  refine ⟨(y.lead.length : Int), rfl, by omega, by omega, ?_⟩
  have en : ((y.lead.length : Nat) : Int).toNat = y.lead.length := Int.toNat_natCast _
  rw [en]
  refine for_it (walk_range (lo := 0) (n := y.lead.length)) (fun i σ H4 => ∃ (x4 x5 x6 : Option V) (F2 : Frs), σ = [some (.ref y.w), some (.ref S.F.g), some (.ref a), some (nv m), x4, x5, x6] ∧ At K n (S1.sf F2 cp) H4 ∧ KeepU cp H3 cp H4 ∧ F2.ow = Ft.ow ∧ F2.pl = Ft.pl ∧ F2.g = Ft.g ∧
    (∀ j, j ≠ y.l → F2.wd j = Ft.wd j) ∧ (∀ q, q < 8 → (F2.wd y.l)[q]? = some (if q < i then iRow (y.f q) else 0))) ?_ (fun _ _ _ _ _ => trivial) ?_ ?_
  · refine ⟨x4, x5, x6, Ft, rfl, A3, fun _ _ h _ => ⟨h, rfl⟩, rfl, rfl, rfl, fun _ _ => rfl, fun q hq => ?_⟩
    rw [ft_wl, if_neg (Nat.not_lt_zero _), List.getElem?_replicate, if_pos hq]
  · rintro i v σ H5 H4 hi ⟨x4, x5, x6, F2, rfl, A4, k4, f1, f2, f3, f4, f5⟩ ⟨rfl, rfl⟩
    have ez : (0 : Int) + (i : Int) = (i : Int) := by omega
    dsimp only
    rw [ez]
    obtain ⟨r4, W4⟩ := wof A4
    have yk : (S1.sf F2 cp).y k = y := y1
    have i8 : i < 8 := by omega
    have tl4 : Tkn F2 y.l := by
      obtain ⟨z, hz⟩ := tl'
      exact ⟨z, by rw [f1]; exact hz⟩
    refine ⟨_, rfl, _, _, _, rfl, W4.hw, rfl, _, rfl, n, S1.sf F2 cp, k, i, by rw [yk], A4, o1, ?_⟩
    rw [yk]
    cases hf : y.f i with
    | none =>
      refine ⟨_, rfl, iteF ⟨_, _, _, F2, rfl, A4, k4, f1, f2, f3, f4, fun q hq => ?_⟩⟩
      rw [f5 q hq]
      by_cases z : q = i
      · subst z
        rw [if_neg (Nat.lt_irrefl _), if_pos (Nat.lt_succ_self _), hf]
        rfl
      · by_cases z2 : q < i
        · rw [if_pos z2, if_pos (by omega)]
        · rw [if_neg z2, if_neg (by omega)]
    | some f =>
      have fo : 0 < F1.o f := by
        rw [cwo f]
        have := count_pos' (Way.f_some hf)
        unfold cw
        omega
      have f200 := A2.lt (o_tkn.mpr fo)
      refine ⟨_, rfl, iteT ⟨_, rfl, _, _, _, rfl, W4.hw, rfl, _, rfl, _, rfl, _, _, _, rfl, W4.hw, rfl, _, rfl, n, S1.sf F2 cp, k, i, by rw [yk], A4, o1, ?_⟩⟩
      rw [yk, hf]
      refine ⟨f, 1, rfl, by omega, by decide, ?_⟩
      refine ⟨n, S1.sf F2 cp, k, i, 256 * f + 1, by rw [yk], A4, o1, i8, by rw [yk]; exact tl4, by omega, fun H6 A6 k6 => ?_⟩
      rw [yk] at A6
      refine ⟨_, _, _, F2.wr y.l i (256 * f + 1), rfl, A6, k4.trans k6, f1, f2, f3, fun j hj => by rw [wr_wd_ne hj]; exact f4 j hj, fun q hq => ?_⟩
      rw [wr_wd]
      by_cases z : i = q
      · subst z
        rw [List.getElem?_set_self (List.getElem?_eq_some_iff.mp (f5 i i8)).1, if_pos (Nat.lt_succ_self _), hf]
        rfl
      · rw [List.getElem?_set_ne z, f5 q hq]
        by_cases z2 : q < i
        · rw [if_pos z2, if_pos (by omega)]
        · rw [if_neg z2, if_neg (by omega)]
  rintro σ H4 ⟨x4, x5, x6, F2, rfl, A4, k4, f1, f2, f3, f4, f5⟩
  have yk : (S1.sf F2 cp).y k = y := y1
  have oF : ∀ g, F2.o g = F1.o g := fun g => by
    unfold Frs.o
    rw [f1, hFt]
    rfl
  refine q (S1.sf F2 cp) H4 A4 ?_ (by rw [yk]) (((ku0.trans kp).trans k3).trans k4)
  have pos : ∀ {g}, 0 < S.F.o g → g ≠ y.l ∧ g ≠ y.t := fun {g} hg => by
    have h := cwo g
    refine ⟨fun z => ?_, fun z => ?_⟩
    · subst z
      rw [ol] at h
      unfold cw at h
      rw [b1_t (p := y.l = y.l) rfl] at h
      omega
    · subst z
      rw [ot] at h
      unfold cw at h
      rw [b1_t (p := y.t = y.t) rfl] at h
      omega
  refine ⟨fun j => by rw [hS1]; exact Iff.rfl, fun j hj => by rw [hS1]; exact if_neg hj, fun g => ?_, ?_, fun g hg => ?_, ?_, ?_, ?_, ?_, by rw [yk]; exact len, by rw [yk]; exact nsl, ?_, fun p' hp' => ?_, fun g hg => ?_⟩
  · show F2.o g = _
    rw [yk, oF]
    exact cwo g
  · rw [yk]
    show F2.o y.t = 1 ∧ F2.o y.l = 1
    rw [oF, oF]
    exact ⟨ot, ol⟩
  · show F2.wd g = _
    obtain ⟨n1, n2⟩ := pos hg
    rw [f4 g n1, hFt, wr_wd_ne n2]
    exact inc.wd g hg
  · show F2.pl = _
    rw [f2, hFt]
    exact inc.pl
  · show F2.g = _
    rw [f3, hFt]
    exact inc.g
  · show F2.ow.length = _
    rw [f1, hFt]
    exact inc.n
  · show F2.ow.sum = _
    rw [f1, hFt]
    have h := inc.sum
    have e : ns (some y.t :: some y.l :: y.lead) = 2 + ns y.lead := by
      show ns ([some y.t, some y.l] ++ y.lead) = _
      rw [ns_app]
      rfl
    rw [e, nsl] at h
    show F1.ow.sum = _
    have e3 : (S.F.pledge (S.F.pl + (2 + (nsO ps : Nat)))).ow.sum = S.F.ow.sum := rfl
    rw [e3] at h
    omega
  · rw [yk]
    show (F2.wd y.t)[0]? = _
    rw [f4 _ ntl, hFt, wr_wd, List.getElem?_set_self (by rw [zt, List.length_replicate]; decide)]
  · rw [yk] at hp' ⊢
    show (F2.wd y.l)[p']? = _
    rw [f5 p' (by omega), if_pos hp']
  · rw [yk] at hg
    show F2.o g = 1
    rw [oF]
    refine inc.one g (List.count_pos_iff.mp ?_)
    rw [count_cons', count_cons', b1_some, b1_some]
    unfold cw at hg
    omega
end K6
/-! The law's numbers. -/
namespace K6
open PySem PySem.Spec PyProof.Rows L2 HotX L2H He
variable {P : Program} {w : World} {K : PySem.W.Frag} {mg : Str → Option Value} {base : Heap}
theorem emod_nat {i j : Int} (h : 0 < j) : ∃ m : Nat, i % j = (m : Int) ∧ (m : Int) < j := by
  have h1 := Int.emod_nonneg i (show j ≠ 0 by omega)
  have h2 := Int.emod_lt_of_pos i h
  exact ⟨(i % j).toNat, by omega, by omega⟩
def spWhole1 : Sp := fun vs H Q _ => ∃ i : Int, vs = [.int i] ∧ Q (.bl true) H
theorem ok_f_law_whole (T : Tx K mg) : FnC P w K mg base 1 (fAd K ("_law_whole", none)) (fdat K ("_law_whole", none)) ["_law_found"] spWhole1 := by
  refine fnC (fd_f_law_whole T) sc_f_law_whole (fun vs H Q E h => ?_) (fun cdv A0 outer s H vs Q E hrm h => ?_)
  · obtain ⟨i, rfl, _⟩ := h
    rfl
  obtain ⟨i, rfl, k⟩ := h
  refine ⟨_, (pss_one (ps_ret (pe_and (pe_callB call_isi (by rfl) (b_isinstance T) q_isinstance (pa_cons (pv 0) (pa_cons (pe_bltn (v := .ty "int") (by rfl) (b_int T) q_int rfl) pa_nil))) (pe_one (pe_not (pe_callB call_isi (by rfl) (b_isinstance T) q_isinstance (pa_cons (pv 0) (pa_cons (pe_bltn (v := .ty "bool") (by rfl) (b_bool T) q_bool rfl) pa_nil)))))))), ?_⟩
  refine ⟨_, rfl, _, _, _, _, true, rfl, .ty _, .base (.int i), kit_ii, true, rfl, iteT ?_⟩
  exact ⟨_, rfl, _, _, _, _, false, rfl, .ty _, .base (.int i), kit_ib, false, rfl, k⟩
def spCellAt (K : PySem.W.Frag) : Sp := fun vs H Q _ => ∃ (a : Addr) (ns : List Int) (k : Nat), vs = [.ref a, nv k] ∧ SqL K H a (ns.map V.int) ∧ ∀ i : Int, Q (.int i) H
theorem ok_f_law_cell_at (T : Tx K mg) : FnC P w K mg base 1 (fAd K ("_law_cell_at", none)) (fdat K ("_law_cell_at", none)) ["_law_script", "_law_k"] (spCellAt K) := by
  refine fnC (fd_f_law_cell_at T) sc_f_law_cell_at (fun vs H Q E h => ?_) (fun cdv A0 outer s H vs Q E hrm h => ?_)
  · obtain ⟨a, ns, k, rfl, _⟩ := h
    rfl
  obtain ⟨a, ns, k, rfl, hs, q⟩ := h
  refine ⟨_, (pss_cons (ps_if (pt_cmpR op_lt (pv 1) (pe_callB call_len_seq (by rfl) (b_len T) q_len (pa_cons (pv 0) pa_nil)) (nomark _)) (pss_one (ps_ret (pe_ix ix_list (pv 0) (pv 1) (fun _ _ => rfl)))) pss_nil) (pss_one (ps_ret pe_int))), ?_⟩
  refine ⟨_, rfl, _, rfl, _, _, rfl, .inl hs, _, _, rfl, rfl, _, rfl, ?_⟩
  rw [List.length_map]
  by_cases h : k < ns.length
  · rw [decide_eq_true (show (k : Int) < (ns.length : Int) by omega)]
    have e : (ns.map V.int)[k]? = some (V.int ns[k]) := by rw [List.getElem?_map, List.getElem?_eq_getElem h]; rfl
    exact iteT ⟨_, rfl, _, rfl, _, _, _, _, rfl, rfl, hs, atI_nat e, q _⟩
  · rw [decide_eq_false (show ¬ (k : Int) < (ns.length : Int) by omega)]
    exact iteF (q 0)
def spMixed : Sp := fun vs H Q _ => ∃ (c : Int) (k : Nat), vs = [.int c, nv k] ∧ k < 2 ^ 20 ∧ ∀ m : Nat, m < 2 ^ 31 → Q (nv m) H
theorem pow18 : CPow 10 18 := ⟨by decide, by decide, by decide⟩
theorem pow31 : CPow 2 31 := ⟨by decide, by decide, by decide⟩
theorem pow40 : CPow 2 40 := ⟨by decide, by decide, by decide⟩
theorem pow48 : CPow 2 48 := ⟨by decide, by decide, by decide⟩
theorem wide {i j : Int} (h : 0 < j) (h2 : j.natAbs.log2 < 9000) : CDivW i j := ⟨h, h2⟩
theorem p18 : (0 : Int) < (10 : Int) ^ (18 : Int).toNat := by decide
theorem p31 : (0 : Int) < (2 : Int) ^ (31 : Int).toNat := by decide
theorem p48 : (0 : Int) < (2 : Int) ^ (48 : Int).toNat := by decide
theorem lg18 : ((10 : Int) ^ (18 : Int).toNat).natAbs.log2 < 9000 := by decide +kernel
theorem lg31 : ((2 : Int) ^ (31 : Int).toNat).natAbs.log2 < 9000 := by decide +kernel
theorem lg48 : ((2 : Int) ^ (48 : Int).toNat).natAbs.log2 < 9000 := by decide +kernel
theorem ok_f_law_mixed (T : Tx K mg) : FnC P w K mg base 1 (fAd K ("_law_mixed", none)) (fdat K ("_law_mixed", none)) ["_law_cell", "_law_k"] spMixed := by
  refine fnC (fd_f_law_mixed T) sc_f_law_mixed (fun vs H Q E h => ?_) (fun cdv A0 outer s H vs Q E hrm h => ?_)
  · obtain ⟨c, k, rfl, _⟩ := h
    rfl
  obtain ⟨c, k, rfl, hk, q⟩ := h
  refine ⟨_, (pss_cons (ps_set (i := 2) sc_f_law_mixed.nd rfl (by first | exact Or.inl rfl | exact Or.inr rfl) (pe_op op_fdivW (pv 0) (pe_op op_pow pe_int pe_int))) (pss_cons (ps_for (passes_of rfl) rfl (pi_range1 (by rfl) (b_range T) (pa_cons (pe_op op_mod (pv 1) pe_int) pa_nil)) (pg_name (i := 3) sc_f_law_mixed.nd rfl (by first | exact Or.inl rfl | exact Or.inr rfl)) (pss_one (ps_set (i := 2) sc_f_law_mixed.nd rfl (by first | exact Or.inl rfl | exact Or.inr rfl) (pe_op op_fdivW (pv 2) (pe_op op_pow pe_int pe_int))))) (pss_cons (ps_if (pt_cmpR op_gt (pv 2) pe_int (nomark _)) (pss_one (ps_ret (pe_op op_mod (pv 2) (pe_op op_pow pe_int pe_int)))) pss_nil) (pss_cons (ps_set (i := 4) sc_f_law_mixed.nd rfl (by first | exact Or.inl rfl | exact Or.inr rfl) (pe_op op_mod (pe_op op_mul (pe_op op_add (pe_op op_add (pe_op op_add (pe_op op_mod (pv 0) pe_int) (pe_op op_mul (pe_op op_mul pe_int (pv 1)) (pv 1))) (pv 1)) pe_int) pe_int) pe_int)) (pss_one (ps_ret (pe_op op_mod (pe_op op_mul (pv 4) (pv 4)) pe_int))))))), ?_⟩
  refine ⟨_, rfl, 10, 18, rfl, rfl, pow18, c, _, rfl, rfl, wide p18 lg18, ?_⟩
  refine ⟨_, rfl, (k : Int), 8, rfl, rfl, p08, ((k % 8 : Nat) : Int), by show [V.int ((k : Int) % 8)] = _; rw [mod8], by omega, by omega, ?_⟩
  refine for_it (walk_range (lo := 0) (n := k % 8)) (fun i σ H2 => ∃ (x : Int) (x3 x4 : Option V), σ = [some (.int c), some (nv k), some (.int x), x3, x4] ∧ H2 = H) ⟨_, none, none, rfl, rfl⟩ (fun _ _ _ _ _ => trivial) ?_ ?_
  · rintro i v σ H2 H3 hi ⟨x, x3, x4, rfl, rfl⟩ ⟨rfl, rfl⟩
    exact ⟨_, rfl, 2, 31, rfl, rfl, pow31, x, _, rfl, rfl, wide p31 lg31, _, _, _, rfl, rfl⟩
  · rintro σ H2 ⟨x, x3, x4, rfl, rfl⟩
    refine ⟨_, rfl, _, _, rfl, rfl, _, rfl, ?_⟩
    cases hx : decide ((0 : Int) < x) with
    | true =>
      obtain ⟨m, e, lt⟩ := emod_nat (i := x) p31
      refine iteT ⟨_, rfl, 2, 31, rfl, rfl, pow31, x, _, rfl, rfl, p31, ?_⟩
      dsimp only
      rw [e]
      exact q m (by have h31 : (2 : Int) ^ (31 : Int).toNat = 2147483648 := by decide
                    omega)
    | false =>
      refine iteF ⟨_, rfl, _, _, rfl, rfl, by show (0 : Int) < 1000003; decide, _, rfl, 7919, (k : Int), rfl, rfl, .inl ⟨by decide, by decide⟩, _, rfl, (7919 : Int) * (k : Int), (k : Int), rfl, rfl, .inr ⟨by omega, by omega⟩, _, _, rfl, rfl, _, rfl, _, _, rfl, rfl, _, _, rfl, rfl, _, (48271 : Int), rfl, rfl, .inr ⟨by decide, by decide⟩, _, (2147483629 : Int), rfl, rfl, by show (0 : Int) < 2147483629; decide, ?_⟩
      dsimp only
      generalize ((c % 1000003 + 7919 * (k : Int) * (k : Int) + (k : Int) + 1) * 48271) = u
      obtain ⟨z, e, lt⟩ := emod_nat (i := u) (j := 2147483629) (by decide)
      rw [e]
      refine ⟨_, rfl, _, rfl, (z : Int), (z : Int), rfl, rfl, .inl ⟨by omega, by omega⟩, _, (2147483587 : Int), rfl, rfl, by show (0 : Int) < 2147483587; decide, ?_⟩
      dsimp only
      obtain ⟨m, e2, lt2⟩ := emod_nat (i := (z : Int) * (z : Int)) (j := 2147483587) (by decide)
      rw [e2]
      exact q m (by omega)
end K6
/-! The law's rows, places, numbers. -/
namespace K6
open PySem PySem.Spec PyProof.Rows L2 HotX L2H He
variable {P : Program} {w : World} {K : PySem.W.Frag} {mg : Str → Option Value} {base : Heap}
theorem nat_of {z : Int} (h0 : 0 ≤ z) (h1 : z < 281474976710656) : ∃ r : Nat, z = (r : Int) ∧ r < 2 ^ 48 := ⟨z.toNat, by omega, by omega⟩
theorem b01 (b : Bool) : ∃ n : Nat, (if b = true then (1 : Int) else 0) = (n : Int) ∧ n ≤ 1 := by
  cases b with
  | true => exact ⟨1, rfl, Nat.le_refl _⟩
  | false => exact ⟨0, rfl, Nat.zero_le _⟩
theorem cd {i j : Int} (h : 0 < j) (h2 : j < 1073741824) : CDiv i j := ⟨h, h2⟩
def spRow : Sp := fun vs H Q _ => ∃ (c : Int) (k sz : Nat), vs = [.int c, nv k, nv sz] ∧ k < 2 ^ 20 ∧ 1 ≤ sz ∧ sz ≤ 6 ∧ ∀ r H', r < 2 ^ 48 → Same H H' → Q (nv r) H'
theorem ok_f_law_row (T : Tx K mg) : FnC P w K mg base 2 (fAd K ("_law_row", none)) (fdat K ("_law_row", none)) ["_law_cell", "_law_k", "_law_size"] spRow := by
  refine fnC (fd_f_law_row T) sc_f_law_row (fun vs H Q E h => ?_) (fun cdv A0 outer s H vs Q E hrm h => ?_)
  · obtain ⟨c, k, sz, rfl, _⟩ := h
    rfl
  obtain ⟨c, k, sz, rfl, hk, h1, h6, q⟩ := h
  refine ⟨_, (pss_cons (ps_set (i := 3) sc_f_law_row.nd rfl (by first | exact Or.inl rfl | exact Or.inr rfl) (pe_f rfl (ok_f_law_mixed T) (hrm.mono (by decide)) (by rfl) (g_law_mixed T) (fd_f_law_mixed T).kp (bd_f_law_mixed T) (E := E0s) (fun _ => passAt0) (pa_cons (pv 0) (pa_cons (pv 1) pa_nil)))) (pss_cons (ps_set (i := 4) sc_f_law_row.nd rfl (by first | exact Or.inl rfl | exact Or.inr rfl) (pe_op op_mod (pe_op op_mul (pv 3) pe_int) pe_int)) (pss_cons (ps_set (i := 5) sc_f_law_row.nd rfl (by first | exact Or.inl rfl | exact Or.inr rfl) (pe_op op_mod (pv 3) (pv 2))) (pss_cons (ps_if (pt_cmpR op_eq (pe_op op_mod (pe_op op_fdiv (pv 3) pe_int) pe_int) pe_int (nomark _)) (pss_one (ps_set (i := 5) sc_f_law_row.nd rfl (by first | exact Or.inl rfl | exact Or.inr rfl) (pe_ix ix_list (pe_lst (pa_cons (pv 2) (pa_cons (pe_op op_sub (pe_op op_pow pe_int pe_int) pe_int) pa_nil))) (pe_op op_mod (pe_op op_fdiv (pv 3) pe_int) pe_int) (fun _ _ => rfl)))) pss_nil) (pss_cons (ps_set (i := 6) sc_f_law_row.nd rfl (by first | exact Or.inl rfl | exact Or.inr rfl) (pe_op op_add (pe_op op_add (pe_callTy call_int1 (by rfl) (b_int T) q_int (pa_cons (pe_cmpR op_gt (pe_op op_mod (pv 4) pe_int) pe_int (nomark _)) pa_nil)) (pe_op op_mul pe_int (pe_callTy call_int1 (by rfl) (b_int T) q_int (pa_cons (pe_cmpR op_gt (pe_op op_mod (pe_op op_fdiv (pv 4) pe_int) pe_int) pe_int (nomark _)) pa_nil)))) (pe_op op_mul pe_int (pe_callTy call_int1 (by rfl) (b_int T) q_int (pa_cons (pe_cmpR op_eq (pe_op op_mod (pe_op op_fdiv (pv 4) pe_int) pe_int) pe_int (nomark _)) pa_nil))))) (pss_one (ps_ret (pe_op op_add (pe_op op_add (pe_op op_mul pe_int (pv 5)) (pv 6)) (pe_op op_mul pe_int (pe_op op_mod (pe_op op_fdiv (pv 4) pe_int) pe_int)))))))))), ?_⟩
  refine ⟨_, rfl, _, rfl, c, k, rfl, hk, fun o ho => ?_⟩
  refine ⟨_, rfl, _, _, rfl, rfl, .inr ⟨by decide, by decide⟩, _, (2147483587 : Int), rfl, rfl, by show (0 : Int) < 2147483587; decide, ?_⟩
  dsimp only
  obtain ⟨s, es, ls⟩ := emod_nat (i := (o : Int) * 69621) (j := 2147483587) (by decide)
  rw [es]
  obtain ⟨p, ep, lp⟩ := emod_nat (i := (o : Int)) (j := (sz : Int)) (by omega)
  refine ⟨_, rfl, _, rfl, _, _, rfl, rfl, by show (0 : Int) < (sz : Int); omega, ?_⟩
  dsimp only
  rw [ep]
  refine ⟨_, rfl, _, _, rfl, rfl, cd (by decide) (by decide), _, (16 : Int), rfl, rfl, by show (0 : Int) < 16; decide, rfl, _, rfl, ?_⟩
  by_cases hb : V.int ((o : Int) / 64 % 16) = V.int 0
  · refine Eq.mpr (if_pos (show decide (V.int ((o : Int) / 64 % 16) = V.int 0) = true from decide_eq_true hb)) ?_
    refine ⟨_, rfl, 2, 40, rfl, rfl, pow40, _, _, rfl, rfl, szl (by show 2 ≤ 1000; decide), fun D hD => ?_⟩
    refine ⟨_, rfl, _, (1024 : Int), rfl, rfl, cd (by decide) (by decide), _, (2 : Int), rfl, rfl, by show (0 : Int) < 2; decide, ?_⟩
    dsimp only
    obtain ⟨ix, eix, lix⟩ := emod_nat (i := (o : Int) / 1024) (j := 2) (by decide)
    rw [eix]
    by_cases h0 : ix = 0
    · subst h0
      refine ⟨_, _, _, _, rfl, rfl, SqL.of upd_same, atI_nat (j := 0) rfl, ?_⟩
      refine ⟨_, rfl, _, (16 : Int), rfl, rfl, by show (0 : Int) < 16; decide, _, _, rfl, rfl, .inr ⟨_, rfl, ?_⟩⟩
      obtain ⟨n1, e1, l1⟩ := b01 (decide ((0 : Int) < (s : Int) % 16))
      try dsimp only
      rw [e1]
      refine ⟨_, rfl, _, (16 : Int), rfl, rfl, cd (by decide) (by decide), _, (8 : Int), rfl, rfl, p08, _, _, rfl, rfl, .inr ⟨_, rfl, ?_⟩⟩
      obtain ⟨n2, e2, l2⟩ := b01 (decide ((0 : Int) < (s : Int) / 16 % 8))
      try dsimp only
      rw [e2]
      refine ⟨_, _, rfl, rfl, .inl ⟨by decide, by decide⟩, _, _, rfl, rfl, ?_⟩
      refine ⟨_, rfl, _, (128 : Int), rfl, rfl, cd (by decide) (by decide), _, (8 : Int), rfl, rfl, p08, rfl, .inr ⟨_, rfl, ?_⟩⟩
      obtain ⟨n3, e3, l3⟩ := b01 (decide (V.int ((s : Int) / 128 % 8) = V.int 0))
      try dsimp only
      rw [e3]
      refine ⟨_, _, rfl, rfl, .inl ⟨by decide, by decide⟩, _, _, rfl, rfl, ?_⟩
      refine ⟨_, rfl, _, _, rfl, rfl, .inl ⟨by decide, by decide⟩, _, rfl, _, _, rfl, rfl, ?_⟩
      refine ⟨_, rfl, _, (1024 : Int), rfl, rfl, cd (by decide) (by decide), _, (32 : Int), rfl, rfl, by show (0 : Int) < 32; decide, _, _, rfl, rfl, .inl ⟨by decide, by decide⟩, _, _, rfl, rfl, ?_⟩
      try dsimp only
      obtain ⟨r, er, lr⟩ := nat_of (z := 256 * (sz : Int) + ((n1 : Int) + 2 * (n2 : Int) + 4 * (n3 : Int)) + 8 * ((s : Int) / 1024 % 32)) (by omega) (by omega)
      rw [er]
      exact q r _ lr (same_new hD)
    · obtain rfl : ix = 1 := by omega
      refine ⟨_, _, _, _, rfl, rfl, SqL.of upd_same, atI_nat (j := 1) rfl, ?_⟩
      have e40 : (2 : Int) ^ (40 : Int).toNat - 1 = 1099511627775 := by decide
      rw [e40]
      refine ⟨_, rfl, _, (16 : Int), rfl, rfl, by show (0 : Int) < 16; decide, _, _, rfl, rfl, .inr ⟨_, rfl, ?_⟩⟩
      obtain ⟨n1, e1, l1⟩ := b01 (decide ((0 : Int) < (s : Int) % 16))
      try dsimp only
      rw [e1]
      refine ⟨_, rfl, _, (16 : Int), rfl, rfl, cd (by decide) (by decide), _, (8 : Int), rfl, rfl, p08, _, _, rfl, rfl, .inr ⟨_, rfl, ?_⟩⟩
      obtain ⟨n2, e2, l2⟩ := b01 (decide ((0 : Int) < (s : Int) / 16 % 8))
      try dsimp only
      rw [e2]
      refine ⟨_, _, rfl, rfl, .inl ⟨by decide, by decide⟩, _, _, rfl, rfl, ?_⟩
      refine ⟨_, rfl, _, (128 : Int), rfl, rfl, cd (by decide) (by decide), _, (8 : Int), rfl, rfl, p08, rfl, .inr ⟨_, rfl, ?_⟩⟩
      obtain ⟨n3, e3, l3⟩ := b01 (decide (V.int ((s : Int) / 128 % 8) = V.int 0))
      try dsimp only
      rw [e3]
      refine ⟨_, _, rfl, rfl, .inl ⟨by decide, by decide⟩, _, _, rfl, rfl, ?_⟩
      refine ⟨_, rfl, _, _, rfl, rfl, .inl ⟨by decide, by decide⟩, _, rfl, _, _, rfl, rfl, ?_⟩
      refine ⟨_, rfl, _, (1024 : Int), rfl, rfl, cd (by decide) (by decide), _, (32 : Int), rfl, rfl, by show (0 : Int) < 32; decide, _, _, rfl, rfl, .inl ⟨by decide, by decide⟩, _, _, rfl, rfl, ?_⟩
      try dsimp only
      obtain ⟨r, er, lr⟩ := nat_of (z := 256 * (1099511627775 : Int) + ((n1 : Int) + 2 * (n2 : Int) + 4 * (n3 : Int)) + 8 * ((s : Int) / 1024 % 32)) (by omega) (by omega)
      rw [er]
      exact q r _ lr (same_new hD)
  · refine Eq.mpr (if_neg (show ¬ decide (V.int ((o : Int) / 64 % 16) = V.int 0) = true from fun z => hb (of_decide_eq_true z))) ?_
    refine ⟨_, rfl, _, (16 : Int), rfl, rfl, by show (0 : Int) < 16; decide, _, _, rfl, rfl, .inr ⟨_, rfl, ?_⟩⟩
    obtain ⟨n1, e1, l1⟩ := b01 (decide ((0 : Int) < (s : Int) % 16))
    try dsimp only
    rw [e1]
    refine ⟨_, rfl, _, (16 : Int), rfl, rfl, cd (by decide) (by decide), _, (8 : Int), rfl, rfl, p08, _, _, rfl, rfl, .inr ⟨_, rfl, ?_⟩⟩
    obtain ⟨n2, e2, l2⟩ := b01 (decide ((0 : Int) < (s : Int) / 16 % 8))
    try dsimp only
    rw [e2]
    refine ⟨_, _, rfl, rfl, .inl ⟨by decide, by decide⟩, _, _, rfl, rfl, ?_⟩
    refine ⟨_, rfl, _, (128 : Int), rfl, rfl, cd (by decide) (by decide), _, (8 : Int), rfl, rfl, p08, rfl, .inr ⟨_, rfl, ?_⟩⟩
    obtain ⟨n3, e3, l3⟩ := b01 (decide (V.int ((s : Int) / 128 % 8) = V.int 0))
    try dsimp only
    rw [e3]
    refine ⟨_, _, rfl, rfl, .inl ⟨by decide, by decide⟩, _, _, rfl, rfl, ?_⟩
    refine ⟨_, rfl, _, _, rfl, rfl, .inl ⟨by decide, by decide⟩, _, rfl, _, _, rfl, rfl, ?_⟩
    refine ⟨_, rfl, _, (1024 : Int), rfl, rfl, cd (by decide) (by decide), _, (32 : Int), rfl, rfl, by show (0 : Int) < 32; decide, _, _, rfl, rfl, .inl ⟨by decide, by decide⟩, _, _, rfl, rfl, ?_⟩
    try dsimp only
    obtain ⟨r, er, lr⟩ := nat_of (z := 256 * (p : Int) + ((n1 : Int) + 2 * (n2 : Int) + 4 * (n3 : Int)) + 8 * ((s : Int) / 1024 % 32)) (by omega) (by omega)
    rw [er]
    exact q r _ lr Same.refl'
def spPlace : Sp := fun vs H Q _ => ∃ c : Int, vs = [.int c] ∧ ∀ r, r < 2 ^ 48 → Q (nv r) H
theorem ok_f_law_place (T : Tx K mg) : FnC P w K mg base 2 (fAd K ("_law_place", none)) (fdat K ("_law_place", none)) ["_law_some"] spPlace := by
  refine fnC (fd_f_law_place T) sc_f_law_place (fun vs H Q E h => ?_) (fun cdv A0 outer s H vs Q E hrm h => ?_)
  · obtain ⟨c, rfl, _⟩ := h
    rfl
  obtain ⟨c, rfl, q⟩ := h
  refine ⟨_, (pss_cons (ps_set (i := 1) sc_f_law_place.nd rfl (by first | exact Or.inl rfl | exact Or.inr rfl) (pe_f rfl (ok_f_law_mixed T) (hrm.mono (by decide)) (by rfl) (g_law_mixed T) (fd_f_law_mixed T).kp (bd_f_law_mixed T) (E := E0s) (fun _ => passAt0) (pa_cons (pv 0) (pa_cons pe_int pa_nil)))) (pss_cons (ps_set (i := 2) sc_f_law_place.nd rfl (by first | exact Or.inl rfl | exact Or.inr rfl) (pe_op op_add (pe_op op_add (pe_op op_mul pe_int (pe_op op_mod (pv 1) pe_int)) (pe_op op_mul pe_int (pe_op op_mod (pe_op op_fdiv (pv 1) pe_int) pe_int))) (pe_op op_mod (pe_op op_fdiv (pv 1) pe_int) pe_int))) (pss_cons (ps_if (pt_cmpR op_eq (pe_op op_mod (pe_op op_fdiv (pv 1) pe_int) pe_int) pe_int (nomark _)) (pss_one (ps_set (i := 2) sc_f_law_place.nd rfl (by first | exact Or.inl rfl | exact Or.inr rfl) (pe_op op_mod (pe_op op_fdiv (pv 1) pe_int) pe_int))) pss_nil) (pss_cons (ps_if (pt_cmpR op_eq (pe_op op_mod (pe_op op_fdiv (pv 1) pe_int) pe_int) pe_int (nomark _)) (pss_one (ps_set (i := 2) sc_f_law_place.nd rfl (by first | exact Or.inl rfl | exact Or.inr rfl) (pe_op op_add pe_int (pe_op op_mod (pv 0) (pe_op op_sub (pe_op op_pow pe_int pe_int) pe_int))))) pss_nil) (pss_one (ps_ret (pv 2))))))), ?_⟩
  refine ⟨_, rfl, c, 301, rfl, by decide, fun o ho => ?_⟩
  refine ⟨_, rfl, _, (2 : Int), rfl, rfl, by show (0 : Int) < 2; decide, _, _, rfl, rfl, .inl ⟨by decide, by decide⟩, ?_⟩
  refine ⟨_, rfl, _, (2 : Int), rfl, rfl, cd (by decide) (by decide), _, (4 : Int), rfl, rfl, by show (0 : Int) < 4; decide, _, _, rfl, rfl, .inl ⟨by decide, by decide⟩, _, _, rfl, rfl, ?_⟩
  refine ⟨_, rfl, _, (8 : Int), rfl, rfl, c8, _, (8 : Int), rfl, rfl, p08, _, _, rfl, rfl, ?_⟩
  dsimp only
  obtain ⟨p0, ep0, lp0⟩ := nat_of (z := 64 * ((o : Int) % 2) + 8 * ((o : Int) / 2 % 4) + (o : Int) / 8 % 8) (by omega) (by omega)
  rw [ep0]
  refine ⟨_, rfl, _, (64 : Int), rfl, rfl, cd (by decide) (by decide), _, (8 : Int), rfl, rfl, p08, rfl, _, rfl, ?_⟩
  by_cases hb : V.int ((o : Int) / 64 % 8) = V.int 0
  · refine Eq.mpr (if_pos (show decide (V.int ((o : Int) / 64 % 8) = V.int 0) = true from decide_eq_true hb)) ?_
    refine ⟨_, rfl, _, (512 : Int), rfl, rfl, cd (by decide) (by decide), _, (512 : Int), rfl, rfl, by show (0 : Int) < 512; decide, ?_⟩
    dsimp only
    obtain ⟨p1, ep1, lp1⟩ := nat_of (z := (o : Int) / 512 % 512) (by omega) (by omega)
    rw [ep1]
    refine ⟨_, rfl, _, (64 : Int), rfl, rfl, cd (by decide) (by decide), _, (16 : Int), rfl, rfl, by show (0 : Int) < 16; decide, rfl, _, rfl, ?_⟩
    by_cases hb2 : V.int ((o : Int) / 64 % 16) = V.int 1
    · refine Eq.mpr (if_pos (show decide (V.int ((o : Int) / 64 % 16) = V.int 1) = true from decide_eq_true hb2)) ?_
      have e48 : (2 : Int) ^ (48 : Int).toNat - 512 = 281474976710144 := by decide
      refine ⟨_, rfl, 2, 48, rfl, rfl, pow48, _, _, rfl, rfl, _, _, rfl, rfl, by show (0 : Int) < (2 : Int) ^ (48 : Int).toNat - 512; rw [e48]; decide, _, _, rfl, rfl, ?_⟩
      dsimp only
      rw [e48]
      obtain ⟨r, er, lr⟩ := nat_of (z := 512 + c % 281474976710144) (by omega) (by omega)
      rw [er]
      exact ⟨_, rfl, q r lr⟩
    · refine Eq.mpr (if_neg (show ¬ decide (V.int ((o : Int) / 64 % 16) = V.int 1) = true from fun z => hb2 (of_decide_eq_true z))) ?_
      exact ⟨_, rfl, q p1 (by omega)⟩
  · refine Eq.mpr (if_neg (show ¬ decide (V.int ((o : Int) / 64 % 8) = V.int 0) = true from fun z => hb (of_decide_eq_true z))) ?_
    refine ⟨_, rfl, _, (64 : Int), rfl, rfl, cd (by decide) (by decide), _, (16 : Int), rfl, rfl, by show (0 : Int) < 16; decide, rfl, _, rfl, ?_⟩
    by_cases hb2 : V.int ((o : Int) / 64 % 16) = V.int 1
    · refine Eq.mpr (if_pos (show decide (V.int ((o : Int) / 64 % 16) = V.int 1) = true from decide_eq_true hb2)) ?_
      have e48 : (2 : Int) ^ (48 : Int).toNat - 512 = 281474976710144 := by decide
      refine ⟨_, rfl, 2, 48, rfl, rfl, pow48, _, _, rfl, rfl, _, _, rfl, rfl, by show (0 : Int) < (2 : Int) ^ (48 : Int).toNat - 512; rw [e48]; decide, _, _, rfl, rfl, ?_⟩
      dsimp only
      rw [e48]
      obtain ⟨r, er, lr⟩ := nat_of (z := 512 + c % 281474976710144) (by omega) (by omega)
      rw [er]
      exact ⟨_, rfl, q r lr⟩
    · refine Eq.mpr (if_neg (show ¬ decide (V.int ((o : Int) / 64 % 16) = V.int 1) = true from fun z => hb2 (of_decide_eq_true z))) ?_
      exact ⟨_, rfl, q p0 (by omega)⟩
def spNumber : Sp := fun vs H Q _ => ∃ (c : Int) (k sz : Nat), vs = [.int c, nv k, nv sz] ∧ k < 2 ^ 20 ∧ 3 ≤ sz ∧ sz ≤ 6 ∧ ∀ r, r < 2 ^ 48 → Q (nv r) H
theorem ok_f_law_number (T : Tx K mg) : FnC P w K mg base 2 (fAd K ("_law_number", none)) (fdat K ("_law_number", none)) ["_law_some", "_law_k", "_law_size"] spNumber := by
  refine fnC (fd_f_law_number T) sc_f_law_number (fun vs H Q E h => ?_) (fun cdv A0 outer s H vs Q E hrm h => ?_)
  · obtain ⟨c, k, sz, rfl, _⟩ := h
    rfl
  obtain ⟨c, k, sz, rfl, hk, h3, h6, q⟩ := h
  refine ⟨_, (pss_cons (ps_set (i := 3) sc_f_law_number.nd rfl (by first | exact Or.inl rfl | exact Or.inr rfl) (pe_f rfl (ok_f_law_mixed T) (hrm.mono (by decide)) (by rfl) (g_law_mixed T) (fd_f_law_mixed T).kp (bd_f_law_mixed T) (E := E0s) (fun _ => passAt0) (pa_cons (pv 0) (pa_cons (pv 1) pa_nil)))) (pss_cons (ps_if (pt_cmpR op_eq (pe_op op_mod (pe_op op_fdiv (pv 3) pe_int) pe_int) pe_int (nomark _)) (pss_one (ps_ret (pe_op op_mod (pv 0) (pe_op op_pow pe_int pe_int)))) pss_nil) (pss_cons (ps_if (pt_cmpR op_eq (pe_op op_mod (pe_op op_fdiv (pv 3) pe_int) pe_int) pe_int (nomark _)) (pss_one (ps_ret (pe_op op_mod (pv 3) (pe_op op_add (pv 2) pe_int)))) pss_nil) (pss_one (ps_ret (pe_op op_sub (pe_op op_sub (pv 2) pe_int) (pe_op op_mod (pv 3) pe_int))))))), ?_⟩
  refine ⟨_, rfl, _, rfl, c, k, rfl, hk, fun o ho => ?_⟩
  refine ⟨_, rfl, _, (64 : Int), rfl, rfl, cd (by decide) (by decide), _, (16 : Int), rfl, rfl, by show (0 : Int) < 16; decide, rfl, _, rfl, ?_⟩
  by_cases hb : V.int ((o : Int) / 64 % 16) = V.int 0
  · refine Eq.mpr (if_pos (show decide (V.int ((o : Int) / 64 % 16) = V.int 0) = true from decide_eq_true hb)) ?_
    refine ⟨_, rfl, 2, 48, rfl, rfl, pow48, _, _, rfl, rfl, p48, ?_⟩
    have e48 : (2 : Int) ^ (48 : Int).toNat = 281474976710656 := by decide
    dsimp only
    rw [e48]
    obtain ⟨r, er, lr⟩ := nat_of (z := c % 281474976710656) (by omega) (by omega)
    rw [er]
    exact q r lr
  refine Eq.mpr (if_neg (show ¬ decide (V.int ((o : Int) / 64 % 16) = V.int 0) = true from fun z => hb (of_decide_eq_true z))) ?_
  refine ⟨_, rfl, _, (64 : Int), rfl, rfl, cd (by decide) (by decide), _, (4 : Int), rfl, rfl, by show (0 : Int) < 4; decide, rfl, _, rfl, ?_⟩
  by_cases hb2 : V.int ((o : Int) / 64 % 4) = V.int 1
  · refine Eq.mpr (if_pos (show decide (V.int ((o : Int) / 64 % 4) = V.int 1) = true from decide_eq_true hb2)) ?_
    refine ⟨_, rfl, _, rfl, _, _, rfl, rfl, _, _, rfl, rfl, by show (0 : Int) < (sz : Int) + 1; omega, ?_⟩
    dsimp only
    obtain ⟨r, er, lr⟩ := emod_nat (i := (o : Int)) (j := (sz : Int) + 1) (by omega)
    rw [er]
    exact q r (by omega)
  refine Eq.mpr (if_neg (show ¬ decide (V.int ((o : Int) / 64 % 4) = V.int 1) = true from fun z => hb2 (of_decide_eq_true z))) ?_
  refine ⟨_, rfl, _, _, rfl, rfl, _, rfl, _, (2 : Int), rfl, rfl, by show (0 : Int) < 2; decide, _, _, rfl, rfl, ?_⟩
  dsimp only
  obtain ⟨r, er, lr⟩ := nat_of (z := (sz : Int) - 1 - (o : Int) % 2) (by omega) (by omega)
  rw [er]
  exact q r lr
end K6
/-! The law's deeds. -/
namespace K6
open PySem PySem.Spec PyProof.Rows L2 HotX L2H He
variable {P : Program} {w : World} {K : PySem.W.Frag} {mg : Str → Option Value} {base : Heap}
/-- a deed: its name, two numbers, whether by the kernel -/
def DeedAt (H : Hp) (t : Addr) (nm : Str) (a b : Nat) (kn : Bool) : Prop := H t = some (.tup [.str nm, nv a, nv b, .bl kn]) ∧ a < 2 ^ 48 ∧ b < 2 ^ 48
theorem iteB {c : Bool} {A B : Prop} (h1 : c = true → A) (h2 : c = false → B) : if c = true then A else B := by
  cases c with
  | true => exact iteT (h1 rfl)
  | false => exact iteF (h2 rfl)
def spDeedOf : Sp := fun vs H Q _ => ∃ (c : Int) (k sz : Nat), vs = [.int c, nv k, nv sz] ∧ k < 1000 ∧ 3 ≤ sz ∧ sz ≤ 6 ∧ ∀ t nm a b kn H', H t = none → Same H H' → DeedAt H' t nm a b kn → Q (.ref t) H'
def names : List Str := ["load", "save", "load", "save", "load", "save", "load", "save", "load", "peek", "poke", "root", "drop", "give", "want", "keep"]
theorem names_at {i : Nat} (h : i < 16) : ∃ nm : Str, (([V.str "load", V.str "save", V.str "load", V.str "save", V.str "load", V.str "save", V.str "load", V.str "save", V.str "load"] : List V) ++ [V.str "peek", V.str "poke", V.str "root", V.str "drop", V.str "give", V.str "want", V.str "keep"])[i]? = some (V.str nm) := by
  have e : (([V.str "load", V.str "save", V.str "load", V.str "save", V.str "load", V.str "save", V.str "load", V.str "save", V.str "load"] : List V) ++ [V.str "peek", V.str "poke", V.str "root", V.str "drop", V.str "give", V.str "want", V.str "keep"]) = names.map V.str := rfl
  rw [e, List.getElem?_map]
  have hl : i < names.length := h
  rw [List.getElem?_eq_getElem hl]
  exact ⟨_, rfl⟩
theorem ok_f_law_deed_of (T : Tx K mg) : FnC P w K mg base 3 (fAd K ("_law_deed_of", none)) (fdat K ("_law_deed_of", none)) ["_law_cell", "_law_k", "_law_size"] spDeedOf := by
  refine fnC (fd_f_law_deed_of T) sc_f_law_deed_of (fun vs H Q E h => ?_) (fun cdv A0 outer s H vs Q E hrm h => ?_)
  · obtain ⟨c, k, sz, rfl, _⟩ := h
    rfl
  obtain ⟨c, k, sz, rfl, hk, h3, h6, q⟩ := h
  refine ⟨_, (pss_cons (ps_set (i := 3) sc_f_law_deed_of.nd rfl (by first | exact Or.inl rfl | exact Or.inr rfl) (pe_op op_fdiv (pv 0) pe_int)) (pss_cons (ps_set (i := 4) sc_f_law_deed_of.nd rfl (by first | exact Or.inl rfl | exact Or.inr rfl) (pe_f rfl (ok_f_law_mixed T) (hrm.mono (by decide)) (by rfl) (g_law_mixed T) (fd_f_law_mixed T).kp (bd_f_law_mixed T) (E := E0s) (fun _ => passAt0) (pa_cons (pv 3) (pa_cons pe_int pa_nil)))) (pss_cons (ps_set (i := 5) sc_f_law_deed_of.nd rfl (by first | exact Or.inl rfl | exact Or.inr rfl) (pe_ix ix_list (pe_lst (pa_cons (pe_f rfl (ok_f_law_row T) (hrm.mono (by decide)) (by rfl) (g_law_row T) (fd_f_law_row T).kp (bd_f_law_row T) (E := E0s) (fun _ => passAt0) (pa_cons (pv 3) (pa_cons (pe_op op_add (pe_op op_mul pe_int (pv 1)) pe_int) (pa_cons (pv 2) pa_nil)))) (pa_cons (pe_f rfl (ok_f_law_row T) (hrm.mono (by decide)) (by rfl) (g_law_row T) (fd_f_law_row T).kp (bd_f_law_row T) (E := E0s) (fun _ => passAt0) (pa_cons (pv 3) (pa_cons (pe_op op_mod (pv 4) pe_int) (pa_cons (pv 2) pa_nil)))) (pa_cons (pe_op op_mod (pv 3) (pe_op op_pow pe_int pe_int)) (pa_cons pe_int pa_nil))))) (pe_op op_mod (pe_op op_fdiv (pv 4) pe_int) pe_int) (fun _ _ => rfl))) (pss_cons (ps_set (i := 6) sc_f_law_deed_of.nd rfl (by first | exact Or.inl rfl | exact Or.inr rfl) (pe_op op_add (pe_op op_mul pe_int (pe_op op_mod (pe_op op_fdiv (pv 4) pe_int) (pv 2))) (pe_op op_mod (pe_op op_fdiv (pv 4) pe_int) pe_int))) (pss_cons (ps_if (pt_cmpR op_eq (pe_op op_mod (pe_op op_fdiv (pv 4) pe_int) pe_int) pe_int (nomark _)) (pss_one (ps_set (i := 6) sc_f_law_deed_of.nd rfl (by first | exact Or.inl rfl | exact Or.inr rfl) (pe_op op_mod (pv 3) (pe_op op_pow pe_int pe_int)))) pss_nil) (pss_cons (ps_set (i := 7) sc_f_law_deed_of.nd rfl (by first | exact Or.inl rfl | exact Or.inr rfl) (pe_lst (pa_cons pe_str (pa_cons pe_str (pa_cons pe_str (pa_cons pe_str (pa_cons pe_str (pa_cons pe_str (pa_cons pe_str (pa_cons pe_str (pa_cons pe_str pa_nil))))))))))) (pss_cons (ps_set (i := 7) sc_f_law_deed_of.nd rfl (by first | exact Or.inl rfl | exact Or.inr rfl) (pe_op op_cat (pv 7) (pe_lst (pa_cons pe_str (pa_cons pe_str (pa_cons pe_str (pa_cons pe_str (pa_cons pe_str (pa_cons pe_str (pa_cons pe_str pa_nil)))))))))) (pss_cons (ps_set (i := 7) sc_f_law_deed_of.nd rfl (by first | exact Or.inl rfl | exact Or.inr rfl) (pe_ix ix_list (pv 7) (pe_op op_mod (pv 0) pe_int) (fun _ _ => rfl))) (pss_cons (ps_if (PW.pt (pw_or (pt_cmpR op_eq (pv 7) pe_str (nomark _)) (pw_or1 (pt_cmpR op_eq (pv 7) pe_str (nomark _))))) (pss_one (ps_ret (pe_tup (pa_cons (pv 7) (pa_cons (pv 6) (pa_cons (pv 5) (pa_cons pe_bl pa_nil))))))) pss_nil) (pss_cons (ps_if (pt_cmpR op_eq (pv 7) pe_str (nomark _)) (pss_one (ps_ret (pe_tup (pa_cons (pv 7) (pa_cons (pe_ix ix_list (pe_lst (pa_cons pe_int (pa_cons pe_int (pa_cons pe_int (pa_cons (pe_f rfl (ok_f_law_number T) (hrm.mono (by decide)) (by rfl) (g_law_number T) (fd_f_law_number T).kp (bd_f_law_number T) (E := E0s) (fun _ => passAt0) (pa_cons (pv 3) (pa_cons pe_int (pa_cons (pv 2) pa_nil)))) pa_nil))))) (pe_op op_mod (pv 4) pe_int) (fun _ _ => rfl)) (pa_cons pe_int (pa_cons pe_bl pa_nil))))))) pss_nil) (pss_cons (ps_if (PW.pt (pw_or (pt_cmpR op_eq (pv 7) pe_str (nomark _)) (pw_or (pt_cmpR op_eq (pv 7) pe_str (nomark _)) (pw_or1 (pt_cmpR op_eq (pv 7) pe_str (nomark _)))))) (pss_one (ps_ret (pe_tup (pa_cons (pv 7) (pa_cons (pe_f rfl (ok_f_law_number T) (hrm.mono (by decide)) (by rfl) (g_law_number T) (fd_f_law_number T).kp (bd_f_law_number T) (E := E0s) (fun _ => passAt0) (pa_cons (pv 3) (pa_cons pe_int (pa_cons (pv 2) pa_nil)))) (pa_cons (pv 4) (pa_cons pe_bl pa_nil))))))) pss_nil) (pss_one (ps_ret (pe_tup (pa_cons (pv 7) (pa_cons (pe_f rfl (ok_f_law_place T) (hrm.mono (by decide)) (by rfl) (g_law_place T) (fd_f_law_place T).kp (bd_f_law_place T) (E := E0s) (fun _ => passAt0) (pa_cons (pv 3) pa_nil)) (pa_cons (pv 5) (pa_cons (pe_cmpR op_gt (pe_op op_mod (pv 3) pe_int) pe_int (nomark _)) pa_nil)))))))))))))))))), ?_⟩
  refine ⟨_, rfl, _, _, rfl, rfl, cd (by decide) (by decide), _, rfl, _, 302, rfl, by decide, fun o ho => ?_⟩
  obtain ⟨cc, hcc⟩ : ∃ cc : Int, cc = c / 16 := ⟨_, rfl⟩
  dsimp only
  rw [← hcc]
  -- the word
  refine ⟨_, rfl, _, rfl, _, _, rfl, rfl, .inl ⟨by decide, by decide⟩, _, _, rfl, rfl, _, rfl, cc, 8 * k + 3, sz, congrArg (fun z => [V.int cc, V.int z, nv sz]) (show (8 : Int) * (k : Int) + 3 = ((8 * k + 3 : Nat) : Int) by omega), by omega, by omega, h6, fun r1 H1 l1 s1 => ?_⟩
  refine ⟨_, rfl, _, rfl, _, (2 : Int), rfl, rfl, by show (0 : Int) < 2; decide, _, rfl, cc, o % 2, sz, congrArg (fun z => [V.int cc, V.int z, nv sz]) (show (o : Int) % 2 = ((o % 2 : Nat) : Int) by omega), by omega, by omega, h6, fun r2 H2 l2 s2 => ?_⟩
  have e48 : (2 : Int) ^ (48 : Int).toNat = 281474976710656 := by decide
  obtain ⟨r3, e3, l3⟩ := nat_of (z := cc % 281474976710656) (by omega) (by omega)
  refine ⟨_, rfl, 2, 48, rfl, rfl, pow48, _, _, rfl, rfl, p48, len4, fun D hD => ?_⟩
  refine ⟨_, rfl, _, (4 : Int), rfl, rfl, cd (by decide) (by decide), _, (4 : Int), rfl, rfl, by show (0 : Int) < 4; decide, ?_⟩
  dsimp only
  rw [e48, e3]
  obtain ⟨ix, eix, lix⟩ := emod_nat (i := (o : Int) / 4) (j := 4) (by decide)
  rw [eix]
  obtain ⟨wv, hwv, lwv⟩ : ∃ wv : Nat, ([nv r1, nv r2, nv r3, nv 0] : List V)[ix]? = some (nv wv) ∧ wv < 2 ^ 48 := by
    match ix, lix with
    | 0, _ => exact ⟨r1, rfl, l1⟩
    | 1, _ => exact ⟨r2, rfl, l2⟩
    | 2, _ => exact ⟨r3, rfl, l3⟩
    | 3, _ => exact ⟨0, rfl, by decide⟩
    | n + 4, h => exact absurd h (by omega)
  refine ⟨_, _, _, _, rfl, rfl, SqL.of upd_same, atI_nat hwv, ?_⟩
  have s3 := Same.trans' s1 (Same.trans' s2 (same_new (o := .lst [nv r1, nv r2, nv r3, nv 0]) hD))
  -- the spot
  refine ⟨_, rfl, _, (16 : Int), rfl, rfl, cd (by decide) (by decide), _, rfl, _, _, rfl, rfl, by show (0 : Int) < (sz : Int); omega, _, _, rfl, rfl, .inl ⟨by decide, by decide⟩, _, rfl, _, (1024 : Int), rfl, rfl, cd (by decide) (by decide), _, (8 : Int), rfl, rfl, p08, _, _, rfl, rfl, ?_⟩
  dsimp only
  obtain ⟨z1, ez1, lz1⟩ := emod_nat (i := (o : Int) / 16) (j := (sz : Int)) (by omega)
  rw [ez1]
  obtain ⟨sp, esp, lsp⟩ := nat_of (z := 8 * (z1 : Int) + (o : Int) / 1024 % 8) (by omega) (by omega)
  rw [esp]
  refine ⟨_, rfl, _, (8192 : Int), rfl, rfl, cd (by decide) (by decide), _, (8 : Int), rfl, rfl, p08, rfl, _, rfl, iteB (fun _ => ?_) (fun _ => ?_)⟩
  · refine ⟨_, rfl, 2, 48, rfl, rfl, pow48, _, _, rfl, rfl, p48, ?_⟩
    dsimp only
    rw [e48, e3]
    refine ⟨szl (by show 9 ≤ 1000; decide), fun D1 hD1 => ⟨_, rfl, szl (by show 7 ≤ 1000; decide), fun D2 hD2 => ?_⟩⟩
    have nD : D2 ≠ D1 := fun z => by rw [z, upd_same] at hD2; cases hD2
    refine ⟨D1, D2, _, _, rfl, rfl, by rw [upd_ne nD.symm]; exact upd_same, upd_same, szl (by show 16 ≤ 1000; decide), fun D3 hD3 => ?_⟩
    refine ⟨_, rfl, _, rfl, _, (16 : Int), rfl, rfl, by show (0 : Int) < 16; decide, ?_⟩
    obtain ⟨i16, e16, l16⟩ := emod_nat (i := c) (j := 16) (by decide)
    dsimp only
    rw [e16]
    obtain ⟨nm, hnm⟩ := names_at (i := i16) (by omega)
    refine ⟨_, _, _, _, rfl, rfl, SqL.of upd_same, atI_nat hnm, ?_⟩
    have s5 : Same H (L2.upd (L2.upd (L2.upd (L2.upd H2 D (.lst [nv r1, nv r2, nv r3, nv 0])) D1 (.lst [V.str "load", V.str "save", V.str "load", V.str "save", V.str "load", V.str "save", V.str "load", V.str "save", V.str "load"])) D2 (.lst [V.str "peek", V.str "poke", V.str "root", V.str "drop", V.str "give", V.str "want", V.str "keep"])) D3 (.lst ([V.str "load", V.str "save", V.str "load", V.str "save", V.str "load", V.str "save", V.str "load", V.str "save", V.str "load"] ++ [V.str "peek", V.str "poke", V.str "root", V.str "drop", V.str "give", V.str "want", V.str "keep"]))) := Same.trans' s3 (Same.trans' (same_new hD1) (Same.trans' (same_new hD2) (same_new hD3)))
    have fin : ∀ {t : Addr} {a b : Nat} {kn : Bool} {H' : Hp}, Same H H' → H' t = none → a < 2 ^ 48 → b < 2 ^ 48 → Q (.ref t) (L2.upd H' t (.tup [.str nm, nv a, nv b, .bl kn])) := fun {t a b kn H'} s ht ha hb => q t nm a b kn _ (none_of_same s ht) (Same.trans' s (same_new ht)) ⟨upd_same, ha, hb⟩
    have first : ∀ {t : Addr} {H' : Hp}, Same H H' → H' t = none → Q (.ref t) (L2.upd H' t (.tup [.str nm, nv r3, nv wv, .bl false])) := fun s ht => fin s ht l3 lwv
    refine ⟨_, rfl, rfl, _, rfl, iteB (fun _ => iteT ⟨_, rfl, _, rfl, _, rfl, len4, fun t ht => first s5 ht⟩) (fun _ => ⟨_, rfl, rfl, _, rfl, iteB (fun _ => ⟨_, rfl, _, rfl, _, rfl, len4, fun t ht => first s5 ht⟩) (fun _ => ?_)⟩)⟩
    refine ⟨_, rfl, rfl, _, rfl, iteB (fun _ => ⟨_, rfl, _, rfl, _, rfl, cc, 303, sz, rfl, by decide, h3, h6, fun r hr => ⟨len4, fun D4 hD4 => ⟨_, rfl, _, (4 : Int), rfl, rfl, by show (0 : Int) < 4; decide, ?_⟩⟩⟩) (fun _ => ?_)⟩
    · obtain ⟨i4, e4, l4⟩ := emod_nat (i := (o : Int)) (j := 4) (by decide)
      dsimp only
      rw [e4]
      obtain ⟨x, hx, lx⟩ : ∃ x : Nat, ([nv 0, nv 0, nv 1, nv r] : List V)[i4]? = some (nv x) ∧ x < 2 ^ 48 := by
        match i4, l4 with
        | 0, _ => exact ⟨0, rfl, by decide⟩
        | 1, _ => exact ⟨0, rfl, by decide⟩
        | 2, _ => exact ⟨1, rfl, by decide⟩
        | 3, _ => exact ⟨r, rfl, hr⟩
        | n + 4, h => exact absurd h (by omega)
      exact ⟨_, _, _, _, rfl, rfl, SqL.of upd_same, atI_nat hx, len4, fun t ht => fin (b := 0) (Same.trans' s5 (same_new hD4)) ht lx (by decide)⟩
    have give : tRet (tTup (tCons (tVar 7) (tCons (tCallS spNumber E0s (tCons (tVar 3) (tCons (tC (V.int 303)) (tCons (tVar 2) tNil)))) (tCons (tVar 4) (tCons (tC (V.bl false)) tNil))))) { nx := fun _ H' => Q .non H', rt := Q } [some (.int c), some (nv k), some (nv sz), some (.int cc), some (nv o), some (nv wv), some (nv r3), some (.str nm)] (L2.upd (L2.upd (L2.upd (L2.upd H2 D (.lst [nv r1, nv r2, nv r3, nv 0])) D1 (.lst [V.str "load", V.str "save", V.str "load", V.str "save", V.str "load", V.str "save", V.str "load", V.str "save", V.str "load"])) D2 (.lst [V.str "peek", V.str "poke", V.str "root", V.str "drop", V.str "give", V.str "want", V.str "keep"])) D3 (.lst ([V.str "load", V.str "save", V.str "load", V.str "save", V.str "load", V.str "save", V.str "load", V.str "save", V.str "load"] ++ [V.str "peek", V.str "poke", V.str "root", V.str "drop", V.str "give", V.str "want", V.str "keep"]))) := 
      ⟨_, rfl, _, rfl, _, rfl, cc, 303, sz, rfl, by decide, h3, h6, fun r hr => ⟨_, rfl, len4, fun t ht => fin s5 ht hr (by omega)⟩⟩
    refine ⟨_, rfl, rfl, _, rfl, iteB (fun _ => iteT give) (fun _ => ⟨_, rfl, rfl, _, rfl, iteB (fun _ => iteT give) (fun _ => ⟨_, rfl, rfl, _, rfl, iteB (fun _ => give) (fun _ => ?_)⟩)⟩)⟩
    exact ⟨_, rfl, _, rfl, cc, rfl, fun r hr => ⟨_, rfl, _, rfl, _, (4 : Int), rfl, rfl, by show (0 : Int) < 4; decide, _, _, rfl, rfl, len4, fun t ht => fin s5 ht hr lwv⟩⟩
  · skip
    refine ⟨szl (by show 9 ≤ 1000; decide), fun D1 hD1 => ⟨_, rfl, szl (by show 7 ≤ 1000; decide), fun D2 hD2 => ?_⟩⟩
    have nD : D2 ≠ D1 := fun z => by rw [z, upd_same] at hD2; cases hD2
    refine ⟨D1, D2, _, _, rfl, rfl, by rw [upd_ne nD.symm]; exact upd_same, upd_same, szl (by show 16 ≤ 1000; decide), fun D3 hD3 => ?_⟩
    refine ⟨_, rfl, _, rfl, _, (16 : Int), rfl, rfl, by show (0 : Int) < 16; decide, ?_⟩
    obtain ⟨i16, e16, l16⟩ := emod_nat (i := c) (j := 16) (by decide)
    dsimp only
    rw [e16]
    obtain ⟨nm, hnm⟩ := names_at (i := i16) (by omega)
    refine ⟨_, _, _, _, rfl, rfl, SqL.of upd_same, atI_nat hnm, ?_⟩
    have s5 : Same H (L2.upd (L2.upd (L2.upd (L2.upd H2 D (.lst [nv r1, nv r2, nv r3, nv 0])) D1 (.lst [V.str "load", V.str "save", V.str "load", V.str "save", V.str "load", V.str "save", V.str "load", V.str "save", V.str "load"])) D2 (.lst [V.str "peek", V.str "poke", V.str "root", V.str "drop", V.str "give", V.str "want", V.str "keep"])) D3 (.lst ([V.str "load", V.str "save", V.str "load", V.str "save", V.str "load", V.str "save", V.str "load", V.str "save", V.str "load"] ++ [V.str "peek", V.str "poke", V.str "root", V.str "drop", V.str "give", V.str "want", V.str "keep"]))) := Same.trans' s3 (Same.trans' (same_new hD1) (Same.trans' (same_new hD2) (same_new hD3)))
    have fin : ∀ {t : Addr} {a b : Nat} {kn : Bool} {H' : Hp}, Same H H' → H' t = none → a < 2 ^ 48 → b < 2 ^ 48 → Q (.ref t) (L2.upd H' t (.tup [.str nm, nv a, nv b, .bl kn])) := fun {t a b kn H'} s ht ha hb => q t nm a b kn _ (none_of_same s ht) (Same.trans' s (same_new ht)) ⟨upd_same, ha, hb⟩
    have first : ∀ {t : Addr} {H' : Hp}, Same H H' → H' t = none → Q (.ref t) (L2.upd H' t (.tup [.str nm, nv sp, nv wv, .bl false])) := fun s ht => fin s ht lsp lwv
    refine ⟨_, rfl, rfl, _, rfl, iteB (fun _ => iteT ⟨_, rfl, _, rfl, _, rfl, len4, fun t ht => first s5 ht⟩) (fun _ => ⟨_, rfl, rfl, _, rfl, iteB (fun _ => ⟨_, rfl, _, rfl, _, rfl, len4, fun t ht => first s5 ht⟩) (fun _ => ?_)⟩)⟩
    refine ⟨_, rfl, rfl, _, rfl, iteB (fun _ => ⟨_, rfl, _, rfl, _, rfl, cc, 303, sz, rfl, by decide, h3, h6, fun r hr => ⟨len4, fun D4 hD4 => ⟨_, rfl, _, (4 : Int), rfl, rfl, by show (0 : Int) < 4; decide, ?_⟩⟩⟩) (fun _ => ?_)⟩
    · obtain ⟨i4, e4, l4⟩ := emod_nat (i := (o : Int)) (j := 4) (by decide)
      dsimp only
      rw [e4]
      obtain ⟨x, hx, lx⟩ : ∃ x : Nat, ([nv 0, nv 0, nv 1, nv r] : List V)[i4]? = some (nv x) ∧ x < 2 ^ 48 := by
        match i4, l4 with
        | 0, _ => exact ⟨0, rfl, by decide⟩
        | 1, _ => exact ⟨0, rfl, by decide⟩
        | 2, _ => exact ⟨1, rfl, by decide⟩
        | 3, _ => exact ⟨r, rfl, hr⟩
        | n + 4, h => exact absurd h (by omega)
      exact ⟨_, _, _, _, rfl, rfl, SqL.of upd_same, atI_nat hx, len4, fun t ht => fin (b := 0) (Same.trans' s5 (same_new hD4)) ht lx (by decide)⟩
    have give : tRet (tTup (tCons (tVar 7) (tCons (tCallS spNumber E0s (tCons (tVar 3) (tCons (tC (V.int 303)) (tCons (tVar 2) tNil)))) (tCons (tVar 4) (tCons (tC (V.bl false)) tNil))))) { nx := fun _ H' => Q .non H', rt := Q } [some (.int c), some (nv k), some (nv sz), some (.int cc), some (nv o), some (nv wv), some (nv sp), some (.str nm)] (L2.upd (L2.upd (L2.upd (L2.upd H2 D (.lst [nv r1, nv r2, nv r3, nv 0])) D1 (.lst [V.str "load", V.str "save", V.str "load", V.str "save", V.str "load", V.str "save", V.str "load", V.str "save", V.str "load"])) D2 (.lst [V.str "peek", V.str "poke", V.str "root", V.str "drop", V.str "give", V.str "want", V.str "keep"])) D3 (.lst ([V.str "load", V.str "save", V.str "load", V.str "save", V.str "load", V.str "save", V.str "load", V.str "save", V.str "load"] ++ [V.str "peek", V.str "poke", V.str "root", V.str "drop", V.str "give", V.str "want", V.str "keep"]))) := 
      ⟨_, rfl, _, rfl, _, rfl, cc, 303, sz, rfl, by decide, h3, h6, fun r hr => ⟨_, rfl, len4, fun t ht => fin s5 ht hr (by omega)⟩⟩
    refine ⟨_, rfl, rfl, _, rfl, iteB (fun _ => iteT give) (fun _ => ⟨_, rfl, rfl, _, rfl, iteB (fun _ => iteT give) (fun _ => ⟨_, rfl, rfl, _, rfl, iteB (fun _ => give) (fun _ => ?_)⟩)⟩)⟩
    exact ⟨_, rfl, _, rfl, cc, rfl, fun r hr => ⟨_, rfl, _, rfl, _, (4 : Int), rfl, rfl, by show (0 : Int) < 4; decide, _, _, rfl, rfl, len4, fun t ht => fin s5 ht hr lwv⟩⟩
end K6
/-! The law's images. -/
namespace K6
open PySem PySem.Spec PyProof.Rows L2 HotX L2H He
variable {P : Program} {w : World} {K : PySem.W.Frag} {mg : Str → Option Value} {base : Heap}
def rListOf (K : PySem.W.Frag) : List V → Hp → VK → Prop := fun xs H Q => ∃ p ys, xs = [.ref p] ∧ (SqL K H p ys ∨ SqT K H p ys) ∧ ∀ l, H l = none → Q (.ref l) (L2.upd H l (.lst ys))
theorem call_listK {X : Cx} {K : PySem.W.Frag} (h : X.K = K) : CallR X (.type "list") (rListOf K) := by
  subst h
  exact call_list_of
def spCopy (K : PySem.W.Frag) : Sp := fun vs H Q _ => ∃ (c : Col) (a : Addr) (ps : List (Option (List Nat))), vs = [.ref a] ∧ PgsAt c H a ps ∧ ps.length ≤ 24 ∧ ∀ D c' H', Keep0 c H c' H' → PgsAt c' H' D ps → Q (.ref D) H'
theorem pvn_keep {D : Addr} {c c' : Col} {H H' : Hp} {v : V} {o : Option (List Nat)} (p : PVn D c H v o) (k : Keep0 c H c' H') : PVn D c' H' v o := ⟨p.1.keep k (fun z => z), p.2⟩
theorem ok_f_law_copy (T : Tx K mg) : FnC P w K mg base 1 (fAd K ("_law_copy", none)) (fdat K ("_law_copy", none)) ["_law_pages"] (spCopy K) := by
  refine fnC (fd_f_law_copy T) sc_f_law_copy (fun vs H Q E h => ?_) (fun cdv A0 outer s H vs Q E hrm h => ?_)
  · obtain ⟨c, a, ps, rfl, _⟩ := h
    rfl
  obtain ⟨c, a, ps, rfl, ⟨us, ha, ca, hl, hv⟩, l24, q⟩ := h
  refine ⟨_, (pss_one (ps_ret (pe_lc (own := [("_law_words", 1)]) (g := gName 1) rfl sc_f_law_copy.nd (pi_list (pv 0)) (blkOk_by (own := [("_law_words", 1)]) (N := ["_law_pages", "_law_words"]) (sc := (defScope s_f_law_copy)) (by decide +kernel)) (fun _ _ _ _ _ => pg_name (i := 1) sc_f_law_copy.nd rfl (by first | exact Or.inl rfl | exact Or.inr rfl)) (fun _ _ _ _ _ => pts_nil) (fun _ _ _ _ _ => (pe_ifExp (pt_cmpR op_isN (pv 1) pe_non (nomark _)) pe_non (pe_callTy (call_listK (K := K) rfl) (by rfl) (b_list T) q_list (pa_cons (pv 1) pa_nil))))))), ?_⟩
  refine ⟨_, rfl, a, rfl, ⟨_, SqL.of ha⟩, fun D hD => ?_⟩
  refine lc_it (walk_list (xs := us)) (fun i H2 => ∃ (c2 : Col) (vs : List V), Keep0 c H c2 H2 ∧ H2 D = some (.lst vs) ∧ c2 D = .no ∧ vs.length = i ∧ ∀ (qq : Nat) (v : V) (o : Option (List Nat)), vs[qq]? = some v → ps[qq]? = some o → PVn D c2 H2 v o) ?_ (fun i H2 _ ⟨c2, vs, k2, _⟩ => SqL.of (k2 a _ ha (fun z => z)).1) ?_ ?_
  · exact ⟨colS c D .no, [], .newC hD, upd_same, colS_same, rfl, fun qq v o h => by cases h⟩
  · rintro i v H3 H2 hi ⟨c2, vs, k2, hD2, cD2, hl2, hv2⟩ ⟨rfl, hx⟩
    refine ⟨rfl, ?_⟩
    have hp : ps[i]? = some (ps[i]'(by omega)) := List.getElem?_eq_getElem (by omega)
    have pvx := (hv i v _ hx hp).keep k2 (fun z => z)
    have lim : vs.length < sizeLine := by rw [sizeLine_eq]; omega
    have fin : ∀ (c4 : Col) (H4 : Hp) (x : V), Keep0 c2 H2 c4 H4 → PVn D c4 H4 x (ps[i]'(by omega)) → ∃ acc, H4 D = some (.lst acc) ∧ acc.length < sizeLine ∧ ∃ (c2 : Col) (vs : List V), Keep0 c H c2 (L2.upd H4 D (.lst (acc ++ [x]))) ∧ L2.upd H4 D (.lst (acc ++ [x])) D = some (.lst vs) ∧ c2 D = .no ∧ vs.length = i + 1 ∧
        ∀ (qq : Nat) (v : V) (o : Option (List Nat)), vs[qq]? = some v → ps[qq]? = some o → PVn D c2 (L2.upd H4 D (.lst (acc ++ [x]))) v o := fun c4 H4 x k4 pv => by
      obtain ⟨hD4, cD4⟩ := k4 D _ hD2 (fun z => z)
      refine ⟨vs, hD4, lim, c4, vs ++ [x], Keep0.updD (k2.trans k4) hD, upd_same, cD4.trans cD2, by rw [List.length_append, hl2]; rfl, fun qq v o h1 h2 => ?_⟩
      rcases getElem?_snoc h1 with ⟨z1, z2⟩ | ⟨z1, z2⟩
      · exact (pvn_keep (hv2 qq v o z2 h2) k4).updD
      · subst z1 z2
        rw [hl2, hp] at h2
        rw [← Option.some.inj h2]
        exact pv.updD
    cases ho : ps[i]'(by omega) with
    | none =>
      rw [ho] at pvx fin
      obtain rfl : v = .non := pvx
      exact ⟨_, rfl, rfl, _, rfl, iteT (fin c2 H2 .non (fun _ _ h _ => ⟨h, rfl⟩) ⟨rfl, fun z => nomatch z⟩)⟩
    | some ws =>
      rw [ho] at pvx fin
      obtain ⟨b, rfl, hb, cb⟩ := pvx
      refine ⟨_, rfl, rfl, _, rfl, iteF ⟨_, rfl, b, _, rfl, .inl (SqL.of hb), fun D4 hD4 => ?_⟩⟩
      exact fin (colS c2 D4 .no) _ (.ref D4) (.newC hD4) ⟨⟨D4, rfl, upd_same, colS_same⟩, fun z => by injection z with z; rw [z, hD2] at hD4; cases hD4⟩
  · rintro H2 ⟨c2, vs, k2, hD2, cD2, hl2, hv2⟩
    exact q D c2 H2 k2 ⟨vs, hD2, cD2, by rw [hl2, hl], fun qq v o h1 h2 => (hv2 qq v o h1 h2).1⟩
/-! ### an image grows -/
def ImgI (c0 : Col) (H0 : Hp) (c : Col) (H : Hp) (D : Addr) (k : Nat) : Prop := ∃ (vs : List V) (ps : List (Option (List Nat))), Keep0 c0 H0 c H ∧ H D = some (.lst vs) ∧ c D = .no ∧ vs.length = k ∧ ps.length = k ∧ okW ps ∧
  ∀ (q : Nat) (v : V) (o : Option (List Nat)), vs[q]? = some v → ps[q]? = some o → PVn D c H v o
/-- its last page is a list at b -/
def ImgL (c0 : Col) (H0 : Hp) (c : Col) (H : Hp) (D b : Addr) (k : Nat) : Prop := ∃ (vs : List V) (ps : List (Option (List Nat))) (ws : List Nat), Keep0 c0 H0 c H ∧ H D = some (.lst (vs ++ [V.ref b])) ∧ c D = .no ∧ vs.length = k ∧ ps.length = k ∧ okW ps ∧
  (∀ (q : Nat) (v : V) (o : Option (List Nat)), vs[q]? = some v → ps[q]? = some o → PVn D c H v o ∧ v ≠ .ref b) ∧ H b = some (.lst (ws.map nv)) ∧ c b = .no ∧ b ≠ D ∧ H0 b = none ∧ ws.length = 8 ∧ ∀ x ∈ ws, x < 2 ^ 48
theorem okW_snoc {ps : List (Option (List Nat))} {o : Option (List Nat)} (h : okW ps) (ho : ∀ ws, o = some ws → ws.length = 8 ∧ ∀ x ∈ ws, x < 2 ^ 48) : okW (ps ++ [o]) := fun ws hw => by
  rcases List.mem_append.mp hw with z | z
  · exact h ws z
  · exact ho ws (List.mem_singleton.mp z).symm
theorem ImgL.done {c0 c : Col} {H0 H : Hp} {D b : Addr} {k : Nat} (i : ImgL c0 H0 c H D b k) : ImgI c0 H0 c H D (k + 1) := by
  obtain ⟨vs, ps, ws, k0, hD, cD, l1, l2, ok, hv, hb, cb, nb, h0, h8, hw⟩ := i
  refine ⟨vs ++ [.ref b], ps ++ [some ws], k0, hD, cD, by rw [List.length_append, l1]; rfl, by rw [List.length_append, l2]; rfl, okW_snoc ok fun ws' e => by cases e; exact ⟨h8, hw⟩, fun q v o h1 h2 => ?_⟩
  rcases getElem?_snoc h1 with ⟨z1, z2⟩ | ⟨z1, z2⟩
  · rw [List.getElem?_append_left (by omega)] at h2
    exact (hv q v o z2 h2).1
  · subst z1 z2
    rw [List.getElem?_append_right (by omega), l1, l2, Nat.sub_self] at h2
    rw [← Option.some.inj h2]
    exact ⟨⟨b, rfl, hb, cb⟩, fun z => nb (by injection z)⟩
theorem ImgL.set {c0 c : Col} {H0 H : Hp} {D b : Addr} {k j x : Nat} (i : ImgL c0 H0 c H D b k) (hj : j < 8) (hx : x < 2 ^ 48) : ∃ ws : List Nat, H b = some (.lst (ws.map nv)) ∧ ws.length = 8 ∧ ImgL c0 H0 c (L2.upd H b (.lst ((ws.map nv).set j (nv x)))) D b k := by
  obtain ⟨vs, ps, ws, k0, hD, cD, l1, l2, ok, hv, hb, cb, nb, h0, h8, hw⟩ := i
  refine ⟨ws, hb, h8, vs, ps, ws.set j x, Keep0.updD k0 h0, by rw [upd_ne nb.symm]; exact hD, cD, l1, l2, ok, fun q v o h1 h2 => ?_, by rw [upd_same, map_set], cb, nb, h0, by rw [List.length_set]; exact h8, fun y hy => ?_⟩
  · obtain ⟨⟨z1, z2⟩, z3⟩ := hv q v o h1 h2
    refine ⟨⟨?_, z2⟩, z3⟩
    cases o with
    | none => exact z1
    | some ws' =>
      obtain ⟨a, e, e1, e2⟩ := z1
      exact ⟨a, e, by rw [upd_ne fun z => z3 (by rw [e, z])]; exact e1, e2⟩
  · rcases List.mem_or_eq_of_mem_set hy with z | z
    · exact hw y z
    · rw [z]; exact hx
/-- nothing is appended -/
theorem ImgI.non {c0 c : Col} {H0 H : Hp} {D : Addr} {k : Nat} (i : ImgI c0 H0 c H D k) (h0 : H0 D = none) : ∃ vs, H D = some (.lst vs) ∧ vs.length = k ∧ ImgI c0 H0 c (L2.upd H D (.lst (vs ++ [.non]))) D (k + 1) := by
  obtain ⟨vs, ps, k0, hD, cD, l1, l2, ok, hv⟩ := i
  refine ⟨vs, hD, l1, vs ++ [.non], ps ++ [none], Keep0.updD k0 h0, upd_same, cD, by rw [List.length_append, l1]; rfl, by rw [List.length_append, l2]; rfl, okW_snoc ok (fun ws' e => nomatch e), fun q v o h1 h2 => ?_⟩
  rcases getElem?_snoc h1 with ⟨z1, z2⟩ | ⟨z1, z2⟩
  · rw [List.getElem?_append_left (by omega)] at h2
    exact (hv q v o z2 h2).updD
  · subst z1 z2
    rw [List.getElem?_append_right (by omega), l1, l2, Nat.sub_self] at h2
    rw [← Option.some.inj h2]
    exact ⟨rfl, fun z => nomatch z⟩
/-- a new list is appended; between them only new objects -/
theorem ImgI.ref {c0 c : Col} {H0 H H1 : Hp} {D b : Addr} {k : Nat} {ws : List Nat} (i : ImgI c0 H0 c H D k) (h0 : H0 D = none) (hb0 : H b = none) (s : ∀ x u, H x = some u → H1 x = some u) (hb : H1 b = some (.lst (ws.map nv))) (h8 : ws.length = 8) (hw : ∀ x ∈ ws, x < 2 ^ 48) :
    ∃ vs, H1 D = some (.lst vs) ∧ vs.length = k ∧ ImgL c0 H0 (colS c b .no) (L2.upd H1 D (.lst (vs ++ [.ref b]))) D b k := by
  obtain ⟨vs, ps, k0, hD, cD, l1, l2, ok, hv⟩ := i
  have hD1 := s _ _ hD
  have nb : b ≠ D := fun z => by rw [z, hD] at hb0; cases hb0
  have kk : Keep0 c H (colS c b .no) H1 := fun x u e _ => ⟨s x u e, colS_ne (ne_of_none e hb0)⟩
  refine ⟨vs, hD1, l1, vs, ps, ws, Keep0.updD (k0.trans kk) h0, upd_same, (colS_ne nb.symm).trans cD, l1, l2, ok, fun q v o h1 h2 => ?_, by rw [upd_ne nb]; exact hb, colS_same, nb, ?_, h8, hw⟩
  · have z := hv q v o h1 h2
    refine ⟨(pvn_keep z kk).updD, fun y => ?_⟩
    cases o with
    | none => rw [show v = .non from z.1] at y; cases y
    | some ws' =>
      obtain ⟨a, e, e1, e2⟩ := z.1
      rw [e] at y
      injection y with y
      rw [y, hb0] at e1
      cases e1
  · cases e : H0 b with
    | none => rfl
    | some u =>
      have := (k0 b u e (fun z => z)).1
      rw [hb0] at this
      cases this
theorem atI_last {l : List V} {v : V} : atI (l ++ [v]) (-1) = some v := by
  have h1 : (l ++ [v]).length = l.length + 1 := by rw [List.length_append]; rfl
  unfold atI ixN
  rw [h1]
  have h2 : ¬ ((0 : Int) ≤ -1) := by decide
  rw [if_neg h2]
  have h3 : -((l.length + 1 : Nat) : Int) ≤ -1 := by omega
  have h4 : ((-1 : Int) + ((l.length + 1 : Nat) : Int)).toNat = l.length := by omega
  rw [if_pos h3, h4]
  show (l ++ [v])[l.length]? = some v
  rw [List.getElem?_append_right (Nat.le_refl _), Nat.sub_self]
  rfl
def spImage (K : PySem.W.Frag) : Sp := fun vs H Q _ => ∃ (c0 : Col) (c : Int) (sz : Nat), vs = [.int c, nv sz] ∧ 3 ≤ sz ∧ sz ≤ 6 ∧ ∀ D c' ps H', Keep0 c0 H c' H' → PgsAt c' H' D ps → okW ps → ps.length = sz → Q (.ref D) H'
theorem ok_f_law_image (T : Tx K mg) : FnC P w K mg base 3 (fAd K ("_law_image", none)) (fdat K ("_law_image", none)) ["_law_cell", "_law_size"] (spImage K) := by
  refine fnC (fd_f_law_image T) sc_f_law_image (fun vs H Q E h => ?_) (fun cdv A0 outer s H vs Q E hrm h => ?_)
  · obtain ⟨c0, c, sz, rfl, _⟩ := h
    rfl
  obtain ⟨c0, c, sz, rfl, h3, h6, q⟩ := h
  refine ⟨_, (pss_cons (ps_set (i := 2) sc_f_law_image.nd rfl (by first | exact Or.inl rfl | exact Or.inr rfl) (pe_lst pa_nil)) (pss_cons (ps_set (i := 3) sc_f_law_image.nd rfl (by first | exact Or.inl rfl | exact Or.inr rfl) (pe_callB (call_max2 rfl) (by rfl) (b_max T) q_max (pa_cons pe_int (pa_cons (pe_op op_fdivW (pv 0) (pe_op op_pow pe_int pe_int)) pa_nil)))) (pss_cons (ps_set (i := 0) sc_f_law_image.nd rfl (by first | exact Or.inl rfl | exact Or.inr rfl) (pe_op op_mod (pv 0) (pe_op op_pow pe_int pe_int))) (pss_cons (ps_for (passes_of rfl) rfl (pi_range1 (by rfl) (b_range T) (pa_cons (pv 1) pa_nil)) (pg_name (i := 4) sc_f_law_image.nd rfl (by first | exact Or.inl rfl | exact Or.inr rfl)) (pss_cons (ps_set (i := 5) sc_f_law_image.nd rfl (by first | exact Or.inl rfl | exact Or.inr rfl) (pe_f rfl (ok_f_law_mixed T) (hrm.mono (by decide)) (by rfl) (g_law_mixed T) (fd_f_law_mixed T).kp (bd_f_law_mixed T) (E := E0s) (fun _ => passAt0) (pa_cons (pv 0) (pa_cons (pe_op op_add (pv 4) pe_int) pa_nil)))) (pss_cons (ps_if (PW.pt (pw_and (pt_cmpR op_gt (pv 4) pe_int (nomark _)) (pw_and1 (pt_cmpR op_eq (pe_op op_mod (pv 5) pe_int) pe_int (nomark _))))) (pss_one (ps_expr (pe_bm PySem.F.plainAttrs_list PySem.F.slot_list_append PySem.F.type_list_append mt_append (pv 2) (pa_cons pe_non pa_nil)))) (pss_one (ps_if (pt_cmpR op_eq (pe_op op_mod (pe_op op_fdiv (pv 5) pe_int) pe_int) pe_int (nomark _)) (pss_one (ps_expr (pe_bm PySem.F.plainAttrs_list PySem.F.slot_list_append PySem.F.type_list_append mt_append (pv 2) (pa_cons (pe_op op_rep (pe_lst (pa_cons (pe_f rfl (ok_f_law_row T) (hrm.mono (by decide)) (by rfl) (g_law_row T) (fd_f_law_row T).kp (bd_f_law_row T) (E := E0s) (fun _ => passAt0) (pa_cons (pv 0) (pa_cons (pe_op op_mod (pe_op op_fdiv (pv 5) pe_int) pe_int) (pa_cons (pv 1) pa_nil)))) pa_nil)) pe_int) pa_nil)))) (pss_one (ps_expr (pe_bm PySem.F.plainAttrs_list PySem.F.slot_list_append PySem.F.type_list_append mt_append (pv 2) (pa_cons (pe_lc (own := [("_law_j", 6)]) (g := gName 6) rfl sc_f_law_image.nd (pi_range1 (by rfl) (b_range T) (pa_cons pe_int pa_nil)) (blkOk_by (own := [("_law_j", 6)]) (N := ["_law_cell", "_law_size", "_law_pages", "_law_left", "_law_k", "_law_number_here", "_law_j"]) (sc := (defScope s_f_law_image)) (by decide +kernel)) (fun _ _ _ _ _ => pg_name (i := 6) sc_f_law_image.nd rfl (by first | exact Or.inl rfl | exact Or.inr rfl)) (fun _ _ _ _ _ => pts_nil) (fun _ _ _ _ _ => (pe_f rfl (ok_f_law_row T) (hrm.mono (by decide)) (by rfl) (g_law_row T) (fd_f_law_row T).kp (bd_f_law_row T) (E := E0s) (fun _ => passAt0) (pa_cons (pv 0) (pa_cons (pe_op op_add (pe_op op_add (pe_op op_mul pe_int (pv 4)) (pv 6)) pe_int) (pa_cons (pv 1) pa_nil)))))) pa_nil))))))) (pss_one (ps_if (PW.pt (pw_and (pt_cmpR op_gt (pv 3) pe_int (nomark _)) (pw_and1 (pt_cmpR op_notN (pe_ix ix_list (pv 2) (pe_un un_neg pe_int) (fun _ _ => rfl)) pe_non (nomark _))))) (pss_one (ps_for (passes_of rfl) rfl (pi_range1 (by rfl) (b_range T) (pa_cons pe_int pa_nil)) (pg_name (i := 6) sc_f_law_image.nd rfl (by first | exact Or.inl rfl | exact Or.inr rfl)) (pss_cons (ps_asg (pe_op op_mod (pv 3) (pe_op op_pow pe_int pe_int)) (pg_sub (pe_ix ix_list (pv 2) (pe_un un_neg pe_int) (fun _ _ => rfl)) (pv 6) set_list)) (pss_one (ps_set (i := 3) sc_f_law_image.nd rfl (by first | exact Or.inl rfl | exact Or.inr rfl) (pe_op op_fdivW (pv 3) (pe_op op_pow pe_int pe_int))))))) pss_nil))))) (pss_one (ps_ret (pv 2))))))), ?_⟩
  refine ⟨szl (by show 0 ≤ 1000; decide), fun D hD => ?_⟩
  refine ⟨_, rfl, 10, 18, rfl, rfl, pow18, c, _, rfl, rfl, wide p18 lg18, 0, _, rfl, ?_⟩
  refine ⟨_, rfl, 10, 18, rfl, rfl, pow18, c, _, rfl, rfl, p18, ?_⟩
  obtain ⟨cc, hcc⟩ : ∃ cc : Int, cc = c % (10 : Int) ^ (18 : Int).toNat := ⟨_, rfl⟩
  dsimp only
  rw [← hcc]
  refine ⟨_, rfl, (sz : Int), rfl, by omega, by omega, ?_⟩
  have en : ((sz : Nat) : Int).toNat = sz := Int.toNat_natCast _
  rw [en]
  refine for_it (walk_range (lo := 0) (n := sz)) (fun k σ H2 => ∃ (c2 : Col) (lf : Int) (x4 x5 x6 : Option V), σ = [some (.int cc), some (nv sz), some (.ref D), some (.int lf), x4, x5, x6] ∧ ImgI c0 H c2 H2 D k) ?_ (fun _ _ _ _ _ => trivial) ?_ ?_
  · exact ⟨colS c0 D .no, _, none, none, none, rfl, [], [], .newC hD, upd_same, colS_same, rfl, rfl, (fun ws h => nomatch h), fun q v o h => by cases h⟩
  · rintro k v σ H3 H2 hk ⟨c2, lf, x4, x5, x6, rfl, I2⟩ ⟨rfl, rfl⟩
    have ez : (0 : Int) + (k : Int) = (k : Int) := by omega
    dsimp only
    rw [ez]
    refine ⟨_, rfl, _, rfl, _, _, rfl, rfl, cc, k + 400, congrArg (fun z => [V.int cc, V.int z]) (show (k : Int) + 400 = ((k + 400 : Nat) : Int) by omega), by omega, fun o ho => ?_⟩
    obtain ⟨vs0, HD0, hl0⟩ : ∃ vs0, H2 D = some (.lst vs0) ∧ vs0.length = k := by
      obtain ⟨vs, ps, _, h, _, h2, _⟩ := I2
      exact ⟨vs, h, h2⟩
    have lim : vs0.length < sizeLine := by rw [sizeLine_eq]; omega
    refine ⟨_, rfl, _, _, rfl, rfl, _, rfl, iteB (fun _ => ⟨_, rfl, _, (6 : Int), rfl, rfl, by show (0 : Int) < 6; decide, rfl, _, rfl, iteB (fun _ => ?_) (fun _ => ?_)⟩) (fun _ => iteF ?_)⟩
    · obtain ⟨vs, HD, hl, I3⟩ := I2.non hD
      refine ⟨_, rfl, .inl ⟨rfl, _, SqL.of HD⟩, _, _, _, rfl, rfl, HD, by rw [hl]; rw [hl0] at lim; exact lim, ?_⟩
      exact ⟨_, rfl, _, _, rfl, rfl, _, rfl, iteB (fun _ => ⟨_, rfl, _, rfl, _, _, _, _, rfl, rfl, SqL.of upd_same, atI_last, rfl, _, rfl, iteF ⟨_, _, _, _, _, rfl, I3⟩⟩) (fun _ => iteF ⟨_, _, _, _, _, rfl, I3⟩)⟩
    all_goals
      refine ⟨_, rfl, _, (8 : Int), rfl, rfl, cd (by decide) (by decide), _, (4 : Int), rfl, rfl, by show (0 : Int) < 4; decide, rfl, _, rfl, iteB (fun _ => ?_) (fun _ => ?_)⟩
      · refine ⟨_, rfl, .inl ⟨rfl, _, SqL.of HD0⟩, _, rfl, _, rfl, _, (32 : Int), rfl, rfl, cd (by decide) (by decide), _, (2 : Int), rfl, rfl, by show (0 : Int) < 2; decide, _, rfl, cc, o / 32 % 2, sz, congrArg (fun z => [V.int cc, V.int z, nv sz]) (show (o : Int) / 32 % 2 = ((o / 32 % 2 : Nat) : Int) by omega), by omega, by omega, h6, fun r H4' lr s4 => ?_⟩
        refine ⟨szl (by show 1 ≤ 1000; decide), fun p1 hp1 => ⟨p1, (8 : Int), _, rfl, rfl, upd_same, by decide, by decide, szl (by show 1 * 8 ≤ 1000; decide), fun b hb => ?_⟩⟩
        have s4' := Same.trans' s4 (same_new (o := .lst [nv r]) hp1)
        obtain ⟨vs, HD, hl, IL⟩ := I2.ref (ws := List.replicate 8 r) hD (none_of_same s4' hb) (Same.trans' s4' (same_new (o := .lst ((List.replicate 8 r).map nv)) hb)) upd_same (by rw [List.length_replicate]) (fun x hx => by rw [List.eq_of_mem_replicate hx]; exact lr)
        have e8 : (List.replicate (8 : Int).toNat [nv r]).flatten = (List.replicate 8 r).map nv := rfl
        rw [e8]
        refine ⟨_, _, _, rfl, rfl, HD, by rw [hl]; rw [hl0] at lim; exact lim, ?_⟩
        obtain ⟨H4, hH4⟩ : ∃ H4, H4 = L2.upd (L2.upd (L2.upd H4' p1 (.lst [nv r])) b (.lst ((List.replicate 8 r).map nv))) D (.lst (vs ++ [.ref b])) := ⟨_, rfl⟩
        obtain ⟨c4, hc4⟩ : ∃ c4, c4 = colS c2 b .no := ⟨_, rfl⟩
        rw [← hH4, ← hc4] at IL
        show (fun H5' => _) (L2.upd (L2.upd (L2.upd H4' p1 (.lst [nv r])) b (.lst ((List.replicate 8 r).map nv))) D (.lst (vs ++ [.ref b])))
        rw [← hH4]
        obtain ⟨vs3, HD⟩ : ∃ vs3, H4 D = some (.lst (vs3 ++ [V.ref b])) := by
          obtain ⟨vs, ps, ws, _, h, _⟩ := IL
          exact ⟨vs, h⟩
        refine ⟨_, rfl, _, _, rfl, rfl, _, rfl, iteB (fun _ => ⟨_, rfl, _, rfl, _, _, _, _, rfl, rfl, SqL.of HD, atI_last, rfl, _, rfl, iteT ?_⟩) (fun _ => iteF ⟨_, _, _, _, _, rfl, IL.done⟩)⟩
        refine ⟨(8 : Int), rfl, by decide, by decide, ?_⟩
        refine for_it (walk_range (lo := 0) (n := 8)) (fun j σ H5 => ∃ (lf : Int) (x6 : Option V), σ = [some (.int cc), some (nv sz), some (.ref D), some (.int lf), some (nv k), some (nv o), x6] ∧ ImgL c0 H c4 H5 D b k) ⟨_, _, rfl, IL⟩ (fun _ _ _ _ _ => trivial) ?_ ?_
        · rintro j v σ H6 H5 hj ⟨lf, x6, rfl, IL5⟩ ⟨rfl, rfl⟩
          obtain ⟨vs5, HD5⟩ : ∃ vs5, H5 D = some (.lst (vs5 ++ [V.ref b])) := by
            obtain ⟨vs, ps, ws, _, h, _⟩ := IL5
            exact ⟨vs, h⟩
          obtain ⟨x, ex, lx⟩ := emod_nat (i := lf) p48
          have ez : (0 : Int) + (j : Int) = (j : Int) := by omega
          have h48 : (2 : Int) ^ (48 : Int).toNat = 281474976710656 := by decide
          obtain ⟨ws5, hb5, h85, IL6⟩ := IL5.set hj (x := x) (by omega)
          refine ⟨_, rfl, 2, 48, rfl, rfl, pow48, _, _, rfl, rfl, p48, ?_⟩
          dsimp only
          rw [ex, ez]
          refine ⟨_, rfl, _, rfl, _, _, _, _, rfl, rfl, SqL.of HD5, atI_last, _, rfl, _, _, _, j, rfl, rfl, hb5, ixN_lt (by rw [List.length_map, h85]; exact hj), ?_⟩
          exact ⟨_, rfl, 2, 48, rfl, rfl, pow48, _, _, rfl, rfl, wide p48 lg48, _, _, rfl, IL6⟩
        · rintro σ H5 ⟨lf, x6, rfl, IL5⟩
          exact ⟨_, _, _, _, _, rfl, IL5.done⟩
      · refine ⟨_, rfl, .inl ⟨rfl, _, SqL.of HD0⟩, (8 : Int), rfl, by decide, by decide, fun b hb => ?_⟩
        refine lc_it (walk_range (lo := 0) (n := 8)) (fun j H5 => ∃ ws : List Nat, (∀ x u, H2 x = some u → H5 x = some u) ∧ H5 b = some (.lst (ws.map nv)) ∧ ws.length = j ∧ ∀ x ∈ ws, x < 2 ^ 48) ?_ (fun _ _ _ _ => trivial) ?_ ?_
        · exact ⟨[], fun x u e => by rw [upd_ne (ne_of_none e hb)]; exact e, upd_same, rfl, fun x h => nomatch h⟩
        · rintro j v H6 H5 hj ⟨ws, s5, hb5, hl5, hw5⟩ ⟨rfl, rfl⟩
          refine ⟨rfl, ?_⟩
          have ej : (0 : Int) + (j : Int) = (j : Int) := by omega
          dsimp only
          rw [ej]
          refine ⟨_, rfl, _, rfl, _, _, rfl, rfl, .inl ⟨by decide, by decide⟩, _, rfl, _, _, rfl, rfl, _, _, rfl, rfl, _, rfl, cc, 8 * k + j + 30, sz, congrArg (fun z => [V.int cc, V.int z, nv sz]) (show (8 : Int) * (k : Int) + (j : Int) + 30 = ((8 * k + j + 30 : Nat) : Int) by omega), by omega, by omega, h6, fun r H7 lr s7 => ?_⟩
          refine ⟨_, s7 _ _ hb5, by rw [List.length_map, sizeLine_eq]; omega, ws ++ [r], fun x u e => ?_, ?_, by rw [List.length_append, hl5]; rfl, fun x hx => ?_⟩
          · rw [upd_ne (ne_of_none e hb)]
            exact s7 _ _ (s5 x u e)
          · rw [upd_same, List.map_append]
            rfl
          · rcases List.mem_append.mp hx with z | z
            · exact hw5 x z
            · rw [List.mem_singleton.mp z]; exact lr
        · rintro H5 ⟨ws, s5, hb5, hl5, hw5⟩
          obtain ⟨vs, HD, hl, IL⟩ := I2.ref (ws := ws) hD hb s5 hb5 hl5 hw5
          refine ⟨_, _, _, rfl, rfl, HD, by rw [hl]; rw [hl0] at lim; exact lim, ?_⟩
          obtain ⟨H4, hH4⟩ : ∃ H4, H4 = L2.upd H5 D (.lst (vs ++ [.ref b])) := ⟨_, rfl⟩
          obtain ⟨c4, hc4⟩ : ∃ c4, c4 = colS c2 b .no := ⟨_, rfl⟩
          rw [← hH4, ← hc4] at IL
          show (fun H5' => _) (L2.upd H5 D (.lst (vs ++ [.ref b])))
          rw [← hH4]
          obtain ⟨vs3, HD⟩ : ∃ vs3, H4 D = some (.lst (vs3 ++ [V.ref b])) := by
            obtain ⟨vs, ps, ws, _, h, _⟩ := IL
            exact ⟨vs, h⟩
          refine ⟨_, rfl, _, _, rfl, rfl, _, rfl, iteB (fun _ => ⟨_, rfl, _, rfl, _, _, _, _, rfl, rfl, SqL.of HD, atI_last, rfl, _, rfl, iteT ?_⟩) (fun _ => iteF ⟨_, _, _, _, _, rfl, IL.done⟩)⟩
          refine ⟨(8 : Int), rfl, by decide, by decide, ?_⟩
          refine for_it (walk_range (lo := 0) (n := 8)) (fun j σ H5 => ∃ (lf : Int) (x6 : Option V), σ = [some (.int cc), some (nv sz), some (.ref D), some (.int lf), some (nv k), some (nv o), x6] ∧ ImgL c0 H c4 H5 D b k) ⟨_, _, rfl, IL⟩ (fun _ _ _ _ _ => trivial) ?_ ?_
          · rintro j v σ H6 H5 hj ⟨lf, x6, rfl, IL5⟩ ⟨rfl, rfl⟩
            obtain ⟨vs5, HD5⟩ : ∃ vs5, H5 D = some (.lst (vs5 ++ [V.ref b])) := by
              obtain ⟨vs, ps, ws, _, h, _⟩ := IL5
              exact ⟨vs, h⟩
            obtain ⟨x, ex, lx⟩ := emod_nat (i := lf) p48
            have ez : (0 : Int) + (j : Int) = (j : Int) := by omega
            have h48 : (2 : Int) ^ (48 : Int).toNat = 281474976710656 := by decide
            obtain ⟨ws5, hb5, h85, IL6⟩ := IL5.set hj (x := x) (by omega)
            refine ⟨_, rfl, 2, 48, rfl, rfl, pow48, _, _, rfl, rfl, p48, ?_⟩
            dsimp only
            rw [ex, ez]
            refine ⟨_, rfl, _, rfl, _, _, _, _, rfl, rfl, SqL.of HD5, atI_last, _, rfl, _, _, _, j, rfl, rfl, hb5, ixN_lt (by rw [List.length_map, h85]; exact hj), ?_⟩
            exact ⟨_, rfl, 2, 48, rfl, rfl, pow48, _, _, rfl, rfl, wide p48 lg48, _, _, rfl, IL6⟩
          · rintro σ H5 ⟨lf, x6, rfl, IL5⟩
            exact ⟨_, _, _, _, _, rfl, IL5.done⟩
  · rintro σ H2 ⟨c2, lf, x4, x5, x6, rfl, vs, ps, k0, hD2, cD2, l1, l2, ok, hv⟩
    exact ⟨_, rfl, q D c2 ps H2 k0 ⟨vs, hD2, cD2, by rw [l1, l2], fun q v o h1 h2 => (hv q v o h1 h2).1⟩ ok l2⟩
end K6
/-! The law: a deed is done, its answer. -/
namespace K6
open PySem PySem.Spec PyProof.Rows L2 HotX L2H He
variable {P : Program} {w : World} {K : PySem.W.Frag} {mg : Str → Option Value} {base : Heap}
/-- an answer -/
inductive ToldV (H : Hp) (t : Addr) : Prop where
  | word (x : Nat) (h : H t = some (.tup [.str "word", nv x]))
  | none (h : H t = some (.tup [.str "none", .non]))
  | truth (b : Bool) (h : H t = some (.tup [.str "truth", .bl b]))
  | fault (kd : Str) (p l : Nat) (h : H t = some (.tup [.str "fault", .str kd, nv p, nv l]))
def FxD (K : PySem.W.Frag) (E : Value → Option Addr → Hp → Prop) (n : Nat) (k : Bool) (S : Sy) (H : Hp) : Prop := ∀ (S' : Sy) (H' : Hp) (kd : Str) (p lv : Nat), At K (n + 2) S' H' → Good S' → Rel k S S' → KeepU S.c H S'.c H' → FaultK K E H' kd (nv p) (nv lv)
theorem FxD.fx {E : Value → Option Addr → Hp → Prop} {n : Nat} {k : Bool} {S : Sy} {H : Hp} (f : FxD K E n k S H) (p : Nat) : Fx K E n k S H p := fun S' H' kd lv A G R k' => f S' H' kd p lv (A.mono (by omega)) G R k'
def Done (K : PySem.W.Frag) (Q : VK) (n : Nat) (k : Bool) (S : Sy) (H : Hp) : Prop := ∀ t S' H', At K (n + 2) S' H' → Good S' → Rel k S S' → KeepU S.c H S'.c H' → ToldV H' t → Q (.ref t) H'
def spTold (K : PySem.W.Frag) : Sp := fun vs H Q E => ∃ (n : Nat) (S : Sy) (k : Bool) (t : Addr) (nm : Str) (a b : Nat) (kn : Bool), vs = [.ref (S.y k).w, .ref t] ∧ At K n S H ∧ Good S ∧ n ≤ 300 ∧ DeedAt H t nm a b kn ∧ FxD K E n k S H ∧ Done K Q n k S H
theorem len2' {a b : V} : ([a, b] : List V).length ≤ sizeLine := szl (by show 2 ≤ 1000; decide)
theorem ok_f_law_told (T : Tx K mg) : FnX P w K mg base 16 (fAd K ("_law_told", none)) (fdat K ("_law_told", none)) ["_law_way", "_law_deed"] (spTold K) := by
  refine fnX (fd_f_law_told T) sc_f_law_told (fun vs H Q E h => ?_) (fun cdv A0 outer s H vs Q E hrm h => ?_)
  · obtain ⟨n, S, k, t, nm, a, b, kn, rfl, _⟩ := h
    rfl
  obtain ⟨n, S, k, t, nm, a, b, kn, rfl, A, G, hn, ⟨ht, ha, hb⟩, fx, q⟩ := h
  refine ⟨_, (pss_cons (ps_set (i := 2) sc_f_law_told.nd rfl (by first | exact Or.inl rfl | exact Or.inr rfl) (pe_ix ix_tup (pv 1) pe_int (fun _ _ => rfl))) (pss_cons (ps_if (pt_cmpR op_eq (pv 2) pe_str (nomark _)) (pss_one (ps_ret (pe_tup (pa_cons pe_str (pa_cons (pe_m rfl (pv 0) (c_Pairs T) (m_Pairs_load T) (ok_Pairs_load T) (hrm.mono (by decide)) (bd_Pairs_load T) (fun σ => L2N.passAt (L2N.takes_of rfl rfl rfl rfl) σ) (pa_cons (pe_ix ix_tup (pv 1) pe_int (fun _ _ => rfl)) (pa_cons (pe_ix ix_tup (pv 1) pe_int (fun _ _ => rfl)) pa_nil))) pa_nil))))) pss_nil) (pss_cons (ps_if (pt_cmpR op_eq (pv 2) pe_str (nomark _)) (pss_one (ps_ret (pe_tup (pa_cons pe_str (pa_cons (pe_m rfl (pv 0) (c_Pairs T) (m_Pairs_save T) (ok_Pairs_save T) (hrm.mono (by decide)) (bd_Pairs_save T) (fun σ => L2N.passAt (L2N.takes_of rfl rfl rfl rfl) σ) (pa_cons (pe_ix ix_tup (pv 1) pe_int (fun _ _ => rfl)) (pa_cons (pe_ix ix_tup (pv 1) pe_int (fun _ _ => rfl)) (pa_cons (pe_ix ix_tup (pv 1) pe_int (fun _ _ => rfl)) pa_nil)))) pa_nil))))) pss_nil) (pss_cons (ps_if (pt_cmpR op_eq (pv 2) pe_str (nomark _)) (pss_one (ps_ret (pe_tup (pa_cons pe_str (pa_cons (pe_m rfl (pv 0) (c_Pairs T) (m_Pairs_peek T) (ok_Pairs_peek T) (hrm.mono (by decide)) (bd_Pairs_peek T) (fun σ => L2N.passAt (L2N.takes_of rfl rfl rfl rfl) σ) (pa_cons (pe_ix ix_tup (pv 1) pe_int (fun _ _ => rfl)) pa_nil)) pa_nil))))) pss_nil) (pss_cons (ps_if (pt_cmpR op_eq (pv 2) pe_str (nomark _)) (pss_one (ps_ret (pe_tup (pa_cons pe_str (pa_cons (pe_m rfl (pv 0) (c_Pairs T) (m_Pairs_poke T) (ok_Pairs_poke T) (hrm.mono (by decide)) (bd_Pairs_poke T) (fun σ => L2N.passAt (L2N.takes_of rfl rfl rfl rfl) σ) (pa_cons (pe_ix ix_tup (pv 1) pe_int (fun _ _ => rfl)) (pa_cons (pe_ix ix_tup (pv 1) pe_int (fun _ _ => rfl)) pa_nil))) pa_nil))))) pss_nil) (pss_cons (ps_if (pt_cmpR op_eq (pv 2) pe_str (nomark _)) (pss_one (ps_ret (pe_tup (pa_cons pe_str (pa_cons (pe_m rfl (pv 0) (c_Pairs T) (m_Pairs_turn_root T) (ok_Pairs_turn_root T) (hrm.mono (by decide)) (bd_Pairs_turn_root T) (E := E0s) (fun _ => passAt0) (pa_cons (pe_ix ix_tup (pv 1) pe_int (fun _ _ => rfl)) pa_nil)) pa_nil))))) pss_nil) (pss_cons (ps_if (pt_cmpR op_eq (pv 2) pe_str (nomark _)) (pss_one (ps_ret (pe_tup (pa_cons pe_str (pa_cons (pe_m rfl (pv 0) (c_Pairs T) (m_Pairs_drop T) (ok_Pairs_drop T) (hrm.mono (by decide)) (bd_Pairs_drop T) (E := E0s) (fun _ => passAt0) (pa_cons (pe_ix ix_tup (pv 1) pe_int (fun _ _ => rfl)) pa_nil)) pa_nil))))) pss_nil) (pss_cons (ps_if (pt_cmpR op_eq (pv 2) pe_str (nomark _)) (pss_one (ps_ret (pe_tup (pa_cons pe_str (pa_cons (pe_m rfl (pv 0) (c_Pairs T) (m_Pairs_give T) (ok_Pairs_give T) (hrm.mono (by decide)) (bd_Pairs_give T) (E := E0s) (fun _ => passAt0) (pa_cons (pe_ix ix_tup (pv 1) pe_int (fun _ _ => rfl)) pa_nil)) pa_nil))))) pss_nil) (pss_one (ps_ret (pe_tup (pa_cons pe_str (pa_cons (pe_m rfl (pv 0) (c_Pairs T) (m_Pairs_want T) (ok_Pairs_want T) (hrm.mono (by decide)) (bd_Pairs_want T) (E := E0s) (fun _ => passAt0) (pa_cons (pe_ix ix_tup (pv 1) pe_int (fun _ _ => rfl)) pa_nil)) pa_nil))))))))))))), ?_⟩
  have on := G.on k
  obtain ⟨r, W⟩ := A.wy k on
  have up : ∀ {S' : Sy} {H' : Hp} {o : List V} {t' : Addr}, At K (n + 2) S' H' → Good S' → Rel k S S' → KeepU S.c H S'.c H' → H' t' = none → ToldV (L2.upd H' t' (.tup o)) t' → Q (.ref t') (L2.upd H' t' (.tup o)) := fun A' G' R' k' h' tv =>
    q _ _ _ (A'.same (same_new h')) G' R' (k'.trans (.same (same_new h'))) tv
  have ix : ∀ {i : Nat} {v : V}, ([V.str nm, nv a, nv b, V.bl kn] : List V)[i]? = some v → atI [V.str nm, nv a, nv b, V.bl kn] (i : Int) = some v := fun h => atI_nat h
  refine ⟨_, rfl, _, _, _, _, rfl, rfl, SqT.of ht, ix (i := 0) rfl, _, rfl, rfl, _, rfl, iteB (fun _ => ?_) (fun _ => ?_)⟩
  · refine ⟨_, rfl, _, _, _, rfl, W.hw, rfl, _, rfl, _, _, _, _, rfl, rfl, SqT.of ht, ix (i := 1) rfl, _, rfl, _, _, _, _, rfl, rfl, SqT.of ht, ix (i := 3) rfl, n, S, k, a, kn, rfl, A, G, fx.fx a, fun x S' H' A' G' R' k' => ⟨len2', fun t' h' => ?_⟩⟩
    exact up (A'.mono (by omega)) G' R' k' h' (.word x upd_same)
  refine ⟨_, rfl, rfl, _, rfl, iteB (fun _ => ?_) (fun _ => ?_)⟩
  · refine ⟨_, rfl, _, _, _, rfl, W.hw, rfl, _, rfl, _, _, _, _, rfl, rfl, SqT.of ht, ix (i := 1) rfl, _, rfl, _, _, _, _, rfl, rfl, SqT.of ht, ix (i := 2) rfl, _, rfl, _, _, _, _, rfl, rfl, SqT.of ht, ix (i := 3) rfl, n, S, k, a, b, kn, rfl, A, G, hb, fx.fx a, fun S' H' A' G' R' k' => ⟨len2', fun t' h' => ?_⟩⟩
    exact up (A'.mono (by omega)) G' R' k' h' (.none upd_same)
  refine ⟨_, rfl, rfl, _, rfl, iteB (fun _ => ?_) (fun _ => ?_)⟩
  · refine ⟨_, rfl, _, _, _, rfl, W.hw, rfl, _, rfl, _, _, _, _, rfl, rfl, SqT.of ht, ix (i := 1) rfl, n, S, k, a, rfl, A, G, fx.fx a, fun x S' H' A' G' R' k' => ⟨len2', fun t' h' => ?_⟩⟩
    exact up (A'.mono (by omega)) G' R' k' h' (.word x upd_same)
  refine ⟨_, rfl, rfl, _, rfl, iteB (fun _ => ?_) (fun _ => ?_)⟩
  · refine ⟨_, rfl, _, _, _, rfl, W.hw, rfl, _, rfl, _, _, _, _, rfl, rfl, SqT.of ht, ix (i := 1) rfl, _, rfl, _, _, _, _, rfl, rfl, SqT.of ht, ix (i := 2) rfl, n, S, k, a, b, rfl, A, G, hb, fx.fx a, fun S' H' A' G' R' k' => ⟨len2', fun t' h' => ?_⟩⟩
    exact up (A'.mono (by omega)) G' R' k' h' (.none upd_same)
  refine ⟨_, rfl, rfl, _, rfl, iteB (fun _ => ?_) (fun _ => ?_)⟩
  · refine ⟨_, rfl, _, _, _, rfl, W.hw, rfl, _, rfl, _, _, _, _, rfl, rfl, SqT.of ht, ix (i := 1) rfl, n, S, k, a, rfl, A, on, fun c' H' A' k' => ⟨len2', fun t' h' => ?_⟩⟩
    exact up (A'.mono (by omega)) G.sc (Rel.refl.scr) k' h' (.none upd_same)
  refine ⟨_, rfl, rfl, _, rfl, iteB (fun _ => ?_) (fun _ => ?_)⟩
  · refine ⟨_, rfl, _, _, _, rfl, W.hw, rfl, _, rfl, _, _, _, _, rfl, rfl, SqT.of ht, ix (i := 1) rfl, n, S, k, a, rfl, A, on, fun H' A' k' => ⟨len2', fun t' h' => ?_⟩⟩
    exact up (A'.mono (by omega)) G .refl k' h' (.none upd_same)
  refine ⟨_, rfl, rfl, _, rfl, iteB (fun _ => ?_) (fun _ => ?_)⟩
  · refine ⟨_, rfl, _, _, _, rfl, W.hw, rfl, _, rfl, _, _, _, _, rfl, rfl, SqT.of ht, ix (i := 1) rfl, n, S, k, a, rfl, A, G, by omega, fun bb S' H' A' G' R' k' => ⟨len2', fun t' h' => ?_⟩⟩
    exact up A' G' R' k' h' (.truth bb upd_same)
  · refine ⟨_, rfl, _, _, _, rfl, W.hw, rfl, _, rfl, _, _, _, _, rfl, rfl, SqT.of ht, ix (i := 1) rfl, n, S, k, a, rfl, A, G, by omega, fun bb S' H' A' G' R' k' => ⟨len2', fun t' h' => ?_⟩⟩
    exact up A' G' R' k' h' (.truth bb upd_same)
def spAnswer (K : PySem.W.Frag) : Sp := fun vs H Q _ => ∃ (n : Nat) (S : Sy) (k : Bool) (t : Addr) (nm : Str) (a b : Nat) (kn : Bool), vs = [.ref (S.y k).w, .ref t] ∧ At K n S H ∧ Good S ∧ n ≤ 300 ∧ DeedAt H t nm a b kn ∧ Done K Q n k S H
theorem ok_f_law_answer (T : Tx K mg) : FnC P w K mg base 17 (fAd K ("_law_answer", none)) (fdat K ("_law_answer", none)) ["_law_way", "_law_deed"] (spAnswer K) := by
  refine fnC (fd_f_law_answer T) sc_f_law_answer (fun vs H Q E h => ?_) (fun cdv A0 outer s H vs Q E hrm h => ?_)
  · obtain ⟨n, S, k, t, nm, a, b, kn, rfl, _⟩ := h
    rfl
  obtain ⟨n, S, k, t, nm, a, b, kn, rfl, A, G, hn, hd, q⟩ := h
  refine ⟨_, (pss_cons (ps_set (i := 2) sc_f_law_answer.nd rfl (by first | exact Or.inl rfl | exact Or.inr rfl) pe_non) (pss_cons (L2N.ps_try_as (i := 3) rfl rfl sc_f_law_answer.nd rfl rfl ⟨rfl, by decide, .inl (g_Fault T)⟩ takesN0 (fun W pn xe tk po => (pss_one (ps_set (i := 2) sc_f_law_answer.nd rfl (by first | exact Or.inl rfl | exact Or.inr rfl) (pe_f rfl (ok_f_law_told T) (hrm.mono (by decide)) (by rfl) (g_law_told T) (fd_f_law_told T).kp (bd_f_law_told T) (fun σ => L2N.passAt tk σ) (pa_cons (pv 0) (pa_cons (pv 1) pa_nil)))))) (fun a oe cls d pn hz hf => (pss_one (ps_set (i := 2) sc_f_law_answer.nd rfl (by first | exact Or.inl rfl | exact Or.inr rfl) (pe_tup (pa_cons pe_str (pa_cons (pe_xf (x_xf T) (n_Fault_kind T) hz.zc hf (pv 3)) (pa_cons (pe_xf (x_xf T) (n_Fault_place T) hz.zc hf (pv 3)) (pa_cons (pe_xf (x_xf T) (n_Fault_level T) hz.zc hf (pv 3)) pa_nil))))))))) (pss_one (ps_ret (pv 2))))), ?_⟩
  refine ⟨_, rfl, _, rfl, n, S, k, t, nm, a, b, kn, rfl, A, G, hn, hd, fun S' H' kd p lv A' G' R' k' d hd' => ?_, fun t' S' H' A' G' R' k' tv => ?_⟩
  · refine ⟨true, x_Fault T, fun _ e he => ?_, fun z => nomatch z⟩
    have A1 : At K (n + 2) (S'.sc (colS S'.c d .no)) (L2.upd H' d (.xd (fltF kd (nv p) (nv lv)))) := A'.newC hd'
    refine ⟨_, rfl, rfl, rfl, d, _, _, rfl, upd_same, rfl, _, rfl, rfl, rfl, d, _, _, rfl, upd_same, rfl, _, rfl, rfl, rfl, d, _, _, rfl, upd_same, rfl, len4, fun t' ht' => ?_⟩
    refine ⟨_, rfl, q t' (S'.sc (colS S'.c d .no)) _ (A1.same (same_new ht')) G'.sc R'.scr ((k'.trans (newU hd')).trans (.same (same_new ht'))) (.fault kd p lv upd_same)⟩
  · exact ⟨_, rfl, q t' S' H' A' G' R' k' tv⟩
def spGood : Sp := fun vs H Q _ => ∃ t : Addr, vs = [.ref t] ∧ ToldV H t ∧ Q (.bl true) H
theorem ok_f_law_good (T : Tx K mg) : FnC P w K mg base 2 (fAd K ("_law_good", none)) (fdat K ("_law_good", none)) ["_law_told_here"] spGood := by
  refine fnC (fd_f_law_good T) sc_f_law_good (fun vs H Q E h => ?_) (fun cdv A0 outer s H vs Q E hrm h => ?_)
  · obtain ⟨t, rfl, _⟩ := h
    rfl
  obtain ⟨t, rfl, tv, q⟩ := h
  refine ⟨_, (pss_cons (ps_if (pt_cmpR op_eq (pe_ix ix_tup (pv 0) pe_int (fun _ _ => rfl)) pe_str (nomark _)) (pss_one (ps_ret (pe_f rfl (ok_f_law_whole T) (hrm.mono (by decide)) (by rfl) (g_law_whole T) (fd_f_law_whole T).kp (bd_f_law_whole T) (E := E0s) (fun _ => passAt0) (pa_cons (pe_ix ix_tup (pv 0) pe_int (fun _ _ => rfl)) pa_nil)))) pss_nil) (pss_cons (ps_if (pt_cmpR op_eq (pe_ix ix_tup (pv 0) pe_int (fun _ _ => rfl)) pe_str (nomark _)) (pss_one (ps_ret (pe_callB call_isi (by rfl) (b_isinstance T) q_isinstance (pa_cons (pe_ix ix_tup (pv 0) pe_int (fun _ _ => rfl)) (pa_cons (pe_bltn (v := .ty "bool") (by rfl) (b_bool T) q_bool rfl) pa_nil))))) pss_nil) (pss_cons (ps_if (pt_cmpR op_eq (pe_ix ix_tup (pv 0) pe_int (fun _ _ => rfl)) pe_str (nomark _)) (pss_one (ps_ret (pe_and (pe_callB call_isi (by rfl) (b_isinstance T) q_isinstance (pa_cons (pe_ix ix_tup (pv 0) pe_int (fun _ _ => rfl)) (pa_cons (pe_bltn (v := .ty "str") (by rfl) (b_str T) q_str rfl) pa_nil))) (pe_and (pe_f rfl (ok_f_law_whole T) (hrm.mono (by decide)) (by rfl) (g_law_whole T) (fd_f_law_whole T).kp (bd_f_law_whole T) (E := E0s) (fun _ => passAt0) (pa_cons (pe_ix ix_tup (pv 0) pe_int (fun _ _ => rfl)) pa_nil)) (pe_one (pe_f rfl (ok_f_law_whole T) (hrm.mono (by decide)) (by rfl) (g_law_whole T) (fd_f_law_whole T).kp (bd_f_law_whole T) (E := E0s) (fun _ => passAt0) (pa_cons (pe_ix ix_tup (pv 0) pe_int (fun _ _ => rfl)) pa_nil))))))) pss_nil) (pss_one (ps_ret (pe_cmpR op_isN (pe_ix ix_tup (pv 0) pe_int (fun _ _ => rfl)) pe_non (nomark _))))))), ?_⟩
  cases tv with
  | word x h =>
    refine ⟨_, rfl, _, _, _, _, rfl, rfl, SqT.of h, atI_nat (j := 0) rfl, rfl, _, rfl, iteT ?_⟩
    exact ⟨_, rfl, _, _, _, _, rfl, rfl, SqT.of h, atI_nat (j := 1) rfl, _, rfl, q⟩
  | truth b h =>
    refine ⟨_, rfl, _, _, _, _, rfl, rfl, SqT.of h, atI_nat (j := 0) rfl, rfl, _, rfl, iteF ?_⟩
    refine ⟨_, rfl, _, _, _, _, rfl, rfl, SqT.of h, atI_nat (j := 0) rfl, rfl, _, rfl, iteT ?_⟩
    exact ⟨_, rfl, _, _, _, _, rfl, rfl, SqT.of h, atI_nat (j := 1) rfl, _, _, _, _, true, rfl, .ty _, .base (.bl b), kit_bb, q⟩
  | fault kd p l h =>
    refine ⟨_, rfl, _, _, _, _, rfl, rfl, SqT.of h, atI_nat (j := 0) rfl, rfl, _, rfl, iteF ?_⟩
    refine ⟨_, rfl, _, _, _, _, rfl, rfl, SqT.of h, atI_nat (j := 0) rfl, rfl, _, rfl, iteF ?_⟩
    refine ⟨_, rfl, _, _, _, _, rfl, rfl, SqT.of h, atI_nat (j := 0) rfl, rfl, _, rfl, iteT ?_⟩
    refine ⟨_, rfl, _, _, _, _, rfl, rfl, SqT.of h, atI_nat (j := 1) rfl, _, _, _, _, true, rfl, .ty _, .base (.str kd), kit_ss, true, rfl, iteT ?_⟩
    refine ⟨_, rfl, _, _, _, _, rfl, rfl, SqT.of h, atI_nat (j := 2) rfl, _, rfl, true, rfl, iteT ?_⟩
    exact ⟨_, rfl, _, _, _, _, rfl, rfl, SqT.of h, atI_nat (j := 3) rfl, _, rfl, q⟩
  | none h =>
    refine ⟨_, rfl, _, _, _, _, rfl, rfl, SqT.of h, atI_nat (j := 0) rfl, rfl, _, rfl, iteF ?_⟩
    refine ⟨_, rfl, _, _, _, _, rfl, rfl, SqT.of h, atI_nat (j := 0) rfl, rfl, _, rfl, iteF ?_⟩
    refine ⟨_, rfl, _, _, _, _, rfl, rfl, SqT.of h, atI_nat (j := 0) rfl, rfl, _, rfl, iteF ?_⟩
    exact ⟨_, rfl, _, _, _, _, rfl, rfl, SqT.of h, atI_nat (j := 1) rfl, rfl, q⟩
/-- which page the frames themselves lead to -/
def spLed (K : PySem.W.Frag) : Sp := fun vs H Q _ => ∃ (n : Nat) (S : Sy) (k : Bool) (p : Nat), vs = [.ref S.F.g, .ref (S.y k).w, nv p] ∧ At K n S H ∧ Good S ∧ p < (S.y k).lead.length ∧ ∀ H', Same H H' → Q (ov ((S.y k).f p)) H'
theorem ok_f_law_led (T : Tx K mg) : FnC P w K mg base 7 (fAd K ("_law_led", none)) (fdat K ("_law_led", none)) ["_law_frames", "_law_pairs", "_law_page"] (spLed K) := by
  refine fnC (fd_f_law_led T) sc_f_law_led (fun vs H Q E h => ?_) (fun cdv A0 outer s H vs Q E hrm h => ?_)
  · obtain ⟨n, S, k, p, rfl, _⟩ := h
    rfl
  obtain ⟨n, S, k, p, rfl, A, G, lt, q⟩ := h
  refine ⟨_, (pss_cons (try_only rfl rfl (.cons ⟨rfl, by decide, .inl (g_Fault T)⟩ (fun a oe cls d pn hz hf => (pss_one (ps_set (i := 3) sc_f_law_led.nd rfl (by first | exact Or.inl rfl | exact Or.inr rfl) pe_non))) .nil) (fun W pn xe tk po => (pss_one (ps_set (i := 3) sc_f_law_led.nd rfl (by first | exact Or.inl rfl | exact Or.inr rfl) (pe_f rfl (okx_look_F T) (hrm.mono (by decide)) (by rfl) (g_look T) (fd_f_look T).kp (bd_f_look T) (fun σ => L2N.passAt tk σ) (pa_cons (pv 0) (pa_cons (pe_ix (ix_list : IxR _ (rIxL K)) (pe_m0 rfl (pv 1) (c_Pairs T) (m_Pairs_tables T) (ok_Pairs_tables T) (hrm.mono (by decide)) (bd_Pairs_tables T) (E := E0s) (fun _ => passAt0)) pe_int (fun _ _ => rfl)) (pa_cons (pe_op op_add (pe_op op_mul pe_int (pv 2)) pe_int) (pa_cons pe_bl (pa_cons pe_bl pa_nil)))))))))) (pss_cons (ps_if (pt_cmpR op_isN (pv 3) pe_non (nomark _)) (pss_one (ps_ret pe_non)) pss_nil) (pss_one (ps_ret (pe_ix ix_tup (pv 3) pe_int (fun _ _ => rfl)))))), ?_⟩
  have o := G.on k
  obtain ⟨rr, W⟩ := A.wy k o
  have p8 := A.p8 o lt
  obtain ⟨e1, e2, e3⟩ := place1 (cell := 5) p8 (by decide)
  obtain ⟨x, hx, hx1, hx2⟩ := G.top k
  obtain ⟨r, hr, ok⟩ := G.row k p lt
  have ok := ok (fun z => nomatch z)
  refine ⟨_, rfl, _, rfl, _, _, _, rfl, W.hw, rfl, n, S, k, rfl, A, o, fun D hD => ?_⟩
  have A1 := A.same (same_new (o := .lst [nv (S.y k).t, nv (S.y k).l]) hD)
  refine ⟨_, _, _, _, rfl, rfl, SqL.of upd_same, atI_nat (j := 0) rfl, ?_⟩
  refine ⟨_, rfl, (8 : Int), (p : Int), rfl, rfl, .inl ⟨by decide, by decide⟩, _, _, rfl, rfl, ?_⟩
  dsimp only
  have e5 : (8 : Int) * (p : Int) + 5 = ((8 * p + 5 : Nat) : Int) := by omega
  rw [e5]
  refine ⟨S.F, S.c, (S.y k).t, 8 * p + 5, x, false, rfl, A1.fr, e3, G.tkn_t k, by rw [e1]; exact hx, ⟨by omega, by rw [hx2]; exact G.tkn_l k, fun _ => rfl, fun z => nomatch z⟩, r, by rw [hx2, e2]; exact hr, fun okr v1 z c1 H1 kp1 tr1 => ?_, fun nok H1 s1 kd d hd => ?_⟩
  · have s2 : Same H H1 := Same.trans' (same_new hD) (fun b u e => (kp1 b u e (fun z => z)).1)
    obtain ⟨ta, a, b, rfl, h1, _⟩ := tr1
    refine ⟨_, rfl, rfl, _, rfl, iteF ⟨_, rfl, _, _, _, _, rfl, rfl, SqT.of h1, rfl, ?_⟩⟩
    cases hf : (S.y k).f p with
    | none =>
      rw [hf] at ok
      have := okr.1
      rcases ok with z | z <;> omega
    | some f =>
      rw [hf] at ok
      have := q H1 s2
      rw [hf] at this
      rw [ok.2.1]
      exact this
  · refine ⟨true, x_Fault T, fun _ a ha => ?_, fun z => nomatch z⟩
    have s2 : Same H (L2.upd H1 d (.xd (fltF kd (nv (8 * p + 5)) (nv 2)))) := Same.trans' (same_new hD) (Same.trans' s1 (same_new hd))
    refine ⟨_, rfl, rfl, _, rfl, iteT ?_⟩
    cases hf : (S.y k).f p with
    | none =>
      have := q _ s2
      rw [hf] at this
      exact this
    | some f =>
      rw [hf] at ok
      exact absurd ⟨ok.1, by rw [ok.2.1]; exact G.tkn hf, fun _ => rfl, fun z => nomatch z⟩ nok
end K6
/-! The law: rows are right; pages stay. -/
namespace K6
open PySem PySem.Spec PyProof.Rows L2 HotX L2H He
variable {P : Program} {w : World} {K : PySem.W.Frag} {mg : Str → Option Value} {base : Heap}
/-! ### data -/
def iD (n : Nat) : PyData := .int (n : Int)
def pgD : Option (List Nat) → PyData
  | none => .none
  | some ws => .list (ws.map iD)
theorem eqv_iD {a b : Nat} : PyData.eqv (iD a) (iD b) = decide (a = b) := by
  show PyData.eqv (.int a) (.int b) = _
  have h : PyData.eqv (.int (a : Int)) (.int (b : Int)) = decide ((a : Int) = (b : Int)) := by simp [PyData.eqv, BEq.beq]
  rw [h]
  exact decide_eq_decide.mpr (by omega)
theorem eqv_ints : ∀ {a b : List Nat}, PyData.eqvAll (a.map iD) (b.map iD) = decide (a = b)
  | [], [] => by simp [PyData.eqvAll]
  | [], _ :: _ => by simp [PyData.eqvAll]
  | _ :: _, [] => by simp [PyData.eqvAll]
  | x :: a, y :: b => by
    rw [List.map_cons, List.map_cons]
    rw [PyData.eqvAll, eqv_iD, eqv_ints (a := a) (b := b)]
    by_cases h1 : x = y <;> by_cases h2 : a = b <;> simp [h1, h2]
theorem eqv_pgD {a b : Option (List Nat)} : PyData.eqv (pgD a) (pgD b) = decide (a = b) := by
  cases a with
  | none =>
    cases b with
    | none => simp [pgD, PyData.eqv]
    | some y => simp [pgD, PyData.eqv]
  | some x =>
    cases b with
    | none => simp [pgD, PyData.eqv]
    | some y =>
      show PyData.eqv (.list (x.map iD)) (.list (y.map iD)) = _
      rw [PyData.eqv, eqv_ints]
      exact decide_eq_decide.mpr ⟨fun z => by rw [z], fun z => Option.some.inj z⟩
theorem eqv_pgs : ∀ {a b : List (Option (List Nat))}, PyData.eqvAll (a.map pgD) (b.map pgD) = decide (a = b)
  | [], [] => by simp [PyData.eqvAll]
  | [], _ :: _ => by simp [PyData.eqvAll]
  | _ :: _, [] => by simp [PyData.eqvAll]
  | x :: a, y :: b => by
    rw [List.map_cons, List.map_cons]
    rw [PyData.eqvAll, eqv_pgD, eqv_pgs (a := a) (b := b)]
    by_cases h1 : x = y <;> by_cases h2 : a = b <;> simp [h1, h2]
theorem lay_ints : ∀ {l : List Nat}, PyData.canLayAll0 (l.map iD) = true
  | [] => rfl
  | x :: l => by
    have := lay_ints (l := l)
    rw [List.map_cons, PyData.canLayAll0, this]
    rfl
theorem dep_ints : ∀ {l : List Nat}, PyData.depthAll (l.map iD) = 0
  | [] => rfl
  | x :: l => by
    have := dep_ints (l := l)
    rw [List.map_cons, PyData.depthAll, this]
    rfl
theorem sh_ints {l : List Nat} : SeqAt.shaped (.list (l.map iD)) = true := by
  unfold SeqAt.shaped
  rw [PyData.canLay0, lay_ints, PyData.depth, dep_ints]
  rfl
theorem lay_pgD {o : Option (List Nat)} : PyData.canLay0 (pgD o) = true := by
  cases o with
  | none => rfl
  | some ws =>
    show PyData.canLay0 (.list (ws.map iD)) = true
    rw [PyData.canLay0, lay_ints]
theorem dep_pgD {o : Option (List Nat)} : PyData.depth (pgD o) ≤ 1 := by
  cases o with
  | none => exact Nat.zero_le _
  | some ws =>
    show PyData.depth (.list (ws.map iD)) ≤ 1
    rw [PyData.depth, dep_ints]
    exact Nat.le_refl _
theorem sh_pgD {o : Option (List Nat)} : SeqAt.shaped (pgD o) = true := by
  unfold SeqAt.shaped
  rw [lay_pgD, decide_eq_true (Nat.le_trans dep_pgD (by decide))]
  rfl
theorem lay_pgs : ∀ {l : List (Option (List Nat))}, PyData.canLayAll0 (l.map pgD) = true
  | [] => rfl
  | x :: l => by
    have := lay_pgs (l := l)
    rw [List.map_cons, PyData.canLayAll0, this, lay_pgD]
    rfl
theorem dep_pgs : ∀ {l : List (Option (List Nat))}, PyData.depthAll (l.map pgD) ≤ 1
  | [] => Nat.zero_le _
  | x :: l => by
    have := dep_pgs (l := l)
    rw [List.map_cons, PyData.depthAll]
    exact Nat.max_le.mpr ⟨dep_pgD, this⟩
theorem sh_pgs {l : List (Option (List Nat))} : SeqAt.shaped (.list (l.map pgD)) = true := by
  unfold SeqAt.shaped
  have := dep_pgs (l := l)
  rw [PyData.canLay0, lay_pgs, PyData.depth, decide_eq_true (by omega)]
  rfl
theorem dp_ints {H : Hp} : ∀ {l : List Nat}, DpAll K H (l.map nv) (l.map iD)
  | [] => .nil
  | x :: l => .cons (.int _) dp_ints
theorem PV.dp {c : Col} {H : Hp} {v : V} {o : Option (List Nat)} (p : PV c H v o) : Dp K H v (pgD o) := by
  cases o with
  | none =>
    obtain rfl : v = .non := p
    exact .non
  | some ws =>
    obtain ⟨a, rfl, h, _⟩ := p
    exact .lst (SqL.of h) dp_ints
theorem dp_all {c : Col} {H : Hp} : ∀ {vs : List V} {ps : List (Option (List Nat))}, vs.length = ps.length → (∀ (q : Nat) (v : V) (o : Option (List Nat)), vs[q]? = some v → ps[q]? = some o → PV c H v o) → DpAll K H vs (ps.map pgD)
  | [], [], _, _ => .nil
  | v :: vs, o :: ps, hl, h => .cons (h 0 v o rfl rfl).dp (dp_all (Nat.succ.inj hl) fun q v o a b => h (q + 1) v o a b)
theorem PgsAt.dp {c : Col} {H : Hp} {D : Addr} {ps : List (Option (List Nat))} (p : PgsAt c H D ps) : Dp K H (.ref D) (.list (ps.map pgD)) := by
  obtain ⟨vs, h, _, hl, hv⟩ := p
  exact .lst (SqL.of h) (dp_all hl hv)
/-! ### pages stay -/
theorem neE {x y : V} {A B : Prop} (e : x = y) (h : B) : if (!decide (x = y)) = true then A else B := by
  rw [decide_eq_true e]
  exact iteF h
theorem inV_nv {i : Nat} {l : List Nat} : inV (nv i) (l.map nv) = decide (i ∈ l) := by
  unfold inV
  apply Bool.eq_iff_iff.mpr
  rw [List.any_eq_true, decide_eq_true_iff]
  refine ⟨fun ⟨y, h1, h2⟩ => ?_, fun h => ⟨nv i, List.mem_map.mpr ⟨i, h, rfl⟩, decide_eq_true rfl⟩⟩
  obtain ⟨n, hn, rfl⟩ := List.mem_map.mp h1
  have h3 : decide ((n : Int) = (i : Int)) = true := h2
  have := of_decide_eq_true h3
  have e : n = i := by omega
  rw [← e]
  exact hn
theorem mem_soil {S : Sy} {k : Bool} {i : Nat} (h : i < (S.y k).lead.length) : i ∈ soilL S k ↔ row S k i / 16 % 2 = 1 := by
  unfold soilL
  rw [List.mem_filter, List.mem_range, decide_eq_true_iff]
  exact ⟨fun z => z.2, fun z => ⟨h, z⟩⟩
theorem soil_row {S : Sy} {k : Bool} {i : Nat} (h : Soil S k i) : row S k i / 16 % 2 = 1 := by
  obtain ⟨r, h1, h2⟩ := h
  rw [row_at' h1]
  exact h2
def spStays (K : PySem.W.Frag) : Sp := fun vs H Q _ => ∃ (n : Nat) (S : Sy) (k : Bool) (ah : Addr) (nm : Str) (ps : List (Option (List Nat))), vs = [.ref (S.y k).w, .ref ah, .str nm] ∧ At K n S H ∧ Good S ∧ PgsAt S.c H ah ps ∧ ps.length = (S.y k).lead.length ∧
  (∀ q, q < (S.y k).lead.length → some (page S k q) ≠ ps[q]? → nm ≠ "keep" ∧ Soil S k q) ∧ ∀ c' H', At K n (S.sc c') H' → Keep0 S.c H c' H' → Q (.bl true) H'
theorem ok_f_law_stays (T : Tx K mg) : FnC P w K mg base 9 (fAd K ("_law_stays", none)) (fdat K ("_law_stays", none)) ["_law_way", "_law_ahead", "_law_name"] (spStays K) := by
  refine fnC (fd_f_law_stays T) sc_f_law_stays (fun vs H Q E h => ?_) (fun cdv A0 outer s H vs Q E hrm h => ?_)
  · obtain ⟨n, S, k, ah, nm, ps, rfl, _⟩ := h
    rfl
  obtain ⟨n, S, k, ah, nm, ps, rfl, A, G, hp, hl, hc, q⟩ := h
  refine ⟨_, (pss_cons (ps_set (i := 3) sc_f_law_stays.nd rfl (by first | exact Or.inl rfl | exact Or.inr rfl) (pe_m0 rfl (pv 0) (c_Pairs T) (m_Pairs_pages T) (ok_Pairs_pages T) (hrm.mono (by decide)) (bd_Pairs_pages T) (E := E0s) (fun _ => passAt0))) (pss_cons (ps_set (i := 4) sc_f_law_stays.nd rfl (by first | exact Or.inl rfl | exact Or.inr rfl) (pe_m0 rfl (pv 0) (c_Pairs T) (m_Pairs_soiled T) (ok_Pairs_soiled T) (hrm.mono (by decide)) (bd_Pairs_soiled T) (E := E0s) (fun _ => passAt0))) (pss_cons (ps_for (passes_of rfl) rfl (pi_range1 (by rfl) (b_range T) (pa_cons (pe_callB call_len_seq (by rfl) (b_len T) q_len (pa_cons (pv 3) pa_nil)) pa_nil)) (pg_name (i := 5) sc_f_law_stays.nd rfl (by first | exact Or.inl rfl | exact Or.inr rfl)) (pss_one (ps_if (PW.pt (pw_and (pt_cmpR (op_neD (huD hrm)) (pe_ix ix_list (pv 3) (pv 5) (fun _ _ => rfl)) (pe_ix ix_list (pv 1) (pv 5) (fun _ _ => rfl)) (nomark _)) (pw_and1 (PW.pt (pw_or (pt_cmpR op_eq (pv 2) pe_str (nomark _)) (pw_or1 (pt_cmpR op_notIn_seq (pv 5) (pv 4) (by rfl)))))))) (pss_one (ps_ret pe_bl)) pss_nil))) (pss_one (ps_ret pe_bl))))), ?_⟩
  have o := G.on k
  obtain ⟨rr, W⟩ := A.wy k o
  have h6 := W.hi
  refine ⟨_, rfl, _, _, _, rfl, W.hw, rfl, n, S, k, rfl, A, G, fun D1 c1 H1 hD1 k1 p1 => ?_⟩
  have A1 : At K n (S.sc c1) H1 := A.keep k1 (fun _ _ z => z) fun _ _ _ z => z
  obtain ⟨r1, W1⟩ := A1.wy k o
  refine ⟨_, rfl, _, _, _, rfl, W1.hw, rfl, n, S.sc c1, k, rfl, A1, G.sc, fun D2 hD2 => ?_⟩
  obtain ⟨c2, hc2⟩ : ∃ c2, c2 = colS c1 D2 .no := ⟨_, rfl⟩
  obtain ⟨H2, hH2⟩ : ∃ H2, H2 = L2.upd H1 D2 (.lst ((soilL (S.sc c1) k).map nv)) := ⟨_, rfl⟩
  have k12 : Keep0 c1 H1 c2 H2 := by rw [hc2, hH2]; exact .newC hD2
  have k2 : Keep0 S.c H c2 H2 := k1.trans k12
  have A2 : At K n (S.sc c2) H2 := A.keep k2 (fun _ _ z => z) fun _ _ _ z => z
  have hs2 : H2 D2 = some (.lst ((soilL S k).map nv)) := by rw [hH2]; exact upd_same
  have p2 := p1.keep k12 (fun z => z)
  have hp2 := hp.keep k2 (fun z => z)
  obtain ⟨us, e1, e2, e3, e4⟩ := p2
  obtain ⟨vs', f1, f2, f3, f4⟩ := hp2
  rw [pgs_len] at e3
  show (fun H5' => _) (L2.upd H1 D2 (.lst ((soilL (S.sc c1) k).map nv)))
  rw [← hH2]
  refine ⟨_, rfl, _, _, rfl, .inl (SqL.of e1), (us.length : Int), rfl, by omega, by omega, ?_⟩
  have en : ((us.length : Nat) : Int).toNat = us.length := Int.toNat_natCast _
  rw [en]
  refine for_it (walk_range (lo := 0) (n := us.length)) (fun i σ H3 => ∃ x5 : Option V, σ = [some (.ref (S.y k).w), some (.ref ah), some (.str nm), some (.ref D1), some (.ref D2), x5] ∧ H3 = H2) ⟨none, rfl, rfl⟩ (fun _ _ _ _ _ => trivial) ?_ ?_
  · rintro i v σ H4 H3 hi ⟨x5, rfl, rfl⟩ ⟨rfl, rfl⟩
    have ez : (0 : Int) + (i : Int) = (i : Int) := by omega
    dsimp only
    rw [ez]
    have li : i < (S.y k).lead.length := by omega
    have g1 : us[i]? = some (us[i]'hi) := List.getElem?_eq_getElem hi
    have g2 : vs'[i]? = some (vs'[i]'(by omega)) := List.getElem?_eq_getElem (by omega)
    have g3 : ps[i]? = some (ps[i]'(by omega)) := List.getElem?_eq_getElem (by omega)
    have d1 := e4 i _ _ g1 (pgs_at li)
    have d2 := f4 i _ _ g2 g3
    refine ⟨_, rfl, _, rfl, _, _, _, _, rfl, rfl, SqL.of e1, atI_nat g1, _, rfl, _, rfl, _, _, _, _, rfl, rfl, SqL.of f1, atI_nat g2, _, _, d1.dp, d2.dp, sh_pgD, sh_pgD, _, rfl, ?_⟩
    rw [eqv_pgD]
    by_cases hq : page S k i = ps[i]'(by omega)
    · rw [decide_eq_true hq]
      exact iteF (iteF ⟨_, rfl, rfl⟩)
    · rw [decide_eq_false hq]
      obtain ⟨z1, z2⟩ := hc i li (by rw [g3]; exact fun z => hq (Option.some.inj z))
      refine iteT ⟨_, rfl, rfl, _, rfl, ?_⟩
      have en : decide (V.str nm = V.str "keep") = false := decide_eq_false fun z => z1 (by injection z)
      refine Eq.mpr (if_neg (by intro z; have z2 : decide (V.str nm = V.str "keep") = true := z; rw [en] at z2; cases z2)) ?_
      refine ⟨_, rfl, _, rfl, _, _, rfl, .inl (SqL.of hs2), rfl, flat_nv _, _, rfl, ?_⟩
      have ei : inV (nv i) ((soilL S k).map nv) = true := by rw [inV_nv]; exact decide_eq_true ((mem_soil li).mpr (soil_row z2))
      rw [ei]
      exact iteF ⟨_, rfl, rfl⟩
  · rintro σ H3 ⟨x5, rfl, rfl⟩
    exact q c2 H3 A2 k2
end K6
/-! The law: the rows of a way are right. -/
namespace K6
open PySem PySem.Spec PyProof.Rows L2 HotX L2H He
variable {P : Program} {w : World} {K : PySem.W.Frag} {mg : Str → Option Value} {base : Heap}
theorem soil_sorted {S : Sy} {k : Bool} : (soilL S k).Pairwise (· < ·) := List.Pairwise.filter _ List.pairwise_lt_range
theorem soil_len {S : Sy} {k : Bool} : (soilL S k).length ≤ (S.y k).lead.length := by
  unfold soilL
  have := List.length_filter_le (fun q => decide (row S k q / 16 % 2 = 1)) (List.range (S.y k).lead.length)
  rw [List.length_range] at this
  exact this
theorem sorted_same {l : List Nat} {ns : List Int} (h : l.Pairwise (· < ·)) (p : ns.Perm (l.map Int.ofNat)) (s : ns.Pairwise (· ≤ ·)) : ns = l.map Int.ofNat := by
  refine List.Perm.eq_of_pairwise (le := fun a b : Int => a ≤ b) (fun a b _ _ h1 h2 => Int.le_antisymm h1 h2) s ?_ p
  rw [List.pairwise_map]
  exact h.imp fun {a b} z => by
    show (a : Int) ≤ (b : Int)
    omega
theorem map_ofNat {l : List Nat} : (l.map Int.ofNat).map V.int = l.map nv := by rw [List.map_map]; rfl
def spRight (K : PySem.W.Frag) : Sp := fun vs H Q _ => ∃ (n : Nat) (S : Sy) (k : Bool), vs = [.ref S.F.g, .ref (S.y k).w] ∧ At K n S H ∧ Good S ∧ ∀ H', Same H H' → Q (.bl true) H'
theorem row_cases {S : Sy} {k : Bool} {n i : Nat} {H : Hp} (A : At K n S H) (G : Good S) (h : i < (S.y k).lead.length) : ∃ r, (S.F.wd (S.y k).l)[i]? = some r ∧ row S k i = r ∧ RowOk S.F ((S.y k).f i) r := by
  obtain ⟨r, h1, h2⟩ := G.row k i h
  exact ⟨r, h1, row_at' h1, h2 fun z => nomatch z⟩
theorem ok_f_law_right (T : Tx K mg) : FnC P w K mg base 8 (fAd K ("_law_right", none)) (fdat K ("_law_right", none)) ["_law_frames", "_law_pairs"] (spRight K) := by
  refine fnC (fd_f_law_right T) sc_f_law_right (fun vs H Q E h => ?_) (fun cdv A0 outer s H vs Q E hrm h => ?_)
  · obtain ⟨n, S, k, rfl, _⟩ := h
    rfl
  obtain ⟨n, S, k, rfl, A, G, q⟩ := h
  refine ⟨_, (pss_cons (ps_set (i := 2) sc_f_law_right.nd rfl (by first | exact Or.inl rfl | exact Or.inr rfl) (pe_m0 rfl (pv 1) (c_Pairs T) (m_Pairs_rows T) (ok_Pairs_rows T) (hrm.mono (by decide)) (bd_Pairs_rows T) (E := E0s) (fun _ => passAt0))) (pss_cons (ps_set (i := 3) sc_f_law_right.nd rfl (by first | exact Or.inl rfl | exact Or.inr rfl) (pe_m0 rfl (pv 1) (c_Pairs T) (m_Pairs_soiled T) (ok_Pairs_soiled T) (hrm.mono (by decide)) (bd_Pairs_soiled T) (E := E0s) (fun _ => passAt0))) (pss_cons (ps_if (PW.pt (pw_or (pt_not (pt_val (pe_callB call_isi (by rfl) (b_isinstance T) q_isinstance (pa_cons (pv 2) (pa_cons (pe_bltn (v := .ty "list") (by rfl) (b_list T) q_list rfl) pa_nil))))) (pw_or (pt_not (pt_val (pe_callB call_isi (by rfl) (b_isinstance T) q_isinstance (pa_cons (pv 3) (pa_cons (pe_bltn (v := .ty "list") (by rfl) (b_list T) q_list rfl) pa_nil))))) (pw_or1 (pt_cmpR op_ne (pe_callB call_len_seq (by rfl) (b_len T) q_len (pa_cons (pv 2) pa_nil)) (pe_m0 rfl (pv 1) (c_Pairs T) (m_Pairs_size T) (ok_Pairs_size T) (hrm.mono (by decide)) (bd_Pairs_size T) (E := E0s) (fun _ => passAt0)) (nomark _)))))) (pss_one (ps_ret pe_bl)) pss_nil) (pss_cons (ps_for (passes_of rfl) rfl (pi_range1 (by rfl) (b_range T) (pa_cons (pe_callB call_len_seq (by rfl) (b_len T) q_len (pa_cons (pv 2) pa_nil)) pa_nil)) (pg_name (i := 4) sc_f_law_right.nd rfl (by first | exact Or.inl rfl | exact Or.inr rfl)) (pss_cons (ps_set (i := 5) sc_f_law_right.nd rfl (by first | exact Or.inl rfl | exact Or.inr rfl) (pe_mG (.inl rfl) (pv 1) (c_Pairs T) (m_Pairs_frame T) (ok_Pairs_frame T) (hrm.mono (by decide)) (bd_Pairs_frame T) (pa_cons (pv 4) pa_nil))) (pss_cons (ps_set (i := 6) sc_f_law_right.nd rfl (by first | exact Or.inl rfl | exact Or.inr rfl) (pe_ix ix_list (pv 2) (pv 4) (fun _ _ => rfl))) (pss_cons (ps_if (PW.pt (pw_or (pt_not (pt_val (pe_f rfl (ok_f_law_whole T) (hrm.mono (by decide)) (by rfl) (g_law_whole T) (fd_f_law_whole T).kp (bd_f_law_whole T) (E := E0s) (fun _ => passAt0) (pa_cons (pv 6) pa_nil)))) (pw_or (pt_cmpR op_ne (pe_cmpR op_eq (pe_op op_mod (pe_op op_fdiv (pv 6) pe_int) pe_int) pe_int (nomark _)) (pe_cmpR op_in_seq (pv 4) (pv 3) (by rfl)) (nomark _)) (pw_or1 (pt_cmpR op_ne (pe_f rfl (ok_f_law_led T) (hrm.mono (by decide)) (by rfl) (g_law_led T) (fd_f_law_led T).kp (bd_f_law_led T) (E := E0s) (fun _ => passAt0) (pa_cons (pv 0) (pa_cons (pv 1) (pa_cons (pv 4) pa_nil)))) (pv 5) (nomark _)))))) (pss_one (ps_ret pe_bl)) pss_nil) (pss_cons (ps_if (PW.pt (pw_or (pt_cmpR op_ne (pe_cmpR op_eq (pe_op op_mod (pv 6) pe_int) pe_int (nomark _)) (pe_cmpR op_notN (pv 5) pe_non (nomark _)) (nomark _)) (pw_or1 (pt_cmpR op_ne (pe_m rfl (pv 1) (c_Pairs T) (m_Pairs_loose T) (ok_Pairs_loose T) (hrm.mono (by decide)) (bd_Pairs_loose T) (E := E0s) (fun _ => passAt0) (pa_cons (pv 4) pa_nil)) (pe_cmpR op_eq (pe_op op_mod (pv 6) pe_int) pe_int (nomark _)) (nomark _))))) (pss_one (ps_ret pe_bl)) pss_nil) (pss_cons (ps_if (PW.pt (pw_or (PW.pt (pw_and (pt_cmpR op_isN (pv 5) pe_non (nomark _)) (pw_and1 (pt_cmpR op_notIn_seq (pv 6) (pe_tup (pa_cons pe_int (pa_cons pe_int pa_nil))) (by rfl))))) (pw_or1 (PW.pt (pw_and (pt_cmpR op_notN (pv 5) pe_non (nomark _)) (pw_and1 (pt_cmpR op_ne (pe_op op_fdiv (pv 6) pe_int) (pv 5) (nomark _)))))))) (pss_one (ps_ret pe_bl)) pss_nil) (pss_one (ps_if (PW.pt (pw_and (pt_cmpR op_eq (pe_op op_mod (pv 6) pe_int) pe_int (nomark _)) (pw_and1 (pt_cmpR op_ne (pe_mG (.inl rfl) (pv 0) (c_Frames T) (m_Frames_owners T) (ok_Frames_owners T) (hrm.mono (by decide)) (bd_Frames_owners T) (pa_cons (pv 5) pa_nil)) pe_int (nomark _))))) (pss_one (ps_ret pe_bl)) pss_nil)))))))) (pss_one (ps_ret (pe_and (pe_cmpR (op_eqD (huD hrm)) (pv 3) (pe_callB cr_sorted (by rfl) (b_sorted T) q_sorted (pa_cons (pv 3) pa_nil)) (nomark _)) (pe_one (pe_cmpR op_eq (pe_lenSetI rfl (by rfl) (b_len T) (by rfl) (b_set T) (pv 3)) (pe_callB call_len_seq (by rfl) (b_len T) q_len (pa_cons (pv 3) pa_nil)) (nomark _)))))))))), ?_⟩
  have o := G.on k
  obtain ⟨rr, W⟩ := A.wy k o
  have h6 := W.hi
  refine ⟨_, rfl, _, _, _, rfl, W.hw, rfl, n, S, k, rfl, A, G, fun D1 hD1 => ?_⟩
  obtain ⟨H1, hH1⟩ : ∃ H1, H1 = L2.upd H D1 (.lst ((List.range (S.y k).lead.length).map fun q => nv (row S k q))) := ⟨_, rfl⟩
  have s1 : Same H H1 := by rw [hH1]; exact same_new hD1
  have e1 : H1 D1 = some (.lst ((List.range (S.y k).lead.length).map fun q => nv (row S k q))) := by rw [hH1]; exact upd_same
  have A1 := A.same s1
  obtain ⟨r1, W1⟩ := A1.wy k o
  show (fun H5' => _) (L2.upd H D1 (.lst ((List.range (S.y k).lead.length).map fun q => nv (row S k q))))
  rw [← hH1]
  refine ⟨_, rfl, _, _, _, rfl, W1.hw, rfl, n, S, k, rfl, A1, G, fun D2 hD2 => ?_⟩
  obtain ⟨H2, hH2⟩ : ∃ H2, H2 = L2.upd H1 D2 (.lst ((soilL S k).map nv)) := ⟨_, rfl⟩
  have s12 : Same H1 H2 := by rw [hH2]; exact same_new hD2
  have s2 : Same H H2 := Same.trans' s1 s12
  have e2 : H2 D2 = some (.lst ((soilL S k).map nv)) := by rw [hH2]; exact upd_same
  have e12 := s12 _ _ e1
  have A2 := A.same s2
  obtain ⟨r2, W2⟩ := A2.wy k o
  show (fun H5' => _) (L2.upd H1 D2 (.lst ((soilL S k).map nv)))
  rw [← hH2]
  have rl : ((List.range (S.y k).lead.length).map fun q => nv (row S k q)).length = (S.y k).lead.length := by rw [List.length_map, List.length_range]
  refine ⟨_, rfl, _, _, _, _, true, rfl, .ty _, .base (.lst e12), kit_ll, true, rfl, iteF ?_⟩
  refine ⟨_, rfl, _, _, _, _, true, rfl, .ty _, .base (.lst e2), kit_ll, true, rfl, iteF ?_⟩
  refine ⟨_, rfl, _, _, rfl, .inl (SqL.of e12), _, rfl, _, _, _, rfl, W2.hw, rfl, n, S, k, rfl, A2, o, rfl, _, rfl, ?_⟩
  rw [rl]
  refine neE rfl ?_
  refine ⟨_, rfl, _, _, rfl, .inl (SqL.of e12), ?_⟩
  rw [rl]
  refine ⟨((S.y k).lead.length : Int), rfl, by omega, by omega, ?_⟩
  have en : (((S.y k).lead.length : Nat) : Int).toNat = (S.y k).lead.length := Int.toNat_natCast _
  rw [en]
  refine for_it (walk_range (lo := 0) (n := (S.y k).lead.length)) (fun i σ H3 => ∃ x4 x5 x6 : Option V, σ = [some (.ref S.F.g), some (.ref (S.y k).w), some (.ref D1), some (.ref D2), x4, x5, x6] ∧ Same H2 H3) ⟨none, none, none, rfl, Same.refl'⟩ (fun _ _ _ _ _ => trivial) ?_ ?_
  · rintro i v σ H4 H3 hi ⟨x4, x5, x6, rfl, s3⟩ ⟨rfl, rfl⟩
    have ez : (0 : Int) + (i : Int) = (i : Int) := by omega
    dsimp only
    rw [ez]
    have A3 := A2.same s3
    obtain ⟨r3, W3⟩ := A3.wy k o
    obtain ⟨r, hr, er, ok⟩ := row_cases A G hi
    have gr : ((List.range (S.y k).lead.length).map fun q => nv (row S k q))[i]? = some (nv r) := by
      rw [List.getElem?_map, List.getElem?_range hi, ← er]
      rfl
    have p8 := A.p8 o hi
    have hs : decide (V.int ((r : Int) / 16 % 2) = V.int 1) = inV (nv i) ((soilL S k).map nv) := by
      rw [inV_nv]
      refine decide_eq_decide.mpr ?_
      rw [mem_soil hi, er]
      exact ⟨fun z => by injection z with z; omega, fun z => by congr 1; omega⟩
    refine ⟨_, rfl, _, _, _, rfl, W3.hw, rfl, _, rfl, n, S, k, i, rfl, A3, o, ?_⟩
    refine ⟨_, rfl, _, rfl, _, _, _, _, rfl, rfl, SqL.of (s3 _ _ e12), atI_nat gr, ?_⟩
    refine ⟨_, rfl, (r : Int), rfl, true, rfl, iteF ?_⟩
    refine ⟨_, rfl, _, (16 : Int), rfl, rfl, cd (by decide) (by decide), _, (2 : Int), rfl, rfl, by show (0 : Int) < 2; decide, rfl, _, rfl, _, rfl, _, _, rfl, .inl (SqL.of (s3 _ _ e2)), rfl, flat_nv _, rfl, _, rfl, neE (congrArg V.bl hs) ?_⟩
    cases hf : (S.y k).f i with
    | none =>
      rw [hf] at ok
      refine ⟨_, rfl, _, rfl, _, rfl, n, S, k, i, rfl, A3, G, hi, fun H5 s5 => ?_⟩
      rw [hf]
      have A5 := A3.same s5
      obtain ⟨r5, W5⟩ := A5.wy k o
      refine ⟨_, rfl, rfl, _, rfl, neE rfl ?_⟩
      have rm : r = 0 ∨ r = 16 := ok
      have q1 : decide (V.int ((r : Int) % 2) = V.int 1) = false := decide_eq_false fun z => by injection z with z; omega
      have q2 : decide (r / 2 % 2 = 1) = decide (V.int ((r : Int) % 4) = V.int 3) := by
        rw [decide_eq_false (show ¬ r / 2 % 2 = 1 by omega), decide_eq_false fun z => by injection z with z; omega]
      refine ⟨_, rfl, _, (2 : Int), rfl, rfl, by show (0 : Int) < 2; decide, rfl, _, rfl, rfl, rfl, _, rfl, neE (congrArg V.bl q1) ?_⟩
      refine ⟨_, rfl, _, _, _, rfl, W5.hw, rfl, _, rfl, n, S, k, i, r, rfl, A5, o, p8, G.tkn_l k, hr, _, rfl, _, (4 : Int), rfl, rfl, by show (0 : Int) < 4; decide, rfl, rfl, _, rfl, neE (congrArg V.bl q2) ?_⟩
      refine ⟨_, rfl, rfl, _, rfl, iteT ⟨_, rfl, len2', fun tt htt => ⟨_, _, rfl, .inr (SqT.of upd_same), rfl, rfl, _, rfl, ?_⟩⟩⟩
      have q3 : inV (nv r) [V.int 0, V.int 16] = true := by rcases rm with z | z <;> rw [z] <;> rfl
      have q4 : (if true = true then !inV (nv r) [V.int 0, V.int 16] else inV (nv r) [V.int 0, V.int 16]) = false := by rw [if_pos rfl, q3]; rfl
      refine Eq.mpr (if_neg (by intro z; have z2 : (if true = true then !inV (nv r) [V.int 0, V.int 16] else inV (nv r) [V.int 0, V.int 16]) = true := z; rw [q4] at z2; cases z2)) ?_
      refine ⟨_, rfl, rfl, _, rfl, iteF (iteF ?_)⟩
      refine ⟨_, rfl, _, (4 : Int), rfl, rfl, by show (0 : Int) < 4; decide, rfl, _, rfl, ?_⟩
      have q5 : decide (V.int ((r : Int) % 4) = V.int 3) = false := decide_eq_false fun z => by injection z with z; omega
      refine Eq.mpr (if_neg (by intro z; have z2 : decide (V.int ((r : Int) % 4) = V.int 3) = true := z; rw [q5] at z2; cases z2)) ?_
      exact iteF ⟨_, _, _, rfl, Same.trans' s3 (Same.trans' s5 (same_new htt))⟩
    | some f =>
      rw [hf] at ok
      obtain ⟨k1, k2, k3⟩ := ok
      refine ⟨_, rfl, _, rfl, _, rfl, n, S, k, i, rfl, A3, G, hi, fun H5 s5 => ?_⟩
      rw [hf]
      have A5 := A3.same s5
      obtain ⟨r5, W5⟩ := A5.wy k o
      refine ⟨_, rfl, rfl, _, rfl, neE rfl ?_⟩
      have q1 : decide (V.int ((r : Int) % 2) = V.int 1) = true := decide_eq_true (by congr 1; omega)
      have q2 : decide (r / 2 % 2 = 1) = decide (V.int ((r : Int) % 4) = V.int 3) := decide_eq_decide.mpr ⟨fun z => by congr 1; omega, fun z => by injection z with z; omega⟩
      refine ⟨_, rfl, _, (2 : Int), rfl, rfl, by show (0 : Int) < 2; decide, rfl, _, rfl, rfl, rfl, _, rfl, neE (congrArg V.bl q1) ?_⟩
      refine ⟨_, rfl, _, _, _, rfl, W5.hw, rfl, _, rfl, n, S, k, i, r, rfl, A5, o, p8, G.tkn_l k, hr, _, rfl, _, (4 : Int), rfl, rfl, by show (0 : Int) < 4; decide, rfl, rfl, _, rfl, neE (congrArg V.bl q2) ?_⟩
      have q3 : V.int ((r : Int) / 256) = nv f := by congr 1; omega
      refine ⟨_, rfl, rfl, _, rfl, iteF (iteF ⟨_, rfl, rfl, _, rfl, iteT ⟨_, rfl, _, (256 : Int), rfl, rfl, cd (by decide) (by decide), _, rfl, rfl, _, rfl, neE q3 ?_⟩⟩)⟩
      refine ⟨_, rfl, _, (4 : Int), rfl, rfl, by show (0 : Int) < 4; decide, rfl, _, rfl, iteB (fun z => ?_) (fun _ => iteF ⟨_, _, _, rfl, Same.trans' s3 s5⟩)⟩
      have z3 : (r : Int) % 4 = 3 := by
        have z2 : V.int ((r : Int) % 4) = V.int 3 := of_decide_eq_true z
        injection z2
      refine ⟨_, rfl, _, _, _, rfl, A5.fr.hg, rfl, _, rfl, S.F, S.c, f, rfl, A5.fr, rfl, _, rfl, neE (by rw [k3 (by omega)]; rfl) ?_⟩
      exact ⟨_, _, _, rfl, Same.trans' s3 s5⟩
  · rintro σ H3 ⟨x4, x5, x6, rfl, s3⟩
    have e3 := s3 _ _ e2
    have sl := soil_len (S := S) (k := k)
    refine ⟨_, rfl, _, rfl, D2, (soilL S k).map Int.ofNat, rfl, by rw [map_ofNat]; exact SqL.of e3, by rw [List.length_map]; omega, fun ns' p pm pw hp => ?_⟩
    have es : ns' = (soilL S k).map Int.ofNat := sorted_same soil_sorted pm pw
    have em : ns'.map V.int = (soilL S k).map nv := by rw [es, map_ofNat]
    rw [em]
    have nD : D2 ≠ p := ne_of_none e3 hp
    have e4 : L2.upd H3 p (.lst ((soilL S k).map nv)) D2 = some (.lst ((soilL S k).map nv)) := by rw [upd_ne nD]; exact e3
    refine ⟨_, _, .lst (SqL.of e4) dp_ints, .lst (SqL.of upd_same) dp_ints, sh_ints, sh_ints, _, rfl, ?_⟩
    have ee : PyData.eqv (.list ((soilL S k).map iD)) (.list ((soilL S k).map iD)) = true := by
      rw [PyData.eqv, eqv_ints]
      exact decide_eq_true rfl
    rw [ee]
    refine iteT ⟨_, rfl, D2, (soilL S k).map Int.ofNat, rfl, by rw [map_ofNat]; exact SqL.of e4, by rw [List.length_map]; omega, ?_, _, rfl, _, _, rfl, .inl (SqL.of e4), rfl, ?_⟩
    · rw [List.nodup_iff_pairwise_ne, List.pairwise_map]
      exact soil_sorted.imp fun {a b} z y => by
        have : (a : Int) = (b : Int) := y
        omega
    · have el : decide (V.int (((soilL S k).map Int.ofNat).length : Nat) = V.int (((soilL S k).map nv).length : Nat)) = true := by
        rw [List.length_map, List.length_map]
        exact decide_eq_true rfl
      exact Eq.mpr (congrArg (fun b => Q (V.bl b) _) el) (q _ (Same.trans' s2 (Same.trans' s3 (same_new hp))))
end K6
/-! The law: every frame's owners. -/
namespace K6
open PySem PySem.Spec PyProof.Rows L2 HotX L2H He
variable {P : Program} {w : World} {K : PySem.W.Frag} {mg : Str → Option Value} {base : Heap}
/-- the frames of a way -/
def led (l : List (Option Nat)) : List Nat := l.filterMap id
def wl (y : Way) : List Nat := [y.t, y.l] ++ led y.lead
theorem led_count {g : Nat} : ∀ {l : List (Option Nat)}, (led l).count g = l.count (some g)
  | [] => rfl
  | none :: l => by
    have ih := led_count (g := g) (l := l)
    rw [count_cons', b1_no]
    exact ih
  | some x :: l => by
    have ih := led_count (g := g) (l := l)
    rw [count_cons', b1_some]
    show (x :: led l).count g = _
    rw [count_cons', ih]
theorem led_len : ∀ {l : List (Option Nat)}, (led l).length = ns l
  | [] => rfl
  | none :: l => by
    have ih := led_len (l := l)
    have h := ns_app (a := [none]) (b := l)
    have e : ns [none] = 0 := rfl
    show (led l).length = ns ([none] ++ l)
    omega
  | some x :: l => by
    have ih := led_len (l := l)
    have h := ns_app (a := [some x]) (b := l)
    have e : ns [some x] = 1 := rfl
    show (led l).length + 1 = ns ([some x] ++ l)
    omega
theorem wl_count {y : Way} {g : Nat} : (wl y).count g = cw y g := by
  unfold wl cw
  rw [List.count_append, led_count, count_cons', count_cons']
  have e : ([] : List Nat).count g = 0 := rfl
  omega
theorem wl_len {y : Way} : (wl y).length = 2 + ns y.lead := by
  unfold wl
  rw [List.length_append, led_len]
  rfl
theorem led_step {y : Way} {j : Nat} (h : j < y.lead.length) : led (y.lead.take (j + 1)) = led (y.lead.take j) ++ (match y.f j with | none => [] | some f => [f]) := by
  unfold led
  rw [List.take_add_one, Way.f_at h, List.filterMap_append]
  congr 1
  cases y.f j <;> rfl
theorem led_le {l : List (Option Nat)} {j : Nat} : (led (l.take j)).length ≤ j := by
  unfold led
  have h1 := List.length_filterMap_le id (l.take j)
  have h2 := List.length_take_le j l
  omega
def WaysAt (S : Sy) (c : Col) (H : Hp) (a : Addr) : Prop := H a = some (.lst [.ref (S.y false).w, .ref (S.y true).w]) ∧ c a = .no
def wk : Nat → Bool
  | 0 => false
  | _ => true
theorem ways_get {S : Sy} {i : Nat} (h : i < 2) : ([.ref (S.y false).w, .ref (S.y true).w] : List V)[i]? = some (.ref (S.y (wk i)).w) := by
  match i, h with
  | 0, _ => rfl
  | 1, _ => rfl
/-- what is gathered before the i-th way -/
def ledW (S : Sy) : Nat → List Nat
  | 0 => []
  | 1 => wl (S.y false)
  | _ => wl (S.y false) ++ wl (S.y true)
theorem ledW_succ {S : Sy} {i : Nat} (h : i < 2) : ledW S i ++ wl (S.y (wk i)) = ledW S (i + 1) := by
  match i, h with
  | 0, _ => rfl
  | 1, _ => rfl
def spOwned (K : PySem.W.Frag) : Sp := fun vs H Q _ => ∃ (n : Nat) (S : Sy) (a : Addr), vs = [.ref S.F.g, .ref a] ∧ At K n S H ∧ Good S ∧ WaysAt S S.c H a ∧ ∀ H', Same H H' → Q (.bl true) H'
theorem ok_f_law_owned (T : Tx K mg) : FnC P w K mg base 6 (fAd K ("_law_owned", none)) (fdat K ("_law_owned", none)) ["_law_frames", "_law_ways"] (spOwned K) := by
  refine fnC (fd_f_law_owned T) sc_f_law_owned (fun vs H Q E h => ?_) (fun cdv A0 outer s H vs Q E hrm h => ?_)
  · obtain ⟨n, S, a, rfl, _⟩ := h
    rfl
  obtain ⟨n, S, a, rfl, A, G, ⟨ha, ca⟩, q⟩ := h
  refine ⟨_, (pss_cons (ps_set (i := 2) sc_f_law_owned.nd rfl (by first | exact Or.inl rfl | exact Or.inr rfl) (pe_lst pa_nil)) (pss_cons (ps_set (i := 3) sc_f_law_owned.nd rfl (by first | exact Or.inl rfl | exact Or.inr rfl) pe_int) (pss_cons (ps_for (passes_of rfl) rfl (pi_list (pv 1)) (pg_name (i := 4) sc_f_law_owned.nd rfl (by first | exact Or.inl rfl | exact Or.inr rfl)) (pss_cons (ps_set (i := 2) sc_f_law_owned.nd rfl (by first | exact Or.inl rfl | exact Or.inr rfl) (pe_op op_cat (pv 2) (pe_m0 rfl (pv 4) (c_Pairs T) (m_Pairs_tables T) (ok_Pairs_tables T) (hrm.mono (by decide)) (bd_Pairs_tables T) (E := E0s) (fun _ => passAt0)))) (pss_cons (ps_set (i := 3) sc_f_law_owned.nd rfl (by first | exact Or.inl rfl | exact Or.inr rfl) (pe_op op_add (pv 3) (pe_callB call_len_seq (by rfl) (b_len T) q_len (pa_cons (pe_m0 rfl (pv 4) (c_Pairs T) (m_Pairs_tables T) (ok_Pairs_tables T) (hrm.mono (by decide)) (bd_Pairs_tables T) (E := E0s) (fun _ => passAt0)) pa_nil)))) (pss_one (ps_for (passes_of rfl) rfl (pi_range1 (by rfl) (b_range T) (pa_cons (pe_m0 rfl (pv 4) (c_Pairs T) (m_Pairs_size T) (ok_Pairs_size T) (hrm.mono (by decide)) (bd_Pairs_size T) (E := E0s) (fun _ => passAt0)) pa_nil)) (pg_name (i := 5) sc_f_law_owned.nd rfl (by first | exact Or.inl rfl | exact Or.inr rfl)) (pss_one (ps_if (pt_cmpR op_notN (pe_mG (.inl rfl) (pv 4) (c_Pairs T) (m_Pairs_frame T) (ok_Pairs_frame T) (hrm.mono (by decide)) (bd_Pairs_frame T) (pa_cons (pv 5) pa_nil)) pe_non (nomark _)) (pss_cons (ps_expr (pe_bm PySem.F.plainAttrs_list PySem.F.slot_list_append PySem.F.type_list_append mt_append (pv 2) (pa_cons (pe_mG (.inl rfl) (pv 4) (c_Pairs T) (m_Pairs_frame T) (ok_Pairs_frame T) (hrm.mono (by decide)) (bd_Pairs_frame T) (pa_cons (pv 5) pa_nil)) pa_nil))) (pss_one (ps_set (i := 3) sc_f_law_owned.nd rfl (by first | exact Or.inl rfl | exact Or.inr rfl) (pe_op op_add (pv 3) pe_int)))) pss_nil))))))) (pss_cons (ps_for (passes_of rfl) rfl (pi_range1 (by rfl) (b_range T) (pa_cons (pe_m0 rfl (pv 0) (c_Frames T) (m_Frames_size T) (ok_Frames_size T) (hrm.mono (by decide)) (bd_Frames_size T) (E := E0s) (fun _ => passAt0)) pa_nil)) (pg_name (i := 6) sc_f_law_owned.nd rfl (by first | exact Or.inl rfl | exact Or.inr rfl)) (pss_one (ps_if (pt_cmpR op_ne (pe_mG (.inl rfl) (pv 0) (c_Frames T) (m_Frames_owners T) (ok_Frames_owners T) (hrm.mono (by decide)) (bd_Frames_owners T) (pa_cons (pv 6) pa_nil)) (pe_callB call_len_seq (by rfl) (b_len T) q_len (pa_cons (pe_lc (own := [("_law_one", 7)]) (g := gName 7) rfl sc_f_law_owned.nd (pi_list (pv 2)) (blkOk_by (own := [("_law_one", 7)]) (N := ["_law_frames", "_law_ways", "_law_led_here", "_law_promised", "_law_way", "_law_page", "_law_frame", "_law_one"]) (sc := (defScope s_f_law_owned)) (by decide +kernel)) (fun _ _ _ _ _ => pg_name (i := 7) sc_f_law_owned.nd rfl (by first | exact Or.inl rfl | exact Or.inr rfl)) (fun _ _ _ _ _ => (pts_one (pt_cmpR op_eq (pv 7) (pv 6) (nomark _)))) (fun _ _ _ _ _ => (pv 7))) pa_nil)) (nomark _)) (pss_one (ps_ret pe_bl)) pss_nil))) (pss_cons (ps_for (passes_of rfl) rfl (pi_list (pv 1)) (pg_name (i := 4) sc_f_law_owned.nd rfl (by first | exact Or.inl rfl | exact Or.inr rfl)) (pss_one (ps_if (pt_cmpR (op_neD (huD hrm)) (pe_lc (own := [("_law_frame", 6)]) (g := gName 6) rfl sc_f_law_owned.nd (pi_list (pe_m0 rfl (pv 4) (c_Pairs T) (m_Pairs_tables T) (ok_Pairs_tables T) (hrm.mono (by decide)) (bd_Pairs_tables T) (E := E0s) (fun _ => passAt0))) (blkOk_by (own := [("_law_frame", 6)]) (N := ["_law_frames", "_law_ways", "_law_led_here", "_law_promised", "_law_way", "_law_page", "_law_frame", "_law_one"]) (sc := (defScope s_f_law_owned)) (by decide +kernel)) (fun _ _ _ _ _ => pg_name (i := 6) sc_f_law_owned.nd rfl (by first | exact Or.inl rfl | exact Or.inr rfl)) (fun _ _ _ _ _ => pts_nil) (fun _ _ _ _ _ => (pe_mG (.inl rfl) (pv 0) (c_Frames T) (m_Frames_owners T) (ok_Frames_owners T) (hrm.mono (by decide)) (bd_Frames_owners T) (pa_cons (pv 6) pa_nil)))) (pe_op op_rep (pe_lst (pa_cons pe_int pa_nil)) (pe_callB call_len_seq (by rfl) (b_len T) q_len (pa_cons (pe_m0 rfl (pv 4) (c_Pairs T) (m_Pairs_tables T) (ok_Pairs_tables T) (hrm.mono (by decide)) (bd_Pairs_tables T) (E := E0s) (fun _ => passAt0)) pa_nil))) (nomark _)) (pss_one (ps_ret pe_bl)) pss_nil))) (pss_one (ps_ret (pe_cmpR op_eq (pe_m0 rfl (pv 0) (c_Frames T) (m_Frames_promised T) (ok_Frames_promised T) (hrm.mono (by decide)) (bd_Frames_promised T) (E := E0s) (fun _ => passAt0)) (pv 3) (nomark _))))))))), ?_⟩
  have six : ∀ k, (S.y k).lead.length ≤ 6 := fun k => by
    obtain ⟨r, W⟩ := A.wy k (G.on k)
    exact W.hi
  have ll : ∀ i, i ≤ 2 → (ledW S i).length ≤ 16 := fun i hi => by
    have h1 := six true
    have h2 := six false
    have n1 : ns (S.y true).lead ≤ (S.y true).lead.length := Nat.sub_le _ _
    have n2 : ns (S.y false).lead ≤ (S.y false).lead.length := Nat.sub_le _ _
    match i, hi with
    | 0, _ => exact Nat.zero_le _
    | 1, _ =>
      show (wl (S.y false)).length ≤ 16
      rw [wl_len]
      omega
    | 2, _ =>
      show (wl (S.y false) ++ wl (S.y true)).length ≤ 16
      rw [List.length_append, wl_len, wl_len]
      omega
  refine ⟨szl (by show 0 ≤ 1000; decide), fun D0 hD0 => ?_⟩
  have nf : ∀ {D b : Addr} {o : HO}, H D = none → H b = some o → b ≠ D := fun h e => ne_of_none e h
  refine ⟨_, rfl, a, rfl, ⟨_, SqL.of (same_new (o := .lst []) hD0 _ _ ha)⟩, ?_⟩
  refine for_it (walk_list (xs := [.ref (S.y false).w, .ref (S.y true).w])) (fun i σ H2 => ∃ (D : Addr) (x4 x5 : Option V), σ = [some (.ref S.F.g), some (.ref a), some (.ref D), some (nv (ledW S i).length), x4, x5, none, none] ∧ Same H H2 ∧ H D = none ∧ H2 D = some (.lst ((ledW S i).map nv))) ?_ ?_ ?_ ?_
  · exact ⟨D0, none, none, rfl, same_new hD0, hD0, upd_same⟩
  · rintro i σ H2 hi ⟨D, x4, x5, rfl, s2, hD, eD⟩
    exact SqL.of (s2 _ _ ha)
  · rintro i v σ H3 H2 hi ⟨D, x4, x5, rfl, s2, hD, eD⟩ ⟨rfl, hv⟩
    have hi2 : i < 2 := hi
    rw [ways_get hi2] at hv
    obtain rfl := Option.some.inj hv
    have on := G.on (wk i)
    have A2 := A.same s2
    obtain ⟨r2, W2⟩ := A2.wy (wk i) on
    have sx := six (wk i)
    have len1 := ll i (by omega)
    refine ⟨_, rfl, _, rfl, _, _, _, rfl, W2.hw, rfl, n, S, wk i, rfl, A2, on, fun T1 hT1 => ?_⟩
    have nDT : D ≠ T1 := ne_of_none eD hT1
    refine ⟨D, T1, _, _, rfl, rfl, by rw [upd_ne nDT]; exact eD, upd_same, by rw [List.length_map]; exact szl (by show (ledW S i).length + 2 ≤ 1000; omega), fun D' hD' => ?_⟩
    have s3 : Same H (L2.upd (L2.upd H2 T1 (.lst [nv (S.y (wk i)).t, nv (S.y (wk i)).l])) D' (.lst ((ledW S i).map nv ++ [nv (S.y (wk i)).t, nv (S.y (wk i)).l]))) := Same.trans' s2 (Same.trans' (same_new hT1) (same_new hD'))
    have hD'0 : H D' = none := none_of_same (Same.trans' s2 (same_new hT1)) hD'
    have A3 := A.same s3
    obtain ⟨r3, W3⟩ := A3.wy (wk i) on
    refine ⟨_, rfl, _, rfl, _, _, _, rfl, W3.hw, rfl, n, S, wk i, rfl, A3, on, fun T2 hT2 => ?_⟩
    have nDT2 : D' ≠ T2 := ne_of_none upd_same hT2
    refine ⟨_, _, rfl, .inl (SqL.of upd_same), _, _, rfl, rfl, ?_⟩
    have s4 := Same.trans' s3 (same_new (o := .lst [nv (S.y (wk i)).t, nv (S.y (wk i)).l]) hT2)
    have A4 := A.same s4
    obtain ⟨r4, W4⟩ := A4.wy (wk i) on
    refine ⟨_, rfl, _, _, _, rfl, W4.hw, rfl, n, S, wk i, rfl, A4, on, ((S.y (wk i)).lead.length : Int), rfl, by omega, by omega, ?_⟩
    have en : (((S.y (wk i)).lead.length : Nat) : Int).toNat = (S.y (wk i)).lead.length := Int.toNat_natCast _
    rw [en]
    refine for_it (walk_range (lo := 0) (n := (S.y (wk i)).lead.length)) (fun j σ H5 => ∃ (x5 : Option V) (l : List Nat), σ = [some (.ref S.F.g), some (.ref a), some (.ref D'), some (nv l.length), some (.ref (S.y (wk i)).w), x5, none, none] ∧ l = ledW S i ++ ([(S.y (wk i)).t, (S.y (wk i)).l] ++ led ((S.y (wk i)).lead.take j)) ∧ Same H H5 ∧ H5 D' = some (.lst (l.map nv))) ?_ (fun _ _ _ _ _ => trivial) ?_ ?_
    · refine ⟨x5, _, ?_, rfl, s4, ?_⟩
      · show _ = [some (.ref S.F.g), some (.ref a), some (.ref D'), some (nv (ledW S i ++ ([(S.y (wk i)).t, (S.y (wk i)).l] ++ led ((S.y (wk i)).lead.take 0))).length), some (.ref (S.y (wk i)).w), x5, none, none]
        have e : (ledW S i ++ ([(S.y (wk i)).t, (S.y (wk i)).l] ++ led ((S.y (wk i)).lead.take 0))).length = (ledW S i).length + 2 := by rw [List.length_append]; rfl
        rw [e]
        rfl
      · rw [upd_ne nDT2, upd_same, List.map_append]
        rfl
    · rintro j v σ H6 H5 hj ⟨x5, l, rfl, el, s5, e5⟩ ⟨rfl, rfl⟩
      have ez : (0 : Int) + (j : Int) = (j : Int) := by omega
      dsimp only
      rw [ez]
      have A5 := A.same s5
      obtain ⟨r5, W5⟩ := A5.wy (wk i) on
      have st := led_step hj
      refine ⟨_, rfl, _, _, _, rfl, W5.hw, rfl, _, rfl, n, S, wk i, j, rfl, A5, on, ?_⟩
      cases hf : (S.y (wk i)).f j with
      | none =>
        rw [hf] at st
        refine ⟨rfl, _, rfl, iteF ⟨_, l, rfl, ?_, s5, e5⟩⟩
        rw [st, List.append_nil]
        exact el
      | some f =>
        rw [hf] at st
        have ln : l.length ≤ 24 := by
          rw [el, List.length_append, List.length_append]
          have := led_le (l := (S.y (wk i)).lead) (j := j)
          show (ledW S i).length + (2 + _) ≤ 24
          omega
        refine ⟨rfl, _, rfl, iteT ⟨_, rfl, .inl ⟨rfl, _, SqL.of e5⟩, _, rfl, _, _, _, rfl, W5.hw, rfl, _, rfl, n, S, wk i, j, rfl, A5, on, ?_⟩⟩
        rw [hf]
        refine ⟨_, _, _, rfl, rfl, e5, by rw [List.length_map, sizeLine_eq]; omega, ?_⟩
        refine ⟨_, rfl, _, _, rfl, rfl, some (nv j), l ++ [f], ?_, ?_, fun b o e => by rw [upd_ne (nf hD'0 e)]; exact s5 _ _ e, by rw [upd_same, List.map_append]; rfl⟩
        · rw [List.length_append]
          rfl
        · rw [st, el, List.append_assoc, List.append_assoc]
    · rintro σ H5 ⟨x5, l, rfl, el, s5, e5⟩
      rw [List.take_length] at el
      have el2 : l = ledW S (i + 1) := by rw [el, ← ledW_succ hi2]; rfl
      subst el2
      exact ⟨D', _, _, rfl, s5, hD'0, e5⟩
  rintro σ H2 ⟨D, x4, x5, rfl, s2, hD, eD⟩
  have A2 := A.same s2
  have l16 := ll 2 (Nat.le_refl _)
  have cnt : ∀ g, (ledW S 2).count g = S.F.o g := fun g => by
    show (wl (S.y false) ++ wl (S.y true)).count g = _
    rw [List.count_append, wl_count, wl_count, G.cnt g]
    omega
  refine ⟨_, rfl, _, _, _, rfl, A2.fr.hg, rfl, S.F, S.c, rfl, A2.fr, (S.F.ow.length : Int), rfl, by have := A2.fr.sz; omega, by have := A2.fr.sz; omega, ?_⟩
  have en : ((S.F.ow.length : Nat) : Int).toNat = S.F.ow.length := Int.toNat_natCast _
  rw [en]
  refine for_it (walk_range (lo := 0) (n := S.F.ow.length)) (fun i σ H3 => ∃ (x4 x5 x6 : Option V), σ = [some (.ref S.F.g), some (.ref a), some (.ref D), some (nv (ledW S 2).length), x4, x5, x6, none] ∧ Same H H3 ∧ H3 D = some (.lst ((ledW S 2).map nv))) ⟨_, _, _, rfl, s2, eD⟩ (fun _ _ _ _ _ => trivial) ?_ ?_
  · rintro i v σ H4 H3 hi ⟨x4, x5, x6, rfl, s3, e3⟩ ⟨rfl, rfl⟩
    have ez : (0 : Int) + (i : Int) = (i : Int) := by omega
    dsimp only
    rw [ez]
    have A3 := A.same s3
    refine ⟨_, rfl, _, _, _, rfl, A3.fr.hg, rfl, _, rfl, S.F, S.c, i, rfl, A3.fr, ?_⟩
    refine ⟨_, rfl, D, rfl, ⟨_, SqL.of e3⟩, fun E1 hE1 => ?_⟩
    have nDE : D ≠ E1 := ne_of_none e3 hE1
    refine lc_it (walk_list (xs := (ledW S 2).map nv)) (fun j H5 => Same H3 H5 ∧ H5 E1 = some (.lst ((((ledW S 2).take j).filter (fun x => x == i)).map nv))) ⟨same_new hE1, upd_same⟩ (fun j H5 _ e => SqL.of (e.1 _ _ e3)) ?_ ?_
    · rintro j v H6 H5 hj ⟨s5, e5⟩ ⟨rfl, hx⟩
      refine ⟨rfl, ?_⟩
      rw [List.length_map] at hj
      have gj : (ledW S 2)[j]? = some ((ledW S 2)[j]'hj) := List.getElem?_eq_getElem hj
      rw [nv_get gj] at hx
      obtain rfl := Option.some.inj hx
      obtain ⟨y, hy⟩ : ∃ y, y = (ledW S 2)[j]'hj := ⟨_, rfl⟩
      rw [← hy] at gj ⊢
      have tk : ((ledW S 2).take (j + 1)).filter (fun x => x == i) = ((ledW S 2).take j).filter (fun x => x == i) ++ (if (y == i) = true then [y] else []) := by
        rw [List.take_add_one, gj, List.filter_append]
        congr 1
        show List.filter (fun x => x == i) [y] = _
        cases hh : (y == i) <;> simp [List.filter, hh]
      have lim : ((((ledW S 2).take j).filter (fun x => x == i)).map nv).length < sizeLine := by
        rw [List.length_map, sizeLine_eq]
        have h1 := List.length_filter_le (fun x => x == i) ((ledW S 2).take j)
        have h2 := List.length_take_le j (ledW S 2)
        omega
      refine ⟨_, rfl, _, rfl, rfl, _, rfl, ?_⟩
      by_cases e : y = i
      · refine Eq.mpr (if_pos (show decide (nv y = nv i) = true from decide_eq_true (by rw [e]))) ?_
        refine ⟨_, rfl, _, e5, lim, fun b o eb => by rw [upd_ne (ne_of_none eb hE1)]; exact s5 _ _ eb, ?_⟩
        rw [upd_same, tk, if_pos (by rw [e]; exact beq_self_eq_true i), List.map_append]
        rfl
      · refine Eq.mpr (if_neg (show ¬ decide (nv y = nv i) = true by rw [eq_nv]; exact fun z => e (of_decide_eq_true z))) ?_
        refine ⟨s5, ?_⟩
        rw [tk, if_neg (by intro z; exact e (eq_of_beq z)), List.append_nil]
        exact e5
    · rintro H5 ⟨s5, e5⟩
      rw [List.length_map, List.take_length] at e5
      refine ⟨_, _, rfl, .inl (SqL.of e5), rfl, _, rfl, ?_⟩
      have ec : nv (S.F.o i) = V.int ((((ledW S 2).filter (fun x => x == i)).map nv).length : Nat) := by
        rw [List.length_map, ← List.countP_eq_length_filter]
        have := cnt i
        show nv (S.F.o i) = nv _
        rw [← this]
        rfl
      exact neE ec ⟨_, _, _, rfl, Same.trans' s3 s5, s5 _ _ e3⟩
  rintro σ H3 ⟨x4, x5, x6, rfl, s3, e3⟩
  refine ⟨_, rfl, a, rfl, ⟨_, SqL.of (s3 _ _ ha)⟩, ?_⟩
  refine for_it (walk_list (xs := [.ref (S.y false).w, .ref (S.y true).w])) (fun i σ H4 => ∃ (x4 x5 x6 : Option V), σ = [some (.ref S.F.g), some (.ref a), some (.ref D), some (nv (ledW S 2).length), x4, x5, x6, none] ∧ Same H H4) ⟨_, _, _, rfl, s3⟩ ?_ ?_ ?_
  · rintro i σ H4 hi ⟨x4, x5, x6, rfl, s4⟩
    exact SqL.of (s4 _ _ ha)
  · rintro i v σ H5 H4 hi ⟨x4, x5, x6, rfl, s4⟩ ⟨rfl, hv⟩
    have hi2 : i < 2 := hi
    rw [ways_get hi2] at hv
    obtain rfl := Option.some.inj hv
    have on := G.on (wk i)
    have A4 := A.same s4
    obtain ⟨r4, W4⟩ := A4.wy (wk i) on
    obtain ⟨ot, ol⟩ := G.tb (wk i)
    refine ⟨_, rfl, _, _, _, rfl, W4.hw, rfl, n, S, wk i, rfl, A4, on, fun T1 hT1 => ⟨T1, rfl, ⟨_, SqL.of upd_same⟩, fun E1 hE1 => ?_⟩⟩
    have nTE : T1 ≠ E1 := fun z => by rw [← z, upd_same] at hE1; cases hE1
    have s5 := Same.trans' s4 (same_new (o := .lst [nv (S.y (wk i)).t, nv (S.y (wk i)).l]) hT1)
    refine lc_it (walk_list (xs := [nv (S.y (wk i)).t, nv (S.y (wk i)).l])) (fun j H5 => Same H H5 ∧ H5 T1 = some (.lst [nv (S.y (wk i)).t, nv (S.y (wk i)).l]) ∧ H5 E1 = some (.lst ((List.replicate j 1).map nv))) ⟨Same.trans' s5 (same_new hE1), by rw [upd_ne nTE, upd_same], upd_same⟩ (fun j H5 _ e => SqL.of e.2.1) ?_ ?_
    · rintro j v H7 H6 hj ⟨s6, t6, e6⟩ ⟨rfl, hx⟩
      refine ⟨rfl, ?_⟩
      have hj2 : j < 2 := hj
      obtain ⟨g, rfl, og⟩ : ∃ g, v = nv g ∧ S.F.o g = 1 := by
        match j, hj2 with
        | 0, _ => exact ⟨_, (Option.some.inj hx).symm, ot⟩
        | 1, _ => exact ⟨_, (Option.some.inj hx).symm, ol⟩
      have A6 := A.same s6
      refine ⟨_, rfl, _, _, _, rfl, A6.fr.hg, rfl, _, rfl, S.F, S.c, g, rfl, A6.fr, ?_⟩
      rw [og]
      have hE0 : H E1 = none := none_of_same s5 hE1
      refine ⟨_, e6, by rw [List.length_map, List.length_replicate, sizeLine_eq]; omega, fun b o e => by rw [upd_ne (nf hE0 e)]; exact s6 _ _ e, by rw [upd_ne nTE]; exact t6, ?_⟩
      rw [upd_same, List.replicate_succ', List.map_append]
      rfl
    · rintro H6 ⟨s6, t6, e6⟩
      have A6 := A.same s6
      obtain ⟨r6, W6⟩ := A6.wy (wk i) on
      refine ⟨szl (by show 1 ≤ 1000; decide), fun p1 hp1 => ?_⟩
      have s7 := Same.trans' s6 (same_new (o := .lst [V.int 1]) hp1)
      have A7 := A.same s7
      obtain ⟨r7, W7⟩ := A7.wy (wk i) on
      refine ⟨_, rfl, _, _, _, rfl, W7.hw, rfl, n, S, wk i, rfl, A7, on, fun T2 hT2 => ?_⟩
      have np : p1 ≠ T2 := ne_of_none upd_same hT2
      refine ⟨_, _, rfl, .inl (SqL.of upd_same), p1, (2 : Int), _, rfl, rfl, by rw [upd_ne np, upd_same], by decide, by decide, szl (by show 1 * 2 ≤ 1000; decide), fun p2 hp2 => ?_⟩
      have s8 := Same.trans' (same_new (o := .lst [V.int 1]) hp1) (same_new (o := .lst [nv (S.y (wk i)).t, nv (S.y (wk i)).l]) hT2)
      have e8 := same_new (o := .lst (List.replicate (2 : Int).toNat [V.int 1]).flatten) hp2 _ _ (s8 _ _ e6)
      refine ⟨_, _, .lst (SqL.of e8) (dp_ints (l := [1, 1])), .lst (SqL.of upd_same) (dp_ints (l := [1, 1])), sh_ints, sh_ints, _, rfl, ?_⟩
      have ee : PyData.eqv (.list (([1, 1] : List Nat).map iD)) (.list (([1, 1] : List Nat).map iD)) = true := by
        rw [PyData.eqv, eqv_ints]
        exact decide_eq_true rfl
      rw [ee]
      exact iteF ⟨_, _, _, rfl, Same.trans' s6 (Same.trans' s8 (same_new hp2))⟩
  · rintro σ H4 ⟨x4, x5, x6, rfl, s4⟩
    have A4 := A.same s4
    refine ⟨_, rfl, _, _, _, rfl, A4.fr.hg, rfl, S.F, S.c, rfl, A4.fr, _, rfl, rfl, ?_⟩
    have ep : decide (V.int S.F.pl = nv (ledW S 2).length) = true := by
      refine decide_eq_true ?_
      rw [G.pl, G.tot]
      show nv _ = nv (wl (S.y false) ++ wl (S.y true)).length
      rw [List.length_append, wl_len, wl_len]
      congr 1
      omega
    exact Eq.mpr (congrArg (fun b => Q (V.bl b) H4) ep) (q H4 s4)
end K6
/-! The law: frames alike, guarded, kept. -/
namespace K6
open PySem PySem.Spec PyProof.Rows L2 HotX L2H He
variable {P : Program} {w : World} {K : PySem.W.Frag} {mg : Str → Option Value} {base : Heap}
def spLike (K : PySem.W.Frag) : Sp := fun vs H Q _ => ∃ (n : Nat) (S : Sy) (a : Addr) (v : V) (ws : List Nat) (jj : Nat → Bool) (p0 : Nat), vs = [.ref a, v] ∧ At K n S H ∧ Good S ∧ H a = some (.lst [.ref (S.y (jj 0)).w, .ref (S.y (jj 1)).w]) ∧ S.c a = .no ∧ PV S.c H v (some ws) ∧
  p0 < (S.y (jj 1)).lead.length ∧ page S (jj 1) p0 = some ws ∧ ∀ j q g c' H', At K n (S.sc c') H' → Keep0 S.c H c' H' → (S.y j).f q = some g → S.F.wd g = ws → Q (nv g) H'
theorem ok_f_law_frame_like (T : Tx K mg) : FnC P w K mg base 9 (fAd K ("_law_frame_like", none)) (fdat K ("_law_frame_like", none)) ["_law_ways", "_law_words"] (spLike K) := by
  refine fnC (fd_f_law_frame_like T) sc_f_law_frame_like (fun vs H Q E h => ?_) (fun cdv A0 outer s H vs Q E hrm h => ?_)
  · obtain ⟨n, S, a, v, ws, jj, p0, rfl, _⟩ := h
    rfl
  obtain ⟨n, S, a, v, ws, jj, p0, rfl, A, G, ha, ca, hv, lp0, hp0, q⟩ := h
  refine ⟨_, (pss_cons (ps_for (passes_of rfl) rfl (pi_list (pv 0)) (pg_name (i := 2) sc_f_law_frame_like.nd rfl (by first | exact Or.inl rfl | exact Or.inr rfl)) (pss_cons (ps_set (i := 3) sc_f_law_frame_like.nd rfl (by first | exact Or.inl rfl | exact Or.inr rfl) (pe_m0 rfl (pv 2) (c_Pairs T) (m_Pairs_pages T) (ok_Pairs_pages T) (hrm.mono (by decide)) (bd_Pairs_pages T) (E := E0s) (fun _ => passAt0))) (pss_one (ps_for (passes_of rfl) rfl (pi_range1 (by rfl) (b_range T) (pa_cons (pe_callB call_len_seq (by rfl) (b_len T) q_len (pa_cons (pv 3) pa_nil)) pa_nil)) (pg_name (i := 4) sc_f_law_frame_like.nd rfl (by first | exact Or.inl rfl | exact Or.inr rfl)) (pss_one (ps_if (pt_cmpR (op_eqD (huD hrm)) (pe_ix ix_list (pv 3) (pv 4) (fun _ _ => rfl)) (pv 1) (nomark _)) (pss_one (ps_ret (pe_mG (.inl rfl) (pv 2) (c_Pairs T) (m_Pairs_frame T) (ok_Pairs_frame T) (hrm.mono (by decide)) (bd_Pairs_frame T) (pa_cons (pv 4) pa_nil)))) pss_nil)))))) (pss_one (ps_ret pe_non))), ?_⟩
  have six : ∀ k, (S.y k).lead.length ≤ 6 := fun k => by
    obtain ⟨r, W⟩ := A.wy k (G.on k)
    exact W.hi
  have gi : ∀ {i : Nat}, i < 2 → ([.ref (S.y (jj 0)).w, .ref (S.y (jj 1)).w] : List V)[i]? = some (.ref (S.y (jj i)).w) := fun {i} h => by
    match i, h with
    | 0, _ => rfl
    | 1, _ => rfl
  have ku : ∀ {c' : Col} {H' : Hp}, Keep0 S.c H c' H' → H' a = some (.lst [.ref (S.y (jj 0)).w, .ref (S.y (jj 1)).w]) := fun k' => (k' a _ ha (fun z => z)).1
  refine ⟨_, rfl, a, rfl, ⟨_, SqL.of ha⟩, ?_⟩
  refine for_it (walk_list (xs := [.ref (S.y (jj 0)).w, .ref (S.y (jj 1)).w])) (fun i σ H2 => ∃ (x2 x3 x4 : Option V) (c2 : Col), σ = [some (.ref a), some v, x2, x3, x4] ∧ At K n (S.sc c2) H2 ∧ Keep0 S.c H c2 H2 ∧ ∀ i' q, i' < i → q < (S.y (jj i')).lead.length → page S (jj i') q ≠ some ws) ?_ ?_ ?_ ?_
  · exact ⟨none, none, none, S.c, rfl, A, fun _ _ h _ => ⟨h, rfl⟩, fun i' q h => absurd h (Nat.not_lt_zero _)⟩
  · rintro i σ H2 hi ⟨x2, x3, x4, c2, rfl, A2, k2, h2⟩
    exact SqL.of (ku k2)
  · rintro i u σ H3 H2 hi ⟨x2, x3, x4, c2, rfl, A2, k2, h2⟩ ⟨rfl, hu⟩
    have hi2 : i < 2 := hi
    rw [gi hi2] at hu
    obtain rfl := Option.some.inj hu
    have on := G.on (jj i)
    have sx := six (jj i)
    obtain ⟨r2, W2⟩ := A2.wy (jj i) on
    refine ⟨_, rfl, _, _, _, rfl, W2.hw, rfl, n, S.sc c2, jj i, rfl, A2, G.sc, fun D1 c3 H3 hD1 k3 p3 => ?_⟩
    have k03 : Keep0 S.c H c3 H3 := k2.trans k3
    have A3 : At K n (S.sc c3) H3 := A.keep k03 (fun _ _ z => z) fun _ _ _ z => z
    obtain ⟨us, e1, e2, e3, e4⟩ := p3
    have e3' : us.length = (S.y (jj i)).lead.length := e3.trans pgs_len
    have hv3 := hv.keep k03 (fun z => z)
    refine ⟨_, rfl, _, _, rfl, .inl (SqL.of e1), (us.length : Int), rfl, by omega, by omega, ?_⟩
    have en : ((us.length : Nat) : Int).toNat = us.length := Int.toNat_natCast _
    rw [en]
    refine for_it (walk_range (lo := 0) (n := us.length)) (fun j σ H4 => ∃ x4 : Option V, σ = [some (.ref a), some v, some (.ref (S.y (jj i)).w), some (.ref D1), x4] ∧ H4 = H3 ∧ ∀ q, q < j → page S (jj i) q ≠ some ws) ⟨_, rfl, rfl, fun q h => absurd h (Nat.not_lt_zero _)⟩ (fun _ _ _ _ _ => trivial) ?_ ?_
    · rintro j u2 σ H5 H4 hj ⟨x4, rfl, rfl, h4⟩ ⟨rfl, rfl⟩
      have ez : (0 : Int) + (j : Int) = (j : Int) := by omega
      dsimp only
      rw [ez]
      have lj : j < (S.y (jj i)).lead.length := by omega
      have g1 : us[j]? = some (us[j]'hj) := List.getElem?_eq_getElem hj
      have d1 : PV c3 H4 (us[j]'hj) (page S (jj i) j) := e4 j _ _ g1 (pgs_at (S := S.sc c2) lj)
      refine ⟨_, rfl, _, rfl, _, _, _, _, rfl, rfl, SqL.of e1, atI_nat g1, _, rfl, _, _, d1.dp, hv3.dp, sh_pgD, sh_pgD, _, rfl, ?_⟩
      rw [eqv_pgD]
      by_cases hq : page S (jj i) j = some ws
      · rw [decide_eq_true hq]
        obtain ⟨r3, W3⟩ := A3.wy (jj i) on
        refine iteT ⟨_, rfl, _, _, _, rfl, W3.hw, rfl, _, rfl, n, S.sc c3, jj i, j, rfl, A3, on, ?_⟩
        cases hf : (S.y (jj i)).f j with
        | none =>
          unfold page at hq
          rw [hf] at hq
          cases hq
        | some g =>
          have hw : S.F.wd g = ws := by
            unfold page at hq
            rw [hf] at hq
            exact Option.some.inj hq
          have ef : ((S.sc c3).y (jj i)).f j = some g := hf
          rw [ef]
          exact q (jj i) j g c3 H4 A3 k03 hf hw
      · rw [decide_eq_false hq]
        refine iteF ⟨_, rfl, rfl, fun q' hq' => ?_⟩
        by_cases z : q' = j
        · rw [z]; exact hq
        · exact h4 q' (by omega)
    · rintro σ H4 ⟨x4, rfl, rfl, h4⟩
      refine ⟨_, _, _, c3, rfl, A3, k03, fun i' q' hi' hq' => ?_⟩
      by_cases z : i' = i
      · subst z
        exact h4 q' (by omega)
      · exact h2 i' q' (by omega) hq'
  · rintro σ H2 ⟨x2, x3, x4, c2, rfl, A2, k2, h2⟩
    exact absurd hp0 (h2 1 p0 (show 1 < 2 by decide) lp0)
def spGuarded (K : PySem.W.Frag) : Sp := fun vs H Q _ => ∃ (n : Nat) (S : Sy) (a : Addr) (g : Nat), vs = [.ref a, nv g] ∧ At K n S H ∧ Good S ∧ WaysAt S S.c H a ∧
  ∀ S' H', At K n S' H' → Good S' → S'.y = S.y → PgS S S' → (∀ j q, (S.y j).f q = some g → ¬ Wr S' j q) → KeepU S.c H S'.c H' → Q .non H'
theorem ok_f_law_guarded (T : Tx K mg) : FnC P w K mg base 9 (fAd K ("_law_guarded", none)) (fdat K ("_law_guarded", none)) ["_law_ways", "_law_frame"] (spGuarded K) := by
  refine fnC (fd_f_law_guarded T) sc_f_law_guarded (fun vs H Q E h => ?_) (fun cdv A0 outer s H vs Q E hrm h => ?_)
  · obtain ⟨n, S, a, g, rfl, _⟩ := h
    rfl
  obtain ⟨n, S, a, g, rfl, A, G, ⟨ha, ca⟩, q⟩ := h
  refine ⟨_, (pss_one (ps_for (passes_of rfl) rfl (pi_list (pv 0)) (pg_name (i := 2) sc_f_law_guarded.nd rfl (by first | exact Or.inl rfl | exact Or.inr rfl)) (pss_one (ps_for (passes_of rfl) rfl (pi_range1 (by rfl) (b_range T) (pa_cons (pe_m0 rfl (pv 2) (c_Pairs T) (m_Pairs_size T) (ok_Pairs_size T) (hrm.mono (by decide)) (bd_Pairs_size T) (E := E0s) (fun _ => passAt0)) pa_nil)) (pg_name (i := 3) sc_f_law_guarded.nd rfl (by first | exact Or.inl rfl | exact Or.inr rfl)) (pss_one (ps_if (pt_cmpR op_eq (pe_mG (.inl rfl) (pv 2) (c_Pairs T) (m_Pairs_frame T) (ok_Pairs_frame T) (hrm.mono (by decide)) (bd_Pairs_frame T) (pa_cons (pv 3) pa_nil)) (pv 1) (nomark _)) (pss_one (ps_expr (pe_m rfl (pv 2) (c_Pairs T) (m_Pairs_guard T) (ok_Pairs_guard T) (hrm.mono (by decide)) (bd_Pairs_guard T) (E := E0s) (fun _ => passAt0) (pa_cons (pv 3) pa_nil)))) pss_nil)))))), ?_⟩
  have six : ∀ k, (S.y k).lead.length ≤ 6 := fun k => by
    obtain ⟨r, W⟩ := A.wy k (G.on k)
    exact W.hi
  have ku : ∀ {c' : Col} {H' : Hp}, KeepU S.c H c' H' → H' a = some (.lst [.ref (S.y false).w, .ref (S.y true).w]) := fun k' => (k' a _ ha (by rw [ca]; exact fun z => z rfl)).1
  refine ⟨_, rfl, a, rfl, ⟨_, SqL.of ha⟩, ?_⟩
  refine for_it (walk_list (xs := [.ref (S.y false).w, .ref (S.y true).w])) (fun i σ H2 => ∃ (x2 x3 : Option V) (S2 : Sy), σ = [some (.ref a), some (nv g), x2, x3] ∧ At K n S2 H2 ∧ Good S2 ∧ S2.y = S.y ∧ PgS S S2 ∧ KeepU S.c H S2.c H2 ∧ ∀ i' q, i' < i → (S.y (wk i')).f q = some g → ¬ Wr S2 (wk i') q) ?_ ?_ ?_ ?_
  · exact ⟨none, none, S, rfl, A, G, rfl, .refl, fun _ _ h _ => ⟨h, rfl⟩, fun i' q h => absurd h (Nat.not_lt_zero _)⟩
  · rintro i σ H2 hi ⟨x2, x3, S2, rfl, A2, G2, y2, R2, k2, h2⟩
    exact SqL.of (ku k2)
  · rintro i u σ H3 H2 hi ⟨x2, x3, S2, rfl, A2, G2, y2, R2, k2, h2⟩ ⟨rfl, hu⟩
    have hi2 : i < 2 := hi
    rw [ways_get hi2] at hu
    obtain rfl := Option.some.inj hu
    have o2 := G2.on (wk i)
    obtain ⟨r2, W2⟩ := A2.wy (wk i) o2
    have sx := six (wk i)
    have hw2 := W2.hw
    rw [y2] at hw2
    refine ⟨_, rfl, _, _, _, rfl, hw2, rfl, n, S2, wk i, by rw [y2], A2, o2, ((S2.y (wk i)).lead.length : Int), rfl, by rw [y2]; omega, by rw [y2]; omega, ?_⟩
    have en : (((S2.y (wk i)).lead.length : Nat) : Int).toNat = (S.y (wk i)).lead.length := by rw [y2]; exact Int.toNat_natCast _
    rw [en]
    refine for_it (walk_range (lo := 0) (n := (S.y (wk i)).lead.length)) (fun j σ H4 => ∃ (x3 : Option V) (S4 : Sy), σ = [some (.ref a), some (nv g), some (.ref (S.y (wk i)).w), x3] ∧ At K n S4 H4 ∧ Good S4 ∧ S4.y = S.y ∧ PgS S S4 ∧ KeepU S.c H S4.c H4 ∧ (∀ i' q, i' < i → (S.y (wk i')).f q = some g → ¬ Wr S4 (wk i') q) ∧
      ∀ q, q < j → (S.y (wk i)).f q = some g → ¬ Wr S4 (wk i) q) ⟨_, S2, rfl, A2, G2, y2, R2, k2, h2, fun q h => absurd h (Nat.not_lt_zero _)⟩ (fun _ _ _ _ _ => trivial) ?_ ?_
    · rintro j u2 σ H5 H4 hj ⟨x3, S4, rfl, A4, G4, y4, R4, k4, h4, h5⟩ ⟨rfl, rfl⟩
      have ez : (0 : Int) + (j : Int) = (j : Int) := by omega
      dsimp only
      rw [ez]
      have o4 := G4.on (wk i)
      obtain ⟨r4, W4⟩ := A4.wy (wk i) o4
      have hw4 := W4.hw
      rw [y4] at hw4
      refine ⟨_, rfl, _, _, _, rfl, hw4, rfl, _, rfl, n, S4, wk i, j, by rw [y4], A4, o4, ?_⟩
      have nxt : ∀ (S5 : Sy), (∀ jx q, Wr S5 jx q → Wr S4 jx q) → (¬ Wr S5 (wk i) j ∨ (S.y (wk i)).f j ≠ some g) → (∀ i' q, i' < i → (S.y (wk i')).f q = some g → ¬ Wr S5 (wk i') q) ∧ ∀ q, q < j + 1 → (S.y (wk i)).f q = some g → ¬ Wr S5 (wk i) q := fun S5 hm hj5 => by
        refine ⟨fun i' q hi' hq hw => h4 i' q hi' hq (hm _ _ hw), fun q hq hf hw => ?_⟩
        by_cases z : q = j
        · subst z
          rcases hj5 with z1 | z1
          · exact z1 hw
          · exact z1 hf
        · exact h5 q (by omega) hf (hm _ _ hw)
      rw [y4]
      cases hf : (S.y (wk i)).f j with
      | none =>
        refine ⟨_, rfl, rfl, _, rfl, iteF ?_⟩
        obtain ⟨n1, n2⟩ := nxt S4 (fun _ _ z => z) (.inr (by rw [hf]; exact fun z => nomatch z))
        exact ⟨_, S4, rfl, A4, G4, y4, R4, k4, n1, n2⟩
      | some f =>
        refine ⟨_, rfl, rfl, _, rfl, ?_⟩
        by_cases e : f = g
        · subst e
          refine Eq.mpr (if_pos (show decide (nv f = nv f) = true from decide_eq_true rfl)) ?_
          refine ⟨_, rfl, _, _, _, rfl, hw4, rfl, _, rfl, n, S4, wk i, j, f, by rw [y4], A4, G4, by rw [y4]; exact hf, fun S5 H5 A5 G5 y5 R5 w5 n5 k5 => ?_⟩
          obtain ⟨n1, n2⟩ := nxt S5 w5 (.inl n5)
          exact ⟨_, S5, rfl, A5, G5, y5.trans y4, R4.trans R5, k4.trans k5, n1, n2⟩
        · refine Eq.mpr (if_neg (show ¬ decide (nv f = nv g) = true by rw [eq_nv]; exact fun z => e (of_decide_eq_true z))) ?_
          obtain ⟨n1, n2⟩ := nxt S4 (fun _ _ z => z) (.inr (by rw [hf]; exact fun z => e (Option.some.inj z)))
          exact ⟨_, S4, rfl, A4, G4, y4, R4, k4, n1, n2⟩
    · rintro σ H4 ⟨x3, S4, rfl, A4, G4, y4, R4, k4, h4, h5⟩
      refine ⟨_, _, S4, rfl, A4, G4, y4, R4, k4, fun i' q hi' hq => ?_⟩
      by_cases z : i' = i
      · subst z
        exact h5 q (Way.f_lt hq) hq
      · exact h4 i' q (by omega) hq
  · rintro σ H2 ⟨x2, x3, S2, rfl, A2, G2, y2, R2, k2, h2⟩
    refine q S2 H2 A2 G2 y2 R2 (fun j q hq => ?_) k2
    cases j with
    | false => exact h2 0 q (show 0 < 2 by decide) hq
    | true => exact h2 1 q (show 1 < 2 by decide) hq
def spKeeps (K : PySem.W.Frag) : Sp := fun vs H Q _ => ∃ (n : Nat) (S : Sy) (a t : Addr) (i : Nat) (nm : Str) (x y : Nat) (kn : Bool), vs = [.ref a, nv i, .ref t] ∧ i < 2 ∧ At K n S H ∧ Good S ∧ WaysAt S S.c H a ∧ DeedAt H t nm x y kn ∧ S.c t = .no ∧
  ∀ S' H', At K n S' H' → Good S' → PgS S S' → KeepU S.c H S'.c H' → Q .non H'
theorem ok_f_law_keeps (T : Tx K mg) : FnC P w K mg base 10 (fAd K ("_law_keeps", none)) (fdat K ("_law_keeps", none)) ["_law_ways", "_law_which", "_law_deed"] (spKeeps K) := by
  refine fnC (fd_f_law_keeps T) sc_f_law_keeps (fun vs H Q E h => ?_) (fun cdv A0 outer s H vs Q E hrm h => ?_)
  · obtain ⟨n, S, a, t, i, nm, x, y, kn, rfl, _⟩ := h
    rfl
  obtain ⟨n, S, a, t, i, nm, x, y, kn, rfl, hi, A, G, ⟨ha, ca⟩, ⟨ht, lx, ly⟩, ct, q⟩ := h
  refine ⟨_, (pss_cons (ps_set (i := 3) sc_f_law_keeps.nd rfl (by first | exact Or.inl rfl | exact Or.inr rfl) (pe_ix ix_list (pv 0) (pv 1) (fun _ _ => rfl))) (pss_cons (ps_set (i := 4) sc_f_law_keeps.nd rfl (by first | exact Or.inl rfl | exact Or.inr rfl) (pe_op op_mod (pe_ix ix_tup (pv 2) pe_int (fun _ _ => rfl)) (pe_m0 rfl (pv 3) (c_Pairs T) (m_Pairs_size T) (ok_Pairs_size T) (hrm.mono (by decide)) (bd_Pairs_size T) (E := E0s) (fun _ => passAt0)))) (pss_one (ps_if (pt_cmpR op_eq (pe_op op_mod (pe_ix ix_tup (pv 2) pe_int (fun _ _ => rfl)) pe_int) pe_int (nomark _)) (pss_one (ps_expr (pe_m0 rfl (pv 3) (c_Pairs T) (m_Pairs_clean T) (ok_Pairs_clean T) (hrm.mono (by decide)) (bd_Pairs_clean T) (E := E0s) (fun _ => passAt0)))) (pss_one (ps_if (PW.pt (pw_and (pt_cmpR op_notN (pe_mG (.inl rfl) (pv 3) (c_Pairs T) (m_Pairs_frame T) (ok_Pairs_frame T) (hrm.mono (by decide)) (bd_Pairs_frame T) (pa_cons (pv 4) pa_nil)) pe_non (nomark _)) (pw_and1 (pt_cmpR op_eq (pe_op op_mod (pe_ix ix_tup (pv 2) pe_int (fun _ _ => rfl)) pe_int) pe_int (nomark _))))) (pss_one (ps_expr (pe_m rfl (pv 3) (c_Pairs T) (m_Pairs_guard T) (ok_Pairs_guard T) (hrm.mono (by decide)) (bd_Pairs_guard T) (E := E0s) (fun _ => passAt0) (pa_cons (pv 4) pa_nil)))) (pss_one (ps_if (pt_cmpR op_notN (pe_mG (.inl rfl) (pv 3) (c_Pairs T) (m_Pairs_frame T) (ok_Pairs_frame T) (hrm.mono (by decide)) (bd_Pairs_frame T) (pa_cons (pv 4) pa_nil)) pe_non (nomark _)) (pss_cons (ps_set (i := 5) sc_f_law_keeps.nd rfl (by first | exact Or.inl rfl | exact Or.inr rfl) (pe_f rfl (ok_f_law_frame_like T) (hrm.mono (by decide)) (by rfl) (g_law_frame_like T) (fd_f_law_frame_like T).kp (bd_f_law_frame_like T) (E := E0s) (fun _ => passAt0) (pa_cons (pe_lst (pa_cons (pe_ix ix_list (pv 0) (pe_op op_sub pe_int (pv 1)) (fun _ _ => rfl)) (pa_cons (pv 3) pa_nil))) (pa_cons (pe_ix ix_list (pe_m0 rfl (pv 3) (c_Pairs T) (m_Pairs_pages T) (ok_Pairs_pages T) (hrm.mono (by decide)) (bd_Pairs_pages T) (E := E0s) (fun _ => passAt0)) (pv 4) (fun _ _ => rfl)) pa_nil)))) (pss_cons (ps_expr (pe_f rfl (ok_f_law_guarded T) (hrm.mono (by decide)) (by rfl) (g_law_guarded T) (fd_f_law_guarded T).kp (bd_f_law_guarded T) (E := E0s) (fun _ => passAt0) (pa_cons (pv 0) (pa_cons (pv 5) pa_nil)))) (pss_one (ps_expr (pe_m rfl (pv 3) (c_Pairs T) (m_Pairs_lead T) (ok_Pairs_lead T) (hrm.mono (by decide)) (bd_Pairs_lead T) (E := E0s) (fun _ => passAt0) (pa_cons (pv 4) (pa_cons (pv 5) pa_nil))))))) pss_nil)))))))), ?_⟩
  have on := G.on (wk i)
  obtain ⟨r, W⟩ := A.wy (wk i) on
  have h6 := W.hi
  have h3 := W.lo
  have ku : ∀ {c' : Col} {H' : Hp}, KeepU S.c H c' H' → H' a = some (.lst [.ref (S.y false).w, .ref (S.y true).w]) := fun k' => (k' a _ ha (by rw [ca]; exact fun z => z rfl)).1
  have ix : ∀ {i : Nat} {v : V}, ([V.str nm, nv x, nv y, V.bl kn] : List V)[i]? = some v → atI [V.str nm, nv x, nv y, V.bl kn] (i : Int) = some v := fun h => atI_nat h
  refine ⟨_, rfl, _, rfl, _, _, _, _, rfl, rfl, SqL.of ha, atI_nat (ways_get hi), ?_⟩
  refine ⟨_, rfl, _, _, _, _, rfl, rfl, SqT.of ht, ix (i := 1) rfl, _, rfl, _, _, _, rfl, W.hw, rfl, n, S, wk i, rfl, A, on, _, _, rfl, rfl, by show (0 : Int) < ((S.y (wk i)).lead.length : Int); omega, ?_⟩
  dsimp only
  obtain ⟨p, ep, lp⟩ := emod_nat (i := (x : Int)) (j := ((S.y (wk i)).lead.length : Int)) (by omega)
  rw [ep]
  refine ⟨_, rfl, _, _, _, _, rfl, rfl, SqT.of ht, ix (i := 2) rfl, _, (4 : Int), rfl, rfl, by show (0 : Int) < 4; decide, rfl, _, rfl, iteB (fun _ => ?_) (fun _ => ?_)⟩
  · exact ⟨_, rfl, _, _, _, rfl, W.hw, rfl, n, S, wk i, rfl, A, G, fun S' H' A' G' R' k' => q S' H' A' G' R' k'⟩
  refine ⟨_, rfl, _, _, _, rfl, W.hw, rfl, _, rfl, n, S, wk i, p, rfl, A, on, ?_⟩
  cases hf : (S.y (wk i)).f p with
  | none =>
    refine ⟨rfl, _, rfl, iteF (iteF ⟨_, rfl, _, _, _, rfl, W.hw, rfl, _, rfl, n, S, wk i, p, rfl, A, on, ?_⟩)⟩
    rw [hf]
    exact ⟨rfl, _, rfl, iteF (q S H A G .refl (fun _ _ h _ => ⟨h, rfl⟩))⟩
  | some f =>
    refine ⟨rfl, _, rfl, iteT ⟨_, rfl, _, _, _, _, rfl, rfl, SqT.of ht, ix (i := 2) rfl, _, (4 : Int), rfl, rfl, by show (0 : Int) < 4; decide, rfl, _, rfl, iteB (fun _ => ?_) (fun _ => ?_)⟩⟩
    · exact ⟨_, rfl, _, _, _, rfl, W.hw, rfl, _, rfl, n, S, wk i, p, f, rfl, A, G, hf, fun S' H' A' G' _ R' _ _ k' => q S' H' A' G' R' k'⟩
    refine ⟨_, rfl, _, _, _, rfl, W.hw, rfl, _, rfl, n, S, wk i, p, rfl, A, on, ?_⟩
    rw [hf]
    refine ⟨rfl, _, rfl, iteT ?_⟩
    have e1 : (1 : Int) - (i : Int) = ((1 - i : Nat) : Int) := by omega
    refine ⟨_, rfl, _, rfl, _, _, rfl, rfl, ?_⟩
    dsimp only
    rw [e1]
    refine ⟨_, _, _, _, rfl, rfl, SqL.of ha, atI_nat (ways_get (i := 1 - i) (by omega)), _, rfl, len2', fun D1 hD1 => ?_⟩
    have k1 : Keep0 S.c H (colS S.c D1 .no) (L2.upd H D1 (.lst [.ref (S.y (wk (1 - i))).w, .ref (S.y (wk i)).w])) := .newC hD1
    have A1 : At K n (S.sc (colS S.c D1 .no)) (L2.upd H D1 (.lst [.ref (S.y (wk (1 - i))).w, .ref (S.y (wk i)).w])) := A.newC hD1
    obtain ⟨r1, W1⟩ := A1.wy (wk i) on
    have c1D : colS S.c D1 .no D1 = .no := colS_same
    refine ⟨_, rfl, _, _, _, rfl, W1.hw, rfl, n, S.sc (colS S.c D1 .no), wk i, rfl, A1, G.sc, fun D2 c2 H2 hD2 k2 p2 => ?_⟩
    have k02 : Keep0 S.c H c2 H2 := k1.trans k2
    have A2 : At K n (S.sc c2) H2 := A.keep k02 (fun _ _ z => z) fun _ _ _ z => z
    obtain ⟨us, f1, f2, f3, f4⟩ := p2
    have f3' : us.length = (S.y (wk i)).lead.length := f3.trans pgs_len
    have lpn : p < (S.y (wk i)).lead.length := by omega
    have g1 : us[p]? = some (us[p]'(by omega)) := List.getElem?_eq_getElem (by omega)
    have d1 : PV c2 H2 (us[p]'(by omega)) (page S (wk i) p) := f4 p _ _ g1 (pgs_at (S := S.sc (colS S.c D1 .no)) lpn)
    have epg : page S (wk i) p = some (S.F.wd f) := by
      unfold page
      rw [hf]
      rfl
    rw [epg] at d1
    obtain ⟨hD1', cD1'⟩ := k2 D1 _ upd_same (fun z => z)
    refine ⟨_, rfl, _, _, _, _, rfl, rfl, SqL.of f1, atI_nat g1, ?_⟩
    refine ⟨n, S.sc c2, D1, us[p]'(by omega), S.F.wd f, fun m => if m = 0 then wk (1 - i) else wk i, p, rfl, A2, G.sc, ?_, cD1'.trans c1D, d1, ?_, ?_, fun j q0 g c3 H3 A3 k3 hg hwd => ?_⟩
    · exact hD1'
    · exact lpn
    · exact epg
    have k03 : Keep0 S.c H c3 H3 := k02.trans k3
    have A3' : At K n (S.sc c3) H3 := A3
    have ku03 : KeepU S.c H c3 H3 := k03.u fun z => z
    have c3a : c3 a = .no := ((ku03 a _ ha (by rw [ca]; exact fun z => z rfl)).2).trans ca
    refine ⟨_, rfl, _, rfl, n, S.sc c3, a, g, rfl, A3', G.sc, ⟨ku ku03, c3a⟩, fun S4 H4 A4 G4 y4 R4 nw4 k4 => ?_⟩
    have y4' : S4.y = S.y := y4
    have o4 := G4.on (wk i)
    obtain ⟨r4, W4⟩ := A4.wy (wk i) o4
    have hw4 := W4.hw
    rw [y4'] at hw4
    have hfg : (S.y j).f q0 = some g := hg
    have wd_eq : ∀ {jx : Bool} {qx gx : Nat}, (S.y jx).f qx = some gx → S4.F.wd gx = S.F.wd gx := fun {jx qx gx} h => by
      have z := R4.pg jx qx
      unfold page at z
      rw [y4'] at z
      have h' : ((S.sc c3).y jx).f qx = some gx := h
      rw [h, h'] at z
      exact Option.some.inj z
    refine ⟨_, rfl, _, _, _, rfl, hw4, rfl, _, rfl, _, rfl, n, S4, wk i, p, f, g, j, q0, by rw [y4'], A4, G4, by rw [y4']; exact hf, by rw [y4']; exact hfg, ?_, fun jx qx hx => ?_, fun S5 H5 A5 G5 R5 k5 => ?_⟩
    · rw [wd_eq hfg, wd_eq hf]
      exact hwd
    · rw [y4'] at hx
      exact nw4 jx qx hx
    · have R4' : PgS S S4 := ⟨R4.g, R4.obj, R4.len, R4.pg, R4.sz⟩
      exact q S5 H5 A5 G5 (R4'.trans R5) ((ku03.trans k4).trans k5)
end K6
/-! The law. -/
namespace K6
open PySem PySem.Spec PyProof.Rows L2 HotX L2H He
variable {P : Program} {w : World} {K : PySem.W.Frag} {mg : Str → Option Value} {base : Heap}
theorem ok_iRow {F : Frs} {f : Option Nat} : RowOk F f (iRow f) := by
  cases f with
  | none => exact .inl rfl
  | some g =>
    show (256 * g + 1) % 2 = 1 ∧ (256 * g + 1) / 256 = g ∧ ((256 * g + 1) / 2 % 2 = 1 → F.o g = 1)
    exact ⟨by omega, by omega, fun z => by omega⟩
theorem good_made {S0 S1 S2 : Sy} {ps : List (Option (List Nat))} (h0 : ∀ g, S0.F.o g = 0) (p0 : S0.F.pl = 0) (m0 : S0.F.ow.sum = 0) (room : 2 * (2 + nsO ps) ≤ S0.F.ow.length)
    (M1 : Made S0 S1 false ps) (M2 : Made S1 S2 true ps) : Good S2 := by
  have yf : S2.y false = S1.y false := M2.oth false (by decide)
  have o1 : ∀ g, S1.F.o g = cw (S1.y false) g := fun g => by rw [M1.o, h0]; omega
  have o2 : ∀ g, S2.F.o g = cw (S2.y true) g + cw (S2.y false) g := fun g => by rw [M2.o, o1, yf]; omega
  have z2 : ∀ g, 0 < S1.F.o g → cw (S2.y true) g = 0 := fun g hg => by
    have h1 := M2.o g
    by_cases z : 0 < cw (S2.y true) g
    · have := M2.one g z
      omega
    · omega
  have pt : 0 < S1.F.o (S1.y false).t := by rw [M1.tb.1]; decide
  have pl : 0 < S1.F.o (S1.y false).l := by rw [M1.tb.2]; decide
  refine ⟨fun k => ?_, fun k => ?_, fun k p hp => ?_, o2, fun k => ?_, ?_, ?_, ?_⟩
  · cases k with
    | true => exact (M2.on true).mpr (.inl rfl)
    | false => exact (M2.on false).mpr (.inr ((M1.on false).mpr (.inl rfl)))
  · cases k with
    | true => exact ⟨_, M2.top, by omega, by omega⟩
    | false =>
      rw [yf]
      exact ⟨_, by rw [M2.wd _ pt]; exact M1.top, by omega, by omega⟩
  · cases k with
    | true => exact ⟨_, M2.row p hp, fun _ => ok_iRow⟩
    | false =>
      rw [yf] at hp ⊢
      exact ⟨_, by rw [M2.wd _ pl]; exact M1.row p hp, fun _ => ok_iRow⟩
  · cases k with
    | true => exact M2.tb
    | false =>
      rw [yf, M2.o, M2.o, z2 _ pt, z2 _ pl]
      exact ⟨M1.tb.1, M1.tb.2⟩
  · rw [M2.sum, M1.sum, m0, M2.nsl, yf, M1.nsl]
    omega
  · have e1 := M1.pl
    have e2 := M2.pl
    have e3 := M1.sum
    have e4 := M2.sum
    rw [e2, e1, p0, e4, e3, m0]
    omega
  · have e3 := M1.sum
    have e4 := M2.sum
    rw [e4, e3, m0, M2.n, M1.n]
    omega
theorem cut_int {xs : List Int} {lo hi : Option Int} : cutV (xs.map V.int) lo hi = ((xs.drop (HT.sIx xs.length 0 lo)).take (HT.sIx xs.length xs.length hi - HT.sIx xs.length 0 lo)).map V.int := by
  unfold cutV
  rw [List.length_map, ← List.map_drop, ← List.map_take]
def spLaw (K : PySem.W.Frag) : Sp := fun vs H Q _ => ∃ (a : Addr) (ns : List Int), vs = [.ref a] ∧ SqL K H a (ns.map V.int) ∧ ns.length ≤ 63 ∧ ∀ H', Q (.bl true) H'
theorem sq_keep {c c' : Col} {H H' : Hp} {a : Addr} {xs : List V} (h : SqL K H a xs) (s : ∀ b o, H b = some o → H' b = some o) : SqL K H' a xs :=
  h.elim (fun h => .inl (h.elim (fun h => .inl (s _ _ h)) fun ⟨o, h⟩ => .inr ⟨o, s _ _ h⟩)) .inr
/-- the lists of pages before the deed -/
def dd (D1 D2 : Addr) : Nat → Addr
  | 0 => D1
  | _ => D2
theorem dd_get {D1 D2 : Addr} {i : Nat} (h : i < 2) : ([V.ref D1, V.ref D2] : List V)[i]? = some (.ref (dd D1 D2 i)) := by
  match i, h with
  | 0, _ => rfl
  | 1, _ => rfl
theorem wk_not {i : Nat} (h : i < 2) : wk (1 - i) = !(wk i) := by
  match i, h with
  | 0, _ => rfl
  | 1, _ => rfl
/-- what stands at the head of each turn -/
structure Turn0 (K : PySem.W.Frag) (n : Nat) (S : Sy) (H : Hp) (g Wl D Cl : Addr) (sz : Nat) (cs : List Int) : Prop where
  A : At K n S H
  G : Good S
  W : WaysAt S S.c H Wl
  len : ∀ k, (S.y k).lead.length = sz
  hg : S.F.g = g
  pgs : ∃ us, H D = some (.lst us) ∧ us.length = sz ∧ S.c D = .no
  cl : H Cl = some (.lst (cs.map V.int)) ∧ S.c Cl = .no
theorem ok_f_law (T : Tx K mg) : FnC P w K mg base 18 (fAd K ("law", none)) (fdat K ("law", none)) ["_law_script"] (spLaw K) := by
  refine fnC (fd_f_law T) sc_f_law (fun vs H Q E h => ?_) (fun cdv A0 outer s H vs Q E hrm h => ?_)
  · obtain ⟨a, ns, rfl, _⟩ := h
    rfl
  obtain ⟨a, ns, rfl, hS, hl, q⟩ := h
  refine ⟨_, (pss_cons (ps_set (i := 1) sc_f_law.nd rfl (by first | exact Or.inl rfl | exact Or.inr rfl) (pe_f rfl (ok_f_law_cell_at T) (hrm.mono (by decide)) (by rfl) (g_law_cell_at T) (fd_f_law_cell_at T).kp (bd_f_law_cell_at T) (E := E0s) (fun _ => passAt0) (pa_cons (pv 0) (pa_cons pe_int pa_nil)))) (pss_cons (ps_set (i := 2) sc_f_law.nd rfl (by first | exact Or.inl rfl | exact Or.inr rfl) (pe_f rfl (ok_f_law_image T) (hrm.mono (by decide)) (by rfl) (g_law_image T) (fd_f_law_image T).kp (bd_f_law_image T) (E := E0s) (fun _ => passAt0) (pa_cons (pe_f rfl (ok_f_law_cell_at T) (hrm.mono (by decide)) (by rfl) (g_law_cell_at T) (fd_f_law_cell_at T).kp (bd_f_law_cell_at T) (E := E0s) (fun _ => passAt0) (pa_cons (pv 0) (pa_cons pe_int pa_nil))) (pa_cons (pe_op op_add pe_int (pe_op op_mod (pv 1) pe_int)) pa_nil)))) (pss_cons (ps_set (i := 3) sc_f_law.nd rfl (by first | exact Or.inl rfl | exact Or.inr rfl) (pe_mk rfl (k_Frames T) (ok_Frames_init T) (hrm.mono (by decide)) (by rfl) (g_Frames T) (bd_Frames_init T) (pa_cons (pe_op op_add (pe_op op_mul pe_int (pe_op op_add pe_int (pe_callB call_len_seq (by rfl) (b_len T) q_len (pa_cons (pe_lc (own := [("_law_words", 4)]) (g := gName 4) rfl sc_f_law.nd (pi_list (pv 2)) (blkOk_by (own := [("_law_words", 4)]) (N := ["_law_script", "_law_first", "_law_pages", "_law_frames", "_law_words", "_law_ways", "_law_k", "_law_cell", "_law_which", "_law_deed", "_law_ahead"]) (sc := (defScope s_f_law)) (by decide +kernel)) (fun _ _ _ _ _ => pg_name (i := 4) sc_f_law.nd rfl (by first | exact Or.inl rfl | exact Or.inr rfl)) (fun _ _ _ _ _ => (pts_one (pt_cmpR op_notN (pv 4) pe_non (nomark _)))) (fun _ _ _ _ _ => (pv 4))) pa_nil)))) (pe_op op_mod (pe_op op_fdiv (pv 1) pe_int) pe_int)) pa_nil))) (pss_cons (ps_set (i := 5) sc_f_law.nd rfl (by first | exact Or.inl rfl | exact Or.inr rfl) (pe_lst (pa_cons (pe_mk rfl (k_Pairs T) (ok_Pairs_init T) (hrm.mono (by decide)) (by rfl) (g_Pairs T) (bd_Pairs_init T) (pa_cons (pv 3) (pa_cons (pe_f rfl (ok_f_law_copy T) (hrm.mono (by decide)) (by rfl) (g_law_copy T) (fd_f_law_copy T).kp (bd_f_law_copy T) (E := E0s) (fun _ => passAt0) (pa_cons (pv 2) pa_nil)) (pa_cons (pe_op op_add pe_int (pe_op op_mod (pe_op op_fdiv (pv 1) pe_int) pe_int)) pa_nil)))) (pa_cons (pe_mk rfl (k_Pairs T) (ok_Pairs_init T) (hrm.mono (by decide)) (by rfl) (g_Pairs T) (bd_Pairs_init T) (pa_cons (pv 3) (pa_cons (pe_f rfl (ok_f_law_copy T) (hrm.mono (by decide)) (by rfl) (g_law_copy T) (fd_f_law_copy T).kp (bd_f_law_copy T) (E := E0s) (fun _ => passAt0) (pa_cons (pv 2) pa_nil)) (pa_cons pe_int pa_nil)))) pa_nil)))) (pss_cons (ps_for (passes_of rfl) rfl (pi_enum (by rfl) (b_enumerate T) (pa_cons (pe_slice sl_list (pv 0) (po_some pe_int) (po_some pe_int)) pa_nil)) (pg_tupG (.inl rfl) (pgs_cons (pg_name (i := 6) sc_f_law.nd rfl (by first | exact Or.inl rfl | exact Or.inr rfl)) (pgs_cons (pg_name (i := 7) sc_f_law.nd rfl (by first | exact Or.inl rfl | exact Or.inr rfl)) pgs_nil))) (pss_cons (ps_set (i := 8) sc_f_law.nd rfl (by first | exact Or.inl rfl | exact Or.inr rfl) (pe_callTy call_int1 (by rfl) (b_int T) q_int (pa_cons (pe_cmpR op_eq (pe_op op_mod (pe_op op_fdiv (pv 7) pe_int) pe_int) pe_int (nomark _)) pa_nil))) (pss_cons (ps_set (i := 9) sc_f_law.nd rfl (by first | exact Or.inl rfl | exact Or.inr rfl) (pe_f rfl (ok_f_law_deed_of T) (hrm.mono (by decide)) (by rfl) (g_law_deed_of T) (fd_f_law_deed_of T).kp (bd_f_law_deed_of T) (E := E0s) (fun _ => passAt0) (pa_cons (pv 7) (pa_cons (pv 6) (pa_cons (pe_callB call_len_seq (by rfl) (b_len T) q_len (pa_cons (pv 2) pa_nil)) pa_nil))))) (pss_cons (ps_set (i := 10) sc_f_law.nd rfl (by first | exact Or.inl rfl | exact Or.inr rfl) (pe_lst (pa_cons (pe_m0 rfl (pe_ix ix_list (pv 5) pe_int (fun _ _ => rfl)) (c_Pairs T) (m_Pairs_pages T) (ok_Pairs_pages T) (hrm.mono (by decide)) (bd_Pairs_pages T) (E := E0s) (fun _ => passAt0)) (pa_cons (pe_m0 rfl (pe_ix ix_list (pv 5) pe_int (fun _ _ => rfl)) (c_Pairs T) (m_Pairs_pages T) (ok_Pairs_pages T) (hrm.mono (by decide)) (bd_Pairs_pages T) (E := E0s) (fun _ => passAt0)) pa_nil)))) (pss_cons (ps_if (pt_cmpR op_eq (pe_ix ix_tup (pv 9) pe_int (fun _ _ => rfl)) pe_str (nomark _)) (pss_one (ps_expr (pe_f rfl (ok_f_law_keeps T) (hrm.mono (by decide)) (by rfl) (g_law_keeps T) (fd_f_law_keeps T).kp (bd_f_law_keeps T) (E := E0s) (fun _ => passAt0) (pa_cons (pv 5) (pa_cons (pv 8) (pa_cons (pv 9) pa_nil)))))) (pss_one (ps_if (pt_not (pt_val (pe_f rfl (ok_f_law_good T) (hrm.mono (by decide)) (by rfl) (g_law_good T) (fd_f_law_good T).kp (bd_f_law_good T) (E := E0s) (fun _ => passAt0) (pa_cons (pe_f rfl (ok_f_law_answer T) (hrm.mono (by decide)) (by rfl) (g_law_answer T) (fd_f_law_answer T).kp (bd_f_law_answer T) (E := E0s) (fun _ => passAt0) (pa_cons (pe_ix ix_list (pv 5) (pv 8) (fun _ _ => rfl)) (pa_cons (pv 9) pa_nil))) pa_nil)))) (pss_one (ps_ret pe_bl)) pss_nil))) (pss_cons (ps_if (PW.pt (pw_or (pt_cmpR (op_neD (huD hrm)) (pe_m0 rfl (pe_ix ix_list (pv 5) (pe_op op_sub pe_int (pv 8)) (fun _ _ => rfl)) (c_Pairs T) (m_Pairs_pages T) (ok_Pairs_pages T) (hrm.mono (by decide)) (bd_Pairs_pages T) (E := E0s) (fun _ => passAt0)) (pe_ix ix_list (pv 10) (pe_op op_sub pe_int (pv 8)) (fun _ _ => rfl)) (nomark _)) (pw_or1 (pt_not (pt_val (pe_f rfl (ok_f_law_stays T) (hrm.mono (by decide)) (by rfl) (g_law_stays T) (fd_f_law_stays T).kp (bd_f_law_stays T) (E := E0s) (fun _ => passAt0) (pa_cons (pe_ix ix_list (pv 5) (pv 8) (fun _ _ => rfl)) (pa_cons (pe_ix ix_list (pv 10) (pv 8) (fun _ _ => rfl)) (pa_cons (pe_ix ix_tup (pv 9) pe_int (fun _ _ => rfl)) pa_nil))))))))) (pss_one (ps_ret pe_bl)) pss_nil) (pss_one (ps_if (PW.pt (pw_or (pt_not (pt_val (pe_f rfl (ok_f_law_right T) (hrm.mono (by decide)) (by rfl) (g_law_right T) (fd_f_law_right T).kp (bd_f_law_right T) (E := E0s) (fun _ => passAt0) (pa_cons (pv 3) (pa_cons (pe_ix ix_list (pv 5) pe_int (fun _ _ => rfl)) pa_nil))))) (pw_or (pt_not (pt_val (pe_f rfl (ok_f_law_right T) (hrm.mono (by decide)) (by rfl) (g_law_right T) (fd_f_law_right T).kp (bd_f_law_right T) (E := E0s) (fun _ => passAt0) (pa_cons (pv 3) (pa_cons (pe_ix ix_list (pv 5) pe_int (fun _ _ => rfl)) pa_nil))))) (pw_or1 (pt_not (pt_val (pe_f rfl (ok_f_law_owned T) (hrm.mono (by decide)) (by rfl) (g_law_owned T) (fd_f_law_owned T).kp (bd_f_law_owned T) (E := E0s) (fun _ => passAt0) (pa_cons (pv 3) (pa_cons (pv 5) pa_nil))))))))) (pss_one (ps_ret pe_bl)) pss_nil)))))))) (pss_one (ps_ret pe_bl))))))), ?_⟩
  obtain ⟨c0, hc0⟩ : ∃ c0 : Col, c0 = fun _ => Tag.no := ⟨_, rfl⟩
  refine ⟨_, rfl, a, ns, 0, rfl, hS, fun f0 => ?_⟩
  refine ⟨_, rfl, a, ns, 1, rfl, hS, fun f1 => ?_⟩
  obtain ⟨z, ez, lz⟩ := emod_nat (i := f0) (j := 4) (by decide)
  obtain ⟨sz, hsz⟩ : ∃ sz, sz = 3 + z := ⟨_, rfl⟩
  refine ⟨_, rfl, _, (4 : Int), rfl, rfl, by show (0 : Int) < 4; decide, _, _, rfl, rfl, c0, f1, sz, congrArg (fun z => [V.int f1, V.int z]) (show (3 : Int) + f0 % 4 = (sz : Int) by omega), by omega, by omega, fun D c1 ps H1 k1 pg1 okw lps => ?_⟩
  obtain ⟨us, hD1, cD1, lus, hv1⟩ := pg1
  have pg1 : PgsAt c1 H1 D ps := ⟨us, hD1, cD1, lus, hv1⟩
  have s01 : ∀ b o, H b = some o → H1 b = some o := fun b o e => (k1 b o e (fun z => z)).1
  -- the frames
  refine ⟨_, rfl, D, rfl, ⟨_, SqL.of hD1⟩, fun E1 hE1 => ?_⟩
  refine lc_it (walk_list (xs := us)) (fun i H3 => Same H1 H3 ∧ ∃ fl : List V, H3 E1 = some (.lst fl) ∧ fl.length = nsO (ps.take i)) ⟨same_new hE1, [], upd_same, rfl⟩ (fun i H3 _ e => SqL.of (e.1 _ _ hD1)) ?_ ?_
  · rintro i v H4 H3 hi ⟨s3, fl, hD3, hfl⟩ ⟨rfl, hv⟩
    refine ⟨rfl, ?_⟩
    have hpi : ps[i]? = some (ps[i]'(by omega)) := List.getElem?_eq_getElem (by omega)
    have pvx := hv1 i v _ hv hpi
    have nt2 := nsO_take hpi
    have lim : fl.length < sizeLine := by
      have := nsO_le (l := ps) (i := i)
      have h2 : nsO ps ≤ ps.length := List.countP_le_length
      rw [sizeLine_eq]
      omega
    cases ho : ps[i]'(by omega) with
    | none =>
      rw [ho] at pvx nt2
      obtain rfl : v = .non := pvx
      exact ⟨_, rfl, rfl, _, rfl, iteF ⟨s3, fl, hD3, by rw [hfl, nt2]; rfl⟩⟩
    | some ws =>
      rw [ho] at pvx nt2
      obtain ⟨b, rfl, hb, cb⟩ := pvx
      refine ⟨_, rfl, rfl, _, rfl, iteT ⟨_, rfl, fl, hD3, lim, fun b o e => ?_, fl ++ [.ref b], upd_same, by rw [List.length_append, hfl, nt2]; rfl⟩⟩
      rw [upd_ne (ne_of_none e hE1)]
      exact s3 _ _ e
  rintro H3 ⟨s3, fl, hD3, hfl⟩
  have et : ps.take us.length = ps := by rw [lus, List.take_length]
  rw [et] at hfl
  have nle : nsO ps ≤ ps.length := List.countP_le_length
  obtain ⟨z3, ez3, lz3⟩ := emod_nat (i := f0 / 4) (j := 3) (by decide)
  obtain ⟨many, hmany⟩ : ∃ many, many = 2 * (2 + nsO ps) + z3 := ⟨_, rfl⟩
  refine ⟨E1, fl, rfl, .inl (SqL.of hD3), _, _, rfl, rfl, _, _, rfl, rfl, .inl ⟨by decide, by decide⟩, _, rfl, _, (4 : Int), rfl, rfl, cd (by decide) (by decide), _, (3 : Int), rfl, rfl, by show (0 : Int) < 3; decide, _, _, rfl, rfl, fun x dx hx hdx nedx => ?_⟩
  have em : (2 : Int) * (2 + (fl.length : Nat)) + f0 / 4 % 3 = (many : Int) := by rw [ez3]; omega
  dsimp only
  rw [em]
  refine ⟨x, dx, many, colS (colS c1 dx .no) x .fg, rfl, by omega, by omega, upd_same, colS_same, fun F c4 H4 fg fow fpl A4 k4 => ⟨rfl, ?_⟩⟩
  subst fg
  have k34 : KeepU c1 H3 c4 H4 := ((newU hdx).trans (.newC (by rw [upd_ne nedx.symm]; exact hx))).trans (KeepU.isF k4)
  have k14 : KeepU c1 H1 c4 H4 := (Keep.same s3).trans k34
  obtain ⟨S0, hS0⟩ : ∃ S0 : Sy, S0 = { F := F, y := fun _ => ⟨0, 0, 0, 0, 0, 0, 0, 0, 0, 0, []⟩, on := fun _ => False, c := c4 } := ⟨_, rfl⟩
  have A0 : At K 0 S0 H4 := by
    rw [hS0]
    exact ⟨A4, fun k h => h.elim⟩
  have F0e : S0.F = F := by rw [hS0]
  have c0e : S0.c = c4 := by rw [hS0]
  have off : ∀ k, ¬ S0.on k := fun k h => by rw [hS0] at h; exact h
  have sum0 : F.ow.sum = 0 := by
    rw [fow]
    have hr : ∀ m : Nat, (List.replicate m 0).sum = 0 := fun m => by
      induction m with
      | zero => rfl
      | succ m ih => rw [List.replicate_succ, List.sum_cons, ih]
    exact hr many
  have len0 : F.ow.length = many := by rw [fow, List.length_replicate]
  have o0 : ∀ g, F.o g = 0 := fun g => by
    unfold Frs.o
    rw [fow, List.getD_eq_getElem?_getD, List.getElem?_replicate]
    split <;> rfl
  have pg4 := pg1.keep k14 (fun z => z rfl)
  -- the first way
  refine ⟨_, rfl, _, rfl, c4, D, ps, rfl, pg4, by omega, fun D5 c5 H5 k45 pg5 => ?_⟩
  obtain ⟨z12, ez12, lz12⟩ := emod_nat (i := f0 / 12) (j := 12) (by decide)
  refine ⟨_, rfl, _, (12 : Int), rfl, rfl, cd (by decide) (by decide), _, (12 : Int), rfl, rfl, by show (0 : Int) < 12; decide, _, _, rfl, rfl, fun w0 dw0 hw0 hdw0 ne0 => ?_⟩
  have A5 : At K 0 (S0.sc c5) H5 := by
    have := A0.keep (c := c5) (by rw [c0e]; exact k45) (fun _ _ z => z) fun _ _ _ z => z
    exact this
  have kk5 : Keep0 c5 H5 (colS (colS c5 dw0 .no) w0 (.way false 0)) (L2.upd (L2.upd H5 dw0 (.own w0)) w0 (.ins (ga K "Pairs") dw0 [])) := (Keep.newC hdw0).trans (.newC (by rw [upd_ne ne0.symm]; exact hw0))
  have A6 : At K 0 ((S0.sc c5).sc (colS (colS c5 dw0 .no) w0 (.way false 0))) (L2.upd (L2.upd H5 dw0 (.own w0)) w0 (.ins (ga K "Pairs") dw0 [])) := A5.keep kk5 (fun _ _ z => z) fun _ _ _ z => z
  refine ⟨0, (S0.sc c5).sc (colS (colS c5 dw0 .no) w0 (.way false 0)), false, w0, dw0, D5, 1 + z12, ps, ?_, A6, off false, upd_same, colS_same, pg5.keep kk5 (fun z => z), okw, by omega, by omega, by omega, by omega, ?_, ?_, fun S1 H7 A7 M1 w1 k7 => ⟨rfl, ?_⟩⟩
  · have e12 : (1 : Int) + f0 / 12 % 12 = ((1 + z12 : Nat) : Int) := by rw [ez12]; omega
    show [V.ref w0, V.ref F.g, V.ref D5, V.int (1 + f0 / 12 % 12)] = _
    rw [e12, show ((S0.sc c5).sc (colS (colS c5 dw0 .no) w0 (.way false 0))).F = F from F0e]
  · show S0.F.ow.sum + 2 + nsO ps ≤ S0.F.ow.length
    rw [F0e, sum0, len0]
    omega
  · show S0.F.pl + 2 + (nsO ps : Int) ≤ (S0.F.ow.length : Int)
    rw [F0e, fpl, len0]
    omega
  have k57 : KeepU c5 H5 S1.c H7 := (kk5.u fun z => z).trans k7
  have k47 : KeepU c4 H4 S1.c H7 := (k45.u fun z => z).trans k57
  have pg7 := pg4.keep k47 (fun z => z rfl)
  have g1 : S1.F.g = F.g := by
    have := M1.g
    rw [this]
    show S0.F.g = F.g
    rw [F0e]
  -- the second way
  refine ⟨_, rfl, _, rfl, S1.c, D, ps, rfl, pg7, by omega, fun D8 c8 H8 k78 pg8 => ?_⟩
  refine fun w2 dw2 hw2 hdw2 ne2 => ?_
  have A8 : At K 0 (S1.sc c8) H8 := A7.keep k78 (fun _ _ z => z) fun _ _ _ z => z
  have kk8 : Keep0 c8 H8 (colS (colS c8 dw2 .no) w2 (.way true 0)) (L2.upd (L2.upd H8 dw2 (.own w2)) w2 (.ins (ga K "Pairs") dw2 [])) := (Keep.newC hdw2).trans (.newC (by rw [upd_ne ne2.symm]; exact hw2))
  have A9 : At K 0 ((S1.sc c8).sc (colS (colS c8 dw2 .no) w2 (.way true 0))) (L2.upd (L2.upd H8 dw2 (.own w2)) w2 (.ins (ga K "Pairs") dw2 [])) := A8.keep kk8 (fun _ _ z => z) fun _ _ _ z => z
  have off2 : ¬ S1.on true := fun h => by
    rcases (M1.on true).mp h with z | z
    · cases z
    · exact off true z
  have e1s := M1.sum
  have e1n := M1.n
  have e1p := M1.pl
  have s0s : ((S0.sc c5).sc (colS (colS c5 dw0 .no) w0 (.way false 0))).F = F := F0e
  rw [s0s] at e1s e1n e1p
  refine ⟨0, (S1.sc c8).sc (colS (colS c8 dw2 .no) w2 (.way true 0)), true, w2, dw2, D8, 4, ps, ?_, A9, off2, upd_same, colS_same, pg8.keep kk8 (fun z => z), okw, by omega, by omega, by decide, by decide, ?_, ?_, fun S2 H10 A10 M2 w3 k10 => ⟨rfl, ?_⟩⟩
  · show [V.ref w2, V.ref F.g, V.ref D8, V.int 4] = [V.ref w2, V.ref S1.F.g, V.ref D8, nv 4]
    rw [g1]
    rfl
  · show S1.F.ow.sum + 2 + nsO ps ≤ S1.F.ow.length
    omega
  · show S1.F.pl + 2 + (nsO ps : Int) ≤ (S1.F.ow.length : Int)
    omega
  have k710 : KeepU S1.c H7 S2.c H10 := ((k78.u fun z => z).trans (kk8.u fun z => z)).trans k10
  have M2' : Made S1 S2 true ps := ⟨M2.on, M2.oth, M2.o, M2.tb, M2.wd, M2.pl, M2.g, M2.n, M2.sum, M2.len, M2.nsl, M2.top, M2.row, M2.one⟩
  have M1' : Made S0 S1 false ps := ⟨M1.on, M1.oth, M1.o, M1.tb, M1.wd, M1.pl, M1.g, M1.n, M1.sum, M1.len, M1.nsl, M1.top, M1.row, M1.one⟩
  have G10 : Good S2 := good_made (fun g => by rw [F0e]; exact o0 g) (by rw [F0e]; exact fpl) (by rw [F0e]; exact sum0) (by rw [F0e, len0]; omega) M1' M2'
  have yf : S2.y false = S1.y false := M2.oth false (by decide)
  have g2 : S2.F.g = F.g := by
    have := M2.g
    rw [this]
    exact g1
  have wt : (S2.y true).w = w2 := w3
  have wf : (S2.y false).w = w0 := by rw [yf]; exact w1
  refine ⟨len2', fun Wl hWl => ?_⟩
  obtain ⟨cW, hcW⟩ : ∃ cW, cW = colS S2.c Wl .no := ⟨_, rfl⟩
  have A11 : At K 0 (S2.sc cW) (L2.upd H10 Wl (.lst [.ref w0, .ref w2])) := by rw [hcW]; exact A10.newC hWl
  have kW : KeepU S2.c H10 cW (L2.upd H10 Wl (.lst [.ref w0, .ref w2])) := by rw [hcW]; exact newU hWl
  have cWW : cW Wl = .no := by rw [hcW]; exact colS_same
  have kall : KeepU c1 H1 cW (L2.upd H10 Wl (.lst [.ref w0, .ref w2])) := ((k14.trans k47).trans k710).trans kW
  -- the turns
  have kH : ∀ b o, H b = some o → L2.upd H10 Wl (.lst [.ref w0, .ref w2]) b = some o := fun b o e => by
    have z := k1 b o e (fun z => z)
    refine (kall b o z.1 ?_).1
    rw [z.2, hc0]
    exact fun z => z rfl
  refine ⟨_, rfl, _, rfl, _, rfl, _, _, rfl, sq_keep (c := c0) (c' := c0) hS kH, fun Cl hCl => ?_⟩
  obtain ⟨cs, hcs⟩ : ∃ cs, cs = (ns.drop (HT.sIx ns.length 0 (some 2))).take (HT.sIx ns.length ns.length (some 62) - HT.sIx ns.length 0 (some 2)) := ⟨_, rfl⟩
  have ecs : cutV (ns.map V.int) (some 2) (some 62) = cs.map V.int := by rw [cut_int, hcs]
  have lcs : cs.length ≤ 63 := by
    have := cutV_length (ns.map V.int) (some 2) (some 62)
    rw [ecs, List.length_map, List.length_map] at this
    omega
  rw [ecs]
  obtain ⟨cC, hcC⟩ : ∃ cC, cC = colS cW Cl .no := ⟨_, rfl⟩
  have kC : Keep0 cW (L2.upd H10 Wl (.lst [.ref w0, .ref w2])) cC (L2.upd (L2.upd H10 Wl (.lst [.ref w0, .ref w2])) Cl (.lst (cs.map V.int))) := by rw [hcC]; exact .newC hCl
  have T0 : Turn0 K 0 (S2.sc cC) (L2.upd (L2.upd H10 Wl (.lst [.ref w0, .ref w2])) Cl (.lst (cs.map V.int))) F.g Wl D Cl sz cs := by
    obtain ⟨y1, y2⟩ := kC Wl _ upd_same (fun z => z)
    obtain ⟨x1, x2⟩ := (kall.trans (kC.u fun z => z)) D _ hD1 (by rw [cD1]; exact fun z => z rfl)
    refine ⟨A11.keep kC (fun _ _ z => z) fun _ _ _ z => z, G10.sc, ⟨?_, y2.trans cWW⟩, fun k => ?_, g2, ⟨us, x1, by rw [lus, lps], x2.trans cD1⟩, upd_same, by rw [hcC]; exact colS_same⟩
    · show _ = some (HO.lst [V.ref (S2.y false).w, V.ref (S2.y true).w])
      rw [wf, wt]
      exact y1
    · show (S2.y k).lead.length = sz
      cases k with
      | true => rw [M2.len, lps]
      | false => rw [yf, M1.len, lps]
  refine ⟨_, _, rfl, SqL.of (xs := cs.map V.int) upd_same, ?_⟩
  refine for_it (walk_enum (xs := cs.map V.int)) (fun i σ H2 => ∃ (S : Sy) (x6 x7 x8 x9 x10 : Option V), σ = [some (.ref a), some (.int f0), some (.ref D), some (.ref F.g), none, some (.ref Wl), x6, x7, x8, x9, x10] ∧ Turn0 K (2 * i) S H2 F.g Wl D Cl sz cs) ?_ ?_ ?_ ?_
  · exact ⟨S2.sc cC, none, none, none, none, none, rfl, T0⟩
  · rintro i σ H2 hi ⟨S, x6, x7, x8, x9, x10, rfl, T2⟩
    exact SqL.of T2.cl.1
  · rintro i u σ H2 H2' hi ⟨S, x6, x7, x8, x9, x10, rfl, T2⟩ ⟨tp, u1, u2, rfl, htp, rfl, h1, h2⟩
    obtain rfl : nv i = u1 := Option.some.inj h1
    rw [List.length_map] at hi
    obtain ⟨cell, rfl⟩ : ∃ cell : Int, u2 = V.int cell := by
      have h2' : (cs.map V.int)[i]? = some u2 := h2
      rw [List.getElem?_map, List.getElem?_eq_getElem hi] at h2'
      exact ⟨_, (Option.some.inj h2').symm⟩
    have i63 : i < 63 := by omega
    have sU := same_new (o := .tup [nv i, V.int cell]) htp
    refine ⟨_, _, rfl, SqT.of upd_same, rfl, _, _, rfl, _, _, rfl, rfl, ?_⟩
    -- which way
    refine ⟨_, rfl, _, (16 : Int), rfl, rfl, cd (by decide) (by decide), _, (5 : Int), rfl, rfl, by show (0 : Int) < 5; decide, rfl, .inr ⟨_, rfl, ?_⟩⟩
    obtain ⟨n1, en1, ln1⟩ := b01 (decide (V.int (cell / 16 % 5) = V.int 3))
    dsimp only
    rw [en1]
    have hn1 : n1 < 2 := by omega
    obtain ⟨us2, hD2, lus2, cD2⟩ := T2.pgs
    -- the deed
    refine ⟨_, rfl, _, rfl, _, rfl, _, _, rfl, .inl (SqL.of (sU _ _ hD2)), cell, i, sz, by rw [lus2], by omega, by omega, by omega, fun dA nm xa xb kn H3 hdn s3 dd3 => ?_⟩
    have s23 := Same.trans' sU s3
    have hdn2 : H2 dA = none := none_of_same sU hdn
    obtain ⟨c3, hc3⟩ : ∃ c3, c3 = colS S.c dA .no := ⟨_, rfl⟩
    have k23 : Keep0 S.c H2 c3 H3 := fun b o e _ => ⟨s23 b o e, by rw [hc3]; exact colS_ne (ne_of_none e hdn2)⟩
    have cdA3 : c3 dA = .no := by rw [hc3]; exact colS_same
    have A3 : At K (2 * i) (S.sc c3) H3 := T2.A.keep k23 (fun _ _ z => z) fun _ _ _ z => z
    have G2 := T2.G
    obtain ⟨eW3, cW3⟩ := k23 Wl _ T2.W.1 (fun z => z)
    -- before the deed
    obtain ⟨ra, Wa⟩ := A3.wy false (G2.on false)
    refine ⟨_, rfl, _, _, _, _, rfl, rfl, SqL.of eW3, atI_nat (j := 0) rfl, _, _, _, rfl, Wa.hw, rfl, 2 * i, S.sc c3, false, rfl, A3, G2.sc, fun D1 ca Ha hDa ka pa => ?_⟩
    have A3a : At K (2 * i) (S.sc ca) Ha := A3.keep ka (fun _ _ z => z) fun _ _ _ z => z
    obtain ⟨eWa, cWa⟩ := ka Wl _ eW3 (fun z => z)
    obtain ⟨rb, Wb⟩ := A3a.wy true (G2.on true)
    refine ⟨_, rfl, _, _, _, _, rfl, rfl, SqL.of eWa, atI_nat (j := 1) rfl, _, _, _, rfl, Wb.hw, rfl, 2 * i, S.sc ca, true, rfl, A3a, G2.sc, fun D2 cb Hb hDb kb pb => ⟨len2', fun AH hAH => ?_⟩⟩
    have A3b : At K (2 * i) (S.sc cb) Hb := A3a.keep kb (fun _ _ z => z) fun _ _ _ z => z
    obtain ⟨eWb, cWb⟩ := kb Wl _ eWa (fun z => z)
    obtain ⟨c5', hc5'⟩ : ∃ c5', c5' = colS cb AH .no := ⟨_, rfl⟩
    obtain ⟨H5', hH5'⟩ : ∃ H5', H5' = L2.upd Hb AH (.lst [.ref D1, .ref D2]) := ⟨_, rfl⟩
    have kbA : Keep0 cb Hb c5' H5' := by rw [hc5', hH5']; exact .newC hAH
    have hAH5 : H5' AH = some (.lst [.ref D1, .ref D2]) := by rw [hH5']; exact upd_same
    have cAH5 : c5' AH = .no := by rw [hc5']; exact colS_same
    have A5' : At K (2 * i) (S.sc c5') H5' := A3b.keep kbA (fun _ _ z => z) fun _ _ _ z => z
    have k35 : Keep0 c3 H3 c5' H5' := (ka.trans kb).trans kbA
    have k5 : Keep0 S.c H2 c5' H5' := k23.trans k35
    have p51 : PgsAt c5' H5' D1 (pgs S false) := (pa.keep kb (fun z => z)).keep kbA (fun z => z)
    have p52 : PgsAt c5' H5' D2 (pgs S true) := pb.keep kbA (fun z => z)
    obtain ⟨dt3, lx3, ly3⟩ := dd3
    obtain ⟨hdA, cdA0⟩ := k35 dA _ dt3 (fun z => z)
    have cdA : c5' dA = .no := cdA0.trans cdA3
    have w5 : WaysAt S c5' H5' Wl := by
      obtain ⟨y1, y2⟩ := k5 Wl _ T2.W.1 (fun z => z)
      exact ⟨y1, y2.trans T2.W.2⟩
    show (fun H9' => _) (L2.upd Hb AH (.lst [.ref D1, .ref D2]))
    rw [← hH5']
    refine ⟨_, rfl, _, _, _, _, rfl, rfl, SqT.of hdA, atI_nat (j := 0) rfl, rfl, _, rfl, ?_⟩
    by_cases hk : nm = "keep"
    · refine Eq.mpr (if_pos (show decide (V.str nm = V.str "keep") = true from decide_eq_true (by rw [hk]))) ?_
      refine ⟨_, rfl, _, rfl, _, rfl, 2 * i, S.sc c5', Wl, dA, n1, nm, xa, xb, kn, rfl, hn1, A5', G2.sc, w5, ⟨hdA, lx3, ly3⟩, cdA, fun S4 H4 A4' G4 R4 ku4 => ?_⟩
      have A4 : At K (2 * i + 2) S4 H4 := A4'.mono (by omega)
      have ob4 : ∀ j, S4.y j = { S.y j with lead := (S4.y j).lead } := R4.obj
      have len4' : ∀ j, (S4.y j).lead.length = (S.y j).lead.length := R4.len
      have g4 : S4.F.g = F.g := R4.g.trans T2.hg
      have oth4 : ∀ q, page S4 (wk (1 - n1)) q = page S (wk (1 - n1)) q := fun q => R4.pg _ q
      have chg4 : ∀ q, q < (S.y (wk n1)).lead.length → page S4 (wk n1) q ≠ page S (wk n1) q → nm ≠ "keep" ∧ Soil S4 (wk n1) q := fun q _ h => absurd (R4.pg _ q) h
      have on' : ∀ k, S4.on k := G4.on
      have yw : ∀ k, (S4.y k).w = (S.y k).w := fun k => by rw [ob4 k]
      have W4 : WaysAt S4 S4.c H4 Wl := by
        obtain ⟨z1, z2⟩ := ku4 Wl _ w5.1 (fun z => z w5.2)
        exact ⟨by rw [yw, yw]; exact z1, z2.trans w5.2⟩
      obtain ⟨eAH, cAH⟩ := ku4 AH _ hAH5 (fun z => z cAH5)
      have q1 := p51.keep ku4 (fun z => z rfl)
      have q2 := p52.keep ku4 (fun z => z rfl)
      have qd : ∀ {i : Nat}, i < 2 → PgsAt S4.c H4 (dd D1 D2 i) (pgs S (wk i)) := fun {i} h => by
        match i, h with
        | 0, _ => exact q1
        | 1, _ => exact q2
      obtain ⟨r4, Wo4⟩ := A4.wy (wk (1 - n1)) (on' _)
      have e1n : (1 : Int) - (n1 : Int) = ((1 - n1 : Nat) : Int) := by omega
      have lm : 1 - n1 < 2 := by omega
      obtain ⟨eW4, _⟩ := W4
      refine ⟨_, rfl, _, rfl, _, _, rfl, rfl, ?_⟩
      dsimp only
      rw [e1n]
      refine ⟨_, _, _, _, rfl, rfl, SqL.of eW4, atI_nat (ways_get lm), _, _, _, rfl, Wo4.hw, rfl, 2 * i + 2, S4, wk (1 - n1), rfl, A4, G4, fun E1 c6 H6 hE1 k6 p6 => ?_⟩
      have A6 : At K (2 * i + 2) (S4.sc c6) H6 := A4.keep k6 (fun _ _ z => z) fun _ _ _ z => z
      have u6 : KeepU S4.c H4 c6 H6 := k6.u fun z => z
      obtain ⟨eW6, cW6⟩ := k6 Wl _ eW4 (fun z => z)
      obtain ⟨eAH6, cAH6⟩ := k6 AH _ eAH (fun z => z)
      have qo := (qd lm).keep k6 (fun z => z)
      refine ⟨_, rfl, _, rfl, _, _, rfl, rfl, ?_⟩
      dsimp only
      rw [e1n]
      refine ⟨_, _, _, _, rfl, rfl, SqL.of eAH6, atI_nat (dd_get lm), _, _, p6.dp, qo.dp, sh_pgs, sh_pgs, _, rfl, ?_⟩
      have eo : pgs S4 (wk (1 - n1)) = pgs S (wk (1 - n1)) := pgs_eq (len4' _) fun q => oth4 q
      have ee : (!PyData.eqv (.list ((pgs S4 (wk (1 - n1))).map pgD)) (.list ((pgs S (wk (1 - n1))).map pgD))) = false := by
        rw [PyData.eqv, eqv_pgs, eo, decide_eq_true rfl]
        rfl
      refine Eq.mpr (if_neg (by intro z; have z2 : (!PyData.eqv (.list ((pgs S4 (wk (1 - n1))).map pgD)) (.list ((pgs S (wk (1 - n1))).map pgD))) = true := z; rw [ee] at z2; cases z2)) ?_
      obtain ⟨edd, cdd⟩ := ku4.trans u6 dA _ hdA (fun z => z cdA)
      have qw := (qd hn1).keep k6 (fun z => z)
      refine ⟨_, rfl, _, rfl, _, _, _, _, rfl, rfl, SqL.of eW6, atI_nat (ways_get hn1), _, rfl, _, rfl, _, _, _, _, rfl, rfl, SqL.of eAH6, atI_nat (dd_get hn1), _, rfl, _, _, _, _, rfl, rfl, SqT.of edd, atI_nat (j := 0) rfl, ?_⟩
      refine ⟨2 * i + 2, S4.sc c6, wk n1, dd D1 D2 n1, nm, pgs S (wk n1), rfl, A6, G4.sc, qw, by rw [pgs_len]; exact (len4' _).symm, fun q hq hne => ?_, fun c7 H7 A7 k7 => ?_⟩
      · have hq' : q < (S4.y (wk n1)).lead.length := hq
        rw [pgs_at (by rw [← len4' (wk n1)]; exact hq')] at hne
        exact chg4 q (by rw [← len4' (wk n1)]; exact hq') fun z => hne (congrArg some z)
      have A7' : At K (2 * i + 2) (S4.sc c7) H7 := A7
      obtain ⟨eW7, cW7⟩ := k7 Wl _ eW6 (fun z => z)
      refine ⟨_, rfl, iteF ?_⟩
      have fg : (S4.sc c7).F.g = F.g := g4
      refine ⟨_, rfl, _, rfl, _, _, _, _, rfl, rfl, SqL.of eW7, atI_nat (j := 0) rfl, 2 * i + 2, S4.sc c7, false, congrArg (fun z => [V.ref z, V.ref (S4.y false).w]) fg.symm, A7', G4.sc, fun H8 s8 => ?_⟩
      refine ⟨_, rfl, iteF ⟨_, rfl, _, rfl, _, _, _, _, rfl, rfl, SqL.of (s8 _ _ eW7), atI_nat (j := 1) rfl, 2 * i + 2, S4.sc c7, true, congrArg (fun z => [V.ref z, V.ref (S4.y true).w]) fg.symm, A7'.same s8, G4.sc, fun H9 s9 => ?_⟩⟩
      have s79 := Same.trans' s8 s9
      have cW : (S4.sc c7).c Wl = .no := by
        obtain ⟨z1, z2⟩ := ku4 Wl _ w5.1 (fun z => z w5.2)
        exact cW7.trans (cW6.trans (z2.trans w5.2))
      have WA9 : WaysAt (S4.sc c7) c7 H9 Wl := ⟨by
        show H9 Wl = some (.lst [.ref (S4.y false).w, .ref (S4.y true).w])
        rw [yw, yw]
        exact s79 _ _ (by rw [← yw false, ← yw true]; exact eW7), cW⟩
      refine ⟨_, rfl, iteF ⟨_, rfl, _, rfl, 2 * i + 2, S4.sc c7, Wl, congrArg (fun z => [V.ref z, V.ref Wl]) fg.symm, A7'.same s79, G4.sc, WA9, fun H10 s10 => ⟨_, rfl, iteF ?_⟩⟩⟩
      have s710 := Same.trans' s79 s10
      have ku : KeepU S.c H2 c7 H10 := (((k5.u fun z => z).trans ku4).trans (u6.trans (k7.u fun z => z))).trans (.same s710)
      refine ⟨S4.sc c7, _, _, _, _, _, rfl, ⟨(A7'.same s710), G4.sc, ⟨s10 _ _ WA9.1, cW⟩, fun k => (len4' k).trans (T2.len k), g4, ?_, ?_⟩⟩
      · obtain ⟨us, z1, z2, z3⟩ := T2.pgs
        obtain ⟨y1, y2⟩ := ku D _ z1 (by rw [z3]; exact fun z => z rfl)
        exact ⟨us, y1, z2, y2.trans z3⟩
      · obtain ⟨y1, y2⟩ := ku Cl _ T2.cl.1 (by rw [T2.cl.2]; exact fun z => z rfl)
        exact ⟨y1, y2.trans T2.cl.2⟩
    · refine Eq.mpr (if_neg (show ¬ decide (V.str nm = V.str "keep") = true from fun z => hk (by have := of_decide_eq_true z; injection this))) ?_
      refine ⟨_, rfl, _, rfl, _, _, _, _, rfl, rfl, SqL.of w5.1, atI_nat (ways_get hn1), _, rfl, 2 * i, S.sc c5', wk n1, dA, nm, xa, xb, kn, rfl, A5', G2.sc, by omega, ⟨hdA, lx3, ly3⟩, fun t4 S4 H4 A4 G4 R4 ku4 tv4 => ?_⟩
      refine ⟨t4, rfl, tv4, _, rfl, iteF ?_⟩
      have ob4 : ∀ j, S4.y j = { S.y j with lead := (S4.y j).lead } := R4.obj
      have len4' : ∀ j, (S4.y j).lead.length = (S.y j).lead.length := R4.len
      have g4 : S4.F.g = F.g := R4.g.trans T2.hg
      have oth4 : ∀ q, page S4 (wk (1 - n1)) q = page S (wk (1 - n1)) q := fun q => R4.oth _ q (by rw [wk_not hn1]; cases wk n1 <;> decide)
      have chg4 : ∀ q, q < (S.y (wk n1)).lead.length → page S4 (wk n1) q ≠ page S (wk n1) q → nm ≠ "keep" ∧ Soil S4 (wk n1) q := fun q hq h => ⟨hk, R4.chg q hq h⟩
      have on' : ∀ k, S4.on k := G4.on
      have yw : ∀ k, (S4.y k).w = (S.y k).w := fun k => by rw [ob4 k]
      have W4 : WaysAt S4 S4.c H4 Wl := by
        obtain ⟨z1, z2⟩ := ku4 Wl _ w5.1 (fun z => z w5.2)
        exact ⟨by rw [yw, yw]; exact z1, z2.trans w5.2⟩
      obtain ⟨eAH, cAH⟩ := ku4 AH _ hAH5 (fun z => z cAH5)
      have q1 := p51.keep ku4 (fun z => z rfl)
      have q2 := p52.keep ku4 (fun z => z rfl)
      have qd : ∀ {i : Nat}, i < 2 → PgsAt S4.c H4 (dd D1 D2 i) (pgs S (wk i)) := fun {i} h => by
        match i, h with
        | 0, _ => exact q1
        | 1, _ => exact q2
      obtain ⟨r4, Wo4⟩ := A4.wy (wk (1 - n1)) (on' _)
      have e1n : (1 : Int) - (n1 : Int) = ((1 - n1 : Nat) : Int) := by omega
      have lm : 1 - n1 < 2 := by omega
      obtain ⟨eW4, _⟩ := W4
      refine ⟨_, rfl, _, rfl, _, _, rfl, rfl, ?_⟩
      dsimp only
      rw [e1n]
      refine ⟨_, _, _, _, rfl, rfl, SqL.of eW4, atI_nat (ways_get lm), _, _, _, rfl, Wo4.hw, rfl, 2 * i + 2, S4, wk (1 - n1), rfl, A4, G4, fun E1 c6 H6 hE1 k6 p6 => ?_⟩
      have A6 : At K (2 * i + 2) (S4.sc c6) H6 := A4.keep k6 (fun _ _ z => z) fun _ _ _ z => z
      have u6 : KeepU S4.c H4 c6 H6 := k6.u fun z => z
      obtain ⟨eW6, cW6⟩ := k6 Wl _ eW4 (fun z => z)
      obtain ⟨eAH6, cAH6⟩ := k6 AH _ eAH (fun z => z)
      have qo := (qd lm).keep k6 (fun z => z)
      refine ⟨_, rfl, _, rfl, _, _, rfl, rfl, ?_⟩
      dsimp only
      rw [e1n]
      refine ⟨_, _, _, _, rfl, rfl, SqL.of eAH6, atI_nat (dd_get lm), _, _, p6.dp, qo.dp, sh_pgs, sh_pgs, _, rfl, ?_⟩
      have eo : pgs S4 (wk (1 - n1)) = pgs S (wk (1 - n1)) := pgs_eq (len4' _) fun q => oth4 q
      have ee : (!PyData.eqv (.list ((pgs S4 (wk (1 - n1))).map pgD)) (.list ((pgs S (wk (1 - n1))).map pgD))) = false := by
        rw [PyData.eqv, eqv_pgs, eo, decide_eq_true rfl]
        rfl
      refine Eq.mpr (if_neg (by intro z; have z2 : (!PyData.eqv (.list ((pgs S4 (wk (1 - n1))).map pgD)) (.list ((pgs S (wk (1 - n1))).map pgD))) = true := z; rw [ee] at z2; cases z2)) ?_
      obtain ⟨edd, cdd⟩ := ku4.trans u6 dA _ hdA (fun z => z cdA)
      have qw := (qd hn1).keep k6 (fun z => z)
      refine ⟨_, rfl, _, rfl, _, _, _, _, rfl, rfl, SqL.of eW6, atI_nat (ways_get hn1), _, rfl, _, rfl, _, _, _, _, rfl, rfl, SqL.of eAH6, atI_nat (dd_get hn1), _, rfl, _, _, _, _, rfl, rfl, SqT.of edd, atI_nat (j := 0) rfl, ?_⟩
      refine ⟨2 * i + 2, S4.sc c6, wk n1, dd D1 D2 n1, nm, pgs S (wk n1), rfl, A6, G4.sc, qw, by rw [pgs_len]; exact (len4' _).symm, fun q hq hne => ?_, fun c7 H7 A7 k7 => ?_⟩
      · have hq' : q < (S4.y (wk n1)).lead.length := hq
        rw [pgs_at (by rw [← len4' (wk n1)]; exact hq')] at hne
        exact chg4 q (by rw [← len4' (wk n1)]; exact hq') fun z => hne (congrArg some z)
      have A7' : At K (2 * i + 2) (S4.sc c7) H7 := A7
      obtain ⟨eW7, cW7⟩ := k7 Wl _ eW6 (fun z => z)
      refine ⟨_, rfl, iteF ?_⟩
      have fg : (S4.sc c7).F.g = F.g := g4
      refine ⟨_, rfl, _, rfl, _, _, _, _, rfl, rfl, SqL.of eW7, atI_nat (j := 0) rfl, 2 * i + 2, S4.sc c7, false, congrArg (fun z => [V.ref z, V.ref (S4.y false).w]) fg.symm, A7', G4.sc, fun H8 s8 => ?_⟩
      refine ⟨_, rfl, iteF ⟨_, rfl, _, rfl, _, _, _, _, rfl, rfl, SqL.of (s8 _ _ eW7), atI_nat (j := 1) rfl, 2 * i + 2, S4.sc c7, true, congrArg (fun z => [V.ref z, V.ref (S4.y true).w]) fg.symm, A7'.same s8, G4.sc, fun H9 s9 => ?_⟩⟩
      have s79 := Same.trans' s8 s9
      have cW : (S4.sc c7).c Wl = .no := by
        obtain ⟨z1, z2⟩ := ku4 Wl _ w5.1 (fun z => z w5.2)
        exact cW7.trans (cW6.trans (z2.trans w5.2))
      have WA9 : WaysAt (S4.sc c7) c7 H9 Wl := ⟨by
        show H9 Wl = some (.lst [.ref (S4.y false).w, .ref (S4.y true).w])
        rw [yw, yw]
        exact s79 _ _ (by rw [← yw false, ← yw true]; exact eW7), cW⟩
      refine ⟨_, rfl, iteF ⟨_, rfl, _, rfl, 2 * i + 2, S4.sc c7, Wl, congrArg (fun z => [V.ref z, V.ref Wl]) fg.symm, A7'.same s79, G4.sc, WA9, fun H10 s10 => ⟨_, rfl, iteF ?_⟩⟩⟩
      have s710 := Same.trans' s79 s10
      have ku : KeepU S.c H2 c7 H10 := (((k5.u fun z => z).trans ku4).trans (u6.trans (k7.u fun z => z))).trans (.same s710)
      refine ⟨S4.sc c7, _, _, _, _, _, rfl, ⟨(A7'.same s710), G4.sc, ⟨s10 _ _ WA9.1, cW⟩, fun k => (len4' k).trans (T2.len k), g4, ?_, ?_⟩⟩
      · obtain ⟨us, z1, z2, z3⟩ := T2.pgs
        obtain ⟨y1, y2⟩ := ku D _ z1 (by rw [z3]; exact fun z => z rfl)
        exact ⟨us, y1, z2, y2.trans z3⟩
      · obtain ⟨y1, y2⟩ := ku Cl _ T2.cl.1 (by rw [T2.cl.2]; exact fun z => z rfl)
        exact ⟨y1, y2.trans T2.cl.2⟩
  · rintro σ H2 ⟨S, x6, x7, x8, x9, x10, rfl, T2⟩
    exact q H2
end K6
namespace K6
open PySem PySem.Spec PyProof.Rows L2 HotX L2H He
theorem facts {P : Program} {w : World} {K : PySem.W.Frag} {h : Heap} {mg : Str → Option Value} {f : Addr} (X : K.In h) (G : h.Ns mainGlobals mg) (hfa : mg ("law" : Str) = some (.ref f)) (c : SaysD fa fn K) (more : exB K = true) :
    ∃ fd : FuncData, (∀ (s : Shared) (v : Value), BindsTo s fd ⟨[v], []⟩ [("_law_script", v)]) ∧ ∀ base : Heap, K.In base → base.Ns mainGlobals mg → FnOk P w K mg base CX0 18 f fd ["_law_script"] (spLaw K) := by
  have T : Tx K mg := ⟨⟨h, X, G⟩, c, more⟩
  have e : f = fAd K ("law", none) := by
    have z := hfa.symm.trans (g_law T)
    injection z with z
    injection z
  subst e
  have b := FunD.bindsA (ps := ["_law_script"]) (fd_f_law T) fun _ _ _ _ _ _ us hl => match us, hl with | [_], _ => rfl
  exact ⟨_, fun s v => b s [v] rfl, fun base _ _ => ok_f_law T⟩
end K6
open PySem PySem.W PySem.Calls PyProof.Rows
theorem PySem.Challenge.cw_shadowpages_k66_whole_second_rows_holds : PySem.Challenge.rw_shadowpages_k66_whole_second_rows.Holds := by
  w_on; o_law
  refine HandSHeadRun.head_any (r := OpenLaw.row PySem.Challenge.rw_shadowpages_k66_whole_second_rows) (q := view (OpenLaw.row PySem.Challenge.rw_shadowpages_k66_whole_second_rows).prog [84]) (H := K6.hk) (ob := K6.ob) (M := 20000) (loose := K6.loose) (d := HandSHeadRun.topDef (OpenLaw.row PySem.Challenge.rw_shadowpages_k66_whole_second_rows).prog 84) (kwd := []) K6.ob_eq
    (by kernel_rfl) (fun s => by kernel_rfl) K6.run (by kernel_rfl) (by kernel_rfl) (by kernel_rfl) (by rfl) (by first | assumption | decide +kernel) (by decide +kernel) ⟨rfl, rfl, rfl, rfl, rfl, by decide +kernel⟩ ?hw ?hc
  case hw => w_witness2
  case hc =>
    refine L2.walk_ofE (l := PySem.Challenge.rw_shadowpages_k66_whole_second_rows) (n := 63) (k := 18) (x := "_law_script") (CX := L2.CX0) rfl (by decide) (by kernel_rfl) ⟨rfl, by decide, by decide⟩ ?F (fun _ _ _ _ z => z)
    intro w mg fa h Y G hmg0
    obtain ⟨K, KX, c, more⟩ := Y
    have hmg : mg ("law" : PySem.Str) = some (.ref fa) := by
      have e : (HandSHeadRun.topDef (OpenLaw.row PySem.Challenge.rw_shadowpages_k66_whole_second_rows).prog 84).name = ("law" : PySem.Str) := by kernel_rfl
      rw [← e]
      exact hmg0
    obtain ⟨fd, hb, hF⟩ := K6.facts (P := (PySem.Challenge.rw_shadowpages_k66_whole_second_rows).prog) (w := w) KX G hmg c more
    exact ⟨K, fd, K6.spLaw K, KX, hb, fun H a ns hl _ hS => ⟨a, ns, rfl, hS, hl, fun _ => rfl⟩, hF⟩
