import PyProof.Rows.All
import Wide.All
import OpenK.AllK
import Wide.FinOn
import HandS.ClsMeth
import HandS.Codes
import HandS.Comp
import HandS.Conv
import HandS.Deep
import HandS.Defaults
import HandS.Dict
import HandS.EndBits
import HandS.Exc
import HandS.ExcCtx
import HandS.ExcField
import HandS.ExcInit
import HandS.ExcIs
import HandS.ExcOwn
import HandS.Flow
import HandS.ForMost
import HandS.HotCalls
import HandS.IsInst
import HandS.Iter
import HandS.MakeKwOnly
import HandS.More
import HandS.Property
import HandS.SetBool
import HandS.SetFor
import HandS.SetTxt0
import HandS.Sort
import HandS.SortInts
import HandS.SortOrd
import HandS.SortRule
import HandS.Star
import HandS.Style
import HandS.Text
import HandS.TryOnly
import HandS.TupSets
import HandS.Wide
import HandS.WideBits
import HandS.WordsExc
import HandS.Zip
import KE.GoesMore
import KE.KExcIs
import KE.LtData
import PyProof.EqAt
import PyProof.LongRange
import PyProof.RangeIter
import PySem.Challenge.RW_daychains_k01_patterns_judged
set_option Elab.async false
set_option linter.all false
set_option maxRecDepth 100000
set_option maxHeartbeats 2000000
/-! HA: lists walked and tuples taken apart while an exception is handled. -/
namespace N
open PySem PySem.Spec PyProof.Rows L2 HotX L2H
section
variable {prog : Program} {w : World} {A : Around} {E : Value → Shared → Prop} {s : Shared}
/-- the place of the handled exception is none with another kind of data -/
theorem hot_ne {x1 b : Addr} {o : Obj} {vs : Array Value} (hot : HotAt A x1 s.heap) (ho : s.heap.get? b = some o) (hd : o.data = .fields vs) (h2 : vs.size ≤ 2) : b ≠ x1 := by
  rintro rfl
  obtain ⟨_, o1, us, e, d, z⟩ := hot
  rw [ho] at e
  cases e
  rw [hd] at d
  cases d
  have := (Array.getElem?_eq_some_iff.mp z).1
  omega
/-- the end of a walk, at the point where the iterator tells it -/
theorem over_hot {x1 : Addr} {Q : Option Value → Shared → Prop} (hot : HotAt A x1 s.heap) (k : ∀ g, (∀ b o, s.heap.get? b = some o → g.get? b = some o) → Q none { s with heap := g }) {E' : Value → Shared → Prop}
    (hE : ∀ a g, (∀ b o, s.heap.get? b = some o → g.get? b = some o) → (∃ o, g.get? a = some o ∧ o.cls = .type "StopIteration") → E' (.ref a) { s with heap := g }) {α : Type} {R : α → Shared → Prop} : wpAny (model prog w) A (newExc (.type "StopIteration") [] >>= fun e => (raiseNew e : Sem α)) R E' s := by
  obtain ⟨hh, o1, vs1, h1, d1, c1⟩ := hot
  refine wpAny_bind ?_
  simp only [newExc, newTuple]
  refine wpAny_bind (wpAny_newObj_type ?_ (by size_fits))
  refine wpAny_bind (m := firstArgMember _ _) (wpAny_of_eq (a := Value.none) (by first | rfl | (simp only [firstArgMember]; rfl)) ?_)
  refine wpAny_newObj_type ?_ (by size_fits)
  have e1 : ∀ {u v : Obj}, ((s.heap.push u).push v).get? x1 = some o1 := fun {u v} => Heap.get?_push_of_some _ (Heap.get?_push_of_some _ h1)
  refine raiseNew_hot (x1 := x1) ⟨hh, o1, vs1, e1, d1, c1⟩ (Nat.ne_of_lt (Heap.lt_size (Heap.get?_push_of_some _ h1))) (Heap.get?_push_size _ rfl) rfl (by first | (simp; done) | (simp; omega) | (simp only [Array.size_append]; simp; omega)) ?_
  refine hE _ _ (fun b o e => ?_) ⟨_, Heap.get?_update_self _ (Heap.get?_push_size _ rfl) rfl, rfl⟩
  exact (Heap.get?_update_other _ _ (Nat.ne_of_gt (Heap.lt_size (Heap.get?_push_of_some _ e)))).trans (Heap.get?_push_of_some _ (Heap.get?_push_of_some _ e))
theorem hot_set {x1 it : Addr} {f : Obj → Obj} (hot : HotAt A x1 s.heap) (ne : it ≠ x1) : HotAt A x1 (s.heap.update it f) := by
  obtain ⟨hh, o1, vs1, h1, d1, c1⟩ := hot
  exact ⟨hh, o1, vs1, by rw [Heap.get?_update_other _ _ ne]; exact h1, d1, c1⟩
theorem next_list_hot {it l x1 : Addr} {i : Nat} {items : Array Value} {Q : Option Value → Shared → Prop} (hot : HotAt A x1 s.heap) (li : s.heap.IsListIter it l i) (ls : s.heap.IsList l items) (no : items[i]? = none)
    (k : ∀ g, (∀ b o, b ≠ it → s.heap.get? b = some o → g.get? b = some o) → Q none { s with heap := g }) : wpAny (model prog w) A (pyNext (.ref it)) Q E s := by
  have ty := li.typeIs
  obtain ⟨o, ho, hc, hd⟩ := li
  obtain ⟨ol, hol, _, nl, hdl⟩ := ls
  have ne := hot_ne hot ho hd (by simp)
  unfold pyNext
  refine wpAny_bind (wpAny_attempt (wpAny_callSpecial?_slot (name := Str.ofString "__next__") ty slot_listiter_next (wpAny_call_entry slot_listiter_next ty entry_listiter_next ?_ (args_listiter_next _))))
  show wpAny _ _ (field (.ref it) 0 >>= _) _ _ s
  refine wpAny_bind (wpAny_field ho hd (x := .ref l) rfl ?_)
  show wpAny _ _ (if (Value.ref l == Value.none) = true then _ else _) _ _ s
  rw [if_neg (fun z => by cases z)]
  show wpAny _ _ (field (.ref it) 1 >>= _) _ _ s
  refine wpAny_bind (wpAny_field ho hd (x := .int i 0) rfl ?_)
  show wpAny _ _ (seqItems? (.ref l) >>= _) _ _ s
  refine wpAny_bind (wpAny_seqItems hol hdl ?_)
  simp only [Int.toNat_natCast, no]
  refine wpAny_bind (wpAny_rule (wpAny_bind (wpAny_setField ho hd (by simp) ?_)))
  refine over_hot (Q := fun _ _ => True) (hot_set (A := A.in1) ⟨hot.1, hot.2⟩ ne) (fun _ _ => trivial) fun a g kg hg => ?_
  obtain ⟨og, eg, cg⟩ := hg
  refine wpAny_bind (wpAny_isInstance (T := "StopIteration") (b := true) ⟨og, eg, cg⟩ isSubtype_stop ?_)
  exact wpAny_pure (k g fun b u hb e => kg b u (by rw [Heap.get?_update_other _ _ (fun z => hb z.symm)]; exact e))
theorem next_tuple_hot {it t x1 : Addr} {i : Nat} {items : Array Value} {Q : Option Value → Shared → Prop} (hot : HotAt A x1 s.heap) (li : s.heap.IsTupleIter it t i) (ls : s.heap.IsTuple t items) (no : items[i]? = none)
    (k : ∀ g, (∀ b o, b ≠ it → s.heap.get? b = some o → g.get? b = some o) → Q none { s with heap := g }) : wpAny (model prog w) A (pyNext (.ref it)) Q E s := by
  have ty := li.typeIs
  obtain ⟨o, ho, hc, hd⟩ := li
  obtain ⟨ol, hol, _, nl, hdl⟩ := ls
  have ne := hot_ne hot ho hd (by simp)
  unfold pyNext
  refine wpAny_bind (wpAny_attempt (wpAny_callSpecial?_slot (name := Str.ofString "__next__") ty F.slot_tuple_iterator_next (wpAny_call_entry F.slot_tuple_iterator_next ty F.entry_tuple_iterator_next ?_ (F.args_tuple_iterator_next_1 _))))
  show wpAny _ _ (field (.ref it) 0 >>= _) _ _ s
  refine wpAny_bind (wpAny_field ho hd (x := .ref t) rfl ?_)
  show wpAny _ _ (if (Value.ref t == Value.none) = true then _ else _) _ _ s
  rw [if_neg (fun z => by cases z)]
  show wpAny _ _ (field (.ref it) 1 >>= _) _ _ s
  refine wpAny_bind (wpAny_field ho hd (x := .int i 0) rfl ?_)
  show wpAny _ _ (seqItems? (.ref t) >>= _) _ _ s
  refine wpAny_bind (wpAny_seqItems hol hdl ?_)
  simp only [Int.toNat_natCast, no]
  refine wpAny_bind (wpAny_rule (wpAny_bind (wpAny_setField ho hd (by simp) ?_)))
  refine over_hot (Q := fun _ _ => True) (hot_set (A := A.in1) ⟨hot.1, hot.2⟩ ne) (fun _ _ => trivial) fun a g kg hg => ?_
  obtain ⟨og, eg, cg⟩ := hg
  refine wpAny_bind (wpAny_isInstance (T := "StopIteration") (b := true) ⟨og, eg, cg⟩ isSubtype_stop ?_)
  exact wpAny_pure (k g fun b u hb e => kg b u (by rw [Heap.get?_update_other _ _ (fun z => hb z.symm)]; exact e))
end
end N
/-! HB: a list comprehension over a list, and a tuple taken apart, while an exception is handled. -/
namespace N
open PySem PySem.Spec PyProof.Rows L2 HotX L2H
section
variable {prog : Program} {w : World} {A : Around} {E : Value → Shared → Prop} {s : Shared}
/-- so many items of a tuple, all there are -/
theorem items_hot {t x1 : Addr} {items : Array Value} {Q : List Value → Shared → Prop} (hot : HotAt A x1 s.heap) (ht : s.heap.IsTuple t items)
    (k : ∀ g, (∀ b o, b ≠ s.heap.objs.size → s.heap.get? b = some o → g.get? b = some o) → Q items.toList { s with heap := g }) : wpAny (model prog w) A (unpackItems (.ref t) items.size none) Q E s := by
  have lt : t < s.heap.objs.size := by
    obtain ⟨o, ho, _⟩ := ht
    exact Heap.lt_size ho
  have x1lt : x1 < s.heap.objs.size := by
    obtain ⟨_, o, _, ho, _⟩ := hot
    exact Heap.lt_size ho
  unfold unpackItems
  refine wpAny_bind ?_
  unfold notIterableAtAll
  refine wpAny_bind (wpAny_specialOf ht.typeIs slot_tuple_iter.lookup (wpAny_pure ?_))
  simp only [Bool.false_eq_true, if_false]
  refine wpAny_bind (wpAny_holding (wpAny_pyIter_tuple ht ?_))
  refine wpAny_bind (wpAny_holding (wpAny_draw_tuple (Nat.ne_of_lt lt) items.size 0 _ _ ⟨_, Heap.get?_push_size _ rfl, rfl, rfl⟩ (IsTup.push ht _) (by omega) fun g hit sb => ?_))
  have all : (items.toList.drop 0).take items.size = items.toList := List.take_of_length_le (by simp)
  rw [all, if_neg (by simp)]
  have keep : ∀ b o, b ≠ s.heap.objs.size → s.heap.get? b = some o → g.get? b = some o := fun b o hb e => sb.extBut b o hb (Heap.get?_push_of_some _ e)
  have hot2 : HotAt A x1 g := by
    obtain ⟨hh, o1, vs1, h1, d1, c1⟩ := hot
    exact ⟨hh, o1, vs1, keep _ _ (Nat.ne_of_lt x1lt) h1, d1, c1⟩
  have ht2 : g.IsTuple t items := by
    obtain ⟨o, ho, r⟩ := ht
    exact ⟨o, keep _ _ (Nat.ne_of_lt lt) ho, r⟩
  refine wpAny_bind (wpAny_holding (next_tuple_hot (s := { s with heap := g }) hot2 hit ht2 (by simp) fun g2 k2 => ?_))
  simp only [Option.isSome_none, Bool.false_eq_true, if_false]
  exact wpAny_pure (k g2 fun b o hb e => k2 b o hb (keep b o hb e))
theorem apart_hot {env : Env} {elts : List Expr} {j : Nat} {pos : Pos} {t x1 : Addr} {items : Array Value} {Q : Unit → Shared → Prop} (hot : HotAt A x1 s.heap) (ht : s.heap.IsTuple t items) (hn : (assignEach elts env).length = items.size) (hs : (assignEach elts env).findIdx? (·.1) = none)
    (k : ∀ g, (∀ b o, b ≠ s.heap.objs.size → s.heap.get? b = some o → g.get? b = some o) → wpAny (model prog w) A (assignInOrder ((assignEach elts env).map (·.2)) items.toList) Q E { s with heap := g }) :
    wpAny (model prog w) A (assign (.Tuple elts j pos) env (.ref t)) Q E s := by
  rw [assign_Tuple]
  refine wpAny_bind (wpAny_standAt ?_)
  unfold unpack
  rw [hn, hs]
  exact wpAny_bind (wpAny_holding (items_hot hot ht k))
end
section
variable {X : Cx}
theorem pg_tupH {es : List Expr} {j n : Nat} {pos : Pos} {t : TGs} (hot : HotC X) (h : PGs X es t) (hn : (assignEach es X.env).length = n) (hs : (assignEach es X.env).findIdx? (·.1) = none) : PG X (.Tuple es j pos) (gTup X.K n t) := by
  refine ⟨fun pins s σ H v u Q I r hw => ?_⟩
  obtain ⟨a, xs, rfl, hq, hl, hw⟩ := hw
  cases r
  obtain ⟨its, rv, ht, hz⟩ := I.tuple hq
  obtain ⟨x1, at1⟩ := hot.at I
  refine apart_hot at1 ht (by rw [hn, ← hl, rv.length, List.size_toArray]) hs fun g kg => ?_
  have I1 : Inv X pins σ H { s with heap := g } := I.kept (t' := s.toks) fun b o e => kg b o (Nat.ne_of_lt (Heap.lt_size e)) e
  exact h.run pins _ σ H xs _ Q I1 (by simpa using rv) hw
/-- a comprehension's block with the handled exception pinned -/
abbrev blkP (X : Cx) (p : Addr × Obj) (s : Shared) (H : Hp) (scope : Scope) (ce : Env) (fp : List Addr) : Cx := (X.blk s H scope ce fp).tr [p] fun _ _ => False
theorem blkP_hot {p : Addr × Obj} (h : Hot1 X.A p) {s : Shared} {H : Hp} {scope : Scope} {ce : Env} {fp : List Addr} : HotC (blkP X p s H scope ce fp) := ⟨p, h, List.mem_cons_self⟩
variable {pins : List (Addr × Obj)} {σ : L2.St} {H : Hp} {s : Shared}
theorem Inv.blkP {p : Addr × Obj} {scope : Scope} {own : List (Str × Nat)} {fp : List Addr} (I : Inv X pins σ H s) (hp : p ∈ X.pn) (ok : BlkOk X.N X.env.scope scope own) (nd : X.N.Nodup) (hf : ∀ b ∈ fp, FpOk X pins H b ∧ b < s.heap.objs.size) :
    Inv (N.blkP X p s H scope (compEnvC scope (cellsFrom (s.heap.objs.size + 1) scope.names (cloFrom X.env.cells scope.names [])) s.heap.objs.size X.env) fp) [] (wipe σ (own.map (·.2))) H { s with heap := pushCells (s.heap.push { cls := .type "dict", data := .dict #[] }) scope.names } := by
  have B := block_start I ok nd hf
  obtain ⟨e1, e2, e3, e4, e5⟩ := I.pin p (List.mem_append_left _ hp)
  have lt := Heap.lt_size e1
  refine Inv.toTry (pins := [p]) (B.pins_of fun q hq => ?_) _
  obtain rfl : q = p := by simpa using hq
  exact ⟨pushCells_keeps _ _ _ _ (Heap.get?_push_of_some _ e1), e2, Nat.ne_of_lt lt, fun hm => (List.mem_cons.mp (I.stkSub _ hm)).elim e3 e4, e5⟩
theorem lcH_core {p : Addr × Obj} {Q : VK} {elt tg l : Expr} {ifs : List Expr} {scope : Scope} {own : List (Str × Nat)} {pos pos' : Pos} {tl : TE} {g : TG} {tt : TT} {te : TE} {use : Option (Value → Sem Unit)} {R : Value → Shared → Prop}
    (hot : Hot1 X.A p) (hp : p ∈ X.pn) (nd : X.N.Nodup) (I : Inv X pins σ H s) (hl : PE X l tl) (ok : BlkOk X.N X.env.scope scope own)
    (hg : ∀ s H C cl fp, PG (blkP X p s H scope (compEnvC scope cl C X.env) fp) tg g) (ht : ∀ s H C cl fp, PTs (blkP X p s H scope (compEnvC scope cl C X.env) fp) ifs tt) (he : ∀ s H C cl fp, PE (blkP X p s H scope (compEnvC scope cl C X.env) fp) elt te)
    (hs : ∀ x, foldedSetIterable l X.env x = pure x) (h : tLc (iList X.K tl) g tt te (own.map (·.2)) σ H Q)
    (out : ∀ D C s' m H', Inv X pins σ H' s' → Q (.ref D) H' → s'.heap.Ns C m → FpOk X pins H' C → compPost (model X.prog X.w) X.A X.xe use R (.ref D) C (.ok .next) s') :
    wpAny (model X.prog X.w) X.A (comprehension (.ListComp elt [⟨tg, l, ifs, 0⟩] scope pos) scope X.env pos' (newList []) false (eval l X.env) use) R X.xe s := by
  have clo : ∀ y ∈ scope.names, y.2 = .free → ∃ c, X.env.cells.lookup y.1 = some c := fun y hy e => I.ok.has _ (ok.free y hy e)
  refine wpAny_comprehension_free (use := use) rfl hs (closure_ok clo) ok.kind (fun y hy e => (ok.uniq y hy).trans (by rw [e])) (thn (hl.run pins s σ H _ I h) fun v s1 ⟨x, H1, I1, r1, q1⟩ => ?_)
  obtain ⟨a, rfl, ⟨xs0, hq0⟩, q⟩ := q1
  cases r1
  obtain ⟨its0, rv0, pl0, hz0⟩ := I1.list hq0
  refine wpAny_pyIter_list pl0.isList ?_
  generalize hit : s1.heap.objs.size = it
  generalize hs2 : ({ s1 with heap := s1.heap.push { cls := .type "list_iterator", data := .fields #[.ref a, .int 0 0] } } : Shared) = s2
  have I2 : Inv X pins σ H1 s2 := by
    rw [← hs2]
    exact I1.kept (t' := s1.toks) fun b o e => Heap.get?_push_of_some _ e
  have st2 : s2.heap.IsListIter it a 0 := by
    rw [← hs2, ← hit]
    exact ⟨_, Heap.get?_push_size _ rfl, rfl, rfl⟩
  have f2 : FpOk X pins H1 it := I1.fpOk (Nat.le_of_eq hit) (I1.hok.fresh (Nat.le_of_eq hit))
  have lt2 : it < s2.heap.objs.size := by
    obtain ⟨o, ho, _⟩ := st2
    exact Heap.lt_size ho
  refine wpAny_newObj_type (newEnv_comp ?_) (Nat.zero_le _)
  generalize hD : s2.heap.objs.size = D
  have nD : H1 D = none := I2.hok.fresh (Nat.le_of_eq hD)
  obtain ⟨W, ⟨m0, w0⟩, turn⟩ := q D nD
  generalize hs3 : ({ s2 with heap := s2.heap.push { cls := .type "list", data := .seq ([] : List Value).toArray } } : Shared) = s3
  have k3 : ∀ b o, s2.heap.get? b = some o → s3.heap.get? b = some o := fun b o e => by
    rw [← hs3]
    exact Heap.get?_push_of_some _ e
  have I3 : Inv X pins σ (upd H1 D (.lst [])) s3 := by
    rw [← hs3]
    refine I2.laid (t' := s2.toks) (fun b o e => Heap.get?_push_of_some _ e) (Nat.le_of_eq hD) ⟨Nat.zero_le _, [], 0, .nil, ?_⟩
    rw [← hD]
    exact Heap.get?_push_size _ rfl
  have lt3 : it < s3.heap.objs.size := by
    obtain ⟨o, ho, _⟩ := st2
    exact Heap.lt_size (k3 _ _ ho)
  have st3 : s3.heap.IsListIter it a 0 := by
    obtain ⟨o, ho, r⟩ := st2
    exact ⟨o, k3 _ _ ho, r⟩
  have nit : (upd H1 D (.lst [])) it = none := by
    rw [upd_ne (fun z => by rw [z, hD] at lt2; exact Nat.lt_irrefl _ lt2)]
    exact f2.1
  have f3 : FpOk X pins (upd H1 D (.lst [])) it := ⟨nit, f2.2⟩
  have I4 := Inv.blkP I3 hp ok nd (fp := [it]) fun b hb => by
    obtain rfl : b = it := by simpa using hb
    exact ⟨f3, lt3⟩
  have pg := hg s3 (upd H1 D (.lst [])) s3.heap.objs.size (cellsFrom (s3.heap.objs.size + 1) scope.names (cloFrom X.env.cells scope.names [])) [it]
  have pt := ht s3 (upd H1 D (.lst [])) s3.heap.objs.size (cellsFrom (s3.heap.objs.size + 1) scope.names (cloFrom X.env.cells scope.names [])) [it]
  have pe := he s3 (upd H1 D (.lst [])) s3.heap.objs.size (cellsFrom (s3.heap.objs.size + 1) scope.names (cloFrom X.env.cells scope.names [])) [it]
  show codeAny _ _ (.compStart (.ListComp elt [⟨tg, l, ifs, 0⟩] scope pos) 0 (.ref it) (.ref D) (compEnvC scope (cellsFrom (s3.heap.objs.size + 1) scope.names (cloFrom X.env.cells scope.names [])) s3.heap.objs.size X.env))
    (compPost (model X.prog X.w) X.A X.xe use R (.ref D) s3.heap.objs.size) { s3 with heap := pushCells (s3.heap.push { cls := .type "dict", data := .dict #[] }) scope.names }
  generalize hce : compEnvC scope (cellsFrom (s3.heap.objs.size + 1) scope.names (cloFrom X.env.cells scope.names [])) s3.heap.objs.size X.env = ce at I4 pg pt pe ⊢
  have loc : ce.locals = s3.heap.objs.size := by
    rw [← hce]
    rfl
  generalize hH3 : upd H1 D (.lst []) = H3 at I3 I4 pg pt pe w0 nit f3
  generalize hs4 : ({ s3 with heap := pushCells (s3.heap.push { cls := .type "dict", data := .dict #[] }) scope.names } : Shared) = s4 at I4 ⊢
  have st4 : s4.heap.IsListIter it a 0 := by
    obtain ⟨o, ho, r⟩ := st3
    exact ⟨o, by rw [← hs4]; exact pushCells_keeps _ _ _ _ (Heap.get?_push_of_some _ ho), r⟩
  have hotB : HotC (blkP X p s3 H3 scope ce [it]) := blkP_hot hot
  -- the iterator stands out of the way
  have stat : ∀ {pn' : List (Addr × Obj)} {σ' : L2.St} {H' : Hp} {s' : Shared}, Inv (blkP X p s3 H3 scope ce [it]) [] σ' H' s' → H' it = none → FpOk (blkP X p s3 H3 scope ce [it]) [] H' it := fun {pn' σ' H' s'} I' hn => by
    refine ⟨hn, (I'.ok.exf it List.mem_cons_self).1, I'.ok.exfs it List.mem_cons_self, .inl List.mem_cons_self, (I'.ok.exf it List.mem_cons_self).2, fun q hq => ?_⟩
    obtain rfl : q = p := by simpa using hq
    exact f3.2.2.2.2.2 q (List.mem_append_left _ hp)
  have loop : codeAny (model X.prog X.w) X.A (.compLoop (.ListComp elt [⟨tg, l, ifs, 0⟩] scope pos) 0 (.ref it) (.ref D) ce) (compPost (model X.prog X.w) X.A X.xe use R (.ref D) s3.heap.objs.size) s4 := by
    refine compLoop_any (fun n s' => ∃ i H', Inv (blkP X p s3 H3 scope ce [it]) [] (wipe σ (own.map (·.2))) H' s' ∧ s'.heap.IsListIter it a i ∧ H' it = none ∧ W i n H') ?_ m0 ⟨0, H3, I4, st4, nit, w0⟩
    rintro n s5 ⟨i, H5, I5, st5, n5, w5⟩
    obtain ⟨f0, f1, -, ff3, f4, f5⟩ := stat (pn' := []) I5 n5
    obtain ⟨x1, at5⟩ := hotB.at I5
    rcases turn i n H5 w5 with ⟨stop, qq⟩ | ⟨go, Nx, hNx, step⟩
    · obtain ⟨xs, hq, hx⟩ := stop
      obtain ⟨its, rv, pl, hz⟩ := I5.list hq
      refine next_list_hot at5 st5 pl.isList (Array.getElem?_eq_none (by rw [List.size_toArray, ← rv.length]; exact hx)) fun g6 k6 => ?_
      have I6 := I5.turned (t' := s5.toks) (fun b o hb e => k6 b o hb e) f0 f1 ff3 f4 f5
      have I7 : Inv X pins σ H5 { s5 with heap := g6 } := I3.call' (ch := [it]) I6.os I6.base I6.hok I6.bare fun b hb => by
        obtain rfl : b = it := by simpa using hb
        exact ⟨f3.2.2.2.1, f3.2.1, f3.2.2.2.2.1, f3.2.2.2.2.2⟩
      have nC : H5 s3.heap.objs.size = none := by
        rw [← loc]
        exact I6.free
      obtain ⟨m, hn, _⟩ := I6.loc
      have hn2 : g6.Ns s3.heap.objs.size m := by
        rw [← loc]
        exact hn
      exact out D s3.heap.objs.size { s5 with heap := g6 } m H5 I7 qq hn2 (I3.fpOk (Nat.le_refl _) nC)
    · obtain ⟨xs, x, hq, hx⟩ := id go
      obtain ⟨its, rv, pl, hz⟩ := I5.list hq
      obtain ⟨u, hu, ru⟩ := rv.get hx
      refine wpAny_pyNext_list_item st5 pl.isList (x := u) (by simpa using hu) fun g6 st6 sb => ?_
      have I6 : Inv (blkP X p s3 H3 scope ce [it]) [] (wipe σ (own.map (·.2))) H5 { s5 with heap := g6 } := I5.turned (t' := s5.toks) (fun b o hb e => (sb.2 b hb).trans e) f0 f1 ff3 f4 f5
      obtain ⟨o6, e6, c6, d6⟩ := id st6
      refine go_of (s := { s5 with heap := g6 }) e6 c6 d6 (by decide) ?_
      have I7 := I6.pinned (fp := [it]) (fun b hb => by
        obtain rfl : b = it := by simpa using hb
        exact stat (pn' := []) I6 n5) fun b hb => by
        obtain rfl : b = it := by simpa using hb
        exact ⟨o6, e6, fun v z => by rw [d6] at z; cases z⟩
      refine thnF (pg.run _ _ _ H5 x u _ I7 ru (step x H5 ⟨rfl, fun ys hy => by rw [I5.list_inj hy hq]; exact hx⟩)) fun _ s8 ⟨σ8, H8, I8, hw8, q8⟩ => ?_
      refine thnF (pt.run _ s8 σ8 H8 _ I8 q8) fun b s9 ⟨H9, I9, q9⟩ => ?_
      have fin : ∀ {s' : Shared} {H' : Hp}, Inv (blkP X p s3 H3 scope ce [it]) ([] ++ pinsAt [it] g6) σ8 H' s' → Nx H' → ∃ m, m < n ∧ ∃ i H', Inv (blkP X p s3 H3 scope ce [it]) [] (wipe σ (own.map (·.2))) H' s' ∧ s'.heap.IsListIter it a i ∧ H' it = none ∧ W i m H' := fun {s' H'} J nx => by
        obtain ⟨m', hm, w'⟩ := hNx H' nx
        have z := J.pin (it, o6) (List.mem_append_right _ (List.mem_append_right _ (mem_pinsAt List.mem_cons_self e6)))
        refine ⟨m', hm, i + 1, H', (J.unpinned (pins := [])).weak (by rw [← hw8, wipe_length]) (fun j v e => ?_), ⟨o6, z.1, c6, d6⟩, z.2.1, w'⟩
        rw [← hw8] at e
        exact (wipe_some e).1
      cases b with
      | false =>
        rw [if_neg Bool.false_ne_true] at q9 ⊢
        exact fin I9 q9
      | true =>
        rw [if_pos rfl] at q9 ⊢
        refine thnF (pe.run _ s9 σ8 H9 _ I9 q9) fun z s10 ⟨yv, H10, I10, r10, acc, hD10, hz10, nx⟩ => ?_
        exact app_ok (X := N.blkP X p s3 H3 scope ce [it]) I10 hD10 hz10 r10 fun s11 I11 => fin I11 nx
  exact codeAny_compStart_list loop (wpAny_pyIter_listiter st4 loop)
/-- name = [..] on one line -/
theorem ps_setLcH {p : Addr × Obj} {i : Nat} {y : Str} {py : Pos} {elt tg l : Expr} {ifs : List Expr} {scope : Scope} {own : List (Str × Nat)} {pos spos : Pos} {tl : TE} {g : TG} {tt : TT} {te : TE} (hot : Hot1 X.A p) (hp : p ∈ X.pn) (nd : X.N.Nodup) (hy : X.N[i]? = some y) (hyl : X.env.scope.names.lookup y = some .local)
    (hsw : swapsWith (.ListComp elt [⟨tg, l, ifs, 0⟩] scope pos) (some (.Name y py)) spos.line X.env = pure true) (hl : PE X l tl) (ok : BlkOk X.N X.env.scope scope own)
    (hg : ∀ s H C cl fp, PG (blkP X p s H scope (compEnvC scope cl C X.env) fp) tg g) (ht : ∀ s H C cl fp, PTs (blkP X p s H scope (compEnvC scope cl C X.env) fp) ifs tt) (he : ∀ s H C cl fp, PE (blkP X p s H scope (compEnvC scope cl C X.env) fp) elt te)
    (hs : ∀ x, foldedSetIterable l X.env x = pure x) : PS X (.Assign [.Name y py] (.ListComp elt [⟨tg, l, ifs, 0⟩] scope pos) spos) (tAsg (tLc (iList X.K tl) g tt te (own.map (·.2))) (gName i)) := by
  refine ⟨fun pins s σ H D I h => ?_⟩
  rw [exec_Assign_Name_used _ _ _ _ hsw]
  refine wpAny_bind (wpAny_standAt (wpAny_bind (wpAny_bind (thn (lcH_core (R := fun _ s' => SP X pins D .next s') (use := some (assign (.Name y py) X.env)) hot hp nd I hl ok hg ht he hs h fun L C s' m H' J q hn f => ?_) fun _ s' z => wpAny_pure (wpAny_pure z)))))
  show wpAny _ _ (assign (.Name y py) X.env (.ref L)) _ _ _
  refine wpAny_assign_Name (store_ok2 (v := V.ref L) J nd hy (.inl hyl) rfl (fun s2 J2 ⟨b, sb, hb⟩ => ?_) (.inr hyl))
  obtain ⟨f0, f1, -, f3, f4, f5⟩ := f
  have ne : C ≠ b := hb.elim (fun z => by rw [z]; exact f1) fun z e => f4 y b z e.symm
  exact ⟨m, hn.sameBut sb ne, fun h3 sb3 => ⟨_, H', J2.turned (t' := s2.toks) (fun b o hb e => (sb3.2 b hb).trans e) f0 f1 f3 f4 f5, q⟩⟩
end
end N
namespace N
open PySem L2

inductive W where
  | non | bl (b : Bool) | int (i : Int) | str (x : Str) | tup (ws : List W) | ref (n : Nat)
  /-- a list that nobody changes (the script) -/
  | rl (ws : List W)
  /-- the exception that is handled: its place, its dict, its fields -/
  | exn (a : Addr) (d : Option Addr) (ns : List Str) (ws : List W)
inductive O where
  | lst (ws : List W) | dct (kvs : List (Key × W)) | ins (c : Nat) (fs : List (Str × W))
  /-- a dict that is being walked -/
  | fdct (kvs : List (Key × W))
abbrev Store := List O
structure Ex where
  cls : Nat
  own : Option (List (Str × W))
inductive R (α : Type) where
  | ok (a : α) (S : Store) | exc (x : Ex) (S : Store) | bad
def M (α : Type) := Store → R α
def M.bind {α β : Type} (m : M α) (f : α → M β) : M β := fun S => match m S with
  | .ok a S' => f a S'
  | .exc x S' => .exc x S'
  | .bad => .bad
def M.ret {α : Type} (a : α) : M α := fun S => .ok a S
instance : Monad M where
  pure := M.ret
  bind := M.bind
theorem bind_def {α β : Type} (m : M α) (f : α → M β) : (m >>= f) = M.bind m f := rfl
theorem pure_def {α : Type} (a : α) : (pure a : M α) = M.ret a := rfl
def bad {α : Type} : M α := fun _ => .bad
def wp {α : Type} (r : R α) (Q : α → Store → Prop) (E : Ex → Store → Prop) : Prop := match r with
  | .ok a S => Q a S
  | .exc x S => E x S
  | .bad => False
@[simp] theorem wp_ok {α : Type} {a : α} {S : Store} {Q : α → Store → Prop} {E : Ex → Store → Prop} : wp (.ok a S) Q E = Q a S := rfl
@[simp] theorem wp_exc {α : Type} {x : Ex} {S : Store} {Q : α → Store → Prop} {E : Ex → Store → Prop} : wp (.exc x S) Q E = E x S := rfl
@[simp] theorem wp_bad {α : Type} {Q : α → Store → Prop} {E : Ex → Store → Prop} : wp (.bad) Q E = False := rfl
theorem wp_bind {α β : Type} {m : M α} {f : α → M β} {S : Store} {Q : β → Store → Prop} {E : Ex → Store → Prop} : wp ((m >>= f) S) Q E = wp (m S) (fun a S' => wp (f a S') Q E) E := by
  show wp (M.bind m f S) Q E = _
  unfold M.bind
  cases m S <;> rfl
theorem wp_mono {α : Type} {r : R α} {Q Q' : α → Store → Prop} {E E' : Ex → Store → Prop} (h : wp r Q E) (hQ : ∀ a S, Q a S → Q' a S) (hE : ∀ x S, E x S → E' x S) : wp r Q' E' := by
  cases r with
  | ok a S => exact hQ _ _ h
  | exc x S => exact hE _ _ h
  | bad => exact h

/-! ### the relation -/
/-- signs that are signs -/
def okS (x : Str) : Bool := x.cps.toList.all fun c => decide (c < 1114112)
/-- a list that stands for ever: locked, or of the module -/
def FzL (K : PySem.W.Frag) (H : Hp) (a : Addr) (xs : List V) : Prop := (∃ o, H a = some (.frz o (.lst xs))) ∨
    ∃ (o : Obj) (its : Array Value) (n : Nat), K.lookup a = some o ∧ o.cls = .type "list" ∧ o.dict = none ∧ o.data = .seq its n ∧ its.size ≤ sizeLine ∧ Vals xs its.toList
theorem FzL.sq {K : PySem.W.Frag} {H : Hp} {a : Addr} {xs : List V} (h : FzL K H a xs) : SqL K H a xs := h.elim (fun h => .inl (.inr h)) .inr
mutual
inductive VR (K : PySem.W.Frag) (H : Hp) (ρ : List Addr) : W → V → Prop
  | non : VR K H ρ .non .non
  | bl (b : Bool) : VR K H ρ (.bl b) (.bl b)
  | int (i : Int) : VR K H ρ (.int i) (.int i)
  | str {x : Str} : okS x = true → VR K H ρ (.str x) (.str x)
  | ref {n : Nat} {a : Addr} : ρ[n]? = some a → VR K H ρ (.ref n) (.ref a)
  | tup {ws : List W} {a : Addr} {vs : List V} : SqT K H a vs → VRs K H ρ ws vs → VR K H ρ (.tup ws) (.ref a)
  | rl {ws : List W} {a : Addr} {vs : List V} : FzL K H a vs → VRs K H ρ ws vs → VR K H ρ (.rl ws) (.ref a)
  | exn0 {a : Addr} : VR K H ρ (.exn a none [] []) (.ref a)
  | exnD {a d : Addr} {l : List (Str × V)} {ns : List Str} {ws : List W} {vs : List V} : H d = some (.xd l) → l.map (·.1) = ns → l.map (·.2) = vs → VRs K H ρ ws vs → VR K H ρ (.exn a (some d) ns ws) (.ref a)
inductive VRs (K : PySem.W.Frag) (H : Hp) (ρ : List Addr) : List W → List V → Prop
  | nil : VRs K H ρ [] []
  | cons {w : W} {v : V} {ws : List W} {vs : List V} : VR K H ρ w v → VRs K H ρ ws vs → VRs K H ρ (w :: ws) (v :: vs)
end
structure Ext (K : PySem.W.Frag) (H : Hp) (ρ : List Addr) (H' : Hp) (ρ' : List Addr) : Prop where
  pre : ∀ (n : Nat) (a : Addr), ρ[n]? = some a → ρ'[n]? = some a
  keep : ∀ a o, a ∉ ρ → H a = some o → H' a = some o
  new : ∀ a ∈ ρ', a ∈ ρ ∨ H a = none
  tups : ∀ a vs, SqT K H a vs → SqT K H' a vs
  frzs : ∀ a o u, H a = some (.frz o u) → H' a = some (.frz o u)
  xds : ∀ d l, H d = some (.xd l) → H' d = some (.xd l)
theorem Ext.refl {K : PySem.W.Frag} {H : Hp} {ρ : List Addr} : Ext K H ρ H ρ := ⟨fun _ _ h => h, fun _ _ _ h => h, fun _ h => .inl h, fun _ _ h => h, fun _ _ _ h => h, fun _ _ h => h⟩
theorem Ext.trans {K : PySem.W.Frag} {H H1 H2 : Hp} {ρ ρ1 ρ2 : List Addr} (a : Ext K H ρ H1 ρ1) (b : Ext K H1 ρ1 H2 ρ2) : Ext K H ρ H2 ρ2 where
  pre := fun n x h => b.pre n x (a.pre n x h)
  keep := fun x o hx h => b.keep x o (fun z => (a.new x z).elim hx fun z => by rw [h] at z; cases z) (a.keep x o hx h)
  new := fun x h => (b.new x h).elim (fun z => a.new x z) fun z => by
    by_cases hx : x ∈ ρ
    · exact .inl hx
    · refine .inr ?_
      cases q : H x with
      | none => rfl
      | some o => rw [a.keep x o hx q] at z; cases z
  tups := fun x vs h => b.tups x vs (a.tups x vs h)
  frzs := fun x o u h => b.frzs x o u (a.frzs x o u h)
  xds := fun x l h => b.xds x l (a.xds x l h)
theorem Ext.fz {K : PySem.W.Frag} {H H1 : Hp} {ρ ρ1 : List Addr} (e : Ext K H ρ H1 ρ1) (a : Addr) (vs : List V) (h : FzL K H a vs) : FzL K H1 a vs := h.elim (fun ⟨o, q⟩ => .inl ⟨o, e.frzs _ _ _ q⟩) .inr
mutual
theorem VR.mono {K : PySem.W.Frag} {H H' : Hp} {ρ ρ' : List Addr} (e : Ext K H ρ H' ρ') : ∀ {w : W} {v : V}, VR K H ρ w v → VR K H' ρ' w v
  | _, _, .non => .non
  | _, _, .bl b => .bl b
  | _, _, .int i => .int i
  | _, _, .str h => .str h
  | _, _, .ref h => .ref (e.pre _ _ h)
  | _, _, .tup h t => .tup (e.tups _ _ h) (VRs.mono e t)
  | _, _, .rl h t => .rl (e.fz _ _ h) (VRs.mono e t)
  | _, _, .exn0 => .exn0
  | _, _, .exnD h1 h2 h3 t => .exnD (e.xds _ _ h1) h2 h3 (VRs.mono e t)
theorem VRs.mono {K : PySem.W.Frag} {H H' : Hp} {ρ ρ' : List Addr} (e : Ext K H ρ H' ρ') : ∀ {ws : List W} {vs : List V}, VRs K H ρ ws vs → VRs K H' ρ' ws vs
  | _, _, .nil => .nil
  | _, _, .cons h t => .cons (VR.mono e h) (VRs.mono e t)
end
mutual
theorem VR.remap {K : PySem.W.Frag} {H H' : Hp} {ρ : List Addr} (t : ∀ a vs, SqT K H a vs → SqT K H' a vs) (f : ∀ a vs, FzL K H a vs → FzL K H' a vs) (x : ∀ d l, H d = some (.xd l) → H' d = some (.xd l)) : ∀ {w : W} {v : V}, VR K H ρ w v → VR K H' ρ w v
  | _, _, .non => .non
  | _, _, .bl b => .bl b
  | _, _, .int i => .int i
  | _, _, .str h => .str h
  | _, _, .ref h => .ref h
  | _, _, .tup h q => .tup (t _ _ h) (VRs.remap t f x q)
  | _, _, .rl h q => .rl (f _ _ h) (VRs.remap t f x q)
  | _, _, .exn0 => .exn0
  | _, _, .exnD h1 h2 h3 q => .exnD (x _ _ h1) h2 h3 (VRs.remap t f x q)
theorem VRs.remap {K : PySem.W.Frag} {H H' : Hp} {ρ : List Addr} (t : ∀ a vs, SqT K H a vs → SqT K H' a vs) (f : ∀ a vs, FzL K H a vs → FzL K H' a vs) (x : ∀ d l, H d = some (.xd l) → H' d = some (.xd l)) : ∀ {ws : List W} {vs : List V}, VRs K H ρ ws vs → VRs K H' ρ ws vs
  | _, _, .nil => .nil
  | _, _, .cons h q => .cons (VR.remap t f x h) (VRs.remap t f x q)
end
mutual
theorem VR.more {K : PySem.W.Frag} {H : Hp} {ρ ρ' : List Addr} (p : ∀ (n : Nat) (a : Addr), ρ[n]? = some a → ρ'[n]? = some a) : ∀ {w : W} {v : V}, VR K H ρ w v → VR K H ρ' w v
  | _, _, .non => .non
  | _, _, .bl b => .bl b
  | _, _, .int i => .int i
  | _, _, .str h => .str h
  | _, _, .ref h => .ref (p _ _ h)
  | _, _, .tup h q => .tup h (VRs.more p q)
  | _, _, .rl h q => .rl h (VRs.more p q)
  | _, _, .exn0 => .exn0
  | _, _, .exnD h1 h2 h3 q => .exnD h1 h2 h3 (VRs.more p q)
theorem VRs.more {K : PySem.W.Frag} {H : Hp} {ρ ρ' : List Addr} (p : ∀ (n : Nat) (a : Addr), ρ[n]? = some a → ρ'[n]? = some a) : ∀ {ws : List W} {vs : List V}, VRs K H ρ ws vs → VRs K H ρ' ws vs
  | _, _, .nil => .nil
  | _, _, .cons h q => .cons (VR.more p h) (VRs.more p q)
end
section
variable {K : PySem.W.Frag} {H H' : Hp} {ρ ρ' : List Addr}
theorem VRs.length : ∀ {ws : List W} {vs : List V}, VRs K H ρ ws vs → ws.length = vs.length
  | _, _, .nil => rfl
  | _, _, .cons _ t => by simp [VRs.length t]
theorem VRs.get : ∀ {ws : List W} {vs : List V} {i : Nat} {w : W}, VRs K H ρ ws vs → ws[i]? = some w → ∃ v, vs[i]? = some v ∧ VR K H ρ w v
  | _, _, _, _, .nil, e => by simp at e
  | _, _, 0, _, .cons r _, e => by simp at e; subst e; exact ⟨_, rfl, r⟩
  | _, _, i + 1, w, .cons _ t, e => by
    obtain ⟨v, h1, h2⟩ := VRs.get (i := i) (w := w) t (by simpa using e)
    exact ⟨v, by simpa using h1, h2⟩
theorem VRs.get' : ∀ {ws : List W} {vs : List V} {i : Nat} {v : V}, VRs K H ρ ws vs → vs[i]? = some v → ∃ w, ws[i]? = some w ∧ VR K H ρ w v
  | _, _, _, _, .nil, e => by simp at e
  | _, _, 0, _, .cons r _, e => by simp at e; subst e; exact ⟨_, rfl, r⟩
  | _, _, i + 1, w, .cons _ t, e => by
    obtain ⟨v, h1, h2⟩ := VRs.get' (i := i) (v := w) t (by simpa using e)
    exact ⟨v, by simpa using h1, h2⟩
theorem VRs.append : ∀ {ws ws' : List W} {vs vs' : List V}, VRs K H ρ ws vs → VRs K H ρ ws' vs' → VRs K H ρ (ws ++ ws') (vs ++ vs')
  | _, _, _, _, .nil, s => s
  | _, _, _, _, .cons r t, s => .cons r (VRs.append t s)
theorem VRs.set {w : W} {v : V} (r : VR K H ρ w v) : ∀ {ws : List W} {vs : List V} (i : Nat), VRs K H ρ ws vs → VRs K H ρ (ws.set i w) (vs.set i v)
  | _, _, _, .nil => .nil
  | _, _, 0, .cons _ t => .cons r t
  | _, _, i + 1, .cons q t => .cons q (VRs.set r i t)
theorem VRs.take : ∀ {ws : List W} {vs : List V} (n : Nat), VRs K H ρ ws vs → VRs K H ρ (ws.take n) (vs.take n)
  | _, _, 0, _ => .nil
  | _, _, _ + 1, .nil => .nil
  | _, _, n + 1, .cons r t => .cons r (VRs.take n t)
theorem VRs.drop : ∀ {ws : List W} {vs : List V} (n : Nat), VRs K H ρ ws vs → VRs K H ρ (ws.drop n) (vs.drop n)
  | _, _, 0, r => r
  | _, _, n + 1, .nil => .nil
  | _, _, n + 1, .cons _ t => VRs.drop n t
theorem VRs.eraseIdx : ∀ {ws : List W} {vs : List V} (i : Nat), VRs K H ρ ws vs → VRs K H ρ (ws.eraseIdx i) (vs.eraseIdx i)
  | _, _, _, .nil => .nil
  | _, _, 0, .cons _ t => t
  | _, _, i + 1, .cons r t => .cons r (VRs.eraseIdx i t)
theorem VRs.reverse {ws : List W} {vs : List V} (h : VRs K H ρ ws vs) : VRs K H ρ ws.reverse vs.reverse := by
  induction ws generalizing vs with
  | nil => cases h; exact .nil
  | cons w ws ih =>
    cases h with
    | cons r t => rw [List.reverse_cons, List.reverse_cons]; exact (ih t).append (.cons r .nil)
theorem VRs.ints : ∀ (ns : List Int), VRs K H ρ (ns.map W.int) (ns.map V.int)
  | [] => .nil
  | _ :: ns => .cons (.int _) (VRs.ints ns)
theorem VR.inj1 {n m : Nat} {a : Addr} (nd : ρ.Nodup) (h : ρ[n]? = some a) (h' : ρ[m]? = some a) : n = m := by
  obtain ⟨h1, e1⟩ := List.getElem?_eq_some_iff.mp h
  obtain ⟨h2, e2⟩ := List.getElem?_eq_some_iff.mp h'
  exact (List.getElem_inj nd).mp (e1.trans e2.symm)
end

/-- fields of an object, pairs of a dict -/
abbrev FR {κ : Type} (K : PySem.W.Frag) (H : Hp) (ρ : List Addr) : List (κ × W) → List (κ × V) → Prop := Paired fun p q => p.1 = q.1 ∧ VR K H ρ p.2 q.2
theorem FR.mono {κ : Type} {K : PySem.W.Frag} {H H' : Hp} {ρ ρ' : List Addr} (e : Ext K H ρ H' ρ') {l : List (κ × W)} {l' : List (κ × V)} (h : FR K H ρ l l') : FR K H' ρ' l l' :=
  Paired.mapP h fun _ _ r => ⟨r.1, r.2.mono e⟩
/-- what is fixed through a law -/
structure Top where
  P : Program
  w : World
  K : PySem.W.Frag
  mg : Str → Option Value
  base : Heap
  cl : Nat → Addr
def OR (G : Top) (H : Hp) (ρ : List Addr) (a : Addr) : O → Prop
  | .lst ws => ∃ vs, H a = some (.lst vs) ∧ VRs G.K H ρ ws vs
  | .dct kvs => ∃ l, H a = some (.dK l) ∧ FR G.K H ρ kvs l
  | .ins c fs => ∃ dx l, H a = some (.ins (G.cl c) dx l) ∧ FR G.K H ρ fs l
  | .fdct kvs => ∃ o l, H a = some (.frz o (.dK l)) ∧ FR G.K H ρ kvs l
structure SR (G : Top) (H : Hp) (ρ : List Addr) (S : Store) : Prop where
  len : ρ.length = S.length
  nd : ρ.Nodup
  ob : ∀ (n : Nat) (a : Addr) (o : O), ρ[n]? = some a → S[n]? = some o → OR G H ρ a o
def XR (G : Top) (H : Hp) (ρ : List Addr) (x : Ex) (cls : Value) (dd : Option Addr) : Prop :=
  cls = .ref (G.cl x.cls) ∧ match x.own with
    | none => dd = none
    | some fs => ∃ d l, dd = some d ∧ H d = some (.xd l) ∧ FR G.K H ρ fs l
abbrev Ev := List (Option W)
structure EvR (K : PySem.W.Frag) (H : Hp) (ρ : List Addr) (ε : Ev) (σ : St) : Prop where
  len : ε.length = σ.length
  at_ : ∀ (i : Nat) (w : W), ε[i]? = some (some w) → ∃ v, σ[i]? = some (some v) ∧ VR K H ρ w v
theorem EvR.mono {K : PySem.W.Frag} {H H' : Hp} {ρ ρ' : List Addr} {ε : Ev} {σ : St} (s : EvR K H ρ ε σ) (e : Ext K H ρ H' ρ') : EvR K H' ρ' ε σ :=
  ⟨s.len, fun i w h => let ⟨v, a, b⟩ := s.at_ i w h; ⟨v, a, b.mono e⟩⟩
theorem EvR.set {K : PySem.W.Frag} {H : Hp} {ρ : List Addr} {ε : Ev} {σ : St} {w : W} {v : V} (s : EvR K H ρ ε σ) (i : Nat) (r : VR K H ρ w v) : EvR K H ρ (ε.set i (some w)) (σ.set i (some v)) := by
  refine ⟨by simp [s.len], fun j w' h => ?_⟩
  by_cases hj : i = j
  · subst hj
    by_cases hi : i < ε.length
    · rw [List.getElem?_set_self hi] at h
      cases h
      exact ⟨v, by rw [List.getElem?_set_self (by rw [← s.len]; exact hi)], r⟩
    · rw [List.getElem?_eq_none (by simpa using hi)] at h
      cases h
  · rw [List.getElem?_set_ne hj] at h
    rw [List.getElem?_set_ne hj]
    exact s.at_ j w' h
/-- object kinds differ: a tuple's place is none of the store's -/
theorem Rd.uniq {H : Hp} {a : Addr} {o : HO} {xs : List V} (h : Rd H a (.tup xs)) (h' : H a = some o) : o = .tup xs ∨ ∃ ob, o = .frz ob (.tup xs) := by
  rcases h with h | ⟨ob, h⟩
  · rw [h'] at h; cases h; exact .inl rfl
  · rw [h'] at h; cases h; exact .inr ⟨ob, rfl⟩
theorem tups_upd {K : PySem.W.Frag} {H : Hp} {a : Addr} {o u : HO} (h : H a = some o) (hm : Mut (some o)) : ∀ b vs, SqT K H b vs → SqT K (upd H a u) b vs := fun b vs q => by
  rcases q with q | q
  · by_cases e : b = a
    · subst e
      rcases Rd.uniq q h with rfl | ⟨_, rfl⟩ <;> exact hm.elim
    · refine .inl ?_
      rcases q with q | ⟨ob, q⟩
      · exact .inl (by rw [upd_ne e]; exact q)
      · exact .inr ⟨ob, by rw [upd_ne e]; exact q⟩
  · exact .inr q
theorem tups_new {K : PySem.W.Frag} {H : Hp} {a : Addr} {u : HO} (h : H a = none) : ∀ b vs, SqT K H b vs → SqT K (upd H a u) b vs := fun b vs q => by
  rcases q with q | q
  · refine .inl ?_
    rcases q with q | ⟨ob, q⟩
    · exact .inl (by rw [upd_ne (ne_of_none q h)]; exact q)
    · exact .inr ⟨ob, by rw [upd_ne (ne_of_none q h)]; exact q⟩
  · exact .inr q
theorem frzs_upd {K : PySem.W.Frag} {H : Hp} {a : Addr} {o u : HO} (h : H a = some o) (hm : Mut (some o)) : ∀ b vs, FzL K H b vs → FzL K (upd H a u) b vs := fun b vs q => by
  rcases q with ⟨ob, q⟩ | q
  · by_cases e : b = a
    · subst e
      rw [h] at q; cases q; exact hm.elim
    · exact .inl ⟨ob, by rw [upd_ne e]; exact q⟩
  · exact .inr q
theorem frzs_new {K : PySem.W.Frag} {H : Hp} {a : Addr} {u : HO} (h : H a = none) : ∀ b vs, FzL K H b vs → FzL K (upd H a u) b vs := fun b vs q => by
  rcases q with ⟨ob, q⟩ | q
  · exact .inl ⟨ob, by rw [upd_ne (ne_of_none q h)]; exact q⟩
  · exact .inr q
theorem frz_upd {H : Hp} {a : Addr} {o u : HO} (h : H a = some o) (hm : Mut (some o)) : ∀ b ob u', H b = some (.frz ob u') → upd H a u b = some (.frz ob u') := fun b ob u' q => by
  by_cases e : b = a
  · subst e
    rw [h] at q; cases q; exact hm.elim
  · rw [upd_ne e]; exact q
theorem frz_new {H : Hp} {a : Addr} {u : HO} (h : H a = none) : ∀ b ob u', H b = some (.frz ob u') → upd H a u b = some (.frz ob u') := fun b ob u' q => by
  rw [upd_ne (ne_of_none q h)]; exact q
theorem xd_upd {H : Hp} {a : Addr} {o u : HO} (h : H a = some o) (hm : Mut (some o)) : ∀ d l, H d = some (.xd l) → upd H a u d = some (.xd l) := fun b l q => by
  by_cases e : b = a
  · subst e
    rw [h] at q; cases q; exact hm.elim
  · rw [upd_ne e]; exact q
theorem xd_new {H : Hp} {a : Addr} {u : HO} (h : H a = none) : ∀ d l, H d = some (.xd l) → upd H a u d = some (.xd l) := fun b l q => by
  rw [upd_ne (ne_of_none q h)]; exact q
section
variable {G : Top} {H : Hp} {ρ : List Addr} {S : Store}
/-- a new untracked-by-us object (a tuple, a record) -/
theorem Ext.fresh {a : Addr} {u : HO} (h : H a = none) : Ext G.K H ρ (upd H a u) ρ :=
  ⟨fun _ _ z => z, fun b o _ z => by rw [upd_ne (ne_of_none z h)]; exact z, fun _ z => .inl z, tups_new h, frz_new h, xd_new h⟩
theorem OR.fresh {a b : Addr} {u : HO} {o : O} (h : H a = none) (r : OR G H ρ b o) : OR G (upd H a u) ρ b o := by
  have e : Ext G.K H ρ (upd H a u) ρ := Ext.fresh h
  cases o with
  | lst ws => obtain ⟨vs, z, q⟩ := r; exact ⟨vs, by rw [upd_ne (ne_of_none z h)]; exact z, q.mono e⟩
  | dct kvs => obtain ⟨vs, z, q⟩ := r; exact ⟨vs, by rw [upd_ne (ne_of_none z h)]; exact z, FR.mono e q⟩
  | ins c fs => obtain ⟨dx, vs, z, q⟩ := r; exact ⟨dx, vs, by rw [upd_ne (ne_of_none z h)]; exact z, FR.mono e q⟩
  | fdct kvs => obtain ⟨ob, vs, z, q⟩ := r; exact ⟨ob, vs, by rw [upd_ne (ne_of_none z h)]; exact z, FR.mono e q⟩
theorem SR.fresh {a : Addr} {u : HO} (sr : SR G H ρ S) (h : H a = none) : SR G (upd H a u) ρ S := ⟨sr.len, sr.nd, fun n b o h1 h2 => (sr.ob n b o h1 h2).fresh h⟩
theorem SR.dom {n : Nat} {o : O} (sr : SR G H ρ S) (h : S[n]? = some o) : ∃ a, ρ[n]? = some a ∧ OR G H ρ a o := by
  have hn : n < ρ.length := by rw [sr.len]; exact (List.getElem?_eq_some_iff.mp h).1
  exact ⟨ρ[n], List.getElem?_eq_getElem hn, sr.ob n _ o (List.getElem?_eq_getElem hn) h⟩
theorem SR.at_ {n : Nat} {a : Addr} {o : O} (sr : SR G H ρ S) (r : VR G.K H ρ (.ref n) (.ref a)) (h : S[n]? = some o) : OR G H ρ a o := by
  cases r with
  | ref q => exact sr.ob n a o q h
/-- objects of ρ are no tuples where the store knows them as mutable ones -/
theorem OR.mono_pre {ρ' : List Addr} {H' : Hp} {b : Addr} {o : O} (e : Ext G.K H ρ H' ρ') (hb : ∀ u, H b = some u → H' b = some u) (r : OR G H ρ b o) : OR G H' ρ' b o := by
  cases o with
  | lst ws => obtain ⟨vs, z, q⟩ := r; exact ⟨vs, hb _ z, q.mono e⟩
  | dct kvs => obtain ⟨vs, z, q⟩ := r; exact ⟨vs, hb _ z, FR.mono e q⟩
  | ins c fs => obtain ⟨dx, vs, z, q⟩ := r; exact ⟨dx, vs, hb _ z, FR.mono e q⟩
  | fdct kvs => obtain ⟨ob, vs, z, q⟩ := r; exact ⟨ob, vs, hb _ z, FR.mono e q⟩
theorem SR.fresh_mem {a : Addr} (sr : SR G H ρ S) (h : H a = none) : a ∉ ρ := fun z => by
  obtain ⟨n, hn, e⟩ := List.mem_iff_getElem.mp z
  have hs : n < S.length := by rw [← sr.len]; exact hn
  have q := sr.ob n a S[n] (by rw [List.getElem?_eq_getElem hn, e]) (List.getElem?_eq_getElem hs)
  cases ho : S[n] with
  | lst ws => rw [ho] at q; obtain ⟨_, z, _⟩ := q; rw [h] at z; cases z
  | dct kvs => rw [ho] at q; obtain ⟨_, z, _⟩ := q; rw [h] at z; cases z
  | ins c fs => rw [ho] at q; obtain ⟨_, _, z, _⟩ := q; rw [h] at z; cases z
  | fdct kvs => rw [ho] at q; obtain ⟨_, _, z, _⟩ := q; rw [h] at z; cases z
/-- a new object of the store -/
theorem Ext.snoc {a : Addr} {u : HO} (h : H a = none) : Ext G.K H ρ (upd H a u) (ρ ++ [a]) := by
  refine ⟨fun n x z => ?_, fun b o _ z => by rw [upd_ne (ne_of_none z h)]; exact z, fun x z => ?_, tups_new h, frz_new h, xd_new h⟩
  · rw [List.getElem?_append_left (List.getElem?_eq_some_iff.mp z).1]; exact z
  · rcases List.mem_append.mp z with z | z
    · exact .inl z
    · simp at z; subst z; exact .inr h
theorem SR.snoc {a : Addr} {u : HO} {o : O} (sr : SR G H ρ S) (h : H a = none) (r : OR G (upd H a u) (ρ ++ [a]) a o) : SR G (upd H a u) (ρ ++ [a]) (S ++ [o]) := by
  refine ⟨by simp [sr.len], ?_, fun n b o' h1 h2 => ?_⟩
  · rw [List.nodup_append]
    exact ⟨sr.nd, by simp, fun x hx y hy z => by simp at hy; subst hy; subst z; exact sr.fresh_mem h hx⟩
  · by_cases hl : n < ρ.length
    · rw [List.getElem?_append_left hl] at h1
      rw [List.getElem?_append_left (by rw [← sr.len]; exact hl)] at h2
      exact (sr.ob n b o' h1 h2).mono_pre (Ext.snoc h) (fun u' z => by rw [upd_ne (ne_of_none z h)]; exact z)
    · have hl2 : ρ.length ≤ n := Nat.le_of_not_lt hl
      rw [List.getElem?_append_right hl2] at h1
      rw [List.getElem?_append_right (by rw [← sr.len]; exact hl2)] at h2
      have e : n - ρ.length = 0 := by
        have := (List.getElem?_eq_some_iff.mp h1).1
        simp at this; omega
      rw [e] at h1
      rw [← sr.len, e] at h2
      simp at h1 h2
      subst h1; subst h2
      exact r
/-- an object of the store changed -/
theorem Ext.upd {n : Nat} {a : Addr} {o u : HO} (hr : ρ[n]? = some a) (h : H a = some o) (hm : Mut (some o)) : Ext G.K H ρ (upd H a u) ρ :=
  ⟨fun _ _ z => z, fun b o hb z => by rw [upd_ne (fun e => hb (by rw [e]; exact List.mem_of_getElem? hr))]; exact z, fun _ z => .inl z, tups_upd h hm, frz_upd h hm, xd_upd h hm⟩
theorem SR.upd {n : Nat} {a : Addr} {o u : HO} {ob : O} (sr : SR G H ρ S) (hr : ρ[n]? = some a) (h : H a = some o) (hm : Mut (some o)) (r : OR G (upd H a u) ρ a ob) : SR G (upd H a u) ρ (S.set n ob) := by
  refine ⟨by simp [sr.len], sr.nd, fun m b o' h1 h2 => ?_⟩
  by_cases e : n = m
  · subst e
    rw [hr] at h1; cases h1
    have hn : n < S.length := by rw [← sr.len]; exact (List.getElem?_eq_some_iff.mp hr).1
    rw [List.getElem?_set_self hn] at h2; cases h2
    exact r
  · rw [List.getElem?_set_ne e] at h2
    have hne : b ≠ a := fun z => e (VR.inj1 sr.nd hr (by rw [← z]; exact h1))
    exact (sr.ob m b o' h1 h2).mono_pre (Ext.upd hr h hm) (fun u' z => by rw [upd_ne hne]; exact z)
end
end N
namespace N
open PySem L2

structure Ctx where
  N : List Str
  sc : Scope
  fn : Str → Bool
  /-- within an except suite: the exception's place, its class, its dict -/
  hot : Option (Addr × Nat × Option Addr)
  /-- a def's body (no comprehension's block) -/
  top : Bool
structure Fit (G : Top) (c : Ctx) (k : Nat) (X : Cx) (W : WX) : Prop where
  P : X.prog = G.P
  w : X.w = G.w
  K : X.K = G.K
  mg : X.mg = G.mg
  base : X.base = G.base
  N : X.N = c.N
  sc : X.env.scope = c.sc
  nd : X.N.Nodup
  calm : c.hot = none → X.calm = true
  hotp : ∀ a cl d, c.hot = some (a, cl, d) → ∃ oe : Obj, (a, oe) ∈ X.pn ∧ L2H.Hot1 X.A (a, oe) ∧ L2N.Zn (.ref (G.cl cl)) d oe
  fr : c.top = true → X.stack = X.env :: X.outer ∧ X.env.frame = some X.env.locals
  room : L2H.RoomH k X.A
  gd : X.A.guards = some []
  tk : L2N.Takes X W
  pass : PassesOwn (model X.prog X.w) X.A X.env X.xe
  fn : ∀ x, c.fn x = true → X.fn x = true

theorem Fit.rm {G : Top} {c : Ctx} {k : Nat} {X : Cx} {W : WX} (F : Fit G c k X W) (hh : c.hot = none) {pins : List (Addr × Obj)} {σ : L2.St} {H : Hp} {s : Shared} (I : Inv X pins σ H s) : Room k X.A := ⟨I.ok.hd (F.calm hh), F.room.dp, F.room.un⟩
theorem Fit.hotC {G : Top} {c : Ctx} {k : Nat} {X : Cx} {W : WX} (F : Fit G c k X W) {h : Addr × Nat × Option Addr} (e : c.hot = some h) : L2H.HotC X := by
  obtain ⟨oe, h1, h2, _⟩ := F.hotp h.1 h.2.1 h.2.2 e
  exact ⟨(h.1, oe), h2, h1⟩
theorem takesN0 {X : Cx} : L2N.Takes X (fun _ _ _ _ => False) := fun u s' x => by
  obtain ⟨_, _, _, _, _, _, _, _, _, _, _, _, _, _, _, _, w⟩ := x
  exact w.elim
/-- what is wanted of a result -/
def Rg {α β : Type} (G : Top) (W : WX) (σ : St) (rel : Hp → List Addr → α → β → Prop) (r : R α) (H : Hp) (ρ : List Addr) (Q : β → Hp → Prop) : Prop :=
  wp r (fun a S' => ∀ H' ρ' b, Ext G.K H ρ H' ρ' → SR G H' ρ' S' → rel H' ρ' a b → Q b H')
    (fun x S' => ∀ H' ρ' cls dd, Ext G.K H ρ H' ρ' → SR G H' ρ' S' → XR G H' ρ' x cls dd → W cls dd σ H')
section
variable {G : Top} {W : WX} {σ : St}
theorem Rg.mono {α β : Type} {rel : Hp → List Addr → α → β → Prop} {r : R α} {H : Hp} {ρ : List Addr} {Q Q' : β → Hp → Prop} (h : Rg G W σ rel r H ρ Q) (hQ : ∀ b H', Q b H' → Q' b H') : Rg G W σ rel r H ρ Q' :=
  wp_mono h (fun _ _ q H' ρ' b e s v => hQ b H' (q H' ρ' b e s v)) fun _ _ q => q
theorem Rg.bind {α β γ δ : Type} {rel : Hp → List Addr → α → β → Prop} {rel2 : Hp → List Addr → γ → δ → Prop} {m : M α} {f : α → M γ} {S : Store} {H : Hp} {ρ : List Addr} {Q : δ → Hp → Prop} (h : Rg G W σ rel2 ((m >>= f) S) H ρ Q) :
    Rg G W σ rel (m S) H ρ (fun b H' => ∃ a S' ρ', Ext G.K H ρ H' ρ' ∧ SR G H' ρ' S' ∧ rel H' ρ' a b ∧ Rg G W σ rel2 (f a S') H' ρ' Q) := by
  unfold Rg at h ⊢
  rw [wp_bind] at h
  refine wp_mono h (fun a S' q H' ρ' b e s v => ⟨a, S', ρ', e, s, v, ?_⟩) fun x S' q H' ρ' cls dd e s v => q H' ρ' cls dd e s v
  exact wp_mono q (fun c S2 q2 H2 ρ2 d e2 s2 v2 => q2 H2 ρ2 d (e.trans e2) s2 v2) fun x S2 q2 H2 ρ2 cls dd e2 s2 v2 => q2 H2 ρ2 cls dd (e.trans e2) s2 v2
theorem Rg.ret {α β : Type} {rel : Hp → List Addr → α → β → Prop} {a : α} {b : β} {S : Store} {H : Hp} {ρ : List Addr} {Q : β → Hp → Prop} (h : Rg G W σ rel (M.ret a S) H ρ Q) (s : SR G H ρ S) (r : rel H ρ a b) : Q b H := h H ρ b Ext.refl s r
end
/-- readings -/
abbrev DE := Ev → M W
abbrev DB := Ev → M Bool
abbrev DA := Ev → M (List W)
abbrev rB : Hp → List Addr → Bool → Bool → Prop := fun _ _ a b => a = b
def tN (G : Top) (W : WX) (d : DE) : TE := fun σ H Q => ∃ ρ ε S, EvR G.K H ρ ε σ ∧ SR G H ρ S ∧ Rg G W σ (VR G.K) (d ε S) H ρ Q
def tB (G : Top) (W : WX) (d : DB) : TT := fun σ H Q => ∃ ρ ε S, EvR G.K H ρ ε σ ∧ SR G H ρ S ∧ Rg G W σ rB (d ε S) H ρ Q
def tA (G : Top) (W : WX) (d : DA) : TA := fun σ H Q => ∃ ρ ε S, EvR G.K H ρ ε σ ∧ SR G H ρ S ∧ Rg G W σ (VRs G.K) (d ε S) H ρ Q
theorem PE.imp {X : Cx} {e : Expr} {t t' : TE} (h : PE X e t) (f : ∀ σ H Q, t' σ H Q → t σ H Q) : PE X e t' := ⟨fun pins s σ H Q I q => h.run pins s σ H Q I (f _ _ _ q)⟩
theorem PT.imp {X : Cx} {e : Expr} {t t' : TT} (h : PT X e t) (f : ∀ σ H Q, t' σ H Q → t σ H Q) : PT X e t' := ⟨fun pins s σ H Q I q => h.run pins s σ H Q I (f _ _ _ q)⟩
theorem PW.imp {X : Cx} {e : Expr} {t t' : TT} (h : PW X e t) (f : ∀ σ H Q, t' σ H Q → t σ H Q) : PW X e t' := ⟨fun wh pins s σ H Q I q => h.run wh pins s σ H Q I (f _ _ _ q)⟩
theorem PA.imp {X : Cx} {e : List Expr} {t t' : TA} (h : PA X e t) (f : ∀ σ H Q, t' σ H Q → t σ H Q) : PA X e t' := ⟨fun p pins s σ H Q I q => h.run p pins s σ H Q I (f _ _ _ q)⟩
theorem PS.imp {X : Cx} {e : Stmt} {t t' : TS} (h : PS X e t) (f : ∀ D σ H, t' D σ H → t D σ H) : PS X e t' := ⟨fun pins s σ H D I q => h.run pins s σ H D I (f _ _ _ q)⟩
theorem PSs.imp {X : Cx} {e : List Stmt} {t t' : TS} (h : PSs X e t) (f : ∀ D σ H, t' D σ H → t D σ H) : PSs X e t' := ⟨fun pins s σ H D I q => h.run pins s σ H D I (f _ _ _ q)⟩
section
variable (G : Top) (c : Ctx) (k : Nat)
def EOk (e : Expr) (d : DE) : Prop := ∀ X W, Fit G c k X W → PE X e (tN G W d)
def BOk (e : Expr) (d : DB) : Prop := ∀ X W, Fit G c k X W → PT X e (tB G W d)
def BWOk (e : Expr) (d : DB) : Prop := ∀ X W, Fit G c k X W → PW X e (tB G W d)
def AOk (es : List Expr) (d : DA) : Prop := ∀ X W, Fit G c k X W → PA X es (tA G W d)
end

/-! ### statements -/
inductive RS where
  | nx (ε : Ev) (S : Store) | rt (w : W) (S : Store) | bk (ε : Ev) (S : Store) | ct (ε : Ev) (S : Store) | exc (x : Ex) (ε : Ev) (S : Store) | bad
abbrev DS := Ev → Store → RS
structure NEnds where
  nx : Ev → Store → Prop
  rt : W → Store → Prop
  bk : Ev → Store → Prop
  ct : Ev → Store → Prop
  ex : Ex → Ev → Store → Prop
def wpS (r : RS) (D : NEnds) : Prop := match r with
  | .nx ε S => D.nx ε S
  | .rt w S => D.rt w S
  | .bk ε S => D.bk ε S
  | .ct ε S => D.ct ε S
  | .exc x ε S => D.ex x ε S
  | .bad => False
/-- the wishes of a statement's ends, over the store -/
def nE (G : Top) (W : WX) (D : Ends) (H : Hp) (ρ : List Addr) : NEnds where
  nx := fun ε S => ∀ H' ρ' σ', Ext G.K H ρ H' ρ' → SR G H' ρ' S → EvR G.K H' ρ' ε σ' → D.nx σ' H'
  rt := fun w S => ∀ H' ρ' v, Ext G.K H ρ H' ρ' → SR G H' ρ' S → VR G.K H' ρ' w v → D.rt v H'
  bk := fun ε S => ∀ H' ρ' σ', Ext G.K H ρ H' ρ' → SR G H' ρ' S → EvR G.K H' ρ' ε σ' → D.bk σ' H'
  ct := fun ε S => ∀ H' ρ' σ', Ext G.K H ρ H' ρ' → SR G H' ρ' S → EvR G.K H' ρ' ε σ' → D.ct σ' H'
  ex := fun x ε S => ∀ H' ρ' σ' cls dd, Ext G.K H ρ H' ρ' → SR G H' ρ' S → EvR G.K H' ρ' ε σ' → XR G H' ρ' x cls dd → W cls dd σ' H'
def tS (G : Top) (W : WX) (d : DS) : TS := fun D σ H => ∃ ρ ε S, EvR G.K H ρ ε σ ∧ SR G H ρ S ∧ wpS (d ε S) (nE G W D H ρ)
section
variable (G : Top) (c : Ctx) (k : Nat)
def SOk (st : Stmt) (d : DS) : Prop := ∀ X W, Fit G c k X W → PS X st (tS G W d)
def SsOk (st : List Stmt) (d : DS) : Prop := ∀ X W, Fit G c k X W → PSs X st (tS G W d)
end
theorem wpS_mono {r : RS} {D D' : NEnds} (h : wpS r D) (h1 : ∀ ε S, D.nx ε S → D'.nx ε S) (h2 : ∀ w S, D.rt w S → D'.rt w S) (h3 : ∀ ε S, D.bk ε S → D'.bk ε S) (h4 : ∀ ε S, D.ct ε S → D'.ct ε S) (h5 : ∀ x ε S, D.ex x ε S → D'.ex x ε S) : wpS r D' := by
  cases r with
  | nx ε S => exact h1 _ _ h
  | rt w S => exact h2 _ _ h
  | bk ε S => exact h3 _ _ h
  | ct ε S => exact h4 _ _ h
  | exc x ε S => exact h5 _ _ _ h
  | bad => exact h
/-- the wishes further on -/
theorem nE_ext {G : Top} {W : WX} {D : Ends} {H H' : Hp} {ρ ρ' : List Addr} (e : Ext G.K H ρ H' ρ') {r : RS} (h : wpS r (nE G W D H ρ)) : wpS r (nE G W D H' ρ') :=
  wpS_mono h (fun _ _ q _ _ _ a b c => q _ _ _ (e.trans a) b c) (fun _ _ q _ _ _ a b c => q _ _ _ (e.trans a) b c) (fun _ _ q _ _ _ a b c => q _ _ _ (e.trans a) b c) (fun _ _ q _ _ _ a b c => q _ _ _ (e.trans a) b c)
    fun _ _ _ q _ _ _ _ _ a b c d => q _ _ _ _ _ (e.trans a) b c d
def dSeq (d e : DS) : DS := fun ε S => match d ε S with
  | .nx ε' S' => e ε' S'
  | r => r
def dNx : DS := fun ε S => .nx ε S
def dBk : DS := fun ε S => .bk ε S
def dCt : DS := fun ε S => .ct ε S
/-- a result of an expression, then a statement -/
def sBind {α : Type} (m : M α) (ε : Ev) (S : Store) (f : α → Store → RS) : RS := match m S with
  | .ok a S' => f a S'
  | .exc x S' => .exc x ε S'
  | .bad => .bad
theorem Rg_sBind {α β : Type} {G : Top} {W : WX} {D : Ends} {σ : St} {H : Hp} {ρ : List Addr} {ε : Ev} {S : Store} {rel : Hp → List Addr → α → β → Prop} {m : M α} {f : α → Store → RS} (ev : EvR G.K H ρ ε σ) (h : wpS (sBind m ε S f) (nE G W D H ρ)) :
    Rg G W σ rel (m S) H ρ (fun b H' => ∃ a S' ρ', Ext G.K H ρ H' ρ' ∧ SR G H' ρ' S' ∧ rel H' ρ' a b ∧ wpS (f a S') (nE G W D H' ρ')) := by
  unfold sBind at h
  unfold Rg
  cases q : m S with
  | ok a S' =>
    rw [q] at h
    exact fun H' ρ' b e s r => ⟨a, S', ρ', e, s, r, nE_ext e h⟩
  | exc x S' =>
    rw [q] at h
    exact fun H' ρ' cls dd e s r => h H' ρ' σ cls dd e s (ev.mono e) r
  | bad =>
    rw [q] at h
    exact h
def dDrop (d : DE) : DS := fun ε S => sBind (d ε) ε S fun _ S' => .nx ε S'
def dRet (d : DE) : DS := fun ε S => sBind (d ε) ε S fun w S' => .rt w S'
def dRetN : DS := fun ε S => .rt .non S
def dIf (c : DB) (t u : DS) : DS := fun ε S => sBind (c ε) ε S fun b S' => if b = true then t ε S' else u ε S'
section
variable {G : Top} {c : Ctx} {k : Nat}
theorem ss_nil : SsOk G c k [] dNx := fun X W F => PSs.imp pss_nil fun D σ H ⟨ρ, ε, S, ev, sr, h⟩ => h H ρ σ Ext.refl sr ev
theorem ss_cons {st : Stmt} {rest : List Stmt} {d e : DS} (h1 : SOk G c k st d) (h2 : SsOk G c k rest e) : SsOk G c k (st :: rest) (dSeq d e) := fun X W F =>
  PSs.imp (pss_cons (h1 X W F) (h2 X W F)) fun D σ H ⟨ρ, ε, S, ev, sr, h⟩ => by
    refine ⟨ρ, ε, S, ev, sr, ?_⟩
    unfold dSeq at h
    cases q : d ε S with
    | nx ε' S' =>
      rw [q] at h
      exact fun H' ρ' σ' e' s' v' => ⟨ρ', ε', S', v', s', nE_ext e' h⟩
    | rt w S' => rw [q] at h; exact h
    | bk ε' S' => rw [q] at h; exact h
    | ct ε' S' => rw [q] at h; exact h
    | exc x ε' S' => rw [q] at h; exact h
    | bad => rw [q] at h; exact h
theorem ss_one {st : Stmt} {d : DS} (h1 : SOk G c k st d) : SsOk G c k [st] d := fun X W F => pss_one (h1 X W F)
theorem s_pass {pos : Pos} : SOk G c k (.Pass pos) dNx := fun X W F => PS.imp ps_pass fun D σ H ⟨ρ, ε, S, ev, sr, h⟩ => h H ρ σ Ext.refl sr ev
theorem s_break {pos : Pos} : SOk G c k (.Break pos) dBk := fun X W F => PS.imp ps_break fun D σ H ⟨ρ, ε, S, ev, sr, h⟩ => h H ρ σ Ext.refl sr ev
theorem s_cont {pos : Pos} : SOk G c k (.Continue pos) dCt := fun X W F => PS.imp ps_continue fun D σ H ⟨ρ, ε, S, ev, sr, h⟩ => h H ρ σ Ext.refl sr ev
theorem s_doc {x : Str} {j : Nat} {pos pos' : Pos} : SOk G c k (.Expr (.Constant (.str x) j pos) pos') dNx := fun X W F => PS.imp ps_doc fun D σ H ⟨ρ, ε, S, ev, sr, h⟩ => h H ρ σ Ext.refl sr ev
theorem s_expr {e : Expr} {d : DE} {pos : Pos} (he : EOk G c k e d) (hs : ∀ env, swapsWith e none pos.line env = pure false := by intro _; rfl) : SOk G c k (.Expr e pos) (dDrop d) := fun X W F =>
  PS.imp (ps_expr (he X W F) (hs _)) fun D σ H ⟨ρ, ε, S, ev, sr, h⟩ => ⟨ρ, ε, S, ev, sr, (Rg_sBind ev h).mono fun v H' ⟨w, S', ρ', e', s', r', q⟩ => q H' ρ' σ Ext.refl s' (ev.mono e')⟩
theorem s_ret {e : Expr} {d : DE} {pos : Pos} (he : EOk G c k e d) : SOk G c k (.Return (some e) pos) (dRet d) := fun X W F =>
  PS.imp (ps_ret (he X W F)) fun D σ H ⟨ρ, ε, S, ev, sr, h⟩ => ⟨ρ, ε, S, ev, sr, (Rg_sBind ev h).mono fun v H' ⟨w, S', ρ', e', s', r', q⟩ => q H' ρ' v Ext.refl s' r'⟩
theorem s_retN {pos : Pos} : SOk G c k (.Return none pos) dRetN := fun X W F => PS.imp ps_retN fun D σ H ⟨ρ, ε, S, ev, sr, h⟩ => h H ρ .non Ext.refl sr .non
theorem s_if {t : Expr} {a b : List Stmt} {pos : Pos} {dt : DB} {da db : DS} (ht : BOk G c k t dt) (ha : SsOk G c k a da) (hb : SsOk G c k b db) : SOk G c k (.If t a b pos) (dIf dt da db) := fun X W F =>
  PS.imp (ps_if (ht X W F) (ha X W F) (hb X W F)) fun D σ H ⟨ρ, ε, S, ev, sr, h⟩ => ⟨ρ, ε, S, ev, sr, (Rg_sBind ev h).mono fun v H' ⟨w, S', ρ', e', s', r', q⟩ => by
    obtain rfl : w = v := r'
    cases w with
    | true => exact ⟨ρ', ε, S', ev.mono e', s', q⟩
    | false => exact ⟨ρ', ε, S', ev.mono e', s', q⟩⟩

/-! ### names, constants -/
def dVar (i : Nat) : DE := fun ε S => match ε[i]? with
  | some (some w) => .ok w S
  | _ => .bad
def dC (w : W) : DE := fun _ S => .ok w S
theorem e_var (i : Nat) {x : Str} {pos : Pos} (hN : c.N[i]? = some x := by rfl) (hv : Vis c.sc x := by first | exact Or.inl rfl | exact Or.inr (Or.inl rfl) | exact Or.inr (Or.inr rfl)) (hd : (x == ("__debug__" : Str)) = false := by decide)
    (hcd : (x == ("__classdict__" : Str)) = false := by decide) : EOk G c k (.Name x pos) (dVar i) := fun X W F =>
  PE.imp (pe_var (i := i) (by rw [F.N]; exact hN) (by rw [F.sc]; exact hv) hd hcd) fun σ H Q ⟨ρ, ε, S, ev, sr, h⟩ => by
    unfold dVar at h
    cases q : ε[i]? with
    | none => rw [q] at h; exact h.elim
    | some o =>
      cases o with
      | none => rw [q] at h; exact h.elim
      | some w =>
        rw [q] at h
        obtain ⟨v, hv, r⟩ := ev.at_ i w q
        exact ⟨v, hv, h H ρ v Ext.refl sr r⟩
theorem tC_ok {w : W} {v : V} {W' : WX} {σ : St} {H : Hp} {Q : VK} (h : tN G W' (dC w) σ H Q) (r : ∀ ρ, VR G.K H ρ w v) : tC v σ H Q := let ⟨ρ, ε, S, ev, sr, h⟩ := h; h H ρ v Ext.refl sr (r ρ)
theorem e_int {i : Int} {j : Nat} {pos : Pos} : EOk G c k (.Constant (.int i) j pos) (dC (.int i)) := fun X W F => PE.imp pe_int fun σ H Q h => tC_ok h fun _ => .int i
theorem e_bl {b : Bool} {j : Nat} {pos : Pos} : EOk G c k (.Constant (.bool b) j pos) (dC (.bl b)) := fun X W F => PE.imp pe_bl fun σ H Q h => tC_ok h fun _ => .bl b
theorem e_non {j : Nat} {pos : Pos} : EOk G c k (.Constant .none j pos) (dC .non) := fun X W F => PE.imp pe_non fun σ H Q h => tC_ok h fun _ => .non
theorem e_str {x : Str} {j : Nat} {pos : Pos} (hx : okS x = true := by decide +kernel) : EOk G c k (.Constant (.str x) j pos) (dC (.str x)) := fun X W F => PE.imp pe_str fun σ H Q h => tC_ok h fun _ => .str hx
theorem glob_of {X : Cx} {W : WX} (F : Fit G c k X W) {x : Str} (hg : c.sc.names.lookup x = some .globalImplicit) : Gl X x := by
  show X.env.scope.names.lookup x = _
  rw [F.sc]; exact hg
/-- a module's constant -/
def isC : W → Option V
  | .non => some .non | .bl b => some (.bl b) | .int i => some (.int i) | .str x => if okS x = true then some (.str x) else none | _ => none
theorem isC_ok {w : W} {v : V} (h : isC w = some v) {K : PySem.W.Frag} {H : Hp} {ρ : List Addr} : VR K H ρ w v := by
  cases w with
  | non => cases h; exact .non
  | bl b => cases h; exact .bl b
  | int i => cases h; exact .int i
  | str x =>
    simp only [isC] at h
    split at h
    · cases h; exact .str (by assumption)
    · cases h
  | tup _ => cases h
  | ref _ => cases h
  | rl _ => cases h
  | exn _ _ _ _ => cases h
theorem e_glob {x : Str} {w : W} {v : V} {u : Value} {pos : Pos} (hm : G.mg x = some u) (hc : isC w = some v) (r : RelV v u) (hg : c.sc.names.lookup x = some .globalImplicit := by rfl) (hd : (x == ("__debug__" : Str)) = false := by decide) : EOk G c k (.Name x pos) (dC w) := fun X W F =>
  PE.imp (pe_glob (glob_of F hg) (by rw [F.mg]; exact hm) r hd) fun σ H Q h => tC_ok h fun _ => isC_ok hc

/-! ### arguments, displays -/
def aNil : DA := fun _ => M.ret []
def aCons (d : DE) (e : DA) : DA := fun ε => d ε >>= fun w => e ε >>= fun ws => M.ret (w :: ws)
def plainE : Expr → Bool
  | .Starred _ _ => false
  | _ => true
theorem starEach_plain {e : Expr} (h : plainE e = true) (es : List Expr) (env : Env) : starEach (e :: es) env = (false, eval e env) :: starEach es env := by
  cases e <;> first | rfl | (simp [plainE] at h)
theorem a_nil : AOk G c k [] aNil := fun X W F => PA.imp pa_nil fun σ H Q ⟨ρ, ε, S, ev, sr, h⟩ => h H ρ [] Ext.refl sr .nil
theorem a_cons {e : Expr} {es : List Expr} {d : DE} {da : DA} (he : EOk G c k e d) (ha : AOk G c k es da) (hp : plainE e = true := by rfl) : AOk G c k (e :: es) (aCons d da) := fun X W F =>
  PA.imp (pa_cons (he X W F) (ha X W F) (starEach_plain hp _ _)) fun σ H Q ⟨ρ, ε, S, ev, sr, h⟩ => ⟨ρ, ε, S, ev, sr, (Rg.bind h).mono fun v H1 ⟨w, S1, ρ1, e1, s1, r1, h1⟩ =>
    ⟨ρ1, ε, S1, ev.mono e1, s1, (Rg.bind h1).mono fun vs H2 ⟨ws, S2, ρ2, e2, s2, r2, h2⟩ => Rg.ret (rel := VRs G.K) h2 s2 (.cons (r1.mono e2) r2)⟩⟩
/-- a new object -/
def alloc (o : O) : M W := fun S => .ok (.ref S.length) (S ++ [o])
def chk (b : Bool) : M Unit := fun S => if b then .ok () S else .bad
def lenOk (n : Nat) : Bool := decide (n ≤ sizeLine)
theorem Rg.chk {α β : Type} {W : WX} {σ : St} {rel : Hp → List Addr → α → β → Prop} {b : Bool} {f : Unit → M α} {S : Store} {H : Hp} {ρ : List Addr} {Q : β → Hp → Prop} (h : Rg G W σ rel ((N.chk b >>= f) S) H ρ Q) : b = true ∧ Rg G W σ rel (f () S) H ρ Q := by
  cases b with
  | true => exact ⟨rfl, h⟩
  | false => exact (show False from h).elim
/-- a list of new items, made at p -/
theorem Rg.list {U : WX} {σ : St} {ws : List W} {vs : List V} {S : Store} {H : Hp} {ρ : List Addr} {Q : VK} (h : Rg G U σ (VR G.K) (alloc (.lst ws) S) H ρ Q) (sr : SR G H ρ S) (r : VRs G.K H ρ ws vs) {p : Addr} (hp : H p = none) : Q (.ref p) (upd H p (.lst vs)) := by
  have e : Ext G.K H ρ (upd H p (.lst vs)) (ρ ++ [p]) := Ext.snoc hp
  refine h _ _ _ e (sr.snoc hp ⟨vs, upd_same, r.mono e⟩) (.ref ?_)
  rw [← sr.len, List.getElem?_append_right (Nat.le_refl _)]
  simp
def dTup (a : DA) : DE := fun ε => a ε >>= fun ws => chk (lenOk ws.length) >>= fun _ => M.ret (.tup ws)
def dLst (a : DA) : DE := fun ε => a ε >>= fun ws => chk (lenOk ws.length) >>= fun _ => alloc (.lst ws)
theorem e_tup {es : List Expr} {a : DA} {x1 : Nat} {pos : Pos} (h : AOk G c k es a) : EOk G c k (.Tuple es x1 pos) (dTup a) := fun X W F =>
  PE.imp (pe_tup (h X W F)) fun σ H Q ⟨ρ, ε, S, ev, sr, h⟩ => ⟨ρ, ε, S, ev, sr, (Rg.bind h).mono fun vs H1 ⟨ws, S1, ρ1, e1, s1, r1, h1⟩ => by
    obtain ⟨hz, h2⟩ := Rg.chk h1
    refine ⟨by rw [← r1.length]; exact of_decide_eq_true hz, fun p hp => ?_⟩
    exact h2 _ _ _ (Ext.fresh hp) (s1.fresh hp) (.tup (.of upd_same) (r1.mono (Ext.fresh hp)))⟩
theorem e_lst {es : List Expr} {a : DA} {pos : Pos} (h : AOk G c k es a) : EOk G c k (.List es pos) (dLst a) := fun X W F =>
  PE.imp (pe_lst (h X W F)) fun σ H Q ⟨ρ, ε, S, ev, sr, h⟩ => ⟨ρ, ε, S, ev, sr, (Rg.bind h).mono fun vs H1 ⟨ws, S1, ρ1, e1, s1, r1, h1⟩ => by
    obtain ⟨hz, h2⟩ := Rg.chk h1
    exact ⟨by rw [← r1.length]; exact of_decide_eq_true hz, fun p hp => Rg.list h2 s1 r1 hp⟩⟩

/-! ### operators by their values -/
abbrev Op1 := W → Store → Option (W × Store)
abbrev Op2 := W → W → Store → Option (W × Store)
abbrev OpA := List W → Store → Option (W × Store)
def lift {α : Type} (f : Store → Option (α × Store)) : M α := fun S => match f S with
  | some (a, S') => .ok a S'
  | none => .bad
/-- the wish of a built-in's result -/
def Wish (G : Top) (H : Hp) (ρ : List Addr) (w : W) (S' : Store) (Q : VK) : Prop := ∀ H' ρ' v, Ext G.K H ρ H' ρ' → SR G H' ρ' S' → VR G.K H' ρ' w v → Q v H'
def Op2Ok (G : Top) (r : R2) (op : Op2) : Prop := ∀ H ρ S a b x y w S' Q, SR G H ρ S → VR G.K H ρ a x → VR G.K H ρ b y → op a b S = some (w, S') → Wish G H ρ w S' Q → r x y H Q
def Op1Ok (G : Top) (r : V → Hp → VK → Prop) (op : Op1) : Prop := ∀ H ρ S a x w S' Q, SR G H ρ S → VR G.K H ρ a x → op a S = some (w, S') → Wish G H ρ w S' Q → r x H Q
def OpAOk (G : Top) (r : List V → Hp → VK → Prop) (op : OpA) : Prop := ∀ H ρ S ws vs w S' Q, SR G H ρ S → VRs G.K H ρ ws vs → op ws S = some (w, S') → Wish G H ρ w S' Q → r vs H Q
theorem Rg.lift {α β : Type} {W : WX} {σ : St} {rel : Hp → List Addr → α → β → Prop} {f : Store → Option (α × Store)} {S : Store} {H : Hp} {ρ : List Addr} {Q : β → Hp → Prop} (h : Rg G W σ rel (N.lift f S) H ρ Q) :
    ∃ a S', f S = some (a, S') ∧ ∀ H' ρ' b, Ext G.K H ρ H' ρ' → SR G H' ρ' S' → rel H' ρ' a b → Q b H' := by
  unfold N.lift at h
  cases q : f S with
  | none => rw [q] at h; exact h.elim
  | some p => rw [q] at h; exact ⟨p.1, p.2, rfl, h⟩
def dOp (op : Op2) (d e : DE) : DE := fun ε => d ε >>= fun a => e ε >>= fun b => lift (op a b)
def dUn (op : Op1) (d : DE) : DE := fun ε => d ε >>= fun a => lift (op a)
def dFn (op : OpA) (a : DA) : DE := fun ε => a ε >>= fun ws => lift (op ws)
theorem op_imp {W : WX} {r : R2} {op : Op2} {d e : DE} (h : Op2Ok G r op) {σ : St} {H : Hp} {Q : VK} (q : tN G W (dOp op d e) σ H Q) : tOp r (tN G W d) (tN G W e) σ H Q := by
  obtain ⟨ρ, ε, S, ev, sr, q⟩ := q
  refine ⟨ρ, ε, S, ev, sr, (Rg.bind q).mono fun x H1 ⟨a, S1, ρ1, e1, s1, r1, q1⟩ => ?_⟩
  refine ⟨ρ1, ε, S1, ev.mono e1, s1, (Rg.bind q1).mono fun y H2 ⟨b, S2, ρ2, e2, s2, r2, q2⟩ => ?_⟩
  obtain ⟨w, S3, hw, q3⟩ := Rg.lift q2
  exact h H2 ρ2 S2 a b x y w S3 Q s2 (r1.mono e2) r2 hw q3
theorem e_bin {o : Operator} {r : R2} {op : Op2} {a b : Expr} {d e : DE} {pos : Pos} (hr : ∀ X W, Fit G c k X W → OpR X (binaryOp o) r) (h : Op2Ok G r op) (ha : EOk G c k a d) (hb : EOk G c k b e) : EOk G c k (.BinOp a o b pos) (dOp op d e) := fun X W F =>
  PE.imp (pe_op (hr X W F) (ha X W F) (hb X W F)) fun σ H Q q => op_imp h q
theorem e_cmp {o : CmpOp} {r : R2} {op : Op2} {a b : Expr} {d e : DE} {pos : Pos} (hr : ∀ X W, Fit G c k X W → OpR X (compareOp o) r) (h : Op2Ok G r op) (ha : EOk G c k a d) (hb : EOk G c k b e) (hm : behindInMarks o b = false := by rfl) : EOk G c k (.Compare a [o] [b] pos) (dOp op d e) := fun X W F =>
  PE.imp (pe_cmpR (hr X W F) (ha X W F) (hb X W F) hm) fun σ H Q q => op_imp h q
/-- a < b < c -/
def dChain (op op' : Op2) (d e f : DE) : DE := fun ε => d ε >>= fun a => e ε >>= fun b => lift (op a b) >>= fun z => match z with
  | .bl true => f ε >>= fun y => lift (op' b y)
  | .bl false => M.ret (.bl false)
  | _ => bad
theorem e_un {o : UnaryOp} {r : V → Hp → VK → Prop} {op : Op1} {a : Expr} {d : DE} {pos : Pos} (hr : ∀ X W, Fit G c k X W → UnR X (unaryOp o) r) (h : Op1Ok G r op) (ha : EOk G c k a d) : EOk G c k (.UnaryOp o a pos) (dUn op d) := fun X W F =>
  PE.imp (pe_un (hr X W F) (ha X W F)) fun σ H Q ⟨ρ, ε, S, ev, sr, q⟩ => ⟨ρ, ε, S, ev, sr, (Rg.bind q).mono fun x H1 ⟨a, S1, ρ1, e1, s1, r1, q1⟩ => by
    obtain ⟨w, S3, hw, q3⟩ := Rg.lift q1
    exact h H1 ρ1 S1 a x w S3 Q s1 r1 hw q3⟩
theorem fn_imp {W : WX} {r : List V → Hp → VK → Prop} {op : OpA} {a : DA} (h : OpAOk G r op) {σ : St} {H : Hp} {Q : VK} (q : tN G W (dFn op a) σ H Q) : tA G W a σ H fun vs H1 => r vs H1 Q := by
  obtain ⟨ρ, ε, S, ev, sr, q⟩ := q
  refine ⟨ρ, ε, S, ev, sr, (Rg.bind q).mono fun xs H1 ⟨ws, S1, ρ1, e1, s1, r1, q1⟩ => ?_⟩
  obtain ⟨w, S3, hw, q3⟩ := Rg.lift q1
  exact h H1 ρ1 S1 ws xs w S3 Q s1 r1 hw q3
/-- a built-in's call -/
theorem e_blt {id : String} {x : Str} {r : List V → Hp → VK → Prop} {op : OpA} {e : Expr} {es : List Expr} {a : DA} {p pos : Pos} (hr : ∀ X W, Fit G c k X W → CallR X (.builtin id) r) (h : OpAOk G r op) (hm : G.mg x = none) (hv : bootBuiltins x = some (.builtin id))
    (ha : AOk G c k (e :: es) a) (hg : c.sc.names.lookup x = some .globalImplicit := by rfl) (hn : x ≠ "__name__" := by decide) (hdb : (x == ("__debug__" : Str)) = false := by decide) (he : ∀ env, starEach (e :: es) env = (false, eval e env) :: starEach es env := by intro _; rfl)
    (hpl : ∀ env, (backTo pos (starEach es env)).any (·.1) = false := by intro _; rfl) : EOk G c k (.Call (.Name x p) (e :: es) [] pos) (dFn op a) := fun X W F =>
  PE.imp (pe_callB (hr X W F) (glob_of F hg) (by rw [F.mg]; exact hm) hv (ha X W F) hn hdb (he _) (hpl _)) fun σ H Q q => fn_imp h q
theorem e_ty {T : String} {x : Str} {r : List V → Hp → VK → Prop} {op : OpA} {e : Expr} {es : List Expr} {a : DA} {p pos : Pos} (hr : ∀ X W, Fit G c k X W → CallR X (.type T) r) (h : OpAOk G r op) (hm : G.mg x = none) (hv : bootBuiltins x = some (.type T))
    (ha : AOk G c k (e :: es) a) (hg : c.sc.names.lookup x = some .globalImplicit := by rfl) (hn : x ≠ "__name__" := by decide) (hdb : (x == ("__debug__" : Str)) = false := by decide) (he : ∀ env, starEach (e :: es) env = (false, eval e env) :: starEach es env := by intro _; rfl)
    (hpl : ∀ env, (backTo pos (starEach es env)).any (·.1) = false := by intro _; rfl) : EOk G c k (.Call (.Name x p) (e :: es) [] pos) (dFn op a) := fun X W F =>
  PE.imp (pe_callTy (hr X W F) (glob_of F hg) (by rw [F.mg]; exact hm) hv (ha X W F) hn hdb (he _) (hpl _)) fun σ H Q q => fn_imp h q
end
end N
namespace N
open PySem L2
open PyProof.Rows (envOfC)
/-! ### tests -/
def truthW : W → Store → Option Bool
  | .non, _ => some false
  | .bl b, _ => some b
  | .int i, _ => some (i != 0)
  | .str x, _ => if x.length ≤ sizeLine then some ((x.length : Int) != 0) else none
  | .tup ws, _ => some (!ws.isEmpty)
  | .rl ws, _ => some (!ws.isEmpty)
  | .ref n, S => match S[n]? with
    | some (.lst ws) => some (!ws.isEmpty)
    | some (.dct kvs) => some (!kvs.isEmpty)
    | _ => none
  | .exn _ _ _ _, _ => none
def dTru (d : DE) : DB := fun ε => d ε >>= fun w => lift fun S => (truthW w S).map fun b => (b, S)
theorem VRs.isEmpty {K : PySem.W.Frag} {H : Hp} {ρ : List Addr} {ws : List W} {vs : List V} (r : VRs K H ρ ws vs) : ws.isEmpty = vs.isEmpty := by cases r <;> rfl
theorem FR.isEmpty {κ : Type} {K : PySem.W.Frag} {H : Hp} {ρ : List Addr} {ws : List (κ × W)} {vs : List (κ × V)} (r : FR K H ρ ws vs) : ws.isEmpty = vs.isEmpty := by cases r <;> rfl
theorem truthW_ok {G : Top} {H : Hp} {ρ : List Addr} {S : Store} {w : W} {v : V} {b : Bool} (sr : SR G H ρ S) (r : VR G.K H ρ w v) (h : truthW w S = some b) : TruV G.K v H b := by
  cases r with
  | non => cases h; rfl
  | bl b => cases h; rfl
  | int i => cases h; rfl
  | str x =>
    simp only [truthW] at h
    split at h
    · cases h; exact ⟨by assumption, rfl⟩
    · cases h
  | tup q t => cases h; exact .inr (.inl ⟨_, q, by rw [t.isEmpty]⟩)
  | rl q t => cases h; exact .inl ⟨_, q.sq, by rw [t.isEmpty]⟩
  | exn0 => cases h
  | exnD _ _ _ _ => cases h
  | ref q =>
    rename_i n a
    unfold truthW at h
    cases e : S[n]? with
    | none => simp [e] at h
    | some o =>
      have ob := sr.ob n a o q e
      cases o with
      | lst ws =>
        simp only [e, Option.some.injEq] at h
        obtain ⟨vs, z, t⟩ := ob
        subst h
        exact .inl ⟨vs, .of z, by rw [t.isEmpty]⟩
      | dct kvs =>
        simp only [e, Option.some.injEq] at h
        obtain ⟨vs, z, t⟩ := ob
        subst h
        exact .inr (.inr ⟨vs, z, by rw [FR.isEmpty t]⟩)
      | ins c fs => simp [e] at h
      | fdct kvs => simp [e] at h
section
variable {G : Top} {c : Ctx} {k : Nat}
theorem b_val {e : Expr} {d : DE} (he : EOk G c k e d) (ht : ∀ env whole, isTrue e env whole = (do let v ← whole; standAt e.pos; holding [v] (truthy v)) := by intro _ _; rfl) : BOk G c k e (dTru d) := fun X U F =>
  PT.imp (pt_truth (he X U F) (ht _)) fun σ H Q ⟨ρ, ε, S, ev, sr, h⟩ => ⟨ρ, ε, S, ev, sr, (Rg.bind h).mono fun v H1 ⟨w, S1, ρ1, e1, s1, r1, h1⟩ => by
    obtain ⟨b, S2, hb, q⟩ := Rg.lift h1
    cases z : truthW w S1 with
    | none => simp [z] at hb
    | some b' =>
      simp [z] at hb
      obtain ⟨rfl, rfl⟩ := hb
      exact ⟨b', by rw [F.K]; exact truthW_ok s1 r1 z, q H1 ρ1 b' Ext.refl s1 rfl⟩⟩
/-- a comparison as a test: its value is a bool -/
def dBool (d : DE) : DB := fun ε => d ε >>= fun w => match w with
  | .bl b => M.ret b
  | _ => bad
theorem bool_imp {U : WX} {d : DE} {σ : St} {H : Hp} {Q : Bool → Hp → Prop} (h : tB G U (dBool d) σ H Q) : tN G U d σ H fun x H' => ∃ k, x = .bl k ∧ Q k H' := by
  obtain ⟨ρ, ε, S, ev, sr, h⟩ := h
  refine ⟨ρ, ε, S, ev, sr, (Rg.bind h).mono fun v H1 ⟨w, S1, ρ1, e1, s1, r1, h1⟩ => ?_⟩
  cases r1 with
  | bl b => exact ⟨b, rfl, h1 H1 ρ1 b Ext.refl s1 rfl⟩
  | non => exact h1.elim
  | int i => exact h1.elim
  | str x => exact h1.elim
  | ref _ => exact h1.elim
  | tup _ _ => exact h1.elim
  | rl _ _ => exact h1.elim
  | exn0 => exact h1.elim
  | exnD _ _ _ _ => exact h1.elim
theorem b_cmp {o : CmpOp} {r : R2} {op : Op2} {a b : Expr} {d e : DE} {pos : Pos} (hr : ∀ X W, Fit G c k X W → OpR X (compareOp o) r) (h : Op2Ok G r op) (ha : EOk G c k a d) (hb : EOk G c k b e) (hm : behindInMarks o b = false := by rfl) : BOk G c k (.Compare a [o] [b] pos) (dBool (dOp op d e)) := fun X U F =>
  PT.imp (pt_cmpR (hr X U F) (ha X U F) (hb X U F) hm) fun σ H Q q => op_imp h (bool_imp q)
theorem chain_imp {U : WX} {r r' : R2} {op op' : Op2} {d e f : DE} (h : Op2Ok G r op) (h' : Op2Ok G r' op') {σ : St} {H : Hp} {Q : VK} (q : tN G U (dChain op op' d e f) σ H Q) : tChain r r' (tN G U d) (tN G U e) (tN G U f) σ H Q := by
  obtain ⟨ρ, ε, S, ev, sr, q⟩ := q
  refine ⟨ρ, ε, S, ev, sr, (Rg.bind q).mono fun x H1 ⟨a, S1, ρ1, e1, s1, r1, q1⟩ => ?_⟩
  refine ⟨ρ1, ε, S1, ev.mono e1, s1, (Rg.bind q1).mono fun y H2 ⟨b, S2, ρ2, e2, s2, r2, q2⟩ => ?_⟩
  have q3 := Rg.bind (rel := VR G.K) q2
  obtain ⟨w, S3, hw, q3⟩ := Rg.lift q3
  refine h H2 ρ2 S2 a b x y w S3 _ s2 (r1.mono e2) r2 hw fun H3 ρ3 z e3 s3 r3 => ?_
  obtain ⟨w', S', ρ', e', s', r', q4⟩ := q3 H3 ρ3 z e3 s3 r3
  have fin : ∀ b', z = V.bl b' → w' = W.bl b' := fun b' hz => by subst hz; cases r'; rfl
  cases r' with
  | bl b' =>
    refine ⟨b', rfl, ?_⟩
    cases b' with
    | false => exact q4 H3 ρ' (.bl false) Ext.refl s' (.bl false)
    | true =>
      refine ⟨ρ', ε, S', ev.mono ((e1.trans e2).trans e'), s', (Rg.bind q4).mono fun y' H4 ⟨b4, S4, ρ4, e4, s4, r4, q5⟩ => ?_⟩
      obtain ⟨w5, S5, hw5, q6⟩ := Rg.lift q5
      exact h' H4 ρ4 S4 b b4 y y' w5 S5 Q s4 (r2.mono (e'.trans e4)) r4 hw5 q6
  | non => exact q4.elim
  | int i => exact q4.elim
  | str x => exact q4.elim
  | ref _ => exact q4.elim
  | tup _ _ => exact q4.elim
  | rl _ _ => exact q4.elim
  | exn0 => exact q4.elim
  | exnD _ _ _ _ => exact q4.elim
theorem e_chain {o o' : CmpOp} {r r' : R2} {op op' : Op2} {a b f : Expr} {d e g : DE} {pos : Pos} (hr : ∀ X W, Fit G c k X W → OpR X (compareOp o) r) (hr' : ∀ X W, Fit G c k X W → OpR X (compareOp o') r') (h : Op2Ok G r op) (h' : Op2Ok G r' op') (ha : EOk G c k a d) (hb : EOk G c k b e) (hc : EOk G c k f g)
    (hm : lastMarks [o, o'] [b, f] = false := by with_unfolding_all rfl) : EOk G c k (.Compare a [o, o'] [b, f] pos) (dChain op op' d e g) := fun X U F =>
  PE.imp (pe_chain (hr X U F) (hr' X U F) (ha X U F) (hb X U F) (hc X U F) hm) fun σ H Q q => chain_imp h h' q
theorem b_chain {o o' : CmpOp} {r r' : R2} {op op' : Op2} {a b f : Expr} {d e g : DE} {pos : Pos} (hr : ∀ X W, Fit G c k X W → OpR X (compareOp o) r) (hr' : ∀ X W, Fit G c k X W → OpR X (compareOp o') r') (h : Op2Ok G r op) (h' : Op2Ok G r' op') (ha : EOk G c k a d) (hb : EOk G c k b e) (hc : EOk G c k f g)
    (hm : lastMarks [o, o'] [b, f] = false := by with_unfolding_all rfl) : BOk G c k (.Compare a [o, o'] [b, f] pos) (dBool (dChain op op' d e g)) := fun X U F =>
  PT.imp (pt_chain (hr X U F) (hr' X U F) (ha X U F) (hb X U F) (hc X U F) hm) fun σ H Q q => chain_imp h h' (bool_imp q)
def dNot (d : DB) : DB := fun ε => d ε >>= fun b => M.ret (!b)
def dAnd (d e : DB) : DB := fun ε => d ε >>= fun b => if b = true then e ε else M.ret false
def dOr (d e : DB) : DB := fun ε => d ε >>= fun b => if b = true then M.ret true else e ε
theorem b_not {a : Expr} {d : DB} {pos : Pos} (h : BOk G c k a d) : BOk G c k (.UnaryOp .Not a pos) (dNot d) := fun X U F =>
  PT.imp (pt_not (h X U F)) fun σ H Q ⟨ρ, ε, S, ev, sr, q⟩ => ⟨ρ, ε, S, ev, sr, (Rg.bind q).mono fun b H1 ⟨b', S1, ρ1, e1, s1, r1, q1⟩ => by
    obtain rfl : b' = b := r1
    exact q1 H1 ρ1 _ Ext.refl s1 rfl⟩
theorem bw_pt {a : Expr} {d : DB} (h : BWOk G c k a d) : BOk G c k a d := fun X U F => (h X U F).pt
theorem bw_and1 {a : Expr} {d : DB} {pos : Pos} (h : BOk G c k a d) : BWOk G c k (.BoolOp .And [a] pos) d := fun X U F => pw_and1 (h X U F)
theorem bw_or1 {a : Expr} {d : DB} {pos : Pos} (h : BOk G c k a d) : BWOk G c k (.BoolOp .Or [a] pos) d := fun X U F => pw_or1 (h X U F)
theorem bw_and {a b : Expr} {rest : List Expr} {d e : DB} {pos : Pos} (h : BOk G c k a d) (h' : BWOk G c k (.BoolOp .And (b :: rest) pos) e) : BWOk G c k (.BoolOp .And (a :: b :: rest) pos) (dAnd d e) := fun X U F =>
  PW.imp (pw_and (h X U F) (h' X U F)) fun σ H Q ⟨ρ, ε, S, ev, sr, q⟩ => ⟨ρ, ε, S, ev, sr, (Rg.bind q).mono fun b H1 ⟨b', S1, ρ1, e1, s1, r1, q1⟩ => by
    obtain rfl : b' = b := r1
    cases b' with
    | true => exact ⟨ρ1, ε, S1, ev.mono e1, s1, q1⟩
    | false => exact q1 H1 ρ1 _ Ext.refl s1 rfl⟩
theorem bw_or {a b : Expr} {rest : List Expr} {d e : DB} {pos : Pos} (h : BOk G c k a d) (h' : BWOk G c k (.BoolOp .Or (b :: rest) pos) e) : BWOk G c k (.BoolOp .Or (a :: b :: rest) pos) (dOr d e) := fun X U F =>
  PW.imp (pw_or (h X U F) (h' X U F)) fun σ H Q ⟨ρ, ε, S, ev, sr, q⟩ => ⟨ρ, ε, S, ev, sr, (Rg.bind q).mono fun b H1 ⟨b', S1, ρ1, e1, s1, r1, q1⟩ => by
    obtain rfl : b' = b := r1
    cases b' with
    | false => exact ⟨ρ1, ε, S1, ev.mono e1, s1, q1⟩
    | true => exact q1 H1 ρ1 _ Ext.refl s1 rfl⟩
/-- and, or, not as values: all but the last are bools -/
def dAndV (d e : DE) : DE := fun ε => d ε >>= fun w => match w with
  | .bl true => e ε
  | .bl false => M.ret (.bl false)
  | _ => bad
def dOrV (d e : DE) : DE := fun ε => d ε >>= fun w => match w with
  | .bl false => e ε
  | .bl true => M.ret (.bl true)
  | _ => bad
def dNotV (d : DE) : DE := fun ε => d ε >>= fun w => match w with
  | .bl b => M.ret (.bl (!b))
  | _ => bad
theorem e_one {op : BoolOp} {a : Expr} {d : DE} {pos : Pos} (h : EOk G c k a d) : EOk G c k (.BoolOp op [a] pos) d := fun X U F => pe_one (h X U F)
theorem e_and {a b : Expr} {rest : List Expr} {d e : DE} {pos : Pos} (h : EOk G c k a d) (h' : EOk G c k (.BoolOp .And (b :: rest) pos) e) : EOk G c k (.BoolOp .And (a :: b :: rest) pos) (dAndV d e) := fun X U F =>
  PE.imp (pe_and (h X U F) (h' X U F)) fun σ H Q ⟨ρ, ε, S, ev, sr, q⟩ => ⟨ρ, ε, S, ev, sr, (Rg.bind q).mono fun x H1 ⟨w, S1, ρ1, e1, s1, r1, q1⟩ => by
    cases r1 with
    | bl b =>
      refine ⟨b, rfl, ?_⟩
      cases b with
      | true => exact ⟨ρ1, ε, S1, ev.mono e1, s1, q1⟩
      | false => exact q1 H1 ρ1 _ Ext.refl s1 (.bl false)
    | non => exact q1.elim
    | int i => exact q1.elim
    | str x => exact q1.elim
    | ref _ => exact q1.elim
    | tup _ _ => exact q1.elim
    | rl _ _ => exact q1.elim
    | exn0 => exact q1.elim
    | exnD _ _ _ _ => exact q1.elim⟩
theorem e_or {a b : Expr} {rest : List Expr} {d e : DE} {pos : Pos} (h : EOk G c k a d) (h' : EOk G c k (.BoolOp .Or (b :: rest) pos) e) : EOk G c k (.BoolOp .Or (a :: b :: rest) pos) (dOrV d e) := fun X U F =>
  PE.imp (pe_or (h X U F) (h' X U F)) fun σ H Q ⟨ρ, ε, S, ev, sr, q⟩ => ⟨ρ, ε, S, ev, sr, (Rg.bind q).mono fun x H1 ⟨w, S1, ρ1, e1, s1, r1, q1⟩ => by
    cases r1 with
    | bl b =>
      refine ⟨b, rfl, ?_⟩
      cases b with
      | false => exact ⟨ρ1, ε, S1, ev.mono e1, s1, q1⟩
      | true => exact q1 H1 ρ1 _ Ext.refl s1 (.bl true)
    | non => exact q1.elim
    | int i => exact q1.elim
    | str x => exact q1.elim
    | ref _ => exact q1.elim
    | tup _ _ => exact q1.elim
    | rl _ _ => exact q1.elim
    | exn0 => exact q1.elim
    | exnD _ _ _ _ => exact q1.elim⟩
theorem e_not {a : Expr} {d : DE} {pos : Pos} (h : EOk G c k a d) : EOk G c k (.UnaryOp .Not a pos) (dNotV d) := fun X U F =>
  PE.imp (pe_not (h X U F)) fun σ H Q ⟨ρ, ε, S, ev, sr, q⟩ => ⟨ρ, ε, S, ev, sr, (Rg.bind q).mono fun x H1 ⟨w, S1, ρ1, e1, s1, r1, q1⟩ => by
    cases r1 with
    | bl b => exact ⟨b, rfl, q1 H1 ρ1 _ Ext.refl s1 (.bl _)⟩
    | non => exact q1.elim
    | int i => exact q1.elim
    | str x => exact q1.elim
    | ref _ => exact q1.elim
    | tup _ _ => exact q1.elim
    | rl _ _ => exact q1.elim
    | exn0 => exact q1.elim
    | exnD _ _ _ _ => exact q1.elim⟩
def dIfE (t : DB) (d e : DE) : DE := fun ε => t ε >>= fun b => if b = true then d ε else e ε
theorem e_if {t a b : Expr} {dt : DB} {d e : DE} {pos : Pos} (ht : BOk G c k t dt) (ha : EOk G c k a d) (hb : EOk G c k b e) : EOk G c k (.IfExp t a b pos) (dIfE dt d e) := fun X U F =>
  PE.imp (pe_ifExp (ht X U F) (ha X U F) (hb X U F)) fun σ H Q ⟨ρ, ε, S, ev, sr, q⟩ => ⟨ρ, ε, S, ev, sr, (Rg.bind q).mono fun b H1 ⟨b', S1, ρ1, e1, s1, r1, q1⟩ => by
    obtain rfl : b' = b := r1
    cases b' with
    | true => exact ⟨ρ1, ε, S1, ev.mono e1, s1, q1⟩
    | false => exact ⟨ρ1, ε, S1, ev.mono e1, s1, q1⟩⟩

/-! ### targets -/
abbrev DT := W → Ev → Store → Option Ev
abbrev DTs := List W → Ev → Store → Option Ev
def gN (G : Top) (t : DT) : TG := fun v σ H Q => ∃ w ε ρ S ε', VR G.K H ρ w v ∧ EvR G.K H ρ ε σ ∧ SR G H ρ S ∧ t w ε S = some ε' ∧ ∀ σ', EvR G.K H ρ ε' σ' → Q σ' H
def gsN (G : Top) (t : DTs) : TGs := fun vs σ H Q => ∃ ws ε ρ S ε', VRs G.K H ρ ws vs ∧ EvR G.K H ρ ε σ ∧ SR G H ρ S ∧ t ws ε S = some ε' ∧ ∀ σ', EvR G.K H ρ ε' σ' → Q σ' H
theorem PG.imp {X : Cx} {e : Expr} {t t' : TG} (h : PG X e t) (f : ∀ v σ H Q, t' v σ H Q → t v σ H Q) : PG X e t' := ⟨fun pins s σ H v u Q I r q => h.run pins s σ H v u Q I r (f _ _ _ _ q)⟩
theorem PGs.imp {X : Cx} {e : List Expr} {t t' : TGs} (h : PGs X e t) (f : ∀ v σ H Q, t' v σ H Q → t v σ H Q) : PGs X e t' := ⟨fun pins s σ H v u Q I r q => h.run pins s σ H v u Q I r (f _ _ _ _ q)⟩
section
variable (G : Top) (c : Ctx) (k : Nat)
def GOk (e : Expr) (d : DT) : Prop := ∀ X W, Fit G c k X W → PG X e (gN G d)
def GsOk (e : List Expr) (d : DTs) : Prop := ∀ X W, Fit G c k X W → PGs X e (gsN G d)
end
def tgN (i : Nat) : DT := fun w ε _ => some (ε.set i (some w))
def tgNil : DTs := fun ws ε _ => match ws with
  | [] => some ε
  | _ => none
def tgCons (t : DT) (ts : DTs) : DTs := fun ws ε S => match ws with
  | [] => none
  | w :: r => match t w ε S with
    | some ε' => ts r ε' S
    | none => none
/-- (a, b) = a tuple or a list -/
def tgTup (n : Nat) (ts : DTs) : DT := fun w ε S => match w with
  | .tup ws => if ws.length = n then ts ws ε S else none
  | _ => none
theorem g_name (i : Nat) {x : Str} {pos : Pos} (hN : c.N[i]? = some x := by rfl) (hx : Loc c.sc x := by first | exact Or.inl rfl | exact Or.inr rfl) (hf : c.fn x = true ∨ c.sc.names.lookup x = some .local := by first | exact .inl rfl | exact .inr rfl) : GOk G c k (.Name x pos) (tgN i) := fun X U F =>
  PG.imp (pg_name (i := i) F.nd (by rw [F.N]; exact hN) (by rw [F.sc]; exact hx) (hf.elim (fun z => .inl (F.fn x z)) fun z => .inr (by rw [F.sc]; exact z))) fun v σ H Q ⟨w, ε, ρ, S, ε', r, ev, sr, e, h⟩ => by
    cases e
    exact h _ (ev.set i r)
theorem gs_nil : GsOk G c k [] tgNil := fun X U F => PGs.imp pgs_nil fun v σ H Q ⟨ws, ε, ρ, S, ε', r, ev, sr, e, h⟩ => by
  cases r with
  | nil => cases e; exact ⟨rfl, h _ ev⟩
  | cons _ _ => cases e
theorem gs_cons {e : Expr} {es : List Expr} {t : DT} {ts : DTs} (h1 : GOk G c k e t) (h2 : GsOk G c k es ts) (hs : ∀ env, (assignEach (e :: es) env).map (·.2) = assign e env :: (assignEach es env).map (·.2) := by intro _; rfl) : GsOk G c k (e :: es) (tgCons t ts) := fun X U F =>
  PGs.imp (pgs_cons (h1 X U F) (h2 X U F) (hs _)) fun v σ H Q ⟨ws, ε, ρ, S, ε', r, ev, sr, q, h⟩ => by
    cases r with
    | nil => cases q
    | @cons w v' ws' vs' r0 rr =>
      unfold tgCons at q
      cases z : t w ε S with
      | none => simp only [z] at q; cases q
      | some ε1 =>
        simp only [z] at q
        exact ⟨_, _, rfl, w, ε, ρ, S, ε1, r0, ev, sr, z, fun σ1 ev1 => ⟨ws', ε1, ρ, S, ε', rr, ev1, sr, q, h⟩⟩
theorem Fit.unTup {X : Cx} {U : WX} (F : Fit G c k X U) {es : List Expr} {j n : Nat} {pos : Pos} {t : TGs} (h : PGs X es t) (hn : (assignEach es X.env).length = n) (hs : (assignEach es X.env).findIdx? (·.1) = none) : PG X (.Tuple es j pos) (gTup X.K n t) := by
  cases e : c.hot with
  | none => exact pg_tup (F.calm e) h hn hs
  | some z => exact pg_tupH (F.hotC e) h hn hs
theorem g_tup {es : List Expr} {j : Nat} {ts : DTs} {n : Nat} {pos : Pos} (h : GsOk G c k es ts) (hn : ∀ env, (assignEach es env).length = n := by intro _; rfl) (hst : ∀ env, (assignEach es env).findIdx? (·.1) = none := by intro _; rfl) : GOk G c k (.Tuple es j pos) (tgTup n ts) := fun X U F =>
  PG.imp (F.unTup (h X U F) (hn _) (hst _)) fun v σ H Q ⟨w, ε, ρ, S, ε', r, ev, sr, q, h⟩ => by
    cases r with
    | @tup ws a vs s t =>
      unfold tgTup at q
      simp only at q
      split at q
      · rename_i hl
        refine ⟨a, vs, rfl, by rw [F.K]; exact s, by rw [← t.length]; exact hl, ws, ε, ρ, S, ε', t, ev, sr, q, h⟩
      · cases q
    | bl b => cases q
    | non => cases q
    | int i => cases q
    | str x => cases q
    | ref _ => cases q
    | rl _ _ => cases q
    | exn0 => cases q
    | exnD _ _ _ _ => cases q
def dSet (i : Nat) (d : DE) : DS := fun ε S => sBind (d ε) ε S fun w S' => .nx (ε.set i (some w)) S'
theorem s_set (i : Nat) {x : Str} {e : Expr} {d : DE} {pos pos' : Pos} (he : EOk G c k e d) (hN : c.N[i]? = some x := by rfl) (hx : Loc c.sc x := by first | exact Or.inl rfl | exact Or.inr rfl) (hs : ∀ env, swapsWith e (some (.Name x pos')) pos.line env = pure false := by intro _; rfl)
    (hf : c.fn x = true ∨ c.sc.names.lookup x = some .local := by first | exact .inl rfl | exact .inr rfl) : SOk G c k (.Assign [.Name x pos'] e pos) (dSet i d) := fun X U F =>
  PS.imp (ps_set (i := i) F.nd (by rw [F.N]; exact hN) (by rw [F.sc]; exact hx) (he X U F) (hs _) (hf.elim (fun z => .inl (F.fn x z)) fun z => .inr (by rw [F.sc]; exact z))) fun D σ H ⟨ρ, ε, S, ev, sr, h⟩ => ⟨ρ, ε, S, ev, sr, (Rg_sBind ev h).mono fun v H' ⟨w, S', ρ', e', s', r', q⟩ =>
    q H' ρ' _ Ext.refl s' ((ev.mono e').set i r')⟩
def dAsg (t : DT) (d : DE) : DS := fun ε S => sBind (d ε) ε S fun w S' => match t w ε S' with
  | some ε' => .nx ε' S'
  | none => .bad
theorem s_asg {tg e : Expr} {t : DT} {d : DE} {pos : Pos} (he : EOk G c k e d) (hg : GOk G c k tg t) (hs : ∀ env, swapsWithSole [tg] e pos.line env = pure false := by intro _; rfl) (hw : ∀ env, swappedStores [tg] e env = pure none := by intro _; rfl)
    (h1 : ∀ env, (assignEach [tg] env).map (·.2) = [assign tg env] := by intro _; rfl) : SOk G c k (.Assign [tg] e pos) (dAsg t d) := fun X U F =>
  PS.imp (ps_asg (he X U F) (hg X U F) (hs _) (hw _) (h1 _)) fun D σ H ⟨ρ, ε, S, ev, sr, h⟩ => ⟨ρ, ε, S, ev, sr, (Rg_sBind ev h).mono fun v H' ⟨w, S', ρ', e', s', r', q⟩ => by
    cases z : t w ε S' with
    | none => simp only [z] at q; exact q.elim
    | some ε' =>
      simp only [z] at q
      exact ⟨w, ε, ρ', S', ε', r', ev.mono e', s', z, fun σ' ev' => q H' ρ' σ' Ext.refl s' ev'⟩⟩
/-- a, b = x, y (both sides written, the names plain locals): stored from the right -/
def dPar (i j : Nat) (a : DA) : DS := fun ε S => sBind (a ε) ε S fun ws S' => match ws with
  | [w, u] => .nx ((ε.set i (some w)).set j (some u)) S'
  | _ => .bad
def dPar3 (i j l : Nat) (a : DA) : DS := fun ε S => sBind (a ε) ε S fun ws S' => match ws with
  | [w, u, z] => .nx (((ε.set i (some w)).set j (some u)).set l (some z)) S'
  | _ => .bad
def stdEnv (sc : Scope) : Env := envOfC "" sc 0 0 .none
theorem swapped_std {ts : List Expr} {v : Expr} {env : Env} {sc : Scope} (h : env.scope = sc) (hk : sc.kind = .function) : swappedStores ts v env = swappedStores ts v (stdEnv sc) := by
  have e1 : env.blockKind = (stdEnv sc).blockKind := by
    have e0 : (stdEnv sc).scope = sc := rfl
    unfold Env.blockKind
    rw [h, e0]
  have e2 : ∀ x, env.kindOf x = (stdEnv sc).kindOf x := fun x => by
    unfold Env.kindOf
    rw [h]; rfl
  unfold swappedStores
  simp only [e1, e2]
theorem s_par (i j : Nat) {x y : Str} {a b : Expr} {da : DA} {px py pt pos : Pos} {kt k2 : Nat} {pt2 : Pos} (ha : AOk G c k [a, b] da) (hi : c.N[i]? = some x := by rfl) (hj : c.N[j]? = some y := by rfl) (hij : i ≠ j := by decide)
    (hx : c.sc.names.lookup x = some .local := by rfl) (hy : c.sc.names.lookup y = some .local := by rfl) (hk : c.sc.kind = .function := by rfl)
    (hw : swappedStores [.Tuple [.Name x px, .Name y py] kt pt] (.Tuple [a, b] k2 pt2) (stdEnv c.sc) = pure (some [x, y]) := by rfl)
    (hs : ∀ env, swapsWithSole [.Tuple [.Name x px, .Name y py] kt pt] (.Tuple [a, b] k2 pt2) pos.line env = pure false := by intro _; rfl) (hh : c.hot = none := by rfl) : SOk G c k (.Assign [.Tuple [.Name x px, .Name y py] kt pt] (.Tuple [a, b] k2 pt2) pos) (dPar i j da) := fun X U F =>
  PS.imp (ps_par (F.calm hh) F.nd (by rw [F.N]; exact hi) (by rw [F.N]; exact hj) hij (by rw [F.sc]; exact hx) (by rw [F.sc]; exact hy) (ha X U F) (by rw [swapped_std F.sc hk]; exact hw) (hs _)) fun D σ H ⟨ρ, ε, S, ev, sr, h⟩ => ⟨ρ, ε, S, ev, sr, (Rg_sBind ev h).mono fun vs H' ⟨ws, S', ρ', e', s', r', q⟩ => by
    cases r' with
    | nil => exact q.elim
    | cons r1 r' =>
      cases r' with
      | nil => exact q.elim
      | cons r2 r' =>
        cases r' with
        | nil => exact ⟨_, _, rfl, q H' ρ' _ Ext.refl s' (((ev.mono e').set i r1).set j r2)⟩
        | cons _ _ => exact q.elim⟩
end
end N
namespace N
open PySem L2
open PyProof.Rows (envOfC)
noncomputable section
open Classical in
def grd (g : Store → Prop) : M Unit := fun S => if g S then .ok () S else .bad
theorem grd_ok {g : Store → Prop} {S : Store} (h : g S) : grd g S = .ok () S := if_pos h
theorem Rg.ext {α β : Type} {G : Top} {U : WX} {σ : St} {rel : Hp → List Addr → α → β → Prop} {r : R α} {H H' : Hp} {ρ ρ' : List Addr} {Q : β → Hp → Prop} (e : Ext G.K H ρ H' ρ') (h : Rg G U σ rel r H ρ Q) : Rg G U σ rel r H' ρ' Q :=
  wp_mono h (fun _ _ q _ _ _ a b c => q _ _ _ (e.trans a) b c) fun _ _ q _ _ _ _ a b c => q _ _ _ _ (e.trans a) b c
/-- the source of a loop: its items, and what must stand while it is walked -/
structure Src where
  items : List W
  g : Store → Prop
def Good (G : Top) (H : Hp) (ρ : List Addr) (p : Src) (J : It) : Prop := ∀ H2 ρ2 S2, Ext G.K H ρ H2 ρ2 → SR G H2 ρ2 S2 → p.g S2 →
  (∀ (i : Nat) w, p.items[i]? = some w → J.go i H2 ∧ ∀ x H3, J.yld i H2 x H3 → Ext G.K H2 ρ2 H3 ρ2 ∧ SR G H3 ρ2 S2 ∧ VR G.K H3 ρ2 w x) ∧ J.stop p.items.length H2
abbrev DI := Ev → M Src
def tI (G : Top) (U : WX) (d : DI) : TI := fun σ H Q => ∃ ρ ε S, EvR G.K H ρ ε σ ∧ SR G H ρ S ∧ Rg G U σ (Good G) (d ε S) H ρ Q
def IOk (G : Top) (c : Ctx) (k : Nat) (tg e : Expr) (d : DI) : Prop := ∀ X U, Fit G c k X U → PI X tg e (tI G U d)
theorem PI.imp {X : Cx} {tg e : Expr} {t t' : TI} (h : PI X tg e t) (f : ∀ σ H Q, t' σ H Q → t σ H Q) : PI X tg e t' := ⟨fun pins s σ H R I q => h.run pins s σ H R I (f _ _ _ q)⟩
/-! ### for -/
open Classical in
def forL (t : DT) (body : DS) (g : Store → Prop) : List W → DS
  | [] => fun ε S => if g S then .nx ε S else .bad
  | x :: xs => fun ε S => if g S then (match t x ε S with
    | some ε1 => (match body ε1 S with
      | .nx ε2 S2 => forL t body g xs ε2 S2
      | .ct ε2 S2 => forL t body g xs ε2 S2
      | .bk ε2 S2 => .nx ε2 S2
      | r => r)
    | none => .bad) else .bad
def dFor (d : DI) (t : DT) (body : DS) : DS := fun ε S => sBind (d ε) ε S fun p S' => forL t body p.g p.items ε S'
section
variable {G : Top} {c : Ctx} {k : Nat}
theorem forL_ok {U : WX} {t : DT} {body : DS} {tg e : Expr} {D : Ends} {σ : St} {H1 : Hp} {ρ1 : List Addr} {p : Src} {J : It} {ε : Ev} {S : Store} (good : Good G H1 ρ1 p J) (ev : EvR G.K H1 ρ1 ε σ) (sr : SR G H1 ρ1 S) (h : wpS (forL t body p.g p.items ε S) (nE G U D H1 ρ1)) :
    ∃ W : Nat → Nat → St → Hp → Prop, (∃ m, W 0 m σ H1) ∧ ∀ i m σ H, W i m σ H →
      (J.stop i H ∧ D.nx σ H) ∨ (J.go i H ∧ ∃ N : St → Hp → Prop, (∀ σ' H', N σ' H' → ∃ m', m' < m ∧ W (i + 1) m' σ' H') ∧ ∀ x H', J.yld i H x H' → gN G t x σ H' fun σ2 H2 => tS G U body { D with nx := N, ct := N, bk := D.nx } σ2 H2) := by
  refine ⟨fun i m σ H => ∃ ρ ε S, Ext G.K H1 ρ1 H ρ ∧ EvR G.K H ρ ε σ ∧ SR G H ρ S ∧ m = p.items.length - i ∧ i ≤ p.items.length ∧ wpS (forL t body p.g (p.items.drop i) ε S) (nE G U D H ρ), ⟨p.items.length, ρ1, ε, S, Ext.refl, ev, sr, rfl, Nat.zero_le _, h⟩, ?_⟩
  rintro i m σ H ⟨ρ, ε, S, e, ev, sr, rfl, hi, h⟩
  by_cases hlt : i < p.items.length
  · have hd : p.items.drop i = p.items[i] :: p.items.drop (i + 1) := List.drop_eq_getElem_cons hlt
    rw [hd] at h
    unfold forL at h
    split at h
    · rename_i hg
      obtain ⟨hgo, _⟩ := good H ρ S e sr hg
      obtain ⟨go, yl⟩ := hgo i p.items[i] (List.getElem?_eq_getElem hlt)
      refine .inr ⟨go, _, fun σ' H' hN => hN, fun x H' hy => ?_⟩
      obtain ⟨e', sr', vr⟩ := yl x H' hy
      cases ht : t p.items[i] ε S with
      | none => simp only [ht] at h; exact h.elim
      | some ε1 =>
        simp only [ht] at h
        refine ⟨_, ε, ρ, S, ε1, vr, ev.mono e', sr', ht, fun σ2 ev2 => ⟨ρ, ε1, S, ev2, sr', ?_⟩⟩
        have step : ∀ ε2 S2, wpS (forL t body p.g (p.items.drop (i + 1)) ε2 S2) (nE G U D H ρ) → ∀ H4 ρ4 σ4, Ext G.K H' ρ H4 ρ4 → SR G H4 ρ4 S2 → EvR G.K H4 ρ4 ε2 σ4 →
            ∃ m', m' < p.items.length - i ∧ ∃ ρ ε S, Ext G.K H1 ρ1 H4 ρ ∧ EvR G.K H4 ρ ε σ4 ∧ SR G H4 ρ S ∧ m' = p.items.length - (i + 1) ∧ i + 1 ≤ p.items.length ∧ wpS (forL t body p.g (p.items.drop (i + 1)) ε S) (nE G U D H4 ρ) := fun ε2 S2 q H4 ρ4 σ4 e4 s4 v4 =>
          ⟨_, by omega, ρ4, ε2, S2, (e.trans e').trans e4, v4, s4, rfl, hlt, nE_ext (e'.trans e4) q⟩
        cases hb : body ε1 S with
        | nx ε2 S2 => simp only [hb] at h; exact step ε2 S2 h
        | ct ε2 S2 => simp only [hb] at h; exact step ε2 S2 h
        | bk ε2 S2 => simp only [hb] at h; exact (nE_ext e' h : wpS (.nx ε2 S2) (nE G U D H' ρ))
        | rt w S2 => simp only [hb] at h; exact (nE_ext e' h : wpS (.rt w S2) (nE G U D H' ρ))
        | exc x ε2 S2 => simp only [hb] at h; exact (nE_ext e' h : wpS (.exc x ε2 S2) (nE G U D H' ρ))
        | bad => simp only [hb] at h; exact h.elim
    · exact h.elim
  · obtain rfl : i = p.items.length := by omega
    rw [List.drop_length] at h
    unfold forL at h
    split at h
    · rename_i hg
      exact .inl ⟨(good H ρ S e sr hg).2, h H ρ σ Ext.refl sr ev⟩
    · exact h.elim
theorem s_for {tg e : Expr} {body : List Stmt} {d : DI} {t : DT} {db : DS} {pos : Pos} (hi : IOk G c k tg e d) (hg : GOk G c k tg t) (hb : SsOk G c k body db) (hs : ∀ env x, foldedSetIterable e env x = pure x := by intro _ _; rfl) (hh : c.hot = none := by rfl) : SOk G c k (.For tg e body [] pos) (dFor d t db) := fun X U F =>
  PS.imp (ps_for F.pass (F.calm hh) (hi X U F) (hg X U F) (hb X U F) (hs _)) fun D σ H ⟨ρ, ε, S, ev, sr, h⟩ => ⟨ρ, ε, S, ev, sr, (Rg_sBind ev h).mono fun J H1 ⟨p, S1, ρ1, e1, s1, r1, q1⟩ => forL_ok (tg := tg) (e := e) r1 (ev.mono e1) s1 q1⟩
/-! ### while -/
def whL (t : DB) (body : DS) : Nat → DS
  | 0 => fun _ _ => .bad
  | n + 1 => fun ε S => sBind (t ε) ε S fun b S1 => if b = true then (match body ε S1 with
    | .nx ε2 S2 => whL t body n ε2 S2
    | .ct ε2 S2 => whL t body n ε2 S2
    | .bk ε2 S2 => .nx ε2 S2
    | r => r) else .nx ε S1
/-- more turns than any loop here has -/
def fuel : Nat := 2 ^ 250
def dWhile (t : DB) (body : DS) : DS := whL t body fuel
theorem s_while {e : Expr} {body : List Stmt} {t : DB} {db : DS} {pos : Pos} (ht : BOk G c k e t) (hb : SsOk G c k body db) : SOk G c k (.While e body [] pos) (dWhile t db) := fun X U F =>
  PS.imp (ps_while F.pass (ht X U F) (hb X U F)) fun D σ H ⟨ρ, ε, S, ev, sr, h⟩ => by
    refine ⟨fun m σ H => ∃ ρ ε S, EvR G.K H ρ ε σ ∧ SR G H ρ S ∧ wpS (whL t db m ε S) (nE G U D H ρ), ⟨fuel, ρ, ε, S, ev, sr, h⟩, ?_⟩
    rintro m σ H ⟨ρ, ε, S, ev, sr, h⟩
    cases m with
    | zero => exact h.elim
    | succ n =>
      unfold whL at h
      refine ⟨ρ, ε, S, ev, sr, (Rg_sBind ev h).mono fun b' H1 ⟨b, S1, ρ1, e1, s1, r1, q1⟩ => ?_⟩
      obtain rfl : b = b' := r1
      cases b with
      | false => exact q1 H1 ρ1 σ Ext.refl s1 (ev.mono e1)
      | true =>
        refine ⟨_, fun σ' H' hN => hN, ρ1, ε, S1, ev.mono e1, s1, ?_⟩
        have step : ∀ ε2 S2, wpS (whL t db n ε2 S2) (nE G U D H1 ρ1) → ∀ H4 ρ4 σ4, Ext G.K H1 ρ1 H4 ρ4 → SR G H4 ρ4 S2 → EvR G.K H4 ρ4 ε2 σ4 →
            ∃ m', m' < n + 1 ∧ ∃ ρ ε S, EvR G.K H4 ρ ε σ4 ∧ SR G H4 ρ S ∧ wpS (whL t db m' ε S) (nE G U D H4 ρ) := fun ε2 S2 q H4 ρ4 σ4 e4 s4 v4 => ⟨n, by omega, ρ4, ε2, S2, v4, s4, nE_ext e4 q⟩
        rw [if_pos rfl] at q1
        cases hb : db ε S1 with
        | nx ε2 S2 => simp only [hb] at q1; exact step ε2 S2 q1
        | ct ε2 S2 => simp only [hb] at q1; exact step ε2 S2 q1
        | bk ε2 S2 => simp only [hb] at q1; exact q1
        | rt w S2 => simp only [hb] at q1; exact q1
        | exc x ε2 S2 => simp only [hb] at q1; exact q1
        | bad => simp only [hb] at q1; exact q1.elim
end
/-! ### comprehensions -/
def noX {α : Type} (m : M α) : M α := fun S => match m S with
  | .exc _ _ => .bad
  | r => r
theorem wp_noX {α : Type} {m : M α} {S : Store} {Q : α → Store → Prop} {E E' : Ex → Store → Prop} (h : wp (noX m S) Q E) : wp (m S) Q E' := by
  unfold noX at h
  cases q : m S with
  | ok a S' => rw [q] at h; exact h
  | exc x S' => rw [q] at h; exact h.elim
  | bad => rw [q] at h; exact h.elim
def tgt (t : DT) (w : W) (ε : Ev) : M Ev := fun S => match t w ε S with
  | some ε' => .ok ε' S
  | none => .bad
/-- the block's own slots forgotten -/
def wipeE (ε : Ev) : List Nat → Ev
  | [] => ε
  | v :: vs => (wipeE ε vs).set v none
def lcL (t : DT) (cnd : DB) (el : DE) (g : Store → Prop) (ε0 : Ev) : List W → M (List W)
  | [] => grd g >>= fun _ => M.ret []
  | x :: xs => grd g >>= fun _ => tgt t x ε0 >>= fun ε1 => noX (cnd ε1) >>= fun b => if b = true then noX (el ε1) >>= fun w => lcL t cnd el g ε0 xs >>= fun ws => M.ret (w :: ws) else lcL t cnd el g ε0 xs
def dLc (d : DI) (t : DT) (cnd : DB) (el : DE) (vs : List Nat) : DE := fun ε => d ε >>= fun p => chk (lenOk p.items.length) >>= fun _ => lcL t cnd el p.g (wipeE ε vs) p.items >>= fun ws => alloc (.lst ws)
def dYes : DB := fun _ => M.ret true
theorem M.assoc {α β γ : Type} (m : M α) (f : α → M β) (g : β → M γ) : (m >>= f) >>= g = m >>= fun a => f a >>= g := by
  funext S
  show M.bind (M.bind m f) g S = M.bind m (fun a => M.bind (f a) g) S
  unfold M.bind
  cases m S <;> rfl
theorem M.ret_bind {α β : Type} (a : α) (f : α → M β) : (M.ret a >>= f) = f a := rfl
theorem wipe_in {σ : St} {i : Nat} : ∀ {vs : List Nat}, i ∈ vs → (wipe σ vs)[i]? = if i < σ.length then some none else none
  | v :: vs, h => by
    unfold wipe
    by_cases hv : v = i
    · subst hv
      rw [List.getElem?_set]
      simp [wipe_length]
    · rw [List.getElem?_set_ne hv]
      exact wipe_in ((List.mem_cons.mp h).resolve_left fun z => hv z.symm)
theorem wipe_congr {σ σ' : St} {vs : List Nat} (hl : σ'.length = σ.length) (h : ∀ i, i ∉ vs → σ'[i]? = σ[i]?) : wipe σ' vs = wipe σ vs := by
  apply List.ext_getElem?
  intro i
  by_cases hi : i ∈ vs
  · rw [wipe_in hi, wipe_in hi, hl]
  · rw [wipe_out hi, wipe_out hi, h i hi]
theorem wipeE_some {ε : Ev} {i : Nat} {x : W} : ∀ {vs : List Nat}, (wipeE ε vs)[i]? = some (some x) → ε[i]? = some (some x) ∧ i ∉ vs
  | [], h => ⟨h, by simp⟩
  | v :: vs, h => by
    unfold wipeE at h
    by_cases hi : v = i
    · subst hi
      rw [List.getElem?_set] at h
      simp at h
    · rw [List.getElem?_set_ne hi] at h
      obtain ⟨h1, h2⟩ := wipeE_some h
      exact ⟨h1, by simp only [List.mem_cons, not_or]; exact ⟨fun e => hi e.symm, h2⟩⟩
theorem wipeE_length (ε : Ev) : ∀ vs : List Nat, (wipeE ε vs).length = ε.length
  | [] => rfl
  | v :: vs => by unfold wipeE; rw [List.length_set, wipeE_length ε vs]
theorem EvR.wipe {K : PySem.W.Frag} {H : Hp} {ρ : List Addr} {ε : Ev} {σ : St} (s : EvR K H ρ ε σ) (vs : List Nat) : EvR K H ρ (wipeE ε vs) (L2.wipe σ vs) :=
  ⟨by rw [wipeE_length, wipe_length]; exact s.len, fun i w h => by
    obtain ⟨h1, h2⟩ := wipeE_some h
    obtain ⟨v, a, b⟩ := s.at_ i w h1
    exact ⟨v, by rw [wipe_out h2]; exact a, b⟩⟩
theorem Rg.bindAt {α β γ δ : Type} {G : Top} {U U' : WX} {σ σ' : St} {rel : Hp → List Addr → α → β → Prop} {rel2 : Hp → List Addr → γ → δ → Prop} {m : M α} {f : α → M γ} {S : Store} {H H1 : Hp} {ρ ρ1 : List Addr} {Q : δ → Hp → Prop} (e : Ext G.K H1 ρ1 H ρ) (h : Rg G U σ rel2 ((noX m >>= f) S) H1 ρ1 Q) :
    Rg G U' σ' rel (m S) H ρ (fun b H' => ∃ a S' ρ', Ext G.K H ρ H' ρ' ∧ SR G H' ρ' S' ∧ rel H' ρ' a b ∧ Rg G U σ rel2 (f a S') H1 ρ1 Q) := by
  unfold Rg at h ⊢
  rw [wp_bind] at h
  exact wp_mono (wp_noX (E' := fun _ _ => False) h) (fun a S' q H' ρ' b e s v => ⟨a, S', ρ', e, s, v, q⟩) fun x S' q => q.elim
theorem Ext.bump {G : Top} {H1 H4 : Hp} {ρ1 ρ4 : List Addr} {D : Addr} {xs ys : List V} (e : Ext G.K H1 ρ1 H4 ρ4) (h1 : H1 D = none) (h4 : H4 D = some (.lst xs)) : Ext G.K H1 ρ1 (L2.upd H4 D (.lst ys)) ρ4 where
  pre := e.pre
  keep := fun a o ha h => by rw [upd_ne (fun z => by rw [z, h1] at h; cases h)]; exact e.keep a o ha h
  new := e.new
  tups := fun a vs h => tups_upd h4 trivial a vs (e.tups a vs h)
  xds := fun a l h => xd_upd h4 trivial a l (e.xds a l h)
  frzs := fun a o u h => frz_upd h4 trivial a o u (e.frzs a o u h)
theorem wipe_wipe (σ : L2.St) (vs : List Nat) : L2.wipe (L2.wipe σ vs) vs = L2.wipe σ vs := wipe_congr (wipe_length σ vs) fun i hi => wipe_out hi
theorem SR.track {G : Top} {H : Hp} {ρ : List Addr} {S : Store} {D : Addr} {vs : List V} {ws : List W} (sr : SR G H ρ S) (h : H D = some (.lst vs)) (hD : D ∉ ρ) (r : VRs G.K H ρ ws vs) : SR G H (ρ ++ [D]) (S ++ [.lst ws]) := by
  have pr : ∀ (n : Nat) (a : Addr), ρ[n]? = some a → (ρ ++ [D])[n]? = some a := fun n a h => by rw [List.getElem?_append_left (List.getElem?_eq_some_iff.mp h).1]; exact h
  have e : ∀ {w v}, VR G.K H ρ w v → VR G.K H (ρ ++ [D]) w v := fun {w v} r => VR.more pr r
  refine ⟨by simp [sr.len], ?_, fun n b o h1 h2 => ?_⟩
  · rw [List.nodup_append]
    exact ⟨sr.nd, by simp, fun x hx y hy z => by simp at hy; subst hy; subst z; exact hD hx⟩
  · by_cases hl : n < ρ.length
    · rw [List.getElem?_append_left hl] at h1
      rw [List.getElem?_append_left (by rw [← sr.len]; exact hl)] at h2
      have r := sr.ob n b o h1 h2
      cases o with
      | lst ws => obtain ⟨vs, z, q⟩ := r; exact ⟨vs, z, VRs.more pr q⟩
      | dct kvs => obtain ⟨vs, z, q⟩ := r; exact ⟨vs, z, Paired.mapP q fun _ _ z => ⟨z.1, e z.2⟩⟩
      | ins c fs => obtain ⟨dx, vs, z, q⟩ := r; exact ⟨dx, vs, z, Paired.mapP q fun _ _ z => ⟨z.1, e z.2⟩⟩
      | fdct kvs => obtain ⟨ob, vs, z, q⟩ := r; exact ⟨ob, vs, z, Paired.mapP q fun _ _ z => ⟨z.1, e z.2⟩⟩
    · have hl2 : ρ.length ≤ n := Nat.le_of_not_lt hl
      rw [List.getElem?_append_right hl2] at h1
      rw [List.getElem?_append_right (by rw [← sr.len]; exact hl2)] at h2
      have e : n - ρ.length = 0 := by
        have := (List.getElem?_eq_some_iff.mp h1).1
        simp at this; omega
      rw [e] at h1
      rw [← sr.len, e] at h2
      simp at h1 h2
      subst h1; subst h2
      exact ⟨vs, h, VRs.more pr r⟩
/-- an untracked list of a comprehension grows -/
theorem SR.bump {G : Top} {H : Hp} {ρ : List Addr} {S : Store} {D : Addr} {xs ys : List V} (sr : SR G H ρ S) (hD : D ∉ ρ) (h : H D = some (.lst xs)) : SR G (L2.upd H D (.lst ys)) ρ S := by
  refine ⟨sr.len, sr.nd, fun n b o h1 h2 => ?_⟩
  have hne : b ≠ D := fun z => hD (by rw [← z]; exact List.mem_of_getElem? h1)
  have tu : ∀ {w v}, VR G.K H ρ w v → VR G.K (L2.upd H D (.lst ys)) ρ w v := fun {w v} r => VR.remap (tups_upd h trivial) (frzs_upd h trivial) (xd_upd h trivial) r
  have tus : ∀ {w v}, VRs G.K H ρ w v → VRs G.K (L2.upd H D (.lst ys)) ρ w v := fun {w v} r => VRs.remap (tups_upd h trivial) (frzs_upd h trivial) (xd_upd h trivial) r
  have r := sr.ob n b o h1 h2
  cases o with
  | lst ws => obtain ⟨vs, z, q⟩ := r; exact ⟨vs, by rw [upd_ne hne]; exact z, tus q⟩
  | dct kvs => obtain ⟨vs, z, q⟩ := r; exact ⟨vs, by rw [upd_ne hne]; exact z, Paired.mapP q fun _ _ z => ⟨z.1, tu z.2⟩⟩
  | ins c fs => obtain ⟨dx, vs, z, q⟩ := r; exact ⟨dx, vs, by rw [upd_ne hne]; exact z, Paired.mapP q fun _ _ z => ⟨z.1, tu z.2⟩⟩
  | fdct kvs => obtain ⟨ob, vs, z, q⟩ := r; exact ⟨ob, vs, by rw [upd_ne hne]; exact z, Paired.mapP q fun _ _ z => ⟨z.1, tu z.2⟩⟩

section
variable {G : Top} {c : Ctx} {k : Nat}
/-- the context of a comprehension's block -/
def blkCtx (c : Ctx) (scope : Scope) : Ctx := ⟨c.N, relS scope c.sc, fun x => scope.names.lookup x == some .cell, c.hot, false⟩
theorem Fit.blk {X : Cx} {U : WX} (F : Fit G c k X U) (hh : c.hot = none) (scope : Scope) (s : Shared) (H : Hp) (C : Addr) (cl : List (Str × Addr)) (fp : List Addr) :
    Fit G (blkCtx c scope) k (X.blk s H scope (compEnvC scope cl C X.env) fp) (fun _ _ _ _ => False) where
  P := F.P
  w := F.w
  K := F.K
  mg := F.mg
  base := F.base
  N := F.N
  sc := by
    show relS scope X.env.scope = relS scope c.sc
    rw [F.sc]
  nd := F.nd
  calm := F.calm
  hotp := fun a cl d e => by
    have e : c.hot = some (a, cl, d) := e
    rw [hh] at e
    cases e
  fr := fun z => Bool.noConfusion (show false = true from z)
  room := F.room
  gd := F.gd
  tk := takesN0
  pass := PassesOwn.never
  fn := fun x h => h
/-- a block's targets are its own -/
def gW (G : Top) (vs : List Nat) (d : DT) : TG := fun v σ H Q => ∃ w ε ρ S ε', VR G.K H ρ w v ∧ EvR G.K H ρ ε σ ∧ SR G H ρ S ∧ d w ε S = some ε' ∧ ∀ σ' : L2.St, EvR G.K H ρ ε' σ' → σ'.length = σ.length → (∀ i, i ∉ vs → σ'[i]? = σ[i]?) → Q σ' H
def gsW (G : Top) (vs : List Nat) (d : DTs) : TGs := fun v σ H Q => ∃ w ε ρ S ε', VRs G.K H ρ w v ∧ EvR G.K H ρ ε σ ∧ SR G H ρ S ∧ d w ε S = some ε' ∧ ∀ σ' : L2.St, EvR G.K H ρ ε' σ' → σ'.length = σ.length → (∀ i, i ∉ vs → σ'[i]? = σ[i]?) → Q σ' H
def GWk (G : Top) (c : Ctx) (k : Nat) (vs : List Nat) (e : Expr) (d : DT) : Prop := ∀ X U, Fit G c k X U → PG X e (gW G vs d)
def GsWk (G : Top) (c : Ctx) (k : Nat) (vs : List Nat) (e : List Expr) (d : DTs) : Prop := ∀ X U, Fit G c k X U → PGs X e (gsW G vs d)
theorem gw_name (i : Nat) {x : Str} {pos : Pos} {vs : List Nat} (hN : c.N[i]? = some x := by rfl) (hv : i ∈ vs := by decide) (hx : Loc c.sc x := by first | exact Or.inl rfl | exact Or.inr rfl) (hf : c.fn x = true ∨ c.sc.names.lookup x = some .local := by first | exact .inr rfl | exact .inl rfl) : GWk G c k vs (.Name x pos) (tgN i) := fun X U F =>
  PG.imp (pg_name (i := i) F.nd (by rw [F.N]; exact hN) (by rw [F.sc]; exact hx) (hf.elim (fun z => .inl (F.fn x z)) fun z => .inr (by rw [F.sc]; exact z))) fun v σ H Q ⟨w, ε, ρ, S, ε', r, ev, sr, e, h⟩ => by
    cases e
    exact h _ (ev.set i r) (by simp) fun j hj => by rw [List.getElem?_set_ne (fun z => hj (by rw [← z]; exact hv))]
theorem gsw_nil {vs : List Nat} : GsWk G c k vs [] tgNil := fun X U F => PGs.imp pgs_nil fun v σ H Q ⟨ws, ε, ρ, S, ε', r, ev, sr, e, h⟩ => by
  cases r with
  | nil => cases e; exact ⟨rfl, h _ ev rfl fun _ _ => rfl⟩
  | cons _ _ => cases e
theorem gsw_cons {e : Expr} {es : List Expr} {t : DT} {ts : DTs} {vs : List Nat} (h1 : GWk G c k vs e t) (h2 : GsWk G c k vs es ts) (hs : ∀ env, (assignEach (e :: es) env).map (·.2) = assign e env :: (assignEach es env).map (·.2) := by intro _; rfl) : GsWk G c k vs (e :: es) (tgCons t ts) := fun X U F =>
  PGs.imp (pgs_cons (h1 X U F) (h2 X U F) (hs _)) fun v σ H Q ⟨ws, ε, ρ, S, ε', r, ev, sr, q, h⟩ => by
    cases r with
    | nil => cases q
    | @cons w v' ws' vs' r0 rr =>
      unfold tgCons at q
      cases z : t w ε S with
      | none => simp only [z] at q; cases q
      | some ε1 =>
        simp only [z] at q
        exact ⟨_, _, rfl, w, ε, ρ, S, ε1, r0, ev, sr, z, fun σ1 ev1 l1 a1 => ⟨ws', ε1, ρ, S, ε', rr, ev1, sr, q, fun σ2 ev2 l2 a2 => h σ2 ev2 (l2.trans l1) fun j hj => (a2 j hj).trans (a1 j hj)⟩⟩
theorem gw_tup {es : List Expr} {j : Nat} {ts : DTs} {n : Nat} {pos : Pos} {vs : List Nat} (h : GsWk G c k vs es ts) (hn : ∀ env, (assignEach es env).length = n := by intro _; rfl) (hst : ∀ env, (assignEach es env).findIdx? (·.1) = none := by intro _; rfl) : GWk G c k vs (.Tuple es j pos) (tgTup n ts) := fun X U F =>
  PG.imp (F.unTup (h X U F) (hn _) (hst _)) fun v σ H Q ⟨w, ε, ρ, S, ε', r, ev, sr, q, h⟩ => by
    cases r with
    | @tup ws a vs s t =>
      unfold tgTup at q
      simp only at q
      split at q
      · rename_i hl
        refine ⟨a, vs, rfl, by rw [F.K]; exact s, by rw [← t.length]; exact hl, ws, ε, ρ, S, ε', t, ev, sr, q, h⟩
      · cases q
    | bl b => cases q
    | non => cases q
    | int i => cases q
    | str x => cases q
    | ref _ => cases q
    | rl _ _ => cases q
    | exn0 => cases q
    | exnD _ _ _ _ => cases q
/-- tests of a comprehension -/
def CsOk (G : Top) (c : Ctx) (k : Nat) (ifs : List Expr) (d : DB) : Prop := ∀ X U, Fit G c k X U → PTs X ifs (tB G U d)
theorem cs_nil : CsOk G c k [] dYes := fun X U F => ⟨fun pins s σ H Q I ⟨ρ, ε, S, ev, sr, h⟩ => pts_nil.run pins s σ H Q I (h H ρ true Ext.refl sr rfl)⟩
theorem cs_one {e : Expr} {d : DB} (h : BOk G c k e d) : CsOk G c k [e] d := fun X U F => pts_one (h X U F)
abbrev U0 : WX := fun _ _ _ _ => False
theorem lc_imp {U : WX} {d : DI} {t : DT} {cnd : DB} {el : DE} {vs : List Nat} {σ : L2.St} {H : Hp} {Q : VK} (h : tN G U (dLc d t cnd el vs) σ H Q) :
    tLc (tI G U d) (gW G vs t) (tB G U0 cnd) (tN G U0 el) vs σ H Q := by
  obtain ⟨ρ, ε, S, ev, sr, h⟩ := h
  refine ⟨ρ, ε, S, ev, sr, (Rg.bind h).mono fun J H1 ⟨p, S1, ρ1, e1, s1, r1, h1⟩ D hD => ?_⟩
  obtain ⟨hlen, h1⟩ := Rg.chk h1
  have hlen : p.items.length ≤ sizeLine := of_decide_eq_true hlen
  have ev1 : EvR G.K H1 ρ1 ε σ := ev.mono e1
  have eD : Ext G.K H1 ρ1 (L2.upd H1 D (.lst [])) ρ1 := Ext.fresh hD
  refine ⟨fun i m H => ∃ ρ S ws vs', Ext G.K H1 ρ1 H ρ ∧ SR G H ρ S ∧ H D = some (.lst vs') ∧ D ∉ ρ ∧ VRs G.K H ρ ws vs' ∧ m = p.items.length - i ∧ i ≤ p.items.length ∧ ws.length ≤ i ∧
    Rg G U σ (VR G.K) ((lcL t cnd el p.g (wipeE ε vs) (p.items.drop i) >>= fun rest => alloc (.lst (ws ++ rest))) S) H1 ρ1 Q,
    ⟨p.items.length, ρ1, S1, [], [], eD, s1.fresh hD, upd_same, s1.fresh_mem hD, .nil, rfl, Nat.zero_le _, Nat.zero_le _, h1⟩, ?_⟩
  rintro i m H2 ⟨ρ2, S2, ws, vs', e2, s2, hd, nD, rv, rfl, hi, hw, h2⟩
  by_cases hlt : i < p.items.length
  · rw [List.drop_eq_getElem_cons hlt] at h2
    unfold lcL at h2
    rw [M.assoc] at h2
    by_cases hg : p.g S2
    · have h3 : Rg G U σ (VR G.K) (((tgt t p.items[i] (wipeE ε vs) >>= fun ε1 => noX (cnd ε1) >>= fun b => if b = true then noX (el ε1) >>= fun w => lcL t cnd el p.g (wipeE ε vs) (p.items.drop (i + 1)) >>= fun ws => M.ret (w :: ws) else lcL t cnd el p.g (wipeE ε vs) (p.items.drop (i + 1))) >>= fun rest => alloc (.lst (ws ++ rest))) S2) H1 ρ1 Q := by
        have e : (grd p.g >>= fun _ => ((tgt t p.items[i] (wipeE ε vs) >>= fun ε1 => noX (cnd ε1) >>= fun b => if b = true then noX (el ε1) >>= fun w => lcL t cnd el p.g (wipeE ε vs) (p.items.drop (i + 1)) >>= fun ws => M.ret (w :: ws) else lcL t cnd el p.g (wipeE ε vs) (p.items.drop (i + 1))) >>= fun rest => alloc (.lst (ws ++ rest)))) S2 =
            ((tgt t p.items[i] (wipeE ε vs) >>= fun ε1 => noX (cnd ε1) >>= fun b => if b = true then noX (el ε1) >>= fun w => lcL t cnd el p.g (wipeE ε vs) (p.items.drop (i + 1)) >>= fun ws => M.ret (w :: ws) else lcL t cnd el p.g (wipeE ε vs) (p.items.drop (i + 1))) >>= fun rest => alloc (.lst (ws ++ rest))) S2 := by
          show M.bind (grd p.g) _ S2 = _
          unfold M.bind
          rw [grd_ok hg]
        rw [← e]
        exact h2
      obtain ⟨hgo, _⟩ := r1 H2 ρ2 S2 e2 s2 hg
      obtain ⟨go, yl⟩ := hgo i p.items[i] (List.getElem?_eq_getElem hlt)
      refine .inr ⟨go, _, fun H' hN => hN, fun x H3 hy => ?_⟩
      obtain ⟨e3, s3, vr⟩ := yl x H3 hy
      rw [M.assoc] at h3
      cases ht : t p.items[i] (wipeE ε vs) S2 with
      | none =>
        have e : tgt t p.items[i] (wipeE ε vs) S2 = .bad := by unfold tgt; rw [ht]
        have z : Rg G U σ (VR G.K) (M.bind (tgt t p.items[i] (wipeE ε vs)) _ S2) H1 ρ1 Q := h3
        unfold M.bind at z
        rw [e] at z
        exact z.elim
      | some ε1 =>
        have e : tgt t p.items[i] (wipeE ε vs) S2 = .ok ε1 S2 := by unfold tgt; rw [ht]
        have z : Rg G U σ (VR G.K) (M.bind (tgt t p.items[i] (wipeE ε vs)) _ S2) H1 ρ1 Q := h3
        unfold M.bind at z
        rw [e] at z
        have h4 : Rg G U σ (VR G.K) (((noX (cnd ε1) >>= fun b => if b = true then noX (el ε1) >>= fun w => lcL t cnd el p.g (wipeE ε vs) (p.items.drop (i + 1)) >>= fun ws => M.ret (w :: ws) else lcL t cnd el p.g (wipeE ε vs) (p.items.drop (i + 1))) >>= fun rest => alloc (.lst (ws ++ rest))) S2) H1 ρ1 Q := z
        clear z h3 h2
        have e23 := e2.trans e3
        refine ⟨_, wipeE ε vs, ρ2, S2, ε1, vr, ((ev1.mono e23).wipe vs), s3, ht, fun σ4 ev4 l4 a4 => ⟨wipe_congr (by rw [l4]) (fun j hj => (a4 j hj)) |>.trans ?_, ρ2, ε1, S2, ev4, s3, ?_⟩⟩
        · exact wipe_wipe σ vs
        · rw [M.assoc] at h4
          refine (Rg.bindAt e23 h4).mono fun b' H4 ⟨b, S4, ρ4, e4, s4, r4, h5⟩ => ?_
          obtain rfl : b = b' := r4
          have hd4 : H4 D = some (.lst vs') := e4.keep D _ nD (e3.keep D _ nD hd)
          have nD4 : D ∉ ρ4 := fun z => (e4.new D z).elim nD fun z => by rw [e3.keep D _ nD hd] at z; cases z
          cases b with
          | false =>
            rw [if_neg Bool.false_ne_true] at h5 ⊢
            exact ⟨_, by omega, ρ4, S4, ws, vs', e23.trans e4, s4, hd4, nD4, rv.mono (e3.trans e4), rfl, hlt, by omega, h5⟩
          | true =>
            rw [if_pos rfl] at h5 ⊢
            rw [M.assoc] at h5
            refine ⟨ρ4, ε1, S4, ev4.mono e4, s4, (Rg.bindAt (e23.trans e4) h5).mono fun y H5 ⟨w, S5, ρ5, e5, s5, r5, h6⟩ => ?_⟩
            have hd5 : H5 D = some (.lst vs') := e5.keep D _ nD4 hd4
            have nD5 : D ∉ ρ5 := fun z => (e5.new D z).elim nD4 fun z => by rw [hd4] at z; cases z
            have rv5 := rv.mono ((e3.trans e4).trans e5)
            refine ⟨vs', hd5, by rw [← rv.length]; omega, _, by omega, ρ5, S5, ws ++ [w], vs' ++ [y], ((e23.trans e4).trans e5).bump hD hd5, s5.bump nD5 hd5, upd_same, nD5, ?_, rfl, hlt, by simp; omega, ?_⟩
            · exact VRs.remap (tups_upd hd5 trivial) (frzs_upd hd5 trivial) (xd_upd hd5 trivial) (rv5.append (.cons r5 .nil))
            · rw [M.assoc] at h6
              simpa only [M.ret_bind, List.append_assoc, List.cons_append, List.nil_append] using h6
    · have e : ∀ (α : Type) (f : Unit → M α), (grd p.g >>= f) S2 = .bad := fun α f => by
        show M.bind (grd p.g) f S2 = _
        unfold M.bind grd
        rw [if_neg hg]
      rw [e] at h2
      exact h2.elim
  · obtain rfl : i = p.items.length := by omega
    rw [List.drop_length] at h2
    unfold lcL at h2
    rw [M.assoc] at h2
    by_cases hg : p.g S2
    · refine .inl ⟨(r1 H2 ρ2 S2 e2 s2 hg).2, ?_⟩
      have h3 : Rg G U σ (VR G.K) (M.bind (grd p.g) (fun _ => alloc (.lst (ws ++ []))) S2) H1 ρ1 Q := h2
      unfold M.bind at h3
      rw [grd_ok hg, List.append_nil] at h3
      have e' : Ext G.K H1 ρ1 H2 (ρ2 ++ [D]) := {
        pre := fun n a h => by rw [List.getElem?_append_left (List.getElem?_eq_some_iff.mp (e2.pre n a h)).1]; exact e2.pre n a h
        keep := e2.keep
        new := fun a h => (List.mem_append.mp h).elim (e2.new a) fun z => by simp at z; subst z; exact .inr hD
        tups := e2.tups
        frzs := e2.frzs
        xds := e2.xds }
      refine h3 H2 (ρ2 ++ [D]) (.ref D) e' (s2.track hd nD rv) (.ref ?_)
      rw [← s2.len, List.getElem?_append_right (Nat.le_refl _)]
      simp
    · have e : ∀ (α : Type) (f : Unit → M α), (grd p.g >>= f) S2 = .bad := fun α f => by
        show M.bind (grd p.g) f S2 = _
        unfold M.bind grd
        rw [if_neg hg]
      rw [e] at h2
      exact h2.elim
theorem e_lc {elt tg iter : Expr} {ifs : List Expr} {scope : Scope} (own : List (Str × Nat)) {pos : Pos} {d : DI} {t : DT} {cnd : DB} {el : DE} (hi : IOk G c k tg iter d) (hg : GWk G (blkCtx c scope) k (own.map (·.2)) tg t) (hc : CsOk G (blkCtx c scope) k ifs cnd) (he : EOk G (blkCtx c scope) k elt el)
    (ok : blkC c.N c.sc scope own = true := by decide +kernel) (hs : ∀ env x, foldedSetIterable iter env x = pure x := by intro _ _; rfl) (hh : c.hot = none := by rfl) : EOk G c k (.ListComp elt [⟨tg, iter, ifs, 0⟩] scope pos) (dLc d t cnd el (own.map (·.2))) := fun X U F =>
  PE.imp (pe_lc (F.calm hh) F.nd (hi X U F) (by rw [F.N, F.sc]; exact blkOk_by ok) (fun s H C cl fp => hg _ _ (F.blk hh scope s H C cl fp)) (fun s H C cl fp => hc _ _ (F.blk hh scope s H C cl fp)) (fun s H C cl fp => he _ _ (F.blk hh scope s H C cl fp)) (hs _)) fun σ H Q h => lc_imp h
/-- y = [..] on one line -/
theorem s_lc (i : Nat) {y : Str} {py : Pos} {elt tg iter : Expr} {ifs : List Expr} {scope : Scope} (own : List (Str × Nat)) {pos spos : Pos} {d : DI} {t : DT} {cnd : DB} {el : DE} (hi : IOk G c k tg iter d) (hg : GWk G (blkCtx c scope) k (own.map (·.2)) tg t) (hc : CsOk G (blkCtx c scope) k ifs cnd) (he : EOk G (blkCtx c scope) k elt el)
    (hy : c.N[i]? = some y := by rfl) (hyl : c.sc.names.lookup y = some .local := by rfl) (hk : c.sc.kind = .function := by rfl) (hl : (py.line == pos.line) = true := by decide) (ha : (scope.names.any fun (n, k) => n == y && (k == .local || k == .cell)) = false := by decide +kernel)
    (ok : blkC c.N c.sc scope own = true := by decide +kernel) (hs : ∀ env x, foldedSetIterable iter env x = pure x := by intro _ _; rfl) (hh : c.hot = none := by rfl) : SOk G c k (.Assign [.Name y py] (.ListComp elt [⟨tg, iter, ifs, 0⟩] scope pos) spos) (dSet i (dLc d t cnd el (own.map (·.2)))) := fun X U F =>
  PS.imp (ps_setLc (i := i) (F.calm hh) F.nd (by rw [F.N]; exact hy) (by rw [F.sc]; exact hyl) (sw_true (by rw [F.sc]; exact hk) (by rw [F.sc]; exact hyl) hl ha) (hi X U F) (by rw [F.N, F.sc]; exact blkOk_by ok) (fun s H C cl fp => hg _ _ (F.blk hh scope s H C cl fp)) (fun s H C cl fp => hc _ _ (F.blk hh scope s H C cl fp)) (fun s H C cl fp => he _ _ (F.blk hh scope s H C cl fp)) (hs _))
    fun D σ H ⟨ρ, ε, S, ev, sr, h⟩ => lc_imp ⟨ρ, ε, S, ev, sr, (Rg_sBind ev h).mono fun v H' ⟨w, S', ρ', e', s', r', q⟩ => q H' ρ' _ Ext.refl s' ((ev.mono e').set i r')⟩
/-- the same at a name that a block holds: no exchange -/
theorem sw_cell {elt : Expr} {gs : List Comprehension} {scope : Scope} {pos py : Pos} {y : Str} {l : Nat} {env : Env} (hy : env.scope.names.lookup y = some .cell) : swapsWith (.ListComp elt gs scope pos) (some (.Name y py)) l env = pure false := by
  have ky : env.kindOf y = some .cell := hy
  unfold swapsWith
  simp only [ky]
  cases hb : (env.blockKind == .function) <;> rfl
theorem s_setCell (i : Nat) {y : Str} {py : Pos} {elt : Expr} {gs : List Comprehension} {scope : Scope} {pos spos : Pos} {d : DE} (he : EOk G c k (.ListComp elt gs scope pos) d) (hN : c.N[i]? = some y := by rfl) (hyl : c.sc.names.lookup y = some .cell := by rfl)
    (hf : c.fn y = true := by rfl) : SOk G c k (.Assign [.Name y py] (.ListComp elt gs scope pos) spos) (dSet i d) := fun X U F =>
  PS.imp (ps_set (i := i) F.nd (by rw [F.N]; exact hN) (by rw [F.sc]; exact .inr hyl) (he X U F) (sw_cell (by rw [F.sc]; exact hyl)) (.inl (F.fn y hf))) fun D σ H ⟨ρ, ε, S, ev, sr, h⟩ => ⟨ρ, ε, S, ev, sr, (Rg_sBind ev h).mono fun v H' ⟨w, S', ρ', e', s', r', q⟩ =>
    q H' ρ' _ Ext.refl s' ((ev.mono e').set i r')⟩
end
end
end N
namespace N
open PySem L2
open PyProof.Rows (envOfC)
noncomputable section
/-- a def's promise by its function -/
def spN (G : Top) (d : List W → M W) : Sp := fun vs H Q E => ∃ ws S ρ, VRs G.K H ρ ws vs ∧ SR G H ρ S ∧ wp (d ws S) (fun w S' => ∀ H' ρ' v, Ext G.K H ρ H' ρ' → SR G H' ρ' S' → VR G.K H' ρ' w v → Q v H') (fun x S' => ∀ H' ρ' cls dd, Ext G.K H ρ H' ρ' → SR G H' ρ' S' → XR G H' ρ' x cls dd → E cls dd H')
@[irreducible] def dfn (N n : Nat) (d : DS) (ws : List W) : M W := fun S => if ws.length = n then (match d (ws.map some ++ List.replicate (N - n) none) S with
  | .nx _ S' => .ok .non S'
  | .rt w S' => .ok w S'
  | .exc x _ S' => .exc x S'
  | _ => .bad) else .bad
/-- a def of the text as it stands behind the top, with or without defaults -/
structure FunX (K : PySem.W.Frag) (x qual : Str) (st : Stmt) (f : Addr) (fd : FuncData) : Prop where
  ex : ∃ (oc : Value) (od : Option Addr) (dV kV doc pm : Value) (an : Option Addr) (cdv ct : Value) (osl : Array (Option Value)),
    fd = PySem.W.fnOf x qual (defArgs st) (defBody st) (defScope st) dV kV doc pm an cdv ct ∧ K.lookup f = some ⟨oc, od, .func fd, osl⟩ ∧ PySem.W.codeIn K cdv qual = true
theorem funX_mk {K : PySem.W.Frag} {x qual : Str} {st : Stmt} {f : Addr} {oc dV kV doc pm cdv ct : Value} {od an : Option Addr} {osl : Array (Option Value)} (l : K.lookup f = some ⟨oc, od, .func (PySem.W.fnOf x qual (defArgs st) (defBody st) (defScope st) dV kV doc pm an cdv ct), osl⟩)
    (c : PySem.W.codeIn K cdv qual = true) : FunX K x qual st f (PySem.W.fnOf x qual (defArgs st) (defBody st) (defScope st) dV kV doc pm an cdv ct) := ⟨⟨oc, od, dV, kV, doc, pm, an, cdv, ct, osl, rfl, l, c⟩⟩
/-- a def keeps its promise, wherever no repr runs -/
structure FnG (G : Top) (k : Nat) (f : Addr) (fd : FuncData) (ps : List Str) (sp : Sp) : Prop where
  len : ∀ vs H Q E, sp vs H Q E → vs.length = ps.length
  run : ∀ (A : Around) (outer : List Env) (s : Shared) (H : Hp) (args : Args) (us : List Value) (vs : List V) (Q : VK) (E : XK), Room k A → A.guards = some [] → Env0 G.P G.w G.K G.mg G.base A outer s H → BindsTo s fd args (ps.zip us) → Vals vs us → sp vs H Q E →
    codeAny (model G.P G.w) A (.call (.ref f) args) (CR (L2N.CX G.P G.w) outer G.P G.w H s Q E) s
theorem FnG.mono {G : Top} {j k : Nat} {f : Addr} {fd : FuncData} {ps : List Str} {sp : Sp} (F : FnG G j f fd ps sp) (h : j ≤ k) : FnG G k f fd ps sp :=
  ⟨F.len, fun A outer s H args us vs Q E hr => F.run A outer s H args us vs Q E (hr.mono h)⟩
/-- a body keeps the promise -/
theorem fnG_of {G : Top} {x qual : Str} {st : Stmt} {f : Addr} {fd : FuncData} {N ps : List Str} {k : Nat} {sp : Sp} (F : FunX G.K x qual st f fd) (S : FnScope N ps (defScope st)) (len : ∀ vs H Q E, sp vs H Q E → vs.length = ps.length)
    (hb : ∀ (cdv : Value) (A : Around) (outer : List Env) (s : Shared) (H : Hp) (vs : List V) (Q : VK) (E : XK), Room k (A.deeper (envOfC qual (defScope st) s.heap.objs.size f cdv)) → A.guards = some [] → sp vs H Q E →
      ∃ t, PSs (cxOf (L2N.CX G.P G.w) G.P G.w G.K G.mg G.base N qual (defScope st) f cdv A outer s H E) (defBody st) t ∧ t { nx := fun _ H' => Q .non H', rt := Q } (L2.start N vs) H) : FnG G (k + 1) f fd ps sp := by
  obtain ⟨oc, od, dV, kV, doc, pm, an, cdv, ct, osl, rfl, lk, hcd⟩ := F.ex
  refine ⟨len, fun A outer s H args us vs Q E hr hgd e0 bd r h => ?_⟩
  have inK : G.K.In s.heap := e0.mod.kin.keeps fun b o e => (e0.bs b o e).1
  have lim : s.heap.NoLimit := e0.mod.nolimit.keeps fun b o e => (e0.bs b o e).1
  have kinds : ∀ y ∈ ps.zip us, (defScope st).names.lookup y.1 = some .local ∨ ((defScope st).names.lookup y.1 = some .cell ∧ ((cellsFrom (s.heap.objs.size + 1) (defScope st).names []).lookup y.1).isSome = true) := fun y hy =>
    (S.par y.1 (List.of_mem_zip hy).1).imp id fun q => ⟨q, PySem.W.cellsFrom_some _ _ _ (.inl q)⟩
  refine codeAny_call_function hr.depth (inK _ _ lk) rfl S.co S.gen rfl (PySem.W.codeRec_of inK hcd) (bd _ _ _ _ ?_)
  refine wpAny_newFunctionEnv_cells S.kind kinds fun env he s1 x => ?_
  subst he
  refine ⟨lim.keeps x.toInCall.keep, codeAny_func ?_⟩
  obtain ⟨t, ht, hq⟩ := hb cdv A outer s H vs Q E (hr.deeper _) hgd h
  refine wpAny_mono (ht.run [] s1 _ H _ (inv_start S hr.hd e0 (len _ _ _ _ h) r x) hq) (fun fl s' hs => ?_) fun e s' hs => hs
  cases fl with
  | ret u => obtain ⟨v, σ', H', J, rv, q⟩ := hs; exact ⟨v, H', J.os, J.bare, J.base, J.hok, rv, q⟩
  | next => obtain ⟨σ', H', J, q⟩ := hs; exact ⟨.non, H', J.os, J.bare, J.base, J.hok, rfl, q⟩
  | brk => obtain ⟨_, _, _, q⟩ := hs; exact q.elim
  | cont => obtain ⟨_, _, _, q⟩ := hs; exact q.elim
theorem fn_ok {G : Top} {x qual : Str} {st : Stmt} {f : Addr} {fd : FuncData} {N ps : List Str} {k n : Nat} {d : DS} (F : FunX G.K x qual st f fd) (S : FnScope N ps (defScope st)) (hn : ps.length = n) (hb : SsOk G ⟨N, defScope st, fun _ => true, none, true⟩ k (defBody st) d) :
    FnG G (k + 1) f fd ps (spN G (dfn N.length n d)) := by
  have len : ∀ vs H Q E, spN G (dfn N.length n d) vs H Q E → vs.length = n := fun vs H Q E ⟨ws, S, ρ, r, sr, h⟩ => by
    unfold dfn at h
    by_cases hl : ws.length = n
    · rw [← r.length]; exact hl
    · rw [if_neg hl] at h
      exact h.elim
  refine fnG_of F S (fun vs H Q E h => (len vs H Q E h).trans hn.symm) fun cdv A outer s H vs Q E hr hgd h => ?_
  have fit : Fit G ⟨N, defScope st, fun _ => true, none, true⟩ k (cxOf (L2N.CX G.P G.w) G.P G.w G.K G.mg G.base N qual (defScope st) f cdv A outer s H E) (fun cls d _ H => E cls d H) := {
    P := rfl, w := rfl, K := rfl, mg := rfl, base := rfl, N := rfl, sc := rfl, nd := S.nd, calm := fun _ => rfl, hotp := fun _ _ _ e => (nomatch e), fr := fun _ => ⟨rfl, rfl⟩, room := L2H.roomH_of hr, gd := hgd, tk := L2N.takes_of rfl rfl rfl rfl, pass := passes_of rfl, fn := fun _ _ => rfl }
  refine ⟨_, hb _ _ fit, ?_⟩
  have hl := len _ _ _ _ h
  obtain ⟨ws, S0, ρ, r, sr, h⟩ := h
  have hw : ws.length = n := r.length.trans hl
  unfold dfn at h
  rw [if_pos hw] at h
  refine ⟨ρ, ws.map some ++ List.replicate (N.length - n) none, S0, ⟨?_, fun i w hi => ?_⟩, sr, ?_⟩
  · unfold L2.start
    simp [r.length, hl]
  · by_cases hlt : i < ws.length
    · rw [List.getElem?_append_left (by simpa using hlt), List.getElem?_map] at hi
      cases e : ws[i]? with
      | none => rw [e] at hi; cases hi
      | some w' =>
        rw [e] at hi
        cases hi
        obtain ⟨v, hv, rv⟩ := r.get e
        refine ⟨v, ?_, rv⟩
        unfold L2.start
        rw [List.getElem?_append_left (by rw [List.length_map, ← r.length]; exact hlt), List.getElem?_map, hv]
        rfl
    · rw [List.getElem?_append_right (by simpa using hlt), List.getElem?_replicate] at hi
      split at hi <;> cases hi
  · cases q : d (ws.map some ++ List.replicate (N.length - n) none) S0 with
    | nx ε S' => rw [q] at h; exact fun H' ρ' σ' e s v => h H' ρ' .non e s .non
    | rt w S' => rw [q] at h; exact fun H' ρ' v e s r => h H' ρ' v e s r
    | exc x ε S' => rw [q] at h; exact fun H' ρ' σ' cls dd e s v xr => h H' ρ' cls dd e s xr
    | bk ε S' => rw [q] at h; exact h.elim
    | ct ε S' => rw [q] at h; exact h.elim
    | bad => rw [q] at h; exact h.elim
/-- a def of the text, with its function; na: how many parameters -/
structure Def (G : Top) (k : Nat) (x : Str) (ps : List Str) (d : List W → M W) : Prop where
  ex : ∃ f fd, G.mg x = some (.ref f) ∧ PySem.W.keepIn G.K (.ref f) = true ∧ FnG G k f fd ps (spN G d) ∧ Binds G.K fd ps []
theorem Def.mono {G : Top} {j k : Nat} {x : Str} {ps : List Str} {d : List W → M W} (D : Def G j x ps d) (h : j ≤ k) : Def G k x ps d := by
  obtain ⟨f, fd, a, b, c, e⟩ := D.ex
  exact ⟨f, fd, a, b, c.mono h, e⟩
section
variable {G : Top} {c : Ctx} {k : Nat}
def dCall (d : List W → M W) (a : DA) : DE := fun ε => a ε >>= fun ws => d ws
/-- what a promise asks, from a reading's wish -/
theorem call_sp {U : WX} {σ : L2.St} {d : List W → M W} {ws : List W} {vs : List V} {S : Store} {H : Hp} {ρ : List Addr} {Q : VK} (h : Rg G U σ (VR G.K) (d ws S) H ρ Q) (sr : SR G H ρ S) (r : VRs G.K H ρ ws vs) : spN G d vs H Q (fun cls dd H' => U cls dd σ H') := ⟨ws, S, ρ, r, sr, h⟩
/-- the callee runs -/
theorem run_G {X : Cx} {U : WX} (F : Fit G c k X U) (hh : c.hot = none) {j : Nat} {f : Addr} {fd : FuncData} {ps : List Str} {sp : Sp} (hf : FnG G j f fd ps sp) (hj : j ≤ k) {pins : List (Addr × Obj)} {σ : L2.St} {H : Hp} {s : Shared} {Q : VK} {args : Args} {us : List Value} {vs : List V} (I : Inv X pins σ H s)
    (b : BindsTo s fd args (ps.zip us)) (r : Vals vs us) (h : sp vs H Q (fun cls dd H' => U cls dd σ H')) : wpAny (model X.prog X.w) X.A (call (.ref f) args.pos args.kw) (EP X pins σ Q) X.xe s := by
  have e0 := I.env0
  rw [F.P, F.w, F.K, F.mg, F.base] at e0
  have z := hf.run X.A X.stack s H args us vs Q (fun cls dd H' => U cls dd σ H') ((F.rm hh I).mono hj) F.gd e0 b r h
  rw [← F.P, ← F.w] at z
  refine wpAny_call (codeAny_mono z fun r s' hq => ?_)
  cases r with
  | error e => exact L2N.passAt F.tk σ pins H s e s' I hq
  | ok fl =>
    cases fl with
    | ret u => exact I.after hq
    | next => exact False.elim hq
    | brk => exact False.elim hq
    | cont => exact False.elim hq
theorem binds0 {K : PySem.W.Frag} {fd : FuncData} {ps : List Str} (hb : Binds K fd ps []) {s : Shared} {us : List Value} (inK : K.In s.heap) (hl : us.length = ps.length) : BindsTo s fd ⟨us, []⟩ (ps.zip us) := by
  have b := hb s us inK (by rw [List.append_nil]; exact hl)
  rw [List.append_nil] at b
  exact b
theorem e_call {j : Nat} {x : Str} {ps : List Str} {d : List W → M W} {e : Expr} {es : List Expr} {a : DA} {p pos : Pos} (D : Def G j x ps d) (hj : j ≤ k) (ha : AOk G c k (e :: es) a) (hg : c.sc.names.lookup x = some .globalImplicit := by rfl)
    (hdb : (x == ("__debug__" : Str)) = false := by decide) (he : ∀ env, starEach (e :: es) env = (false, eval e env) :: starEach es env := by intro _; rfl) (hpl : ∀ env, (backTo pos (starEach es env)).any (·.1) = false := by intro _; rfl) (hh : c.hot = none := by rfl) : EOk G c k (.Call (.Name x p) (e :: es) [] pos) (dCall d a) := fun X U F => by
  obtain ⟨f, fd, hm, hk, hf, hb⟩ := D.ex
  refine ⟨fun pins s σ H Q I h => ?_⟩
  obtain ⟨ρ, ε, S, ev, sr, h⟩ := h
  refine wpAny_Call_Name_kw (ld_glob I (glob_of F hg) (by rw [F.mg]; exact hm) ?_ hdb)
  refine PySem.W.callWith_K (h₀ := X.base) I.ok.mod.kin (by rw [F.K]; exact hk) (thn ((ha X U F).run pos pins s σ H _ I ⟨ρ, ε, S, ev, sr, Rg.bind h⟩) fun us s1 ⟨vs, H1, I1, r, ws, S1, ρ1, e1, s1', r1, h1⟩ => ⟨I1.kIn, ?_⟩) (he _) (hpl _)
  have sp := call_sp h1 s1' r1
  exact run_G F hh hf hj (args := ⟨us, []⟩) I1 (binds0 hb (by rw [← F.K]; exact I1.kIn) (by rw [← r.length]; exact hf.len _ _ _ _ sp)) r sp
/-- a call without arguments -/
theorem e_call0 {j : Nat} {x : Str} {ps : List Str} {d : List W → M W} {p pos : Pos} (D : Def G j x ps d) (hj : j ≤ k) (hg : c.sc.names.lookup x = some .globalImplicit := by rfl) (hdb : (x == ("__debug__" : Str)) = false := by decide) (hh : c.hot = none := by rfl) : EOk G c k (.Call (.Name x p) [] [] pos) (dCall d aNil) := fun X U F => by
  obtain ⟨f, fd, hm, hk, hf, hb⟩ := D.ex
  refine ⟨fun pins s σ H Q I h => ?_⟩
  obtain ⟨ρ, ε, S, ev, sr, h⟩ := h
  refine wpAny_Call_Name_kw (ld_glob I (glob_of F hg) (by rw [F.mg]; exact hm) ?_ hdb)
  have sp : spN G d [] H Q (fun cls dd H' => U cls dd σ H') := ⟨[], S, ρ, .nil, sr, h⟩
  exact PySem.W.callWith_K0 I.kIn (by rw [F.K]; exact hk) (run_G F hh hf hj (args := ⟨[], []⟩) (us := []) I (binds0 hb (by rw [← F.K]; exact I.kIn) (hf.len _ _ _ _ sp)) .nil sp)
/-- a call with keywords: perm tells the parameters' order: the places among the positional values and then the keywords' -/
def permW {α : Type} (perm : List Nat) (xs : List α) : Option (List α) := perm.mapM fun i => xs[i]?
/-- how a def binds a call: na positional values, the keywords ks; perm: the parameters' places among the positional values, the keywords' and the defaults -/
structure KB (K : PySem.W.Frag) (fd : FuncData) (ps ks : List Str) (na : Nat) (dW : List W) (perm : List Nat) : Prop where
  ex : ∃ (ds : List Value) (dV : List V), (∀ H ρ, VRs K H ρ dW dV) ∧ Vals dV ds ∧ ∀ (s : Shared) (us ws zs : List Value), K.In s.heap → us.length = na → ws.length = ks.length → permW perm (us ++ ws ++ ds) = some zs → BindsTo s fd ⟨us, ks.zip ws⟩ (ps.zip zs)
def dCallK (d : List W → M W) (na nk : Nat) (dW : List W) (perm : List Nat) (a b : DA) : DE := fun ε => a ε >>= fun ws => b ε >>= fun us => fun S => if ws.length = na ∧ us.length = nk then (match permW perm (ws ++ us ++ dW) with
  | some zs => d zs S
  | none => .bad) else .bad
def KOk (G : Top) (c : Ctx) (k : Nat) (kws : List Keyword) (d : DA) : Prop := ∀ X U, Fit G c k X U → PK X kws (tA G U d)
theorem PK.imp {X : Cx} {e : List Keyword} {t t' : TA} (h : PK X e t) (f : ∀ σ H Q, t' σ H Q → t σ H Q) : PK X e t' := ⟨fun p pins s σ H Q I q => h.run p pins s σ H Q I (f _ _ _ q)⟩
theorem k_nil : KOk G c k [] aNil := fun X U F => PK.imp pk_nil fun σ H Q ⟨ρ, ε, S, ev, sr, h⟩ => h H ρ [] Ext.refl sr .nil
theorem k_cons {nm : Option Str} {e : Expr} {kpos : Pos} {kws : List Keyword} {d : DE} {da : DA} (he : EOk G c k e d) (ha : KOk G c k kws da) : KOk G c k (⟨nm, e, kpos⟩ :: kws) (aCons d da) := fun X U F =>
  PK.imp (pk_cons (he X U F) (ha X U F)) fun σ H Q ⟨ρ, ε, S, ev, sr, h⟩ => ⟨ρ, ε, S, ev, sr, (Rg.bind h).mono fun v H1 ⟨w, S1, ρ1, e1, s1, r1, h1⟩ =>
    ⟨ρ1, ε, S1, ev.mono e1, s1, (Rg.bind h1).mono fun vs H2 ⟨ws, S2, ρ2, e2, s2, r2, h2⟩ => Rg.ret (rel := VRs G.K) h2 s2 (.cons (r1.mono e2) r2)⟩⟩
/-- values in another order -/
theorem permW_rel {α β : Type} {P : α → β → Prop} {xs : List α} {ys : List β} (hl : xs.length = ys.length) (h : ∀ (i : Nat) a, xs[i]? = some a → ∃ b, ys[i]? = some b ∧ P a b) : ∀ {perm : List Nat} {zs : List α}, permW perm xs = some zs → ∃ zs', permW perm ys = some zs' ∧ Paired P zs zs' := by
  intro perm
  induction perm with
  | nil =>
    intro zs e
    cases e
    exact ⟨[], rfl, .nil⟩
  | cons i perm ih =>
    intro zs e
    unfold permW at e
    rw [List.mapM_cons] at e
    cases hi : xs[i]? with
    | none => rw [hi] at e; cases e
    | some a =>
      rw [hi] at e
      cases hr : permW perm xs with
      | none =>
        have e' : (do let b ← permW perm xs; some (a :: b)) = some zs := e
        rw [hr] at e'
        cases e'
      | some r =>
        have e' : (do let b ← permW perm xs; some (a :: b)) = some zs := e
        rw [hr] at e'
        cases e'
        obtain ⟨b, hb, p⟩ := h i a hi
        obtain ⟨r', hr', q⟩ := ih hr
        refine ⟨b :: r', ?_, .cons p q⟩
        unfold permW
        rw [List.mapM_cons, hb]
        show (do let b' ← permW perm ys; some (b :: b')) = some (b :: r')
        rw [hr']
        rfl
theorem VRs.of_paired {K : PySem.W.Frag} {H : Hp} {ρ : List Addr} : ∀ {ws : List W} {vs : List V}, Paired (VR K H ρ) ws vs → VRs K H ρ ws vs
  | _, _, .nil => .nil
  | _, _, .cons h t => .cons h (VRs.of_paired t)
theorem vals_of_paired : ∀ {vs : List V} {us : List Value}, Paired RelV vs us → Vals vs us := fun h => h

/-- a def of the text that is called with keywords or defaults -/
structure DefK (G : Top) (k : Nat) (x : Str) (ps : List Str) (d : List W → M W) (ks : List Str) (na : Nat) (dW : List W) (perm : List Nat) : Prop where
  ex : ∃ f fd, G.mg x = some (.ref f) ∧ PySem.W.keepIn G.K (.ref f) = true ∧ FnG G k f fd ps (spN G d) ∧ KB G.K fd ps ks na dW perm
theorem VRs.paired {K : PySem.W.Frag} {H : Hp} {ρ : List Addr} : ∀ {ws : List W} {vs : List V}, VRs K H ρ ws vs → Paired (VR K H ρ) ws vs
  | _, _, .nil => .nil
  | _, _, .cons h t => .cons h (VRs.paired t)
theorem paired_get {α β : Type} {P : α → β → Prop} : ∀ {xs : List α} {ys : List β}, Paired P xs ys → ∀ (i : Nat) a, xs[i]? = some a → ∃ b, ys[i]? = some b ∧ P a b
  | _, _, .nil, i, a, e => by simp at e
  | _, _, .cons r _, 0, a, e => by simp at e; subst e; exact ⟨_, rfl, r⟩
  | _, _, .cons _ t, i + 1, a, e => by
    obtain ⟨b, h1, h2⟩ := paired_get t i a (by simpa using e)
    exact ⟨b, by simpa using h1, h2⟩
theorem run_K {X : Cx} {U : WX} (F : Fit G c k X U) (hh : c.hot = none) {j : Nat} {f : Addr} {fd : FuncData} {ps ks : List Str} {na : Nat} {dW : List W} {perm : List Nat} {d : List W → M W} (hf : FnG G j f fd ps (spN G d)) (hj : j ≤ k) (hb : KB G.K fd ps ks na dW perm)
    {pins : List (Addr × Obj)} {σ : L2.St} {H : Hp} {ρ : List Addr} {S : Store} {s : Shared} {Q : VK} {ws us : List W} {vs zs : List V} {uv uz : List Value} (I : Inv X pins σ H s) (sr : SR G H ρ S) (r1 : VRs G.K H ρ ws vs) (r2 : VRs G.K H ρ us zs) (v1 : Vals vs uv) (v2 : Vals zs uz)
    (h : Rg G U σ (VR G.K) ((fun S => if ws.length = na ∧ us.length = ks.length then (match permW perm (ws ++ us ++ dW) with | some zs => d zs S | none => .bad) else .bad : M W) S) H ρ Q) :
    wpAny (model X.prog X.w) X.A (call (.ref f) uv (ks.zip uz)) (EP X pins σ Q) X.xe s := by
  obtain ⟨ds, dV, rd, vd, to⟩ := hb.ex
  by_cases hl : ws.length = na ∧ us.length = ks.length
  · simp only [if_pos hl] at h
    cases hp : permW perm (ws ++ us ++ dW) with
    | none => simp only [hp] at h; exact h.elim
    | some z =>
      simp only [hp] at h
      have ra := (r1.append r2).append (rd H ρ)
      have va := (v1.append v2).append vd
      obtain ⟨zv, e1, p1⟩ := permW_rel ra.length (paired_get ra.paired) hp
      obtain ⟨zu, e2, p2⟩ := permW_rel va.length (paired_get va) e1
      have sp := call_sp h sr (VRs.of_paired p1)
      have b := to s uv uz zu (by rw [← F.K]; exact I.kIn) (by rw [← v1.length, ← r1.length]; exact hl.1) (by rw [← v2.length, ← r2.length]; exact hl.2) e2
      exact run_G F hh hf hj (args := ⟨uv, ks.zip uz⟩) I b p2 sp
  · simp only [if_neg hl] at h
    exact h.elim
theorem e_callK {j : Nat} {x : Str} {ps ks : List Str} {na : Nat} {dW : List W} {perm : List Nat} {d : List W → M W} {e : Expr} {es : List Expr} {kws : List Keyword} {a b : DA} {p pos : Pos} (D : DefK G j x ps d ks na dW perm) (hj : j ≤ k) (ha : AOk G c k (e :: es) a) (hkw : KOk G c k kws b) (hg : c.sc.names.lookup x = some .globalImplicit := by rfl)
    (hall : ∀ env, (backToKw pos (keywordEach kws env)).all (·.1.isSome) = true := by intro _; rfl) (hks : ∀ env, (backToKw pos (keywordEach kws env)).filterMap (·.1) = ks := by intro _; rfl)
    (hdb : (x == ("__debug__" : Str)) = false := by decide) (he : ∀ env, starEach (e :: es) env = (false, eval e env) :: starEach es env := by intro _; rfl)
    (hpl : ∀ env, ((backTo pos (starEach (e :: es) env)).any (·.1) || (backToKw pos (keywordEach kws env)).any (·.1.isNone)) = false := by intro _; rfl) (hh : c.hot = none := by rfl) : EOk G c k (.Call (.Name x p) (e :: es) kws pos) (dCallK d na ks.length dW perm a b) := fun X U F => by
  obtain ⟨f, fd, hm, hk, hf, hb⟩ := D.ex
  refine ⟨fun pins s σ H Q I h => ?_⟩
  obtain ⟨ρ, ε, S, ev, sr, h⟩ := h
  refine wpAny_Call_Name_kw (ld_glob I (glob_of F hg) (by rw [F.mg]; exact hm) ?_ hdb)
  refine PySem.W.callWith_KW (h₀ := X.base) I.ok.mod.kin (by rw [F.K]; exact hk) (hall _) (thn ((ha X U F).run pos pins s σ H _ I ⟨ρ, ε, S, ev, sr, Rg.bind h⟩) fun us s1 ⟨vs, H1, I1, r, ws, S1, ρ1, e1, s1', r1, q1⟩ => ?_) (hpl _) (he _)
  refine thn ((hkw X U F).run pos pins s1 σ H1 _ I1 ⟨ρ1, ε, S1, ev.mono e1, s1', Rg.bind q1⟩) fun uz s2 ⟨zs, H2, I2, rz, us', S2, ρ2, e2, s2', r2, q2⟩ => ⟨I2.kIn, ?_⟩
  rw [hks]
  exact run_K F hh hf hj hb I2 s2' (r1.mono e2) r2 r rz q2
theorem e_callK0 {j : Nat} {x : Str} {ps ks : List Str} {dW : List W} {perm : List Nat} {d : List W → M W} {kws : List Keyword} {b : DA} {p pos : Pos} (D : DefK G j x ps d ks 0 dW perm) (hj : j ≤ k) (hkw : KOk G c k kws b) (hg : c.sc.names.lookup x = some .globalImplicit := by rfl)
    (hall : ∀ env, (backToKw pos (keywordEach kws env)).all (·.1.isSome) = true := by intro _; rfl) (hks : ∀ env, (backToKw pos (keywordEach kws env)).filterMap (·.1) = ks := by intro _; rfl)
    (hdb : (x == ("__debug__" : Str)) = false := by decide)
    (hpl : ∀ env, ((backTo pos (starEach [] env)).any (·.1) || (backToKw pos (keywordEach kws env)).any (·.1.isNone)) = false := by intro _; rfl) (hh : c.hot = none := by rfl) : EOk G c k (.Call (.Name x p) [] kws pos) (dCallK d 0 ks.length dW perm aNil b) := fun X U F => by
  obtain ⟨f, fd, hm, hk, hf, hb⟩ := D.ex
  refine ⟨fun pins s σ H Q I h => ?_⟩
  obtain ⟨ρ, ε, S, ev, sr, h⟩ := h
  refine wpAny_Call_Name_kw (ld_glob I (glob_of F hg) (by rw [F.mg]; exact hm) ?_ hdb)
  refine PySem.W.callWith_KW0 (h₀ := X.base) I.ok.mod.kin (by rw [F.K]; exact hk) (hall _) ?_ (hpl _)
  have h' : Rg G U σ (VR G.K) ((b ε >>= fun us => fun S => if ([] : List W).length = 0 ∧ us.length = ks.length then (match permW perm ([] ++ us ++ dW) with | some zs => d zs S | none => .bad) else .bad) S) H ρ Q := h
  refine thn ((hkw X U F).run pos pins s σ H _ I ⟨ρ, ε, S, ev, sr, Rg.bind h'⟩) fun uz s2 ⟨zs, H2, I2, rz, us', S2, ρ2, e2, s2', r2, q2⟩ => ⟨I2.kIn, ?_⟩
  rw [hks]
  exact run_K F hh hf hj hb I2 s2' .nil r2 (vs := []) (uv := []) .nil rz q2

end
/-! ### what a law's text gives -/
/-- a def of the module, by its statement -/
structure Mdef (G : Top) (x : Str) (st : Stmt) : Prop where
  ex : ∃ f fd, G.mg x = some (.ref f) ∧ PySem.W.keepIn G.K (.ref f) = true ∧ FunX G.K x x st f fd ∧ fd.defaults = .none
/-- .. with defaults -/
structure MdefD (G : Top) (x : Str) (st : Stmt) (its : List Value) : Prop where
  ex : ∃ f fd T o n, G.mg x = some (.ref f) ∧ PySem.W.keepIn G.K (.ref f) = true ∧ FunX G.K x x st f fd ∧ fd.defaults = .ref T ∧ G.K.lookup T = some o ∧ o.data = .seq its.toArray n
section
variable {G : Top}
theorem def_mk {x : Str} {st : Stmt} {N ps : List Str} {k n : Nat} {d : DS} (D : Mdef G x st) (S : FnScope N ps (defScope st)) (hn : ps.length = n) (hb : SsOk G ⟨N, defScope st, fun _ => true, none, true⟩ k (defBody st) d)
    (bind : ∀ (kV doc pm : Value) (an : Option Addr) (cdv ct : Value) (us : List Value), us.length = ps.length → bindArgs (PySem.W.fnOf x x (defArgs st) (defBody st) (defScope st) .none kV doc pm an cdv ct) ⟨us, []⟩ = pure (ps.zip us)) : Def G (k + 1) x ps (dfn N.length n d) := by
  obtain ⟨f, fd, h1, h2, F, hd⟩ := D.ex
  have hf := fn_ok F S hn hb
  obtain ⟨oc, od, dV, kV, doc, pm, an, cdv, ct, osl, rfl, lk, hcd⟩ := F.ex
  obtain rfl : dV = .none := hd
  exact ⟨f, _, h1, h2, hf, .all (bind kV doc pm an cdv ct)⟩
/-- a def that is never called so deep -/
theorem def_bad {x : Str} {st : Stmt} {ps : List Str} {k : Nat} (D : Mdef G x st) (bind : ∀ (kV doc pm : Value) (an : Option Addr) (cdv ct : Value) (us : List Value), us.length = ps.length → bindArgs (PySem.W.fnOf x x (defArgs st) (defBody st) (defScope st) .none kV doc pm an cdv ct) ⟨us, []⟩ = pure (ps.zip us)) : Def G k x ps (fun _ => bad) := by
  obtain ⟨f, fd, h1, h2, F, hd⟩ := D.ex
  obtain ⟨oc, od, dV, kV, doc, pm, an, cdv, ct, osl, rfl, lk, hcd⟩ := F.ex
  obtain rfl : dV = .none := hd
  refine ⟨f, _, h1, h2, ⟨fun vs H Q E h => ?_, fun A outer s H args us vs Q E hr hgd e0 bd r h => ?_⟩, .all (bind kV doc pm an cdv ct)⟩
  · obtain ⟨ws, S, ρ, h1, h2, h3⟩ := h
    exact h3.elim
  · obtain ⟨ws, S, ρ, h1, h2, h3⟩ := h
    exact h3.elim
/-- the same def called with keywords -/
theorem defK_mk {x : Str} {st : Stmt} {N ps ks : List Str} {k n na : Nat} {perm : List Nat} {d : DS} (D : Mdef G x st) (S : FnScope N ps (defScope st)) (hn : ps.length = n) (hb : SsOk G ⟨N, defScope st, fun _ => true, none, true⟩ k (defBody st) d)
    (bind : ∀ (kV doc pm : Value) (an : Option Addr) (cdv ct : Value) (us ws zs : List Value), us.length = na → ws.length = ks.length → permW perm (us ++ ws ++ []) = some zs → bindArgs (PySem.W.fnOf x x (defArgs st) (defBody st) (defScope st) .none kV doc pm an cdv ct) ⟨us, ks.zip ws⟩ = pure (ps.zip zs)) : DefK G (k + 1) x ps (dfn N.length n d) ks na [] perm := by
  obtain ⟨f, fd, h1, h2, F, hd⟩ := D.ex
  have hf := fn_ok F S hn hb
  obtain ⟨oc, od, dV, kV, doc, pm, an, cdv, ct, osl, rfl, lk, hcd⟩ := F.ex
  obtain rfl : dV = .none := hd
  exact ⟨f, _, h1, h2, hf, ⟨[], [], fun _ _ => .nil, .nil, fun s us ws zs _ l1 l2 e => .of_eq (bind kV doc pm an cdv ct us ws zs l1 l2 e)⟩⟩
/-- a def whose defaults are constants -/
theorem defD_mk {x : Str} {st : Stmt} {N ps ks : List Str} {k n na : Nat} {perm : List Nat} {d : DS} {its : List Value} {dV : List V} {dW : List W} (D : MdefD G x st its) (S : FnScope N ps (defScope st)) (hn : ps.length = n) (hb : SsOk G ⟨N, defScope st, fun _ => true, none, true⟩ k (defBody st) d)
    (rd : ∀ H ρ, VRs G.K H ρ dW dV) (vd : Vals dV its)
    (bind : ∀ (T : Addr) (kV doc pm : Value) (an : Option Addr) (cdv ct : Value) (us ws zs : List Value), us.length = na → ws.length = ks.length → permW perm (us ++ ws ++ its) = some zs → ∃ k, bindArgs (PySem.W.fnOf x x (defArgs st) (defBody st) (defScope st) (.ref T) kV doc pm an cdv ct) ⟨us, ks.zip ws⟩ = seqItems? (.ref T) >>= k ∧ k (some its.toArray) = pure (ps.zip zs)) : DefK G (k + 1) x ps (dfn N.length n d) ks na dW perm := by
  obtain ⟨f, fd, T, o, m, h1, h2, F, hd, lT, oT⟩ := D.ex
  have hf := fn_ok F S hn hb
  obtain ⟨oc, od, dV', kV, doc, pm, an, cdv, ct, osl, rfl, lk, hcd⟩ := F.ex
  obtain rfl : dV' = .ref T := hd
  refine ⟨f, _, h1, h2, hf, ⟨its, dV, rd, vd, fun s us ws zs inK l1 l2 e => ?_⟩⟩
  obtain ⟨k, e1, e2⟩ := bind T kV doc pm an cdv ct us ws zs l1 l2 e
  refine BindsTo.of_looks fun M => ?_
  rw [e1]
  exact looks_items inK lT oT (.of_pure e2)
variable {c : Ctx} {k : Nat}
theorem e_globS {x z : Str} {pos : Pos} (h : ∃ t, G.mg x = some (.str z t)) (hz : okS z = true := by decide +kernel) (hg : c.sc.names.lookup x = some .globalImplicit := by rfl) (hd : (x == ("__debug__" : Str)) = false := by decide) : EOk G c k (.Name x pos) (dC (.str z)) := by
  obtain ⟨t, h⟩ := h
  exact e_glob (w := .str z) (v := .str z) h (by simp [isC, hz]) ⟨t, rfl⟩ hg hd
theorem e_globI {x : Str} {z : Int} {pos : Pos} (h : ∃ t, G.mg x = some (.int z t)) (hg : c.sc.names.lookup x = some .globalImplicit := by rfl) (hd : (x == ("__debug__" : Str)) = false := by decide) : EOk G c k (.Name x pos) (dC (.int z)) := by
  obtain ⟨t, h⟩ := h
  exact e_glob (w := .int z) (v := .int z) h rfl ⟨t, rfl⟩ hg hd
/-! ### raise of an own class without __init__ -/
structure ExcC (G : Top) (x : Str) (i : Nat) : Prop where
  g : G.mg x = some (.ref (G.cl i))
  q : PySem.W.excIn G.K (G.cl i) [.type "ValueError", .type "Exception", .type "BaseException", .type "object"] "ValueError.__new__" = true
  kp : PySem.W.keepIn G.K (.ref (G.cl i)) = true
  sb : PySem.W.subIn G.K (.ref (G.cl i)) (.type "BaseException") = some true
  ty : PySem.W.typeIn G.K (.ref (G.cl i)) = some (.type "type")
def dRaise (i : Nat) : DS := fun ε S => .exc ⟨i, none⟩ ε S
theorem s_raise {x m : Str} {i j : Nat} {p p2 pos pos2 : Pos} (h : ExcC G x i) (hg : c.sc.names.lookup x = some .globalImplicit := by rfl) (hdb : (x == ("__debug__" : Str)) = false := by decide) (hh : c.hot = none := by rfl) : SOk G c k (.Raise (some (.Call (.Name x p) [.Constant (.str m) j p2] [] pos)) none pos2) (dRaise i) := fun X U F =>
  PS.imp (L2N.ps_raise (F.calm hh) F.tk (L2N.pmk_own (C := G.cl i) PySem.F.excBase_ValueError (by rw [F.K]; exact h.q) (by rw [F.mg]; exact h.g) (by rw [F.K]; exact h.kp) (raises_own (by rw [F.K]; exact h.sb) (by rw [F.K]; exact h.ty)) (glob_of F hg) hdb)) fun D σ H ⟨ρ, ε, S, ev, sr, q⟩ =>
    q H ρ σ _ _ Ext.refl sr ev ⟨rfl, rfl⟩
end
end
end N
namespace N
open PySem L2
noncomputable section
/-! ### ints -/
def mulOk (i j : Int) : Bool := decide (i.natAbs.log2 + j.natAbs.log2 < 100000000)
def powOk (i j : Int) : Bool := decide (0 ≤ j ∧ (i.natAbs.log2 + 1) * j.toNat ≤ 100000000)
def divOk (_ j : Int) : Bool := decide (0 < j ∧ j.natAbs.log2 < 9000)
theorem bits_le (i : Int) : Builtin.Int.intBits i ≤ i.natAbs.log2 + 1 := by
  unfold Builtin.Int.intBits
  split <;> omega
theorem mulOk_ok {i j : Int} (h : mulOk i j = true) : IntMulOk i j := by
  unfold IntMulOk
  have h1 := bits_le i
  have h2 := bits_le j
  have h3 : i.natAbs.log2 + j.natAbs.log2 < 100000000 := of_decide_eq_true h
  have e : bitsLine = 134217728 := by decide
  intro z
  have z2 := (Bool.and_eq_true_iff.mp z).2
  have z3 := of_decide_eq_true z2
  rw [e] at z3
  omega
def opAdd : Op2
  | .int i, .int j, S => some (.int (i + j), S)
  | .str x, .str y, S => if x.length + y.length ≤ sizeLine then some (.str (x ++ y), S) else none
  | .ref n, .ref m, S => match S[n]?, S[m]? with
    | some (.lst a), some (.lst b) => if a.length + b.length ≤ sizeLine then some (.ref S.length, S ++ [.lst (a ++ b)]) else none
    | _, _ => none
  | _, _, _ => none
def opSub : Op2
  | .int i, .int j, S => some (.int (i - j), S)
  | _, _, _ => none
def opMul : Op2
  | .int i, .int j, S => if mulOk i j then some (.int (i * j), S) else none
  | .ref n, .int k, S => match S[n]? with
    | some (.lst a) => if -(2 ^ 63) ≤ k ∧ k < 2 ^ 63 ∧ a.length * k.toNat ≤ sizeLine then some (.ref S.length, S ++ [.lst (List.replicate k.toNat a).flatten]) else none
    | _ => none
  | _, _, _ => none
def opFdiv : Op2
  | .int i, .int j, S => if divOk i j then some (.int (i / j), S) else none
  | _, _, _ => none
def opMod : Op2
  | .int i, .int j, S => if 0 < j then some (.int (i % j), S) else none
  | _, _, _ => none
def opPow : Op2
  | .int i, .int j, S => if powOk i j then some (.int (i ^ j.toNat), S) else none
  | _, _, _ => none
def opNeg : Op1
  | .int i, S => some (.int (-i), S)
  | _, _ => none
section
variable {G : Top} {c : Ctx} {k : Nat}
/-- the store as it was, a flat value -/
theorem Wish.flat {H : Hp} {ρ : List Addr} {S : Store} {w : W} {v : V} {Q : VK} (h : Wish G H ρ w S Q) (sr : SR G H ρ S) (r : VR G.K H ρ w v) : Q v H := h H ρ v Ext.refl sr r
theorem Wish.list {H : Hp} {ρ : List Addr} {S : Store} {ws : List W} {vs : List V} {Q : VK} (h : Wish G H ρ (.ref S.length) (S ++ [.lst ws]) Q) (sr : SR G H ρ S) (r : VRs G.K H ρ ws vs) {p : Addr} (hp : H p = none) : Q (.ref p) (upd H p (.lst vs)) := by
  have e : Ext G.K H ρ (upd H p (.lst vs)) (ρ ++ [p]) := Ext.snoc hp
  refine h _ _ _ e (sr.snoc hp ⟨vs, upd_same, r.mono e⟩) (.ref ?_)
  rw [← sr.len, List.getElem?_append_right (Nat.le_refl _)]
  simp
theorem Wish.tup {H : Hp} {ρ : List Addr} {S : Store} {ws : List W} {vs : List V} {Q : VK} (h : Wish G H ρ (.tup ws) S Q) (sr : SR G H ρ S) (r : VRs G.K H ρ ws vs) {p : Addr} (hp : H p = none) : Q (.ref p) (upd H p (.tup vs)) :=
  h _ _ _ (Ext.fresh hp) (sr.fresh hp) (.tup (.of upd_same) (r.mono (Ext.fresh hp)))
/-- the list at a reference -/
theorem VR.lst {H : Hp} {ρ : List Addr} {S : Store} {n : Nat} {v : V} {ws : List W} (r : VR G.K H ρ (.ref n) v) (sr : SR G H ρ S) (h : S[n]? = some (.lst ws)) : ∃ a vs, v = .ref a ∧ ρ[n]? = some a ∧ H a = some (.lst vs) ∧ VRs G.K H ρ ws vs := by
  cases r with
  | ref q =>
    obtain ⟨vs, z, t⟩ := sr.ob _ _ _ q h
    exact ⟨_, vs, rfl, q, z, t⟩
theorem okS_append {x y : Str} (hx : okS x = true) (hy : okS y = true) : okS (x ++ y) = true := by
  have e : (x ++ y).cps.toList = x.cps.toList ++ y.cps.toList := by
    show (x.cps ++ y.cps).toList = _
    simp
  unfold okS at *
  rw [e, List.all_append, hx, hy]
  rfl
theorem opAdd_ok : Op2Ok G (fun x y H Q => (∃ i j, x = .int i ∧ y = .int j ∧ Q (.int (i + j)) H) ∨ (∃ i j, x = .str i ∧ y = .str j ∧ i.length + j.length ≤ sizeLine ∧ Q (.str (i ++ j)) H) ∨ rCat x y H Q) opAdd := fun H ρ S a b x y w S' Q sr ra rb h q => by
  cases ra with
  | int i =>
    cases rb with
    | int j => cases h; exact .inl ⟨i, j, rfl, rfl, q.flat sr (.int _)⟩
    | _ => cases h
  | str hi =>
    cases rb with
    | str hj =>
      simp only [opAdd] at h
      split at h
      · cases h; exact .inr (.inl ⟨_, _, rfl, rfl, by assumption, q.flat sr (.str (okS_append hi hj))⟩)
      · cases h
    | _ => cases h
  | @ref n a hn =>
    cases rb with
    | @ref m b hm =>
      simp only [opAdd] at h
      split at h
      · rename_i l1 l2 e1 e2
        split at h
        · rename_i hz
          cases h
          obtain ⟨vs, z, t⟩ := sr.ob n a _ hn e1
          obtain ⟨us, z', t'⟩ := sr.ob m b _ hm e2
          exact .inr (.inr ⟨a, b, vs, us, rfl, rfl, z, z', by rw [← t.length, ← t'.length]; exact hz, fun p hp => q.list sr (t.append t') hp⟩)
        · cases h
      · cases h
    | _ => cases h
  | _ => cases h
theorem e_add {a b : Expr} {d e : DE} {pos : Pos} (ha : EOk G c k a d) (hb : EOk G c k b e) : EOk G c k (.BinOp a .Add b pos) (dOp opAdd d e) := e_bin (fun X U F => (op_add).or ((op_add_str).or op_cat)) opAdd_ok ha hb
theorem int2 {op : Op2} {C : Int → Int → Prop} {g : Int → Int → Int} (h : ∀ a b S w S', op a b S = some (w, S') → ∃ i j, a = .int i ∧ b = .int j ∧ C i j ∧ w = .int (g i j) ∧ S' = S) : Op2Ok G (rI C fun i j => .int (g i j)) op := fun H ρ S a b x y w S' Q sr ra rb e q => by
  obtain ⟨i, j, rfl, rfl, hc, rfl, rfl⟩ := h _ _ _ _ _ e
  cases ra
  cases rb
  exact ⟨i, j, rfl, rfl, hc, q.flat sr (.int _)⟩
theorem e_sub {a b : Expr} {d e : DE} {pos : Pos} (ha : EOk G c k a d) (hb : EOk G c k b e) : EOk G c k (.BinOp a .Sub b pos) (dOp opSub d e) :=
  e_bin (r := rI (fun _ _ => True) fun i j => .int (i - j)) (fun X U F => L2.opI fun _ _ _ _ _ _ _ _ q => PyProof.Rows.sub_int q) (int2 fun a b S w S' h => by
    unfold opSub at h
    split at h
    · cases h; exact ⟨_, _, rfl, rfl, trivial, rfl, rfl⟩
    · cases h) ha hb
theorem e_fdiv {a b : Expr} {d e : DE} {pos : Pos} (ha : EOk G c k a d) (hb : EOk G c k b e) : EOk G c k (.BinOp a .FloorDiv b pos) (dOp opFdiv d e) :=
  e_bin (r := rI CDivW fun i j => .int (i / j)) (fun X U F => op_fdivW) (int2 fun a b S w S' h => by
    unfold opFdiv at h
    split at h
    · split at h
      · rename_i hd
        cases h; exact ⟨_, _, rfl, rfl, by have z := of_decide_eq_true hd; exact z, rfl, rfl⟩
      · cases h
    · cases h) ha hb
theorem e_mod {a b : Expr} {d e : DE} {pos : Pos} (ha : EOk G c k a d) (hb : EOk G c k b e) : EOk G c k (.BinOp a .Mod b pos) (dOp opMod d e) :=
  e_bin (r := rI (fun _ j => 0 < j) fun i j => .int (i % j)) (fun X U F => op_mod) (int2 fun a b S w S' h => by
    unfold opMod at h
    split at h
    · split at h
      · cases h; exact ⟨_, _, rfl, rfl, by assumption, rfl, rfl⟩
      · cases h
    · cases h) ha hb
theorem e_pow {a b : Expr} {d e : DE} {pos : Pos} (ha : EOk G c k a d) (hb : EOk G c k b e) : EOk G c k (.BinOp a .Pow b pos) (dOp opPow d e) :=
  e_bin (r := rI (fun i j => powOk i j = true) fun i j => .int (i ^ j.toNat)) (fun X U F => L2.opI fun i j _ _ _ _ _ hc q => by
    have h := of_decide_eq_true hc
    have hb := bits_le i
    refine PyProof.Rows.pow_int h.1 ?_ q
    have e : (j.toNat : Int) = j := Int.toNat_of_nonneg h.1
    have h1 : Builtin.Int.intBits i * j.toNat ≤ (i.natAbs.log2 + 1) * j.toNat := Nat.mul_le_mul_right _ hb
    have h2 : Builtin.Int.intBits i * j.toNat ≤ 134217728 := Nat.le_trans h1 (Nat.le_trans h.2 (by omega))
    have h3 : ((Builtin.Int.intBits i * j.toNat : Nat) : Int) ≤ 134217728 := by omega
    rw [Int.natCast_mul, e] at h3
    have e2 : (2 : Int) ^ 27 = 134217728 := by decide
    rw [e2]
    exact h3) (int2 fun a b S w S' h => by
    unfold opPow at h
    split at h
    · split at h
      · cases h; exact ⟨_, _, rfl, rfl, by assumption, rfl, rfl⟩
      · cases h
    · cases h) ha hb
theorem opMul_ok : Op2Ok G (fun x y H Q => rI (fun i j => mulOk i j = true) (fun i j => .int (i * j)) x y H Q ∨ rRep x y H Q) opMul := fun H ρ S a b x y w S' Q sr ra rb h q => by
  cases ra with
  | int i =>
    cases rb with
    | int j =>
      simp only [opMul] at h
      split at h
      · cases h; exact .inl ⟨i, j, rfl, rfl, by assumption, q.flat sr (.int _)⟩
      · cases h
    | _ => cases h
  | @ref n a hn =>
    cases rb with
    | int j =>
      simp only [opMul] at h
      split at h
      · rename_i l1 e1
        split at h
        · rename_i hz
          cases h
          obtain ⟨vs, z, t⟩ := sr.ob n a _ hn e1
          refine .inr ⟨a, j, vs, rfl, rfl, z, hz.1, hz.2.1, by rw [← t.length]; exact hz.2.2, fun p hp => q.list sr ?_ hp⟩
          have : ∀ m : Nat, VRs G.K H ρ (List.replicate m l1).flatten (List.replicate m vs).flatten := fun m => by
            induction m with
            | zero => exact .nil
            | succ m ih => rw [List.replicate_succ, List.replicate_succ, List.flatten_cons, List.flatten_cons]; exact t.append ih
          exact this _
        · cases h
      · cases h
    | _ => cases h
  | _ => cases h
theorem e_mul {a b : Expr} {d e : DE} {pos : Pos} (ha : EOk G c k a d) (hb : EOk G c k b e) : EOk G c k (.BinOp a .Mult b pos) (dOp opMul d e) :=
  e_bin (fun X U F => OpR.or (L2.opI fun _ _ _ _ _ _ _ hc q => PyProof.Rows.mul_int q (mulOk_ok hc)) op_rep) opMul_ok ha hb
theorem e_neg {a : Expr} {d : DE} {pos : Pos} (ha : EOk G c k a d) : EOk G c k (.UnaryOp .USub a pos) (dUn opNeg d) :=
  e_un (fun X U F => un_neg) (fun H ρ S a x w S' Q sr ra h q => by
    cases ra with
    | int i => cases h; exact ⟨i, rfl, q.flat sr (.int _)⟩
    | _ => cases h) ha
/-! ### order -/
def opCmp (p : Int → Int → Bool) (q : List Nat → List Nat → Bool) : Op2
  | .int i, .int j, S => some (.bl (p i j), S)
  | .str x, .str y, S => some (.bl (q x.cps.toList y.cps.toList), S)
  | _, _, _ => none
abbrev opLt : Op2 := opCmp (fun i j => decide (i < j)) fun x y => decide (x < y)
abbrev opLe : Op2 := opCmp (fun i j => decide (i ≤ j)) fun x y => !decide (y < x)
abbrev opGt : Op2 := opCmp (fun i j => decide (j < i)) fun x y => decide (y < x)
abbrev opGe : Op2 := opCmp (fun i j => decide (j ≤ i)) fun x y => !decide (x < y)
theorem opCmp_ok {p : Int → Int → Bool} {q : List Nat → List Nat → Bool} : Op2Ok G (fun x y H Q => (∃ i j, x = .int i ∧ y = .int j ∧ Q (.bl (p i j)) H) ∨ (∃ i j, x = .str i ∧ y = .str j ∧ Q (.bl (q i.cps.toList j.cps.toList)) H)) (opCmp p q) := fun H ρ S a b x y w S' Q sr ra rb h z => by
  cases ra with
  | int i =>
    cases rb with
    | int j => cases h; exact .inl ⟨i, j, rfl, rfl, z.flat sr (.bl _)⟩
    | _ => cases h
  | str hi =>
    cases rb with
    | str hj => cases h; exact .inr ⟨_, _, rfl, rfl, z.flat sr (.bl _)⟩
    | _ => cases h
  | _ => cases h
theorem r_lt : ∀ X W, Fit G c k X W → OpR X (compareOp .Lt) (fun x y H Q => (∃ i j, x = .int i ∧ y = .int j ∧ Q (.bl (decide (i < j))) H) ∨ (∃ i j, x = .str i ∧ y = .str j ∧ Q (.bl (decide (i.cps.toList < j.cps.toList))) H)) := fun X W F => op_lt.or op_lt_str
theorem r_le : ∀ X W, Fit G c k X W → OpR X (compareOp .LtE) (fun x y H Q => (∃ i j, x = .int i ∧ y = .int j ∧ Q (.bl (decide (i ≤ j))) H) ∨ (∃ i j, x = .str i ∧ y = .str j ∧ Q (.bl (!decide (j.cps.toList < i.cps.toList))) H)) := fun X W F => op_le.or op_le_str
theorem r_gt : ∀ X W, Fit G c k X W → OpR X (compareOp .Gt) (fun x y H Q => (∃ i j, x = .int i ∧ y = .int j ∧ Q (.bl (decide (j < i))) H) ∨ (∃ i j, x = .str i ∧ y = .str j ∧ Q (.bl (decide (j.cps.toList < i.cps.toList))) H)) := fun X W F => op_gt.or op_gt_str
theorem r_ge : ∀ X W, Fit G c k X W → OpR X (compareOp .GtE) (fun x y H Q => (∃ i j, x = .int i ∧ y = .int j ∧ Q (.bl (decide (j ≤ i))) H) ∨ (∃ i j, x = .str i ∧ y = .str j ∧ Q (.bl (!decide (i.cps.toList < j.cps.toList))) H)) := fun X W F => op_ge.or op_ge_str
theorem o_lt : Op2Ok G (fun x y H Q => (∃ i j, x = .int i ∧ y = .int j ∧ Q (.bl (decide (i < j))) H) ∨ (∃ i j, x = .str i ∧ y = .str j ∧ Q (.bl (decide (i.cps.toList < j.cps.toList))) H)) opLt := opCmp_ok
theorem o_le : Op2Ok G (fun x y H Q => (∃ i j, x = .int i ∧ y = .int j ∧ Q (.bl (decide (i ≤ j))) H) ∨ (∃ i j, x = .str i ∧ y = .str j ∧ Q (.bl (!decide (j.cps.toList < i.cps.toList))) H)) opLe := opCmp_ok
theorem o_gt : Op2Ok G (fun x y H Q => (∃ i j, x = .int i ∧ y = .int j ∧ Q (.bl (decide (j < i))) H) ∨ (∃ i j, x = .str i ∧ y = .str j ∧ Q (.bl (decide (j.cps.toList < i.cps.toList))) H)) opGt := opCmp_ok
theorem o_ge : Op2Ok G (fun x y H Q => (∃ i j, x = .int i ∧ y = .int j ∧ Q (.bl (decide (j ≤ i))) H) ∨ (∃ i j, x = .str i ∧ y = .str j ∧ Q (.bl (!decide (i.cps.toList < j.cps.toList))) H)) opGe := opCmp_ok
end
end
end N
namespace N
open PySem L2
noncomputable section
/-! ### what a value reads as -/
def mapO {α β : Type} (f : α → Option β) : List α → Option (List β)
  | [] => some []
  | x :: xs => match f x, mapO f xs with
    | some y, some ys => some (y :: ys)
    | _, _ => none
def toD (S : Store) : Nat → W → Option PyData
  | 0, _ => none
  | _ + 1, .non => some .none
  | _ + 1, .bl b => some (.bool b)
  | _ + 1, .int i => some (.int i)
  | _ + 1, .str x => some (.str x)
  | n + 1, .tup ws => (mapO (toD S n) ws).map .tuple
  | n + 1, .rl ws => (mapO (toD S n) ws).map .list
  | n + 1, .ref m => match S[m]? with
    | some (.lst ws) => (mapO (toD S n) ws).map .list
    | _ => none
  | _ + 1, .exn _ _ _ _ => none
theorem okS_strOk {x : Str} (h : okS x = true) : PyData.strOk x = true := by
  unfold okS at h
  unfold PyData.strOk
  rw [← Array.all_toList]
  exact h
section
variable {G : Top} {c : Ctx} {k : Nat}
theorem toD_ok {H : Hp} {ρ : List Addr} {S : Store} (sr : SR G H ρ S) : ∀ (n : Nat) {w : W} {v : V} {d : PyData}, VR G.K H ρ w v → toD S n w = some d → Dp G.K H v d ∧ d.canLay0 = true ∧ d.depth ≤ n
  | 0, w, v, d, r, e => by simp [toD] at e
  | n + 1, w, v, d, r, e => by
    have all : ∀ {ws : List W} {vs : List V} {ds : List PyData}, VRs G.K H ρ ws vs → mapO (toD S n) ws = some ds → DpAll G.K H vs ds ∧ PyData.canLayAll0 ds = true ∧ PyData.depthAll ds ≤ n := by
      intro ws
      induction ws with
      | nil =>
        intro vs ds r e
        cases r
        cases e
        exact ⟨.nil, rfl, by rw [PyData.depthAll]; omega⟩
      | cons w ws ih =>
        intro vs ds r e
        cases r with
        | cons r rs =>
          unfold mapO at e
          cases h1 : toD S n w with
          | none => simp [h1] at e
          | some d1 =>
            cases h2 : mapO (toD S n) ws with
            | none => simp [h1, h2] at e
            | some ds1 =>
              simp only [h1, h2, Option.some.injEq] at e
              subst e
              obtain ⟨a1, b1, c1⟩ := toD_ok sr n r h1
              obtain ⟨a2, b2, c2⟩ := ih rs h2
              refine ⟨.cons a1 a2, by simp [PyData.canLayAll0, b1, b2], ?_⟩
              rw [PyData.depthAll]
              omega
    cases r with
    | non => cases e; exact ⟨.non, rfl, by rw [PyData.depth]; omega⟩
    | exn0 => cases e
    | exnD _ _ _ _ => cases e
    | bl b => cases e; exact ⟨.bl b, rfl, by rw [PyData.depth]; omega⟩
    | int i => cases e; exact ⟨.int i, rfl, by rw [PyData.depth]; omega⟩
    | str hx => cases e; exact ⟨.str _, by rw [PyData.canLay0]; exact okS_strOk hx, by rw [PyData.depth]; omega⟩
    | @tup ws a vs q t =>
      rw [toD] at e
      cases h : mapO (toD S n) ws with
      | none => rw [h] at e; cases e
      | some ds =>
        rw [h] at e
        cases e
        obtain ⟨x, y, z⟩ := all t h
        exact ⟨.tup q x, by rw [PyData.canLay0]; exact y, by rw [PyData.depth]; omega⟩
    | @rl ws a vs q t =>
      rw [toD] at e
      cases h : mapO (toD S n) ws with
      | none => rw [h] at e; cases e
      | some ds =>
        rw [h] at e
        cases e
        obtain ⟨x, y, z⟩ := all t h
        exact ⟨.lst q.sq x, by rw [PyData.canLay0]; exact y, by rw [PyData.depth]; omega⟩
    | @ref m a q =>
      rw [toD] at e
      cases ho : S[m]? with
      | none => rw [ho] at e; cases e
      | some o =>
        rw [ho] at e
        have ob := sr.ob m a o q ho
        cases o with
        | lst ws =>
          obtain ⟨vs, z, t⟩ := ob
          cases h : mapO (toD S n) ws with
          | none => simp only [h] at e; cases e
          | some ds =>
            simp only [h, Option.map_some, Option.some.injEq] at e
            cases e
            obtain ⟨x, y, z'⟩ := all t h
            exact ⟨.lst (.of z) x, by rw [PyData.canLay0]; exact y, by rw [PyData.depth]; omega⟩
        | dct kvs => cases e
        | ins c fs => cases e
        | fdct kvs => cases e
/-- how deep data may lie -/
abbrev deep : Nat := 50
theorem toD_shaped {H : Hp} {ρ : List Addr} {S : Store} (sr : SR G H ρ S) {w : W} {v : V} {d : PyData} (r : VR G.K H ρ w v) (e : toD S deep w = some d) : Dp G.K H v d ∧ SeqAt.shaped d = true := by
  obtain ⟨a, b, c⟩ := toD_ok sr deep r e
  refine ⟨a, ?_⟩
  unfold SeqAt.shaped
  rw [b, Bool.true_and]
  exact decide_eq_true (Nat.le_trans c (by decide))
def opEq : Op2 := fun a b S => match toD S deep a, toD S deep b with
  | some d, some e => some (.bl (PyData.eqv d e), S)
  | _, _ => none
def opNe : Op2 := fun a b S => match toD S deep a, toD S deep b with
  | some d, some e => some (.bl (!PyData.eqv d e), S)
  | _, _ => none
theorem r_eq : ∀ X W, Fit G c k X W → OpR X (compareOp .Eq) (rEqD G.K) := fun X W F => by rw [← F.K]; exact op_eqD (by have := F.room.un; omega)
theorem r_ne : ∀ X W, Fit G c k X W → OpR X (compareOp .NotEq) (rNeD G.K) := fun X W F => by rw [← F.K]; exact op_neD (by have := F.room.un; omega)
theorem o_eq : Op2Ok G (rEqD G.K) opEq := fun H ρ S a b x y w S' Q sr ra rb h q => by
  unfold opEq at h
  split at h
  · rename_i d e hd he
    cases h
    obtain ⟨d1, d2⟩ := toD_shaped sr ra hd
    obtain ⟨e1, e2⟩ := toD_shaped sr rb he
    exact ⟨d, e, d1, e1, d2, e2, q.flat sr (.bl _)⟩
  · cases h
theorem o_ne : Op2Ok G (rNeD G.K) opNe := fun H ρ S a b x y w S' Q sr ra rb h q => by
  unfold opNe at h
  split at h
  · rename_i d e hd he
    cases h
    obtain ⟨d1, d2⟩ := toD_shaped sr ra hd
    obtain ⟨e1, e2⟩ := toD_shaped sr rb he
    exact ⟨d, e, d1, e1, d2, e2, q.flat sr (.bl _)⟩
  · cases h
/-! ### is None, is True -/
def isNon : W → Bool
  | .non => true
  | _ => false
def opIsN : Op2 := fun a b S => match b with
  | .non => some (.bl (isNon a), S)
  | _ => none
def opNotN : Op2 := fun a b S => match b with
  | .non => some (.bl (!isNon a), S)
  | _ => none
theorem isN_dec {H : Hp} {ρ : List Addr} {a : W} {x : V} (r : VR G.K H ρ a x) : decide (x = .non) = isNon a := by
  cases r <;> rfl
theorem r_isN : ∀ X W, Fit G c k X W → OpR X (compareOp .Is) (fun x y H Q => y = .non ∧ Q (.bl (decide (x = .non))) H) := fun X W F => op_isN
theorem r_notN : ∀ X W, Fit G c k X W → OpR X (compareOp .IsNot) (fun x y H Q => y = .non ∧ Q (.bl (!decide (x = .non))) H) := fun X W F => op_notN
theorem o_isN : Op2Ok G (fun x y H Q => y = .non ∧ Q (.bl (decide (x = .non))) H) opIsN := fun H ρ S a b x y w S' Q sr ra rb h q => by
  unfold opIsN at h
  split at h
  · cases rb
    cases h
    refine ⟨rfl, ?_⟩
    rw [isN_dec ra]
    exact q.flat sr (.bl _)
  · cases h
theorem o_notN : Op2Ok G (fun x y H Q => y = .non ∧ Q (.bl (!decide (x = .non))) H) opNotN := fun H ρ S a b x y w S' Q sr ra rb h q => by
  unfold opNotN at h
  split at h
  · cases rb
    cases h
    refine ⟨rfl, ?_⟩
    rw [isN_dec ra]
    exact q.flat sr (.bl _)
  · cases h
/-! ### in -/
def inStr (x y : Str) : Bool := !(Builtin.Str.occurrences y x 0 y.length 1).isEmpty
def inW (a b : W) (S : Store) : Option Bool := match a, b with
  | .str x, .str y => match x with
    | ⟨⟨[c]⟩⟩ => some (decide (c ∈ y.cps.toList))
    | _ => some (inStr x y)
  | a, b => match toD S deep a, toD S deep b with
    | some d, some (.list ds) => some (ds.any fun z => PyData.eqv z d)
    | _, _ => none
def opIn : Op2 := fun a b S => (inW a b S).map fun z => (.bl z, S)
def opNotIn : Op2 := fun a b S => (inW a b S).map fun z => (.bl (!z), S)
theorem r_in : ∀ X W, Fit G c k X W → OpR X (compareOp .In) (fun x y H Q => (∃ (c : Nat) (z : Str), x = .str ⟨#[c]⟩ ∧ y = .str z ∧ Q (.bl (decide (c ∈ z.cps.toList))) H) ∨ (∃ i j, x = .str i ∧ y = .str j ∧ Q (.bl (inStr i j)) H) ∨ rInD G.K x y H Q) := fun X W F => by
  rw [← F.K]
  exact op_in_sign.or (op_in_str.or (op_inD (by have := F.room.un; omega)))
theorem r_notIn : ∀ X W, Fit G c k X W → OpR X (compareOp .NotIn) (fun x y H Q => (∃ (c : Nat) (z : Str), x = .str ⟨#[c]⟩ ∧ y = .str z ∧ Q (.bl (!decide (c ∈ z.cps.toList))) H) ∨ (∃ i j, x = .str i ∧ y = .str j ∧ Q (.bl (!inStr i j)) H) ∨ rNotInD G.K x y H Q) := fun X W F => by
  rw [← F.K]
  exact op_notIn_sign.or (op_notIn_str.or (op_notInD (by have := F.room.un; omega)))
theorem inW_ok {H : Hp} {ρ : List Addr} {S : Store} {a b : W} {x y : V} {z : Bool} (sr : SR G H ρ S) (ra : VR G.K H ρ a x) (rb : VR G.K H ρ b y) (h : inW a b S = some z) :
    (∃ (c : Nat) (s : Str), x = .str ⟨#[c]⟩ ∧ y = .str s ∧ z = decide (c ∈ s.cps.toList)) ∨ (∃ i j, x = .str i ∧ y = .str j ∧ z = inStr i j) ∨ ∃ d ds, Dp G.K H x d ∧ Dp G.K H y (.list ds) ∧ SeqAt.shaped d = true ∧ SeqAt.shaped (.list ds) = true ∧ z = ds.any fun z => PyData.eqv z d := by
  unfold inW at h
  split at h
  · rename_i s1 s2
    cases ra
    cases rb
    split at h
    · rename_i ch _
      cases h
      exact .inl ⟨ch, s2, rfl, rfl, rfl⟩
    · cases h
      exact .inr (.inl ⟨_, _, rfl, rfl, rfl⟩)
  · split at h
    · rename_i d ds hd hds
      cases h
      obtain ⟨a1, a2⟩ := toD_shaped sr ra hd
      obtain ⟨b1, b2⟩ := toD_shaped sr rb hds
      exact .inr (.inr ⟨d, ds, a1, b1, a2, b2, rfl⟩)
    · cases h
theorem o_in : Op2Ok G (fun x y H Q => (∃ (c : Nat) (z : Str), x = .str ⟨#[c]⟩ ∧ y = .str z ∧ Q (.bl (decide (c ∈ z.cps.toList))) H) ∨ (∃ i j, x = .str i ∧ y = .str j ∧ Q (.bl (inStr i j)) H) ∨ rInD G.K x y H Q) opIn := fun H ρ S a b x y w S' Q sr ra rb h q => by
  unfold opIn at h
  cases e : inW a b S with
  | none => rw [e] at h; cases h
  | some z =>
    rw [e] at h
    cases h
    rcases inW_ok sr ra rb e with ⟨c, s, rfl, rfl, rfl⟩ | ⟨i, j, rfl, rfl, rfl⟩ | ⟨d, ds, h1, h2, h3, h4, rfl⟩
    · exact .inl ⟨c, s, rfl, rfl, q.flat sr (.bl _)⟩
    · exact .inr (.inl ⟨i, j, rfl, rfl, q.flat sr (.bl _)⟩)
    · exact .inr (.inr ⟨d, ds, h1, h2, h3, h4, q.flat sr (.bl _)⟩)
theorem o_notIn : Op2Ok G (fun x y H Q => (∃ (c : Nat) (z : Str), x = .str ⟨#[c]⟩ ∧ y = .str z ∧ Q (.bl (!decide (c ∈ z.cps.toList))) H) ∨ (∃ i j, x = .str i ∧ y = .str j ∧ Q (.bl (!inStr i j)) H) ∨ rNotInD G.K x y H Q) opNotIn := fun H ρ S a b x y w S' Q sr ra rb h q => by
  unfold opNotIn at h
  cases e : inW a b S with
  | none => rw [e] at h; cases h
  | some z =>
    rw [e] at h
    cases h
    rcases inW_ok sr ra rb e with ⟨c, s, rfl, rfl, rfl⟩ | ⟨i, j, rfl, rfl, rfl⟩ | ⟨d, ds, h1, h2, h3, h4, rfl⟩
    · exact .inl ⟨c, s, rfl, rfl, q.flat sr (.bl _)⟩
    · exact .inr (.inl ⟨i, j, rfl, rfl, q.flat sr (.bl _)⟩)
    · exact .inr (.inr ⟨d, ds, h1, h2, h3, h4, q.flat sr (.bl _)⟩)
/-! ### subscripts and slices -/
def seqW (w : W) (S : Store) : Option (List W) := match w with
  | .tup ws => some ws
  | .rl ws => some ws
  | .ref n => match S[n]? with
    | some (.lst ws) => some ws
    | _ => none
  | _ => none
theorem seqW_ok {H : Hp} {ρ : List Addr} {S : Store} {w : W} {v : V} {ws : List W} (sr : SR G H ρ S) (r : VR G.K H ρ w v) (h : seqW w S = some ws) : ∃ a vs, v = .ref a ∧ VRs G.K H ρ ws vs ∧ (SqL G.K H a vs ∨ SqT G.K H a vs) := by
  unfold seqW at h
  cases r with
  | tup q t => cases h; exact ⟨_, _, rfl, t, .inr q⟩
  | rl q t => cases h; exact ⟨_, _, rfl, t, .inl q.sq⟩
  | exn0 => cases h
  | exnD _ _ _ _ => cases h
  | @ref n a q =>
    simp only at h
    split at h
    · rename_i e
      cases h
      obtain ⟨vs, z, t⟩ := sr.ob n a _ q e
      exact ⟨_, vs, rfl, t, .inl (.of z)⟩
    · cases h
  | _ => cases h
def opIx : Op2 := fun a i S => match i with
  | .int i => match a with
    | .str x => if x.length ≤ sizeLine then (atI x.cps.toList i).map fun c => (.str ⟨#[c]⟩, S) else none
    | a => (seqW a S).bind fun ws => (atI ws i).map fun w => (w, S)
  | _ => none
theorem VRs.atI {H : Hp} {ρ : List Addr} {ws : List W} {vs : List V} {i : Int} {w : W} (r : VRs G.K H ρ ws vs) (h : L2.atI ws i = some w) : ∃ v, L2.atI vs i = some v ∧ VR G.K H ρ w v := by
  unfold L2.atI at *
  rw [← r.length]
  cases e : ixN ws.length i with
  | none => rw [e] at h; cases h
  | some j =>
    rw [e] at h
    exact r.get h
theorem okS_sign {x : Str} {i : Int} {ch : Nat} (hx : okS x = true) (h : L2.atI x.cps.toList i = some ch) : okS ⟨#[ch]⟩ = true := by
  unfold okS at *
  obtain ⟨j, _, h2, _⟩ := L2.atI_get h
  have := List.all_eq_true.mp hx ch (List.mem_of_getElem? h2)
  simp only [List.all_cons, List.all_nil, Bool.and_true]
  exact this
theorem o_ix : Op2Ok G (rIx G.K) opIx := fun H ρ S a b x y w S' Q sr ra rb h q => by
  unfold opIx at h
  cases rb with
  | int i =>
    simp only at h
    split at h
    · rename_i st
      cases ra with
      | str hx =>
        split at h
        · rename_i hz
          cases e : L2.atI st.cps.toList i with
          | none => rw [e] at h; cases h
          | some ch =>
            rw [e] at h
            cases h
            exact .inr (.inr ⟨st, i, ch, rfl, rfl, hz, e, q.flat sr (.str (okS_sign hx e))⟩)
        · cases h
    · cases e : seqW a S with
      | none => rw [e] at h; cases h
      | some ws =>
        rw [e] at h
        simp only [Option.bind_some] at h
        cases e2 : L2.atI ws i with
        | none => rw [e2] at h; cases h
        | some w1 =>
          rw [e2] at h
          cases h
          obtain ⟨p, vs, rfl, t, hs⟩ := seqW_ok sr ra e
          obtain ⟨v, hv, rv⟩ := t.atI e2
          rcases hs with hs | hs
          · exact .inl ⟨p, vs, i, v, rfl, rfl, hs, hv, q.flat sr rv⟩
          · exact .inr (.inl ⟨p, vs, i, v, rfl, rfl, hs, hv, q.flat sr rv⟩)
  | _ => cases h
theorem e_ix {a b : Expr} {d e : DE} {pos : Pos} (ha : EOk G c k a d) (hb : EOk G c k b e) (hs : PlainIx b := by intro _ _; rfl) : EOk G c k (.Subscript a b pos) (dOp opIx d e) := fun X U F =>
  PE.imp (pe_ix ix_seq (ha X U F) (hb X U F) hs) fun σ H Q q => by rw [F.K]; exact op_imp o_ix q
end
end
end N
namespace N
open PySem L2
noncomputable section
theorem char_lt (ch : Char) : ch.toNat < 1114112 := by
  have := ch.valid
  unfold UInt32.isValidChar Nat.isValidChar at this
  show ch.val.toNat < _
  omega
theorem okS_cps {x : Str} (h : ∀ c ∈ x.cps.toList, c < 1114112) : okS x = true := by
  unfold okS
  rw [List.all_eq_true]
  exact fun c hc => decide_eq_true (h c hc)
theorem okS_mem {x : Str} (h : okS x = true) : ∀ c ∈ x.cps.toList, c < 1114112 := fun c hc => by
  unfold okS at h
  exact of_decide_eq_true (List.all_eq_true.mp h c hc)
theorem okS_of (s : String) : okS (Str.ofString s) = true := okS_cps fun c hc => by
  rw [Str.ofString_eq_toList] at hc
  simp only [List.mem_map] at hc
  obtain ⟨ch, _, rfl⟩ := hc
  exact char_lt ch
theorem digits_lt (n : Nat) : ∀ d ∈ (Nat.toDigits 16 n).map Char.toNat, d < 1114112 := fun d hd => by
  obtain ⟨ch, _, rfl⟩ := List.mem_map.mp hd
  exact char_lt ch
theorem reprChar_ok {q c : Nat} (hc : c < 1114112) : ∀ d ∈ Builtin.Str.reprChar q c, d < 1114112 := fun d hd => by
  unfold Builtin.Str.reprChar at hd
  have hx : ∀ m, d ∈ List.replicate m 48 ++ (Nat.toDigits 16 c).map Char.toNat → d < 1114112 := fun m h => by
    rcases List.mem_append.mp h with h | h
    · rw [List.eq_of_mem_replicate h]; omega
    · exact digits_lt c d h
  simp only at hd
  split at hd
  · simp at hd; omega
  split at hd
  · simp at hd; omega
  split at hd
  · simp at hd; omega
  split at hd
  · simp at hd; omega
  split at hd
  · simp at hd; omega
  split at hd
  · rcases List.mem_append.mp hd with h | h
    · simp at h; omega
    · exact hx _ h
  split at hd
  · rcases List.mem_append.mp hd with h | h
    · simp at h; omega
    · exact hx _ h
  · rcases List.mem_append.mp hd with h | h
    · simp at h; omega
    · exact hx _ h
theorem reprFold_ok {q : Nat} : ∀ (l : List Nat) (acc : Array Nat), (∀ c ∈ l, c < 1114112) → (∀ c ∈ acc.toList, c < 1114112) → ∀ c ∈ (l.foldl (fun out c => out ++ (Builtin.Str.reprChar q c).toArray) acc).toList, c < 1114112
  | [], acc, _, h => h
  | x :: l, acc, hl, h => by
    refine reprFold_ok l _ (fun c hc => hl c (List.mem_cons_of_mem _ hc)) fun c hc => ?_
    rw [Array.toList_append] at hc
    rcases List.mem_append.mp hc with z | z
    · exact h c z
    · exact reprChar_ok (hl x List.mem_cons_self) c z
theorem okS_repr {x : Str} (h : okS x = true) : okS (PySem.reprText x) = true := okS_cps fun c hc => by
  have hq : PySem.reprQuote x < 1114112 := by
    unfold PySem.reprQuote
    split <;> omega
  unfold PySem.reprText at hc
  rw [Array.toList_push] at hc
  rcases List.mem_append.mp hc with z | z
  · rw [← Array.foldl_toList] at z
    exact reprFold_ok _ _ (okS_mem h) (fun c hc => by simp at hc; omega) c z
  · simp at z; omega
theorem okS_from : ∀ (ts : List Str) (j : Nat) (acc : Str), okS acc = true → (∀ t ∈ ts, okS t = true) → okS (textFrom j acc ts) = true
  | [], _, _, h, _ => h
  | t :: ts, j, acc, h, ht => by
    unfold textFrom
    refine okS_from ts _ _ (okS_append (okS_append h ?_) (ht t List.mem_cons_self)) fun u hu => ht u (List.mem_cons_of_mem _ hu)
    split <;> exact okS_of _
theorem okS_join {sep : Str} (hs : okS sep = true) : ∀ ts : List Str, (∀ t ∈ ts, okS t = true) → okS (Str.join sep ts) = true
  | [], _ => rfl
  | [t], h => h t List.mem_cons_self
  | t :: u :: ts, h => by
    rw [Str.join]
    exact okS_append (okS_append (h t List.mem_cons_self) hs) (okS_join hs (u :: ts) fun z hz => h z (List.mem_cons_of_mem _ hz))
    intro z; cases z
theorem strOk_okS {x : Str} (h : PyData.strOk x = true) : okS x = true := by
  unfold PyData.strOk at h
  rw [← Array.all_toList] at h
  exact h
mutual
theorem okS_shown : ∀ d : PyData, d.canLay0 = true → okS d.shown = true
  | .none, _ => by rw [PyData.shown_none]; exact okS_of _
  | .bool b, _ => by rw [PyData.shown_bool]; split <;> exact okS_of _
  | .int i, _ => by rw [PyData.shown_int]; exact okS_of _
  | .str x, h => by rw [PyData.shown_str]; exact okS_repr (strOk_okS (by rw [PyData.canLay0] at h; exact h))
  | .list xs, h => by
    rw [PyData.shown_list]
    exact okS_append (okS_append (okS_of _) (okS_join (okS_of _) _ (okS_shownAll xs (by rw [PyData.canLay0] at h; exact h)))) (okS_of _)
  | .tuple xs, h => by
    rw [PyData.shown_tuple]
    refine okS_append (okS_append (okS_of _) (okS_join (okS_of _) _ (okS_shownAll xs (by rw [PyData.canLay0] at h; exact h)))) ?_
    split <;> exact okS_of _
  | .dict _, h => by rw [PyData.canLay0] at h; cases h
theorem okS_shownAll : ∀ ds : List PyData, PyData.canLayAll0 ds = true → ∀ t ∈ PyData.shownAll ds, okS t = true
  | [], _ => fun t ht => by rw [PyData.shownAll_nil] at ht; cases ht
  | d :: ds, h => fun t ht => by
    rw [PyData.canLayAll0, Bool.and_eq_true] at h
    rw [PyData.shownAll_cons] at ht
    rcases List.mem_cons.mp ht with e | ht
    · rw [e]; exact okS_shown d h.1
    · exact okS_shownAll ds h.2 t ht
end
/-! ### repr -/
def opRepr : OpA := fun ws S => match ws with
  | [w] => (toD S deep w).bind fun d => if d.showable = true ∧ d.shown.length ≤ sizeLine then some (.str d.shown, S) else none
  | _ => none
def rRepr (K : PySem.W.Frag) : List V → Hp → VK → Prop := fun xs H Q => ∃ v d, xs = [v] ∧ Dp K H v d ∧ d.canLay0 = true ∧ d.depth ≤ 60 ∧ d.showable = true ∧ d.shown.length ≤ sizeLine ∧ Q (.str d.shown) H
section
variable {G : Top} {c : Ctx} {k : Nat}
theorem cr_repr {X : Cx} {U : WX} (F : Fit G c k X U) : CallR X (.builtin "repr") (rRepr X.K) := by
  intro pins s σ H xs us Q I r h
  obtain ⟨v, d, rfl, hd, hc, hdep, hs, hz, q⟩ := h
  obtain ⟨u, rfl, ru⟩ := vals1 r
  obtain ⟨as, rd⟩ := Dp.reads I d v u hd ru
  have nd := PyData.hasDict_of_canLay d hc
  have un := F.room.un
  cases hd with
  | non =>
    cases ru
    refine PySem.P.repr_of_none ⟨.str _, H, I.tok _, ⟨_, rfl⟩, ?_⟩
    rw [PyData.shown_none] at q; exact q
  | bl b =>
    cases ru
    refine PySem.P.repr_of_bool ⟨.str _, H, I.tok _, ⟨_, rfl⟩, ?_⟩
    rw [PyData.shown_bool] at q; exact q
  | int i =>
    obtain ⟨t, rfl⟩ := ru
    refine PySem.P.repr_of_int (of_decide_eq_true (by rw [PyData.showable] at hs; exact hs)) ⟨.str _, H, I.tok _, ⟨_, rfl⟩, ?_⟩
    rw [PyData.shown_int] at q; exact q
  | str x =>
    obtain ⟨t, rfl⟩ := ru
    rw [PyData.shown_str] at q hz
    exact PySem.P.repr_of_str ⟨.str _, H, I.tok _, ⟨_, rfl⟩, q⟩ hz
  | lst hl ha =>
    cases ru
    exact PySem.repr_of_reads' rd hs (PyData.noDict_hsm nd) F.gd (by omega) (fun _ _ e => e) (fun h' u tk hk => ⟨.str _, H, I.kept hk, ⟨_, rfl⟩, q⟩) hz
  | tup hl ha =>
    cases ru
    exact PySem.repr_of_reads' rd hs (PyData.noDict_hsm nd) F.gd (by omega) (fun _ _ e => e) (fun h' u tk hk => ⟨.str _, H, I.kept hk, ⟨_, rfl⟩, q⟩) hz
theorem o_repr : OpAOk G (rRepr G.K) opRepr := fun H ρ S ws vs w S' Q sr r h q => by
  unfold opRepr at h
  split at h
  · rename_i w0
    cases r with
    | cons r rs =>
      cases rs
      cases e : toD S deep w0 with
      | none => rw [e] at h; cases h
      | some d =>
        rw [e] at h
        simp only [Option.bind_some] at h
        split at h
        · rename_i hh
          cases h
          obtain ⟨a, b, c⟩ := toD_ok sr deep r e
          exact ⟨_, d, rfl, a, b, Nat.le_trans c (by decide), hh.1, hh.2, q.flat sr (.str (okS_shown d b))⟩
        · cases h
  · cases h
theorem e_repr {e : Expr} {d : DE} {p pos : Pos} (he : EOk G c k e d) (hm : G.mg "repr" = none) (hg : c.sc.names.lookup ("repr" : Str) = some .globalImplicit := by rfl) (hp : plainE e = true := by rfl) : EOk G c k (.Call (.Name "repr" p) [e] [] pos) (dFn opRepr (aCons d aNil)) :=
  e_blt (fun X U F => by rw [← F.K]; exact cr_repr F) o_repr hm (by decide +kernel) (a_cons he a_nil hp) hg (by decide) (by decide) (fun env => starEach_plain hp _ _)
/-! ### len, abs, max, min, sum, any, all -/
def lenW (w : W) (S : Store) : Option Nat := match w with
  | .str x => if x.length ≤ sizeLine then some x.length else none
  | .ref n => match S[n]? with
    | some (.lst ws) => some ws.length
    | some (.dct kvs) => some kvs.length
    | _ => none
  | w => (seqW w S).map (·.length)
def opLen : OpA := fun ws S => match ws with
  | [w] => (lenW w S).map fun n => (.int n, S)
  | _ => none
theorem paired_len {α β : Type} {P : α → β → Prop} {xs : List α} {ys : List β} (h : Paired P xs ys) : xs.length = ys.length := Paired.length h
theorem o_len : OpAOk G (fun xs H Q => (∃ x n, xs = [x] ∧ LenV G.K x H n ∧ Q (.int n) H) ∨ ∃ d kvs, xs = [.ref d] ∧ H d = some (.dK kvs) ∧ Q (.int kvs.length) H) opLen := fun H ρ S ws vs w S' Q sr r h q => by
  unfold opLen at h
  split at h
  · rename_i w0
    cases r with
    | cons r rs =>
      cases rs
      unfold lenW at h
      cases r with
      | str hx =>
        simp only at h
        split at h
        · rename_i hz
          cases h
          exact .inl ⟨_, _, rfl, ⟨hz, rfl⟩, q.flat sr (.int _)⟩
        · cases h
      | @ref n a hn =>
        simp only at h
        split at h
        · rename_i l e
          cases h
          obtain ⟨vs, z, t⟩ := sr.ob n a _ hn e
          exact .inl ⟨_, vs.length, rfl, .inl ⟨vs, .of z, rfl⟩, by rw [← t.length]; exact q.flat sr (.int _)⟩
        · rename_i l e
          cases h
          obtain ⟨vs, z, t⟩ := sr.ob n a _ hn e
          exact .inr ⟨a, vs, rfl, z, by rw [← paired_len t]; exact q.flat sr (.int _)⟩
        · cases h
      | tup hq t => cases h; exact .inl ⟨_, _, rfl, .inr ⟨_, hq, rfl⟩, by rw [← t.length]; exact q.flat sr (.int _)⟩
      | rl hq t => cases h; exact .inl ⟨_, _, rfl, .inl ⟨_, hq.sq, rfl⟩, by rw [← t.length]; exact q.flat sr (.int _)⟩
      | _ => cases h
  · cases h
theorem e_len {e : Expr} {d : DE} {p pos : Pos} (he : EOk G c k e d) (hm : G.mg "len" = none) (hg : c.sc.names.lookup ("len" : Str) = some .globalImplicit := by rfl) (hp : plainE e = true := by rfl) : EOk G c k (.Call (.Name "len" p) [e] [] pos) (dFn opLen (aCons d aNil)) :=
  e_blt (fun X U F => by rw [← F.K]; exact call_len.or (by
    intro pins s σ H xs us Q I r ⟨d, kvs, e, hd, q⟩
    exact call_lenD pins s σ H xs us Q I r ⟨d, kvs, e, hd, q⟩)) o_len hm boot_len (a_cons he a_nil hp) hg (by decide) (by decide) (fun env => starEach_plain hp _ _)
def opAbs : OpA := fun ws S => match ws with
  | [.int i] => some (.int (if i < 0 then -i else i), S)
  | _ => none
def opMax2 : OpA := fun ws S => match ws with
  | [.int i, .int j] => some (.int (if j > i then j else i), S)
  | _ => none
def opMin2 : OpA := fun ws S => match ws with
  | [.int i, .int j] => some (.int (if j < i then j else i), S)
  | _ => none
theorem o_abs : OpAOk G (fun xs H Q => ∃ i, xs = [.int i] ∧ Q (.int (if i < 0 then -i else i)) H) opAbs := fun H ρ S ws vs w S' Q sr r h q => by
  unfold opAbs at h
  split at h
  · cases h
    cases r with
    | cons r rs =>
      cases rs
      cases r
      exact ⟨_, rfl, q.flat sr (.int _)⟩
  · cases h
theorem o_max2 : OpAOk G (fun xs H Q => ∃ i j, xs = [.int i, .int j] ∧ Q (.int (if j > i then j else i)) H) opMax2 := fun H ρ S ws vs w S' Q sr r h q => by
  unfold opMax2 at h
  split at h
  · cases h
    cases r with
    | cons r rs =>
      cases rs with
      | cons r2 rs =>
        cases rs
        cases r
        cases r2
        exact ⟨_, _, rfl, q.flat sr (.int _)⟩
  · cases h
theorem o_min2 : OpAOk G (fun xs H Q => ∃ i j, xs = [.int i, .int j] ∧ Q (.int (if j < i then j else i)) H) opMin2 := fun H ρ S ws vs w S' Q sr r h q => by
  unfold opMin2 at h
  split at h
  · cases h
    cases r with
    | cons r rs =>
      cases rs with
      | cons r2 rs =>
        cases rs
        cases r
        cases r2
        exact ⟨_, _, rfl, q.flat sr (.int _)⟩
  · cases h
theorem e_abs {e : Expr} {d : DE} {p pos : Pos} (he : EOk G c k e d) (hm : G.mg "abs" = none) (hg : c.sc.names.lookup ("abs" : Str) = some .globalImplicit := by rfl) (hp : plainE e = true := by rfl) : EOk G c k (.Call (.Name "abs" p) [e] [] pos) (dFn opAbs (aCons d aNil)) :=
  e_blt (fun X U F => call_abs) o_abs hm (by decide +kernel) (a_cons he a_nil hp) hg (by decide) (by decide) (fun env => starEach_plain hp _ _)
theorem e_max2 {e f : Expr} {d g : DE} {p pos : Pos} (he : EOk G c k e d) (hf : EOk G c k f g) (hm : G.mg "max" = none) (hg : c.sc.names.lookup ("max" : Str) = some .globalImplicit := by rfl) (hp : plainE e = true := by rfl) (hq : plainE f = true := by rfl) (hh : c.hot = none := by rfl) : EOk G c k (.Call (.Name "max" p) [e, f] [] pos) (dFn opMax2 (aCons d (aCons g aNil))) :=
  e_blt (fun X U F => call_max2 (F.calm hh)) o_max2 hm (by decide +kernel) (a_cons he (a_cons hf a_nil hq) hp) hg (by decide) (by decide) (fun env => starEach_plain hp _ _) (fun env => by rw [starEach_plain hq]; rfl)
theorem e_min2 {e f : Expr} {d g : DE} {p pos : Pos} (he : EOk G c k e d) (hf : EOk G c k f g) (hm : G.mg "min" = none) (hg : c.sc.names.lookup ("min" : Str) = some .globalImplicit := by rfl) (hp : plainE e = true := by rfl) (hq : plainE f = true := by rfl) (hh : c.hot = none := by rfl) : EOk G c k (.Call (.Name "min" p) [e, f] [] pos) (dFn opMin2 (aCons d (aCons g aNil))) :=
  e_blt (fun X U F => call_min2 (F.calm hh)) o_min2 hm (by decide +kernel) (a_cons he (a_cons hf a_nil hq) hp) hg (by decide) (by decide) (fun env => starEach_plain hp _ _) (fun env => by rw [starEach_plain hq]; rfl)
/-- items that are bools, ints -/
def blsOf : List W → Option (List Bool) := mapO fun w => match w with
  | .bl b => some b
  | _ => none
def intsOf : List W → Option (List Int) := mapO fun w => match w with
  | .int b => some b
  | _ => none
def strsOf : List W → Option (List Str) := mapO fun w => match w with
  | .str b => some b
  | _ => none
theorem blsOf_ok {H : Hp} {ρ : List Addr} : ∀ {ws : List W} {vs : List V} {bs : List Bool}, VRs G.K H ρ ws vs → blsOf ws = some bs → vs = bs.map V.bl
  | _, _, _, .nil, e => by cases e; rfl
  | _, _, bs, @VRs.cons _ _ _ w v ws vs r rs, e => by
    unfold blsOf mapO at e
    cases r with
    | bl b =>
      cases h2 : mapO (fun w => match w with | .bl b => some b | _ => none) ws with
      | none => simp only [h2] at e; cases e
      | some bs' =>
        simp only [h2, Option.some.injEq] at e
        subst e
        rw [blsOf_ok rs h2]
        rfl
    | _ => cases e
theorem intsOf_ok {H : Hp} {ρ : List Addr} : ∀ {ws : List W} {vs : List V} {bs : List Int}, VRs G.K H ρ ws vs → intsOf ws = some bs → vs = bs.map V.int
  | _, _, _, .nil, e => by cases e; rfl
  | _, _, bs, @VRs.cons _ _ _ w v ws vs r rs, e => by
    unfold intsOf mapO at e
    cases r with
    | int b =>
      cases h2 : mapO (fun w => match w with | .int b => some b | _ => none) ws with
      | none => simp only [h2] at e; cases e
      | some bs' =>
        simp only [h2, Option.some.injEq] at e
        subst e
        rw [intsOf_ok rs h2]
        rfl
    | _ => cases e
theorem strsOf_ok {H : Hp} {ρ : List Addr} : ∀ {ws : List W} {vs : List V} {bs : List Str}, VRs G.K H ρ ws vs → strsOf ws = some bs → vs = bs.map V.str ∧ ∀ x ∈ bs, okS x = true
  | _, _, _, .nil, e => by cases e; exact ⟨rfl, fun x h => by cases h⟩
  | _, _, bs, @VRs.cons _ _ _ w v ws vs r rs, e => by
    unfold strsOf mapO at e
    cases r with
    | str hx =>
      cases h2 : mapO (fun w => match w with | .str b => some b | _ => none) ws with
      | none => simp only [h2] at e; cases e
      | some bs' =>
        simp only [h2, Option.some.injEq] at e
        subst e
        obtain ⟨e1, e2⟩ := strsOf_ok rs h2
        refine ⟨by rw [e1]; rfl, fun x h => ?_⟩
        rcases List.mem_cons.mp h with z | z
        · rw [z]; exact hx
        · exact e2 x z
    | _ => cases e
def listW (w : W) (S : Store) : Option (List W) := match w with
  | .rl ws => some ws
  | .ref n => match S[n]? with
    | some (.lst ws) => some ws
    | _ => none
  | _ => none
theorem listW_ok {H : Hp} {ρ : List Addr} {S : Store} {w : W} {v : V} {ws : List W} (sr : SR G H ρ S) (r : VR G.K H ρ w v) (h : listW w S = some ws) : ∃ a vs, v = .ref a ∧ VRs G.K H ρ ws vs ∧ SqL G.K H a vs := by
  unfold listW at h
  cases r with
  | rl q t => cases h; exact ⟨_, _, rfl, t, q.sq⟩
  | @ref n a q =>
    simp only at h
    split at h
    · rename_i e
      cases h
      obtain ⟨vs, z, t⟩ := sr.ob n a _ q e
      exact ⟨_, vs, rfl, t, .of z⟩
    · cases h
  | _ => cases h
def opAll : OpA := fun ws S => match ws with
  | [w] => (listW w S).bind fun l => (blsOf l).map fun bs => (.bl (bs.all id), S)
  | _ => none
def opAny : OpA := fun ws S => match ws with
  | [w] => (listW w S).bind fun l => (blsOf l).map fun bs => (.bl (bs.any id), S)
  | _ => none
def opSum : OpA := fun ws S => match ws with
  | [w] => (listW w S).bind fun l => (intsOf l).map fun bs => (.int bs.sum, S)
  | _ => none
theorem bools_op {g : List Bool → Bool} {r : List V → Hp → VK → Prop} {op : OpA} (hr : ∀ H Q a bs, SqL G.K H a (bs.map V.bl) → Q (.bl (g bs)) H → r [.ref a] H Q) (ho : ∀ ws S, op ws S = match ws with | [w] => (listW w S).bind fun l => (blsOf l).map fun bs => (.bl (g bs), S) | _ => none) : OpAOk G r op := fun H ρ S ws vs w S' Q sr ra h q => by
  rw [ho] at h
  split at h
  · rename_i w0
    cases ra with
    | cons r rs =>
      cases rs
      cases e : listW w0 S with
      | none => rw [e] at h; cases h
      | some l =>
        rw [e] at h
        simp only [Option.bind_some] at h
        cases e2 : blsOf l with
        | none => rw [e2] at h; cases h
        | some bs =>
          rw [e2] at h
          cases h
          obtain ⟨a, us, rfl, t, hs⟩ := listW_ok sr r e
          rw [blsOf_ok t e2] at hs
          exact hr H Q a bs hs (q.flat sr (.bl _))
  · cases h
theorem o_all : OpAOk G (rAll G.K) opAll := bools_op (g := fun bs => bs.all id) (fun H Q a bs hs q => ⟨a, bs, rfl, hs, q⟩) fun ws S => rfl
theorem o_any : OpAOk G (rAny G.K) opAny := bools_op (g := fun bs => bs.any id) (fun H Q a bs hs q => ⟨a, bs, rfl, hs, q⟩) fun ws S => rfl
theorem e_all {e : Expr} {d : DE} {p pos : Pos} (he : EOk G c k e d) (hm : G.mg "all" = none) (hg : c.sc.names.lookup ("all" : Str) = some .globalImplicit := by rfl) (hp : plainE e = true := by rfl) (hh : c.hot = none := by rfl) : EOk G c k (.Call (.Name "all" p) [e] [] pos) (dFn opAll (aCons d aNil)) :=
  e_blt (fun X U F => by rw [← F.K]; exact cr_all (F.calm hh)) o_all hm (by decide +kernel) (a_cons he a_nil hp) hg (by decide) (by decide) (fun env => starEach_plain hp _ _)
theorem e_any {e : Expr} {d : DE} {p pos : Pos} (he : EOk G c k e d) (hm : G.mg "any" = none) (hg : c.sc.names.lookup ("any" : Str) = some .globalImplicit := by rfl) (hp : plainE e = true := by rfl) (hh : c.hot = none := by rfl) : EOk G c k (.Call (.Name "any" p) [e] [] pos) (dFn opAny (aCons d aNil)) :=
  e_blt (fun X U F => by rw [← F.K]; exact cr_any (F.calm hh)) o_any hm (by decide +kernel) (a_cons he a_nil hp) hg (by decide) (by decide) (fun env => starEach_plain hp _ _)
end
end
end N
namespace N
open PySem L2
noncomputable section
theorem PI.or {X : Cx} {tg e : Expr} {t t' : TI} (h : PI X tg e t) (h' : PI X tg e t') : PI X tg e (fun σ H R => t σ H R ∨ t' σ H R) := ⟨fun pins s σ H R I q => q.elim (h.run pins s σ H R I) (h'.run pins s σ H R I)⟩
/-- the value of a reading, ahead of its walk -/
theorem Rg.okD {α β : Type} {G : Top} {U : WX} {σ : L2.St} {rel : Hp → List Addr → α → β → Prop} {r : R α} {H : Hp} {ρ : List Addr} {Q : β → Hp → Prop} {a : α} {S' : Store} (e : r = .ok a S') (h : ∀ H' ρ' b, Ext G.K H ρ H' ρ' → SR G H' ρ' S' → rel H' ρ' a b → Q b H') : Rg G U σ rel r H ρ Q := by
  subst e
  exact h
section
variable {G : Top} {c : Ctx} {k : Nat}
/-! ### sequences and texts -/
def srcW (w : W) (S : Store) : Option Src := match w with
  | .str x => some ⟨x.cps.toList.map fun c => .str ⟨#[c]⟩, fun _ => True⟩
  | .tup ws => some ⟨ws, fun _ => True⟩
  | .rl ws => some ⟨ws, fun _ => True⟩
  | .ref n => match S[n]? with
    | some (.lst ws) => some ⟨ws, fun S' => S'[n]? = some (.lst ws)⟩
    | _ => none
  | _ => none
def dSrc (d : DE) : DI := fun ε => d ε >>= fun w => fun S => match srcW w S with
  | some p => .ok p S
  | none => .bad
theorem good_list {H : Hp} {ρ : List Addr} {n : Nat} {a : Addr} {ws : List W} (hn : ρ[n]? = some a) : Good G H ρ ⟨ws, fun S' => S'[n]? = some (.lst ws)⟩ (Itl G.K a) := fun H2 ρ2 S2 e sr g => by
  obtain ⟨vs, z, t⟩ := sr.ob n a _ (e.pre n a hn) g
  refine ⟨fun i w hi => ?_, ⟨vs, .of z, by rw [← t.length]; exact Nat.le_refl _⟩⟩
  obtain ⟨v, hv, r⟩ := t.get hi
  refine ⟨⟨vs, v, .of z, hv⟩, fun x H3 hy => ?_⟩
  obtain ⟨rfl, hx⟩ := hy
  have := hx vs (.of z)
  rw [hv] at this
  cases this
  exact ⟨Ext.refl, sr, r⟩
theorem good_rl {H : Hp} {ρ : List Addr} {a : Addr} {ws : List W} {vs : List V} (q : FzL G.K H a vs) (t : VRs G.K H ρ ws vs) : Good G H ρ ⟨ws, fun _ => True⟩ (Itl G.K a) := fun H2 ρ2 S2 e sr g => by
  have q2 := (e.fz _ _ q).sq
  have t2 := t.mono e
  refine ⟨fun i w hi => ?_, ⟨vs, q2, by rw [← t2.length]; exact Nat.le_refl _⟩⟩
  obtain ⟨v, hv, r⟩ := t2.get hi
  refine ⟨⟨vs, v, q2, hv⟩, fun x H3 hy => ?_⟩
  obtain ⟨rfl, hx⟩ := hy
  have := hx vs q2
  rw [hv] at this
  cases this
  exact ⟨Ext.refl, sr, r⟩
theorem good_tup {H : Hp} {ρ : List Addr} {a : Addr} {ws : List W} {vs : List V} (q : SqT G.K H a vs) (t : VRs G.K H ρ ws vs) : Good G H ρ ⟨ws, fun _ => True⟩ (Itt G.K a) := fun H2 ρ2 S2 e sr g => by
  have q2 := e.tups _ _ q
  have t2 := t.mono e
  refine ⟨fun i w hi => ?_, ⟨vs, q2, by rw [← t2.length]; exact Nat.le_refl _⟩⟩
  obtain ⟨v, hv, r⟩ := t2.get hi
  refine ⟨⟨vs, v, q2, hv⟩, fun x H3 hy => ?_⟩
  obtain ⟨rfl, hx⟩ := hy
  have := hx vs q2
  rw [hv] at this
  cases this
  exact ⟨Ext.refl, sr, r⟩
theorem good_str {H : Hp} {ρ : List Addr} {x : Str} (hx : okS x = true) : Good G H ρ ⟨x.cps.toList.map fun c => .str ⟨#[c]⟩, fun _ => True⟩ (Its x) := fun H2 ρ2 S2 e sr g => by
  refine ⟨fun i w hi => ?_, ?_⟩
  · rw [List.getElem?_map] at hi
    cases ee : x.cps.toList[i]? with
    | none => rw [ee] at hi; cases hi
    | some ch =>
      rw [ee] at hi
      cases hi
      have hl : i < x.cps.size := by
        have := (List.getElem?_eq_some_iff.mp ee).1
        simpa using this
      refine ⟨hl, fun v H3 hy => ?_⟩
      obtain ⟨rfl, c', hc, rfl⟩ := hy
      have e' : x.cps[i]? = some ch := by
        rw [← Array.getElem?_toList]; exact ee
      rw [e'] at hc
      cases hc
      refine ⟨Ext.refl, sr, .str ?_⟩
      unfold okS
      simp only [List.all_cons, List.all_nil, Bool.and_true]
      exact decide_eq_true (okS_mem hx ch (List.mem_of_getElem? ee))
  · show x.cps.size ≤ (List.map _ x.cps.toList).length
    simp
theorem i_seq {tg e : Expr} {d : DE} (he : EOk G c k e d) : IOk G c k tg e (dSrc d) := fun X U F =>
  PI.imp (PI.or (pi_list (he X U F)) (PI.or (pi_tup (he X U F)) (pi_str (he X U F)))) fun σ H Q ⟨ρ, ε, S, ev, sr, h⟩ => by
    have h' : Rg G U σ (Good G) (M.bind (d ε) (fun w => fun S => match srcW w S with | some p => R.ok p S | none => R.bad) S) H ρ Q := h
    unfold M.bind at h'
    cases q : d ε S with
    | bad => rw [q] at h'; exact h'.elim
    | exc x S1 =>
      rw [q] at h'
      exact .inl ⟨ρ, ε, S, ev, sr, by rw [q]; exact h'⟩
    | ok w S1 =>
      rw [q] at h'
      simp only at h'
      cases hs : srcW w S1 with
      | none => rw [hs] at h'; exact h'.elim
      | some p =>
        rw [hs] at h'
        have h2 : ∀ H' ρ' b, Ext G.K H ρ H' ρ' → SR G H' ρ' S1 → Good G H' ρ' p b → Q b H' := h'
        unfold srcW at hs
        cases w with
        | str x =>
          cases hs
          refine .inr (.inr ⟨ρ, ε, S, ev, sr, Rg.okD q fun H' ρ' v e' s' r => ?_⟩)
          cases r with
          | str hx => exact ⟨x, rfl, h2 H' ρ' _ e' s' (good_str hx)⟩
        | tup ws =>
          cases hs
          refine .inr (.inl ⟨ρ, ε, S, ev, sr, Rg.okD q fun H' ρ' v e' s' r => ?_⟩)
          rw [F.K]
          cases r with
          | tup z t => exact ⟨_, rfl, ⟨_, z⟩, h2 H' ρ' _ e' s' (good_tup z t)⟩
        | exn _ _ _ _ => cases hs
        | rl ws =>
          cases hs
          refine .inl ⟨ρ, ε, S, ev, sr, Rg.okD q fun H' ρ' v e' s' r => ?_⟩
          rw [F.K]
          cases r with
          | rl z t => exact ⟨_, rfl, ⟨_, z.sq⟩, h2 H' ρ' _ e' s' (good_rl z t)⟩
        | ref n =>
          simp only at hs
          split at hs
          · rename_i ws eo
            cases hs
            refine .inl ⟨ρ, ε, S, ev, sr, Rg.okD q fun H' ρ' v e' s' r => ?_⟩
            rw [F.K]
            cases r with
            | ref hn =>
              obtain ⟨vs, z, t⟩ := s'.ob _ _ _ hn eo
              exact ⟨_, rfl, ⟨_, .of z⟩, h2 H' ρ' _ e' s' (good_list hn)⟩
          · cases hs
        | non => cases hs
        | bl b => cases hs
        | int i => cases hs
/-! ### ranges -/
def bnd (i : Int) : Bool := decide (-(2 ^ 62) ≤ i ∧ i < 2 ^ 62)
def rngW (lo : Int) (n : Nat) : List W := (List.range n).map fun i : Nat => W.int (lo + (i : Int))
def dRng1 (a : DA) : DI := fun ε => a ε >>= fun ws => fun S => match ws with
  | [.int j] => if bnd j then .ok ⟨rngW 0 j.toNat, fun _ => True⟩ S else .bad
  | _ => .bad
def dRng2 (a : DA) : DI := fun ε => a ε >>= fun ws => fun S => match ws with
  | [.int i, .int j] => if bnd i && bnd j then .ok ⟨rngW i (j - i).toNat, fun _ => True⟩ S else .bad
  | _ => .bad
theorem good_rng {H : Hp} {ρ : List Addr} (lo : Int) (n : Nat) : Good G H ρ ⟨rngW lo n, fun _ => True⟩ (Itr lo n) := fun H2 ρ2 S2 e sr g => by
  refine ⟨fun i w hi => ?_, ?_⟩
  · unfold rngW at hi
    rw [List.getElem?_map] at hi
    have hl : i < n := by
      have := (List.getElem?_eq_some_iff.mp (show ((List.range n).map fun i : Nat => W.int (lo + (i : Int)))[i]? = some w by rw [List.getElem?_map]; exact hi)).1
      simpa using this
    rw [List.getElem?_range hl] at hi
    cases hi
    refine ⟨hl, fun v H3 hy => ?_⟩
    obtain ⟨rfl, rfl⟩ := hy
    exact ⟨Ext.refl, sr, .int _⟩
  · show n ≤ (rngW lo n).length
    simp [rngW]
theorem i_rng1 {tg e : Expr} {d : DE} {p pos : Pos} (he : EOk G c k e d) (hm : G.mg "range" = none) (hg : c.sc.names.lookup ("range" : Str) = some .globalImplicit := by rfl) (hp : plainE e = true := by rfl) : IOk G c k tg (.Call (.Name "range" p) [e] [] pos) (dRng1 (aCons d aNil)) := fun X U F =>
  PI.imp (pi_range1 (glob_of F hg) (by rw [F.mg]; exact hm) (a_cons he a_nil hp X U F) (starEach_plain hp _ _)) fun σ H Q ⟨ρ, ε, S, ev, sr, h⟩ => ⟨ρ, ε, S, ev, sr, (Rg.bind h).mono fun vs H1 ⟨ws, S1, ρ1, e1, s1, r1, h1⟩ => by
    split at h1
    · rename_i j
      cases r1 with
      | cons r rs =>
        cases rs
        cases r
        split at h1
        · rename_i hb
          have hb := of_decide_eq_true hb
          exact ⟨j, rfl, hb.1, hb.2, h1 H1 ρ1 _ Ext.refl s1 (good_rng 0 j.toNat)⟩
        · exact h1.elim
    · exact h1.elim⟩
theorem i_rng2 {tg e f : Expr} {d g : DE} {p pos : Pos} (he : EOk G c k e d) (hf : EOk G c k f g) (hm : G.mg "range" = none) (hg : c.sc.names.lookup ("range" : Str) = some .globalImplicit := by rfl) (hp : plainE e = true := by rfl) (hq : plainE f = true := by rfl) : IOk G c k tg (.Call (.Name "range" p) [e, f] [] pos) (dRng2 (aCons d (aCons g aNil))) := fun X U F =>
  PI.imp (pi_range2 (glob_of F hg) (by rw [F.mg]; exact hm) (a_cons he (a_cons hf a_nil hq) hp X U F) (by rw [starEach_plain hp, starEach_plain hq]; rfl) (by rw [starEach_plain hq]; rfl)) fun σ H Q ⟨ρ, ε, S, ev, sr, h⟩ => ⟨ρ, ε, S, ev, sr, (Rg.bind h).mono fun vs H1 ⟨ws, S1, ρ1, e1, s1, r1, h1⟩ => by
    split at h1
    · rename_i i j
      cases r1 with
      | cons r rs =>
        cases rs with
        | cons r2 rs =>
          cases rs
          cases r
          cases r2
          split at h1
          · rename_i hb
            rw [Bool.and_eq_true] at hb
            have h2 := of_decide_eq_true hb.1
            have h3 := of_decide_eq_true hb.2
            exact ⟨i, j, rfl, ⟨h2.1, h2.2, h3.1, h3.2⟩, h1 H1 ρ1 _ Ext.refl s1 (good_rng i (j - i).toNat)⟩
          · exact h1.elim
    · exact h1.elim⟩
/-! ### enumerate, zip of lists (zip of tuples) -/
def enumL (ws : List W) : List W := (List.range ws.length).zipWith (fun i w => .tup [.int (i : Nat), w]) ws
def dEnum (a : DA) : DI := fun ε => a ε >>= fun ws => fun S => match ws with
  | [.ref n] => (match S[n]? with
    | some (.lst l) => .ok ⟨enumL l, fun S' => S'[n]? = some (.lst l)⟩ S
    | _ => .bad)
  | _ => .bad
theorem enumL_get {ws : List W} {i : Nat} {w : W} (h : (enumL ws)[i]? = some w) : ∃ x, ws[i]? = some x ∧ w = .tup [.int (i : Nat), x] := by
  unfold enumL at h
  rw [List.getElem?_zipWith] at h
  cases e : ws[i]? with
  | none => rw [e] at h; simp at h
  | some x =>
    have hl := (List.getElem?_eq_some_iff.mp e).1
    rw [e, List.getElem?_range hl] at h
    simp at h
    exact ⟨x, rfl, h.symm⟩
theorem good_enum {H : Hp} {ρ : List Addr} {n : Nat} {a : Addr} {ws : List W} (hn : ρ[n]? = some a) : Good G H ρ ⟨enumL ws, fun S' => S'[n]? = some (.lst ws)⟩ (Ite G.K a) := fun H2 ρ2 S2 e sr g => by
  obtain ⟨vs, z, t⟩ := sr.ob n a _ (e.pre n a hn) g
  refine ⟨fun i w hi => ?_, ⟨vs, .of z, by rw [← t.length]; simp [enumL]⟩⟩
  obtain ⟨x, hx, rfl⟩ := enumL_get hi
  obtain ⟨v, hv, r⟩ := t.get hx
  refine ⟨⟨vs, v, .of z, hv⟩, fun y H3 hy => ?_⟩
  obtain ⟨T, x', rfl, hT, rfl, hx'⟩ := hy
  have := hx' vs (.of z)
  rw [hv] at this
  cases this
  exact ⟨Ext.fresh hT, sr.fresh hT, .tup (.of upd_same) (.cons (.int _) (.cons (r.mono (Ext.fresh hT)) .nil))⟩
theorem i_enum {e : Expr} {elts : List Expr} {kk : Nat} {tpos : Pos} {d : DE} {p pos : Pos} (he : EOk G c k e d) (hm : G.mg "enumerate" = none) (hg : c.sc.names.lookup ("enumerate" : Str) = some .globalImplicit := by rfl) (hp : plainE e = true := by rfl) : IOk G c k (.Tuple elts kk tpos) (.Call (.Name "enumerate" p) [e] [] pos) (dEnum (aCons d aNil)) := fun X U F =>
  PI.imp (pi_enum (glob_of F hg) (by rw [F.mg]; exact hm) (a_cons he a_nil hp X U F) (starEach_plain hp _ _)) fun σ H Q ⟨ρ, ε, S, ev, sr, h⟩ => ⟨ρ, ε, S, ev, sr, (Rg.bind h).mono fun vs H1 ⟨ws, S1, ρ1, e1, s1, r1, h1⟩ => by
    rw [F.K]
    split at h1
    · rename_i n
      cases r1 with
      | cons r rs =>
        cases rs
        cases r with
        | ref hn =>
          split at h1
          · rename_i l eo
            obtain ⟨us, z, t⟩ := s1.ob _ _ _ hn eo
            exact ⟨_, us, rfl, .of z, h1 H1 ρ1 _ Ext.refl s1 (good_enum hn)⟩
          · exact h1.elim
    · exact h1.elim⟩
def zipL (xs ys : List W) : List W := xs.zipWith (fun x y => .tup [x, y]) ys
def gdW (w : W) (ws : List W) (S : Store) : Prop := match w with
  | .ref n => S[n]? = some (.lst ws)
  | _ => True
def zipW (a b : W) (S : Store) : Option Src := match a, b with
  | .tup xs, .tup ys => some ⟨zipL xs ys, fun _ => True⟩
  | .ref n, .ref m => match S[n]?, S[m]? with
    | some (.lst xs), some (.lst ys) => some ⟨zipL xs ys, fun S' => S'[n]? = some (.lst xs) ∧ S'[m]? = some (.lst ys)⟩
    | _, _ => none
  | _, _ => none
def dZip (a : DA) : DI := fun ε => a ε >>= fun ws => fun S => match ws with
  | [x, y] => (match zipW x y S with
    | some p => .ok p S
    | none => .bad)
  | _ => .bad
theorem zipL_get {xs ys : List W} {i : Nat} {w : W} (h : (zipL xs ys)[i]? = some w) : ∃ x y, xs[i]? = some x ∧ ys[i]? = some y ∧ w = .tup [x, y] := by
  unfold zipL at h
  rw [List.getElem?_zipWith] at h
  cases e : xs[i]? with
  | none => rw [e] at h; simp at h
  | some x =>
    cases e2 : ys[i]? with
    | none => rw [e, e2] at h; simp at h
    | some y =>
      rw [e, e2] at h
      simp at h
      exact ⟨x, y, rfl, rfl, h.symm⟩
theorem good_zipT {H : Hp} {ρ : List Addr} {a b : Addr} {ws us : List W} {vs zs : List V} (q : SqT G.K H a vs) (t : VRs G.K H ρ ws vs) (q' : SqT G.K H b zs) (t' : VRs G.K H ρ us zs) : Good G H ρ ⟨zipL ws us, fun _ => True⟩ (RZ.ItzT G.K a b) := fun H2 ρ2 S2 e sr g => by
  have q2 := e.tups _ _ q
  have t2 := t.mono e
  have q2' := e.tups _ _ q'
  have t2' := t'.mono e
  refine ⟨fun i w hi => ?_, ⟨vs, zs, q2, q2', ?_⟩⟩
  · obtain ⟨x, y, hx, hy, rfl⟩ := zipL_get hi
    obtain ⟨v, hv, r⟩ := t2.get hx
    obtain ⟨z, hz, r'⟩ := t2'.get hy
    refine ⟨⟨vs, zs, v, z, q2, q2', hv, hz⟩, fun u H3 hu => ?_⟩
    obtain ⟨T, x', y', rfl, hT, rfl, h1, h2⟩ := hu
    have e1 := h1 vs q2
    have e2 := h2 zs q2'
    rw [hv] at e1
    rw [hz] at e2
    cases e1
    cases e2
    exact ⟨Ext.fresh hT, sr.fresh hT, .tup (.of upd_same) (.cons (r.mono (Ext.fresh hT)) (.cons (r'.mono (Ext.fresh hT)) .nil))⟩
  · rw [← t2.length, ← t2'.length]
    simp only [zipL, List.length_zipWith]
    omega
theorem good_zipL {H : Hp} {ρ : List Addr} {n m : Nat} {a b : Addr} {ws us : List W} (hn : ρ[n]? = some a) (hm : ρ[m]? = some b) : Good G H ρ ⟨zipL ws us, fun S' => S'[n]? = some (.lst ws) ∧ S'[m]? = some (.lst us)⟩ (Itz G.K a b) := fun H2 ρ2 S2 e sr g => by
  obtain ⟨vs, z1, t2⟩ := sr.ob n a _ (e.pre n a hn) g.1
  obtain ⟨zs, z2, t2'⟩ := sr.ob m b _ (e.pre m b hm) g.2
  refine ⟨fun i w hi => ?_, ⟨vs, zs, .of z1, .of z2, ?_⟩⟩
  · obtain ⟨x, y, hx, hy, rfl⟩ := zipL_get hi
    obtain ⟨v, hv, r⟩ := t2.get hx
    obtain ⟨z, hz, r'⟩ := t2'.get hy
    refine ⟨⟨vs, zs, v, z, .of z1, .of z2, hv, hz⟩, fun u H3 hu => ?_⟩
    obtain ⟨T, x', y', rfl, hT, rfl, h1, h2⟩ := hu
    have e1 := h1 vs (.of z1)
    have e2 := h2 zs (.of z2)
    rw [hv] at e1
    rw [hz] at e2
    cases e1
    cases e2
    exact ⟨Ext.fresh hT, sr.fresh hT, .tup (.of upd_same) (.cons (r.mono (Ext.fresh hT)) (.cons (r'.mono (Ext.fresh hT)) .nil))⟩
  · rw [← t2.length, ← t2'.length]
    simp only [zipL, List.length_zipWith]
    omega
theorem i_zip {e f : Expr} {elts : List Expr} {kk : Nat} {tpos : Pos} {d g : DE} {p pos : Pos} (he : EOk G c k e d) (hf : EOk G c k f g) (hm : G.mg "zip" = none) (hg : c.sc.names.lookup ("zip" : Str) = some .globalImplicit := by rfl) (hp : plainE e = true := by rfl) (hq : plainE f = true := by rfl) : IOk G c k (.Tuple elts kk tpos) (.Call (.Name "zip" p) [e, f] [] pos) (dZip (aCons d (aCons g aNil))) := fun X U F =>
  PI.imp (RZ.pi_zipA (glob_of F hg) (by rw [F.mg]; exact hm) (a_cons he (a_cons hf a_nil hq) hp X U F) (starEach_plain hp _ _) (by rw [starEach_plain hq]; rfl)) fun σ H Q ⟨ρ, ε, S, ev, sr, h⟩ => ⟨ρ, ε, S, ev, sr, (Rg.bind h).mono fun vs H1 ⟨ws, S1, ρ1, e1, s1, r1, h1⟩ => by
    rw [F.K]
    split at h1
    · rename_i x y
      split at h1
      · rename_i p0 hz
        cases r1 with
        | cons r rs =>
          cases rs with
          | cons r2 rs =>
            cases rs
            unfold zipW at hz
            split at hz
            · cases hz
              cases r with
              | tup q t =>
                cases r2 with
                | tup q' t' => exact ⟨_, _, _, _, rfl, .inr ⟨q, q', h1 H1 ρ1 _ Ext.refl s1 (good_zipT q t q' t')⟩⟩
            · split at hz
              · rename_i l1 l2 e3 e4
                cases hz
                cases r with
                | ref hn =>
                  cases r2 with
                  | ref hm =>
                    obtain ⟨us, z, t⟩ := s1.ob _ _ _ hn e3
                    obtain ⟨us', z', t'⟩ := s1.ob _ _ _ hm e4
                    exact ⟨_, _, us, us', rfl, .inl ⟨.of z, .of z', h1 H1 ρ1 _ Ext.refl s1 (good_zipL hn hm)⟩⟩
              · cases hz
            · cases hz
      · exact h1.elim
    · exact h1.elim⟩
end
end
end N
namespace N
open PySem L2
noncomputable section
section
variable {G : Top} {c : Ctx} {k : Nat}
/-! ### slices -/
abbrev DO := Ev → M (Option Int)
def tOp (G : Top) (U : WX) (d : DO) : TO := fun σ H Q => ∃ ρ ε S, EvR G.K H ρ ε σ ∧ SR G H ρ S ∧ Rg G U σ (fun _ _ (a b : Option Int) => a = b) (d ε S) H ρ Q
def OOk (G : Top) (c : Ctx) (k : Nat) (e : Option Expr) (d : DO) : Prop := ∀ X U, Fit G c k X U → PO X e (tOp G U d)
theorem PO.imp {X : Cx} {e : Option Expr} {t t' : TO} (h : PO X e t) (f : ∀ σ H Q, t' σ H Q → t σ H Q) : PO X e t' := ⟨fun pins s σ H R I q => h.run pins s σ H R I (f _ _ _ q)⟩
def oN : DO := fun _ => M.ret none
def oS (d : DE) : DO := fun ε => d ε >>= fun w => match w with
  | .int i => M.ret (some i)
  | _ => bad
theorem o_none : OOk G c k none oN := fun X U F => PO.imp po_none fun σ H Q ⟨ρ, ε, S, ev, sr, h⟩ => h H ρ none Ext.refl sr rfl
theorem o_some {e : Expr} {d : DE} (he : EOk G c k e d) : OOk G c k (some e) (oS d) := fun X U F => PO.imp (po_some (he X U F)) fun σ H Q ⟨ρ, ε, S, ev, sr, h⟩ => ⟨ρ, ε, S, ev, sr, (Rg.bind h).mono fun x H1 ⟨w, S1, ρ1, e1, s1, r1, h1⟩ => by
  cases r1 with
  | int i => exact ⟨i, rfl, h1 H1 ρ1 _ Ext.refl s1 rfl⟩
  | _ => exact h1.elim⟩
/-- xs[lo:hi] -/
def cutL {α : Type} (xs : List α) (lo hi : Option Int) : List α := (xs.drop (HT.sIx xs.length 0 lo)).take (HT.sIx xs.length xs.length hi - HT.sIx xs.length 0 lo)
theorem VRs.cut {H : Hp} {ρ : List Addr} {ws : List W} {vs : List V} (r : VRs G.K H ρ ws vs) (lo hi : Option Int) : VRs G.K H ρ (cutL ws lo hi) (cutV vs lo hi) := by
  unfold cutL cutV
  rw [r.length]
  exact (r.drop _).take _
def opSl (w : W) (lo hi : Option Int) (S : Store) : Option (W × Store) := match w with
  | .str z => if z.length ≤ sizeLine then some (.str (cutS z lo hi), S) else none
  | .tup ws => if HT.sIx ws.length 0 lo = 0 ∧ HT.sIx ws.length ws.length hi = ws.length then none else some (.tup (cutL ws lo hi), S)
  | w => (listW w S).map fun ws => (.ref S.length, S ++ [.lst (cutL ws lo hi)])
def dSl (d : DE) (l h : DO) : DE := fun ε => d ε >>= fun w => l ε >>= fun lo => h ε >>= fun hi => lift (opSl w lo hi)
theorem okS_cut {z : Str} (h : okS z = true) (lo hi : Option Int) : okS (cutS z lo hi) = true := okS_cps fun c hc => okS_mem h c (by
  unfold cutS at hc
  exact List.mem_of_mem_drop (List.mem_of_mem_take hc))
theorem SlR.or3 {X : Cx} {r r' r'' : V → Option Int → Option Int → Hp → VK → Prop} (h : SlR X r) (h' : SlR X r') (h'' : SlR X r'') : SlR X (fun x lo hi H Q => r x lo hi H Q ∨ r' x lo hi H Q ∨ r'' x lo hi H Q) := h.or (h'.or h'')
theorem o_sl {H : Hp} {ρ : List Addr} {S : Store} {a w : W} {x : V} {lo hi : Option Int} {S' : Store} {Q : VK} (sr : SR G H ρ S) (ra : VR G.K H ρ a x) (h : opSl a lo hi S = some (w, S')) (q : Wish G H ρ w S' Q) : rSlS x lo hi H Q ∨ rSlT G.K x lo hi H Q ∨ rSlL G.K x lo hi H Q := by
  unfold opSl at h
  cases ra with
  | str hx =>
    simp only at h
    split at h
    · rename_i hz
      cases h
      exact .inl ⟨_, rfl, hz, q.flat sr (.str (okS_cut hx lo hi))⟩
    · cases h
  | tup z t =>
    simp only at h
    split at h
    · cases h
    · rename_i hn
      cases h
      refine .inr (.inl ⟨_, _, rfl, z, by rw [← t.length]; exact hn, fun p hp => q.tup sr (t.cut lo hi) hp⟩)
  | rl z t =>
    cases h
    exact .inr (.inr ⟨_, _, rfl, z.sq, fun p hp => q.list sr (t.cut lo hi) hp⟩)
  | @ref n a hn =>
    simp only [listW] at h
    split at h
    · rename_i ws eo
      cases h
      obtain ⟨vs, z, t⟩ := sr.ob _ _ _ hn eo
      exact .inr (.inr ⟨_, _, rfl, .of z, fun p hp => q.list sr (t.cut lo hi) hp⟩)
    · cases h
  | _ => cases h
theorem e_sl {e : Expr} {lo hi : Option Expr} {d : DE} {l h : DO} {p2 pos : Pos} (he : EOk G c k e d) (hl : OOk G c k lo l) (hh : OOk G c k hi h) : EOk G c k (.Subscript e (.Slice lo hi none p2) pos) (dSl d l h) := fun X U F =>
  PE.imp (pe_slice (SlR.or3 sl_str sl_tup sl_list) (he X U F) (hl X U F) (hh X U F)) fun σ H Q ⟨ρ, ε, S, ev, sr, q⟩ => ⟨ρ, ε, S, ev, sr, (Rg.bind q).mono fun x H1 ⟨w, S1, ρ1, e1, s1, r1, q1⟩ =>
    ⟨ρ1, ε, S1, ev.mono e1, s1, (Rg.bind q1).mono fun a H2 ⟨a', S2, ρ2, e2, s2, r2, q2⟩ => by
      obtain rfl : a' = a := r2
      refine ⟨ρ2, ε, S2, ev.mono (e1.trans e2), s2, (Rg.bind q2).mono fun b H3 ⟨b', S3, ρ3, e3, s3, r3, q3⟩ => ?_⟩
      obtain rfl : b' = b := r3
      obtain ⟨w', S4, hw, q4⟩ := Rg.lift q3
      rw [F.K]
      exact o_sl s3 (r1.mono (e2.trans e3)) hw q4⟩⟩
/-! ### types -/
def tyN (w : W) (S : Store) : Option String := match w with
  | .non => some "NoneType"
  | .bl _ => some "bool"
  | .int _ => some "int"
  | .str _ => some "str"
  | .tup _ => some "tuple"
  | .rl _ => some "list"
  | .ref n => match S[n]? with
    | some (.lst _) => some "list"
    | some (.dct _) => some "dict"
    | _ => none
  | .exn _ _ _ _ => none
theorem tyN_ok {H : Hp} {ρ : List Addr} {S : Store} {w : W} {v : V} {T : String} (sr : SR G H ρ S) (r : VR G.K H ρ w v) (h : tyN w S = some T) : TyX G.K H v (.type T) := by
  unfold tyN at h
  cases r with
  | non => cases h; exact .base .non
  | exn0 => cases h
  | exnD _ _ _ _ => cases h
  | bl b => cases h; exact .base (.bl b)
  | int i => cases h; exact .base (.int i)
  | str hx => cases h; exact .base (.str _)
  | tup q t =>
    cases h
    rcases q with (q | ⟨o, q⟩) | ⟨o, its, n, q1, q2, _⟩
    · exact .base (.tup q)
    · exact .fTuple q
    · exact .kTuple q1 q2
  | rl q t =>
    cases h
    rcases q with ⟨o, q⟩ | ⟨o, its, n, q1, q2, _⟩
    · exact .base (.frz q)
    · exact .kList q1 q2
  | ref hn =>
    simp only at h
    split at h
    · rename_i e
      cases h
      obtain ⟨vs, z, t⟩ := sr.ob _ _ _ hn e
      exact .base (.lst z)
    · rename_i e
      cases h
      obtain ⟨vs, z, t⟩ := sr.ob _ _ _ hn e
      exact .base (.dK z)
    · cases h
/-- is a value of the type a one of the type b (types that stand here) -/
def isT (a b : String) : Bool := a == b || (a == "bool" && b == "int")
def kitOk (b : String) : Bool := ["NoneType", "bool", "int", "str", "tuple", "list", "dict"].all fun a => decide (kitB a b = some (isT a b))
theorem tyN_mem {w : W} {S : Store} {T : String} (h : tyN w S = some T) : T ∈ ["NoneType", "bool", "int", "str", "tuple", "list", "dict"] := by
  unfold tyN at h
  cases w with
  | ref n =>
    simp only at h
    split at h <;> first | (cases h; decide) | cases h
  | exn _ _ _ _ => cases h
  | _ => cases h; decide
def dIsi (T : String) (d : DE) : DE := fun ε => d ε >>= fun w => lift fun S => (tyN w S).map fun t => (.bl (isT t T), S)
theorem e_isi (T : String) {x : Str} {e : Expr} {d : DE} {p p2 pos : Pos} (he : EOk G c k e d) (hm : G.mg "isinstance" = none) (hx : G.mg x = none) (hb : bootBuiltins x = some (.type T) := by decide +kernel) (hk : kitOk T = true := by decide +kernel) (hg : c.sc.names.lookup ("isinstance" : Str) = some .globalImplicit := by rfl) (hgx : c.sc.names.lookup x = some .globalImplicit := by rfl)
    (hp : plainE e = true := by rfl) (hn : x ≠ "__name__" := by decide) (hd : (x == ("__debug__" : Str)) = false := by decide) : EOk G c k (.Call (.Name "isinstance" p) [e, .Name x p2] [] pos) (dIsi T d) := fun X U F =>
  PE.imp (pe_callB (call_isi) (glob_of F hg) (by rw [F.mg]; exact hm) (by decide +kernel) (pa_cons (he X U F) (pa_cons (pe_bltn (v := .ty T) (glob_of F hgx) (by rw [F.mg]; exact hx) hb rfl hn hd) pa_nil) (starEach_plain hp _ _)) (by decide) (by decide) (starEach_plain hp _ _)) fun σ H Q ⟨ρ, ε, S, ev, sr, q⟩ => ⟨ρ, ε, S, ev, sr, (Rg.bind q).mono fun v H1 ⟨w, S1, ρ1, e1, s1, r1, q1⟩ => by
    obtain ⟨w', S2, hw, q2⟩ := Rg.lift q1
    cases et : tyN w S1 with
    | none => rw [et] at hw; cases hw
    | some t =>
      rw [et] at hw
      cases hw
      have hk2 := of_decide_eq_true (List.all_eq_true.mp hk t (tyN_mem et))
      refine ⟨v, .ty T, .type t, .type T, isT t T, rfl, .ty T, ?_, ?_, q2 H1 ρ1 _ Ext.refl s1 (.bl _)⟩
      · rw [F.K]; exact tyN_ok s1 r1 et
      · exact kit_ty hk2⟩
/-- isinstance(e, (T1, T2)) -/
def dIsi2 (T1 T2 : String) (d : DE) : DE := fun ε => d ε >>= fun w => lift fun S => (tyN w S).map fun t => (.bl (isT t T1 || isT t T2), S)
theorem e_isi2 (T1 T2 : String) {x y : Str} {e : Expr} {d : DE} {p p2 p3 pt pos : Pos} {kt : Nat} (he : EOk G c k e d) (hm : G.mg "isinstance" = none) (hx : G.mg x = none) (hy : G.mg y = none) (hb : bootBuiltins x = some (.type T1) := by decide +kernel) (hb2 : bootBuiltins y = some (.type T2) := by decide +kernel)
    (hk : kitOk T1 = true := by decide +kernel) (hk2 : kitOk T2 = true := by decide +kernel) (hg : c.sc.names.lookup ("isinstance" : Str) = some .globalImplicit := by rfl) (hgx : c.sc.names.lookup x = some .globalImplicit := by rfl) (hgy : c.sc.names.lookup y = some .globalImplicit := by rfl)
    (hp : plainE e = true := by rfl) (hn : x ≠ "__name__" := by decide) (hd : (x == ("__debug__" : Str)) = false := by decide) (hn2 : y ≠ "__name__" := by decide) (hd2 : (y == ("__debug__" : Str)) = false := by decide) :
    EOk G c k (.Call (.Name "isinstance" p) [e, .Tuple [.Name x p2, .Name y p3] kt pt] [] pos) (dIsi2 T1 T2 d) := fun X U F =>
  PE.imp (pe_callB (call_isiT) (glob_of F hg) (by rw [F.mg]; exact hm) (by decide +kernel) (pa_cons (he X U F) (pa_cons (pe_tup (pa_cons (pe_bltn (v := .ty T1) (glob_of F hgx) (by rw [F.mg]; exact hx) hb rfl hn hd) (pa_cons (pe_bltn (v := .ty T2) (glob_of F hgy) (by rw [F.mg]; exact hy) hb2 rfl hn2 hd2) pa_nil))) pa_nil) (starEach_plain hp _ _)) (by decide) (by decide) (starEach_plain hp _ _)) fun σ H Q ⟨ρ, ε, S, ev, sr, q⟩ => ⟨ρ, ε, S, ev, sr, (Rg.bind q).mono fun v H1 ⟨w, S1, ρ1, e1, s1, r1, q1⟩ => by
    obtain ⟨w', S2, hw, q2⟩ := Rg.lift q1
    cases et : tyN w S1 with
    | none => rw [et] at hw; cases hw
    | some t =>
      rw [et] at hw
      cases hw
      have h1 := of_decide_eq_true (List.all_eq_true.mp hk t (tyN_mem et))
      have h2 := of_decide_eq_true (List.all_eq_true.mp hk2 t (tyN_mem et))
      refine ⟨by show 2 ≤ sizeLine; decide, fun p0 hp0 => ?_⟩
      have ex : Ext G.K H1 ρ1 (upd H1 p0 (.tup [.ty T1, .ty T2])) ρ1 := Ext.fresh hp0
      refine ⟨v, p0, [.ty T1, .ty T2], .type t, [.type T1, .type T2], isT t T1 || isT t T2, rfl, upd_same, .cons (.ty T1) (.cons (.ty T2) .nil), ?_, ?_, q2 _ ρ1 _ ex (s1.fresh hp0) (.bl _)⟩
      · rw [F.K]; exact tyN_ok (s1.fresh hp0) (r1.mono ex) et
      · refine kitAny_cons (kit_ty h1) (fun hb => ?_) fun hb => by rw [hb]; rfl
        rw [hb, Bool.false_or]
        exact kitAny_cons (kit_ty h2) (fun hb => by rw [hb]; exact kitAny_nil) fun hb => hb⟩
/-! ### int, str, list, tuple -/
def opInt : OpA := fun ws S => match ws with
  | [.int i] => some (.int i, S)
  | [.bl b] => some (.int (if b then 1 else 0), S)
  | _ => none
theorem o_int : OpAOk G (fun xs H Q => (∃ i, xs = [.int i] ∧ Q (.int i) H) ∨ ∃ k, xs = [.bl k] ∧ Q (.int (if k then 1 else 0)) H) opInt := fun H ρ S ws vs w S' Q sr r h q => by
  unfold opInt at h
  split at h
  · cases h
    cases r with
    | cons r rs =>
      cases rs
      cases r
      exact .inl ⟨_, rfl, q.flat sr (.int _)⟩
  · cases h
    cases r with
    | cons r rs =>
      cases rs
      cases r
      exact .inr ⟨_, rfl, q.flat sr (.int _)⟩
  · cases h
theorem e_intC {e : Expr} {d : DE} {p pos : Pos} (he : EOk G c k e d) (hm : G.mg "int" = none) (hg : c.sc.names.lookup ("int" : Str) = some .globalImplicit := by rfl) (hp : plainE e = true := by rfl) : EOk G c k (.Call (.Name "int" p) [e] [] pos) (dFn opInt (aCons d aNil)) :=
  e_ty (fun X U F => call_int1) o_int hm (by decide +kernel) (a_cons he a_nil hp) hg (by decide) (by decide) (fun env => starEach_plain hp _ _)
def opList : OpA := fun ws S => match ws with
  | [w] => (seqW w S).map fun l => (.ref S.length, S ++ [.lst l])
  | _ => none
theorem o_list : OpAOk G (fun xs H Q => ∃ p ys, xs = [.ref p] ∧ (SqL G.K H p ys ∨ SqT G.K H p ys) ∧ ∀ l, H l = none → Q (.ref l) (upd H l (.lst ys))) opList := fun H ρ S ws vs w S' Q sr r h q => by
  unfold opList at h
  split at h
  · rename_i w0
    cases r with
    | cons r rs =>
      cases rs
      cases e : seqW w0 S with
      | none => rw [e] at h; cases h
      | some l =>
        rw [e] at h
        cases h
        obtain ⟨a, us, rfl, t, hs⟩ := seqW_ok sr r e
        exact ⟨a, us, rfl, hs, fun p hp => q.list sr t hp⟩
  · cases h
theorem e_listC {e : Expr} {d : DE} {p pos : Pos} (he : EOk G c k e d) (hm : G.mg "list" = none) (hg : c.sc.names.lookup ("list" : Str) = some .globalImplicit := by rfl) (hp : plainE e = true := by rfl) : EOk G c k (.Call (.Name "list" p) [e] [] pos) (dFn opList (aCons d aNil)) :=
  e_ty (fun X U F => by rw [← F.K]; exact call_list_of) o_list hm (by decide +kernel) (a_cons he a_nil hp) hg (by decide) (by decide) (fun env => starEach_plain hp _ _)
def opTuple : OpA := fun ws S => match ws with
  | [w] => (seqW w S).map fun l => (.tup l, S)
  | _ => none
theorem o_tuple : OpAOk G (fun xs H Q => ∃ p ys, xs = [.ref p] ∧ ((SqL G.K H p ys ∧ ∀ l, H l = none → Q (.ref l) (upd H l (.tup ys))) ∨ (SqT G.K H p ys ∧ Q (.ref p) H))) opTuple := fun H ρ S ws vs w S' Q sr r h q => by
  unfold opTuple at h
  split at h
  · rename_i w0
    cases r with
    | cons r rs =>
      cases rs
      cases e : seqW w0 S with
      | none => rw [e] at h; cases h
      | some l =>
        rw [e] at h
        cases h
        obtain ⟨a, us, rfl, t, hs⟩ := seqW_ok sr r e
        rcases hs with hs | hs
        · exact ⟨a, us, rfl, .inl ⟨hs, fun p hp => q.tup sr t hp⟩⟩
        · exact ⟨a, us, rfl, .inr ⟨hs, q.flat sr (.tup hs t)⟩⟩
  · cases h
theorem e_tupleC {e : Expr} {d : DE} {p pos : Pos} (he : EOk G c k e d) (hm : G.mg "tuple" = none) (hg : c.sc.names.lookup ("tuple" : Str) = some .globalImplicit := by rfl) (hp : plainE e = true := by rfl) : EOk G c k (.Call (.Name "tuple" p) [e] [] pos) (dFn opTuple (aCons d aNil)) :=
  e_ty (fun X U F => by rw [← F.K]; exact call_tuple_of) o_tuple hm (by decide +kernel) (a_cons he a_nil hp) hg (by decide) (by decide) (fun env => starEach_plain hp _ _)
def opStrI : OpA := fun ws S => match ws with
  | [.int i] => if i.natAbs.log2 < 1920 then some (.str (Str.ofString (toString i)), S) else none
  | _ => none
theorem o_strI : OpAOk G (fun xs H Q => ∃ i, xs = [.int i] ∧ i.natAbs.log2 < 1920 ∧ Q (.str (toString i)) H) opStrI := fun H ρ S ws vs w S' Q sr r h q => by
  unfold opStrI at h
  split at h
  · split at h
    · rename_i hz
      cases h
      cases r with
      | cons r rs =>
        cases rs
        cases r
        exact ⟨_, rfl, hz, q.flat sr (.str (okS_of _))⟩
    · cases h
  · cases h
theorem e_strC {e : Expr} {d : DE} {p pos : Pos} (he : EOk G c k e d) (hm : G.mg "str" = none) (hg : c.sc.names.lookup ("str" : Str) = some .globalImplicit := by rfl) (hp : plainE e = true := by rfl) : EOk G c k (.Call (.Name "str" p) [e] [] pos) (dFn opStrI (aCons d aNil)) :=
  e_ty (fun X U F => call_str_int) o_strI hm (by decide +kernel) (a_cons he a_nil hp) hg (by decide) (by decide) (fun env => starEach_plain hp _ _)
/-! ### methods -/
abbrev OpM := W → List W → Store → Option (W × Store)
def tyM (T : String) (w : W) (S : Store) : Bool := match w with
  | .str _ => T == "str"
  | .rl _ => T == "list"
  | .ref n => match S[n]? with
    | some (.lst _) => T == "list"
    | some (.dct _) => T == "dict"
    | _ => false
  | _ => false
theorem tyM_ok {H : Hp} {ρ : List Addr} {S : Store} {w : W} {v : V} {T : String} (sr : SR G H ρ S) (r : VR G.K H ρ w v) (h : tyM T w S = true) : tyV G.K T v H := by
  unfold tyM at h
  cases r with
  | str hx => exact eq_of_beq h
  | rl q t => exact .inl ⟨eq_of_beq h, _, q.sq⟩
  | ref hn =>
    simp only at h
    split at h
    · rename_i e
      obtain ⟨vs, z, t⟩ := sr.ob _ _ _ hn e
      exact .inl ⟨eq_of_beq h, vs, .of z⟩
    · rename_i e
      obtain ⟨vs, z, t⟩ := sr.ob _ _ _ hn e
      exact .inr (.inr (.inl ⟨eq_of_beq h, .inl ⟨vs, z⟩⟩))
    · cases h
  | _ => cases h
def chkT (T : String) (w : W) : M Unit := fun S => if tyM T w S = true then .ok () S else .bad
theorem Rg.chkT {α β : Type} {U : WX} {σ : L2.St} {rel : Hp → List Addr → α → β → Prop} {T : String} {w : W} {f : Unit → M α} {S : Store} {H : Hp} {ρ : List Addr} {Q : β → Hp → Prop} (h : Rg G U σ rel ((N.chkT T w >>= f) S) H ρ Q) : tyM T w S = true ∧ Rg G U σ rel (f () S) H ρ Q := by
  have h' : Rg G U σ rel (M.bind (N.chkT T w) f S) H ρ Q := h
  unfold M.bind N.chkT at h'
  by_cases e : tyM T w S = true
  · rw [if_pos e] at h'
    exact ⟨e, h'⟩
  · rw [if_neg e] at h'
    exact h'.elim
def dMt (T : String) (op : OpM) (d : DE) (a : DA) : DE := fun ε => d ε >>= fun w => chkT T w >>= fun _ => a ε >>= fun ws => lift (op w ws)
def OpMOk (G : Top) (r : V → List V → Hp → VK → Prop) (op : OpM) : Prop := ∀ H ρ S a ws x xs w S' Q, SR G H ρ S → VR G.K H ρ a x → VRs G.K H ρ ws xs → op a ws S = some (w, S') → Wish G H ρ w S' Q → r x xs H Q
theorem e_mt {T id : String} {name : Str} {r : V → List V → Hp → VK → Prop} {op : OpM} {o e : Expr} {es : List Expr} {d : DE} {a : DA} {apos cpos : Pos} (pa : PlainAttrs T) (slot : Slot T name id) (hty : typeOf (.builtin id) = pure (.type "method_descriptor")) (hm : ∀ X U, Fit G c k X U → MtR X id r) (ho : OpMOk G r op) (he : EOk G c k o d) (ha : AOk G c k (e :: es) a)
    (hbase : ∀ env, attributeBase o name env (eval o env) = eval o env := by intro _; rfl)
    (hfew : ∀ env, ((backTo cpos (starEach (e :: es) env)).all (fun x => !x.1) && (backToKw cpos (keywordEach [] env)).all (fun x => x.1.isSome)
      && decide ((e :: es).length + ([] : List Keyword).length + (if ([] : List Keyword).isEmpty then 0 else 1) < 30)) = true := by intro _; rfl)
    (hline : (apos.endLine == cpos.line) = true := by rfl) (hs : ∀ env, starEach (e :: es) env = (false, eval e env) :: starEach es env := by intro _; rfl) (hpl : ∀ env, (backTo cpos (starEach es env)).any (·.1) = false := by intro _; rfl) :
    EOk G c k (.Call (.Attribute o name apos) (e :: es) [] cpos) (dMt T op d a) := fun X U F =>
  PE.imp (pe_bm pa slot hty (hm X U F) (he X U F) (ha X U F) (hbase _) (hfew _) hline (hs _) (hpl _)) fun σ H Q ⟨ρ, ε, S, ev, sr, q⟩ => ⟨ρ, ε, S, ev, sr, (Rg.bind q).mono fun x H1 ⟨w, S1, ρ1, e1, s1, r1, q1⟩ => by
    obtain ⟨ht, q2⟩ := Rg.chkT q1
    refine ⟨by rw [F.K]; exact tyM_ok s1 r1 ht, ρ1, ε, S1, ev.mono e1, s1, (Rg.bind q2).mono fun xs H2 ⟨ws, S2, ρ2, e2, s2, r2, q3⟩ => ?_⟩
    obtain ⟨w', S3, hw, q4⟩ := Rg.lift q3
    exact ho H2 ρ2 S2 w ws x xs w' S3 Q s2 (r1.mono e2) r2 hw q4⟩
theorem e_mt0 {T id : String} {name : Str} {r : V → List V → Hp → VK → Prop} {op : OpM} {o : Expr} {d : DE} {apos cpos : Pos} (pa : PlainAttrs T) (slot : Slot T name id) (hty : typeOf (.builtin id) = pure (.type "method_descriptor")) (hm : ∀ X U, Fit G c k X U → MtR X id r) (ho : OpMOk G r op) (he : EOk G c k o d)
    (hbase : ∀ env, attributeBase o name env (eval o env) = eval o env := by intro _; rfl) (hline : (apos.endLine == cpos.line) = true := by rfl) :
    EOk G c k (.Call (.Attribute o name apos) [] [] cpos) (dMt T op d aNil) := fun X U F =>
  PE.imp (pe_bm0 pa slot hty (hm X U F) (he X U F) (hbase _) hline) fun σ H Q ⟨ρ, ε, S, ev, sr, q⟩ => ⟨ρ, ε, S, ev, sr, (Rg.bind q).mono fun x H1 ⟨w, S1, ρ1, e1, s1, r1, q1⟩ => by
    obtain ⟨ht, q2⟩ := Rg.chkT q1
    have q3 : Rg G U σ (VR G.K) (lift (op w []) S1) H1 ρ1 Q := q2
    obtain ⟨w', S3, hw, q4⟩ := Rg.lift q3
    exact ⟨by rw [F.K]; exact tyM_ok s1 r1 ht, ho H1 ρ1 S1 w [] x [] w' S3 Q s1 r1 .nil hw q4⟩⟩
/-- a list of the store written -/
theorem Wish.put {H : Hp} {ρ : List Addr} {S : Store} {n : Nat} {a : Addr} {ws' : List W} {vs vs' : List V} {w : W} {v : V} {Q : VK} (q : Wish G H ρ w (S.set n (.lst ws')) Q) (sr : SR G H ρ S) (hn : ρ[n]? = some a) (h : H a = some (.lst vs)) (r' : VRs G.K H ρ ws' vs') (rw : VR G.K H ρ w v) : Q v (upd H a (.lst vs')) := by
  have e : Ext G.K H ρ (upd H a (.lst vs')) ρ := Ext.upd hn h trivial
  exact q _ ρ v e (sr.upd hn h trivial ⟨vs', upd_same, r'.mono e⟩) (rw.mono e)
def mAppend : OpM := fun a ws S => match a, ws with
  | .ref n, [w] => match S[n]? with
    | some (.lst l) => if l.length < sizeLine then some (.non, S.set n (.lst (l ++ [w]))) else none
    | _ => none
  | _, _ => none
theorem o_append : OpMOk G rAppend mAppend := fun H ρ S a ws x xs w S' Q sr ra rs h q => by
  unfold mAppend at h
  split at h
  · split at h
    · rename_i l eo
      split at h
      · rename_i hz
        cases h
        cases ra with
        | ref hn =>
          cases rs with
          | cons r rs =>
            cases rs
            obtain ⟨vs, z, t⟩ := sr.ob _ _ _ hn eo
            exact ⟨_, vs, _, rfl, rfl, z, by rw [← t.length]; exact hz, q.put sr hn z (t.append (.cons r .nil)) .non⟩
      · cases h
    · cases h
  · cases h
theorem e_append {o e : Expr} {d f : DE} {apos cpos : Pos} (he : EOk G c k o d) (ha : EOk G c k e f) (hbase : ∀ env, attributeBase o "append" env (eval o env) = eval o env := by intro _; rfl) (hline : (apos.endLine == cpos.line) = true := by rfl) (hp : plainE e = true := by rfl) :
    EOk G c k (.Call (.Attribute o "append" apos) [e] [] cpos) (dMt "list" mAppend d (aCons f aNil)) :=
  e_mt PySem.F.plainAttrs_list PySem.F.slot_list_append PySem.F.type_list_append (fun X U F => mt_append) o_append he (a_cons ha a_nil hp) hbase (fun env => by rw [starEach_plain hp]; rfl) hline (fun env => starEach_plain hp _ _)
/-- xs[i] = v -/
def setIx (o i v : W) (S : Store) : Option Store := match o, i with
  | .ref n, .int j => match S[n]? with
    | some (.lst l) => (ixN l.length j).map fun m => S.set n (.lst (l.set m v))
    | _ => none
  | _, _ => none
def dPut (d o i : DE) : DS := fun ε S => sBind (d ε) ε S fun v S1 => sBind (o ε) ε S1 fun w S2 => sBind (i ε) ε S2 fun j S3 => match setIx w j v S3 with
  | some S4 => .nx ε S4
  | none => .bad
theorem s_put {o i e : Expr} {d d0 di : DE} {spos pos : Pos} (he : EOk G c k e d) (ho : EOk G c k o d0) (hi : EOk G c k i di)
    (ha : ∀ env v, assign (.Subscript o i spos) env v = (do
      let ov ← holding [v] (eval o env)
      let iv ← holding [v, ov] (eval i env)
      standAt spos
      holding [v, ov, iv] (setItem ov iv v)
      release [v, ov, iv] []) := by intro _ _; rfl) (hs : ∀ env, swapsWithSole [.Subscript o i spos] e pos.line env = pure false := by intro _; rfl) (hw : ∀ env, swappedStores [.Subscript o i spos] e env = pure none := by intro _; rfl)
    (h1 : ∀ env, (assignEach [.Subscript o i spos] env).map (·.2) = [assign (.Subscript o i spos) env] := by intro _; rfl) : SOk G c k (.Assign [.Subscript o i spos] e pos) (dPut d d0 di) := fun X U F =>
  PS.imp (ps_asg (he X U F) (pg_sub (ho X U F) (hi X U F) set_list (ha _)) (hs _) (hw _) (h1 _)) fun D σ H ⟨ρ, ε, S, ev, sr, h⟩ => ⟨ρ, ε, S, ev, sr, (Rg_sBind ev h).mono fun v H1 ⟨wv, S1, ρ1, e1, s1, r1, q1⟩ =>
    ⟨ρ1, ε, S1, ev.mono e1, s1, (Rg_sBind (ev.mono e1) q1).mono fun x H2 ⟨wo, S2, ρ2, e2, s2, r2, q2⟩ =>
      ⟨ρ2, ε, S2, (ev.mono e1).mono e2, s2, (Rg_sBind ((ev.mono e1).mono e2) q2).mono fun y H3 ⟨wi, S3, ρ3, e3, s3, r3, q3⟩ => by
        cases hz : setIx wo wi wv S3 with
        | none => simp only [hz] at q3; exact q3.elim
        | some S4 =>
          simp only [hz] at q3
          unfold setIx at hz
          split at hz
          · split at hz
            · rename_i l eo
              cases hj : ixN l.length _ with
              | none => rw [hj] at hz; cases hz
              | some m =>
                rw [hj] at hz
                cases hz
                cases r3
                have r2' := r2.mono e3
                cases r2' with
                | ref hn =>
                  obtain ⟨vs, z, t⟩ := s3.ob _ _ _ hn eo
                  have rv := (r1.mono e2).mono e3
                  refine ⟨_, vs, _, m, rfl, rfl, z, by rw [← t.length]; exact hj, ?_⟩
                  have e : Ext G.K H3 ρ3 (upd H3 _ (.lst (vs.set m v))) ρ3 := Ext.upd hn z trivial
                  exact q3 _ ρ3 σ e (s3.upd hn z trivial ⟨_, upd_same, (t.set rv m).mono e⟩) (((ev.mono e1).mono e2).mono (e3.trans e))
            · cases hz
          · cases hz⟩⟩⟩
end
end
end N
namespace N
open PySem PySem.Spec PyProof.Rows L2
noncomputable section
section
variable {G : Top} {c : Ctx} {k : Nat}
/-! ### what is never reached -/
theorem e_bad {e : Expr} : EOk G c k e (fun _ => bad) := fun X U F => ⟨fun pins s σ H Q I ⟨ρ, ε, S, ev, sr, q⟩ => (q : False).elim⟩
theorem s_bad {st : Stmt} : SOk G c k st (fun _ _ => .bad) := fun X U F => ⟨fun pins s σ H D I ⟨ρ, ε, S, ev, sr, q⟩ => (q : False).elim⟩
theorem i_bad {tg e : Expr} : IOk G c k tg e (fun _ => bad) := fun X U F => ⟨fun pins s σ H R I ⟨ρ, ε, S, ev, sr, q⟩ => (q : False).elim⟩
/-! ### is of bools -/
def opIsB : Op2
  | .bl a, .bl b, S => some (.bl (a == b), S)
  | _, _, _ => none
theorem r_isB : ∀ X W, Fit G c k X W → OpR X (compareOp .Is) rIsB := fun X W F => op_isBl
theorem o_isB : Op2Ok G rIsB opIsB := fun H ρ S a b x y w S' Q sr ra rb h q => by
  unfold opIsB at h
  split at h
  · cases h
    cases ra; cases rb
    refine ⟨_, _, rfl, rfl, ?_⟩
    have e : ∀ a b : Bool, decide (a = b) = (a == b) := by decide
    rw [e]
    exact q.flat sr (.bl _)
  · cases h
/-! ### methods of lists -/
theorem VRs.dropLast {K : PySem.W.Frag} {H : Hp} {ρ : List Addr} {ws : List W} {vs : List V} (r : VRs K H ρ ws vs) : VRs K H ρ ws.dropLast vs.dropLast := by
  rw [List.dropLast_eq_take, List.dropLast_eq_take, r.length]
  exact r.take _
def mPop : OpM := fun a ws S => match a, ws with
  | .ref n, [] => match S[n]? with
    | some (.lst l) => (l[l.length - 1]?).map fun w => (w, S.set n (.lst l.dropLast))
    | _ => none
  | .ref n, [.int i] => match S[n]? with
    | some (.lst l) => if -(2 ^ 63) ≤ i ∧ i < 2 ^ 63 then (ixN l.length i).bind fun j => (l[j]?).map fun w => (w, S.set n (.lst (l.eraseIdx j))) else none
    | _ => none
  | _, _ => none
theorem o_pop : OpMOk G (fun x xs H Q => rPop x xs H Q ∨ rPopAt x xs H Q) mPop := fun H ρ S a ws x xs w S' Q sr ra rs h q => by
  unfold mPop at h
  split at h
  · split at h
    · rename_i l eo
      rw [Option.map_eq_some_iff] at h
      obtain ⟨w1, e1, h⟩ := h
      cases h
      cases ra with
      | ref hn =>
        cases rs
        obtain ⟨vs, z, t⟩ := sr.ob _ _ _ hn eo
        obtain ⟨y, e2, r2⟩ := t.get e1
        exact .inl ⟨_, vs, y, rfl, rfl, z, by rw [← t.length]; exact e2, q.put sr hn z t.dropLast r2⟩
    · cases h
  · split at h
    · rename_i l eo
      split at h
      · rename_i hb
        rw [Option.bind_eq_some_iff] at h
        obtain ⟨j, e0, h⟩ := h
        rw [Option.map_eq_some_iff] at h
        obtain ⟨w1, e1, h⟩ := h
        cases h
        cases ra with
        | ref hn =>
          cases rs with
          | cons r rs =>
            cases rs
            cases r
            obtain ⟨vs, z, t⟩ := sr.ob _ _ _ hn eo
            obtain ⟨y, e2, r2⟩ := t.get e1
            exact .inr ⟨_, vs, _, j, y, rfl, rfl, z, hb.1, hb.2, by rw [← t.length]; exact (ixN_seq e0).1, e2, q.put sr hn z (t.eraseIdx j) r2⟩
      · cases h
    · cases h
  · cases h
theorem mt_popB {X : Cx} : MtR X "list.pop" (fun x xs H Q => rPop x xs H Q ∨ rPopAt x xs H Q) := fun pins s σ H x vs v us Q I rx rv h => by
  rcases h with h | h
  · exact mt_pop pins s σ H x vs v us Q I rx rv h
  · exact mt_popAt pins s σ H x vs v us Q I rx rv h
theorem e_pop {o e : Expr} {d f : DE} {apos cpos : Pos} (he : EOk G c k o d) (ha : EOk G c k e f) (hbase : ∀ env, attributeBase o "pop" env (eval o env) = eval o env := by intro _; rfl) (hline : (apos.endLine == cpos.line) = true := by rfl) (hp : plainE e = true := by rfl) :
    EOk G c k (.Call (.Attribute o "pop" apos) [e] [] cpos) (dMt "list" mPop d (aCons f aNil)) :=
  e_mt PySem.F.plainAttrs_list PySem.F.slot_list_pop PySem.F.type_list_pop (fun X U F => mt_popB) o_pop he (a_cons ha a_nil hp) hbase (fun env => by rw [starEach_plain hp]; rfl) hline (fun env => starEach_plain hp _ _)
theorem e_pop0 {o : Expr} {d : DE} {apos cpos : Pos} (he : EOk G c k o d) (hbase : ∀ env, attributeBase o "pop" env (eval o env) = eval o env := by intro _; rfl) (hline : (apos.endLine == cpos.line) = true := by rfl) :
    EOk G c k (.Call (.Attribute o "pop" apos) [] [] cpos) (dMt "list" mPop d aNil) :=
  e_mt0 PySem.F.plainAttrs_list PySem.F.slot_list_pop PySem.F.type_list_pop (fun X U F => mt_popB) o_pop he hbase hline
def mInsert : OpM := fun a ws S => match a, ws with
  | .ref n, [.int i, w] => match S[n]? with
    | some (.lst l) => if l.length < sizeLine ∧ 0 ≤ i ∧ i < 2 ^ 63 then some (.non, S.set n (.lst (l.take i.toNat ++ [w] ++ l.drop i.toNat))) else none
    | _ => none
  | _, _ => none
theorem o_insert : OpMOk G (fun x vs H Q => ∃ (l : Addr) (xs : List V) (i : Int) (y : V), x = .ref l ∧ vs = [.int i, y] ∧ H l = some (.lst xs) ∧ xs.length < sizeLine ∧ 0 ≤ i ∧ i < 2 ^ 63 ∧
    Q .non (upd H l (.lst (xs.take i.toNat ++ [y] ++ xs.drop i.toNat)))) mInsert := fun H ρ S a ws x xs w S' Q sr ra rs h q => by
  unfold mInsert at h
  split at h
  · split at h
    · rename_i l eo
      split at h
      · rename_i hz
        cases h
        cases ra with
        | ref hn =>
          cases rs with
          | cons r rs =>
            cases rs with
            | cons r2 rs =>
              cases rs
              cases r
              obtain ⟨vs, z, t⟩ := sr.ob _ _ _ hn eo
              exact ⟨_, vs, _, _, rfl, rfl, z, by rw [← t.length]; exact hz.1, hz.2.1, hz.2.2, q.put sr hn z (((t.take _).append (.cons r2 .nil)).append (t.drop _)) .non⟩
      · cases h
    · cases h
  · cases h
theorem e_insert {o e e2 : Expr} {d f f2 : DE} {apos cpos : Pos} (he : EOk G c k o d) (ha : EOk G c k e f) (ha2 : EOk G c k e2 f2) (hbase : ∀ env, attributeBase o "insert" env (eval o env) = eval o env := by intro _; rfl) (hline : (apos.endLine == cpos.line) = true := by rfl) (hp : plainE e = true := by rfl) (hp2 : plainE e2 = true := by rfl) :
    EOk G c k (.Call (.Attribute o "insert" apos) [e, e2] [] cpos) (dMt "list" mInsert d (aCons f (aCons f2 aNil))) :=
  e_mt PySem.F.plainAttrs_list PySem.F.slot_list_insert PySem.F.type_list_insert (fun X U F => mt_insert) o_insert he (a_cons ha (a_cons ha2 a_nil hp2) hp) hbase (fun env => by rw [starEach_plain hp, starEach_plain hp2]; rfl) hline (fun env => starEach_plain hp _ _) (fun env => by rw [starEach_plain hp2]; rfl)
def mExtend : OpM := fun a ws S => match a, ws with
  | .ref n, [.ref m] => match S[n]?, S[m]? with
    | some (.lst l), some (.lst r) => if l.length + r.length ≤ sizeLine then some (.non, S.set n (.lst (l ++ r))) else none
    | _, _ => none
  | _, _ => none
theorem o_extend : OpMOk G rExtend mExtend := fun H ρ S a ws x xs w S' Q sr ra rs h q => by
  unfold mExtend at h
  split at h
  · split at h
    · rename_i l r0 eo eo2
      split at h
      · rename_i hz
        cases h
        cases ra with
        | ref hn =>
          cases rs with
          | cons r rs =>
            cases rs
            cases r with
            | ref hm =>
              obtain ⟨vs, z, t⟩ := sr.ob _ _ _ hn eo
              obtain ⟨vs2, z2, t2⟩ := sr.ob _ _ _ hm eo2
              exact ⟨_, _, vs, vs2, rfl, rfl, z, z2, by rw [← t.length, ← t2.length]; exact hz, q.put sr hn z (t.append t2) .non⟩
      · cases h
    · cases h
  · cases h
theorem e_extend {o e : Expr} {d f : DE} {apos cpos : Pos} (he : EOk G c k o d) (ha : EOk G c k e f) (hbase : ∀ env, attributeBase o "extend" env (eval o env) = eval o env := by intro _; rfl) (hline : (apos.endLine == cpos.line) = true := by rfl) (hp : plainE e = true := by rfl) :
    EOk G c k (.Call (.Attribute o "extend" apos) [e] [] cpos) (dMt "list" mExtend d (aCons f aNil)) :=
  e_mt PySem.F.plainAttrs_list PySem.F.slot_list_extend PySem.F.type_list_extend (fun X U F => mt_extend) o_extend he (a_cons ha a_nil hp) hbase (fun env => by rw [starEach_plain hp]; rfl) hline (fun env => starEach_plain hp _ _)
def mClear : OpM := fun a ws S => match a, ws with
  | .ref n, [] => match S[n]? with
    | some (.lst l) => some (.non, S.set n (.lst []))
    | _ => none
  | _, _ => none
theorem o_clear : OpMOk G rClear mClear := fun H ρ S a ws x xs w S' Q sr ra rs h q => by
  unfold mClear at h
  split at h
  · split at h
    · rename_i l eo
      cases h
      cases ra with
      | ref hn =>
        cases rs
        obtain ⟨vs, z, t⟩ := sr.ob _ _ _ hn eo
        exact ⟨_, vs, rfl, rfl, z, q.put sr hn z .nil .non⟩
    · cases h
  · cases h
theorem e_clear {o : Expr} {d : DE} {apos cpos : Pos} (he : EOk G c k o d) (hbase : ∀ env, attributeBase o "clear" env (eval o env) = eval o env := by intro _; rfl) (hline : (apos.endLine == cpos.line) = true := by rfl) :
    EOk G c k (.Call (.Attribute o "clear" apos) [] [] cpos) (dMt "list" mClear d aNil) :=
  e_mt0 PySem.F.plainAttrs_list PySem.F.slot_list_clear PySem.F.type_list_clear (fun X U F => mt_clear) o_clear he hbase hline
/-- the first place of an equal item -/
def findD (ds : List PyData) (d : PyData) : Option Nat := ds.findIdx? fun z => PyData.eqv z d
def mIndex : OpM := fun a ws S => match a, ws with
  | .ref n, [w] => match toD S deep (.ref n), toD S deep w with
    | some (.list ds), some d => (findD ds d).map fun j => (.int (j : Nat), S)
    | _, _ => none
  | _, _ => none
theorem o_index : OpMOk G (rIndexD G.K) mIndex := fun H ρ S a ws x xs w S' Q sr ra rs h q => by
  unfold mIndex at h
  split at h
  · split at h
    · rename_i ds d e1 e2
      rw [Option.map_eq_some_iff] at h
      obtain ⟨j, ej, h⟩ := h
      cases h
      cases rs with
      | cons r rs =>
        cases rs
        have s1 := toD_shaped sr ra e1
        have s2 := toD_shaped sr r e2
        unfold findD at ej
        rw [List.findIdx?_eq_some_iff_getElem] at ej
        obtain ⟨hj, hz, hno⟩ := ej
        cases ra with
        | ref hn =>
          refine ⟨_, _, d, ds, j, ds[j], rfl, rfl, s1.1, s2.1, s1.2, s2.2, List.getElem?_eq_getElem hj, hz, fun m z' hm ez => ?_, q.flat sr (.int _)⟩
          obtain ⟨hm2, rfl⟩ := List.getElem?_eq_some_iff.mp ez
          have := hno m hm
          simpa using this
    · cases h
  · cases h
theorem e_index {o e : Expr} {d f : DE} {apos cpos : Pos} (he : EOk G c k o d) (ha : EOk G c k e f) (hbase : ∀ env, attributeBase o "index" env (eval o env) = eval o env := by intro _; rfl) (hline : (apos.endLine == cpos.line) = true := by rfl) (hp : plainE e = true := by rfl) :
    EOk G c k (.Call (.Attribute o "index" apos) [e] [] cpos) (dMt "list" mIndex d (aCons f aNil)) :=
  e_mt PySem.F.plainAttrs_list PySem.F.slot_list_index PySem.F.type_list_index (fun X U F => by rw [← F.K]; exact mt_indexD (by have := F.room.un; omega)) o_index he (a_cons ha a_nil hp) hbase (fun env => by rw [starEach_plain hp]; rfl) hline (fun env => starEach_plain hp _ _)
/-! ### texts -/
def mJoin : OpM := fun a ws S => match a, ws with
  | .str x, [w] => (seqW w S).bind fun l => (strsOf l).bind fun ys => if (ys.map (·.length)).sum + ys.length * x.length ≤ 16777216 ∧ okS (Txt.join x ys) = true then some (.str (Txt.join x ys), S) else none
  | _, _ => none
theorem o_join : OpMOk G (fun x xs H Q => ∃ a p, ∃ ys : List Str, x = .str a ∧ xs = [.ref p] ∧ (SqL G.K H p (ys.map V.str) ∨ SqT G.K H p (ys.map V.str)) ∧
    (ys.map (·.length)).sum + ys.length * a.length ≤ 16777216 ∧ Q (.str (Txt.join a ys)) H) mJoin := fun H ρ S a ws x xs w S' Q sr ra rs h q => by
  unfold mJoin at h
  split at h
  · rw [Option.bind_eq_some_iff] at h
    obtain ⟨l, e1, h⟩ := h
    rw [Option.bind_eq_some_iff] at h
    obtain ⟨ys, e2, h⟩ := h
    split at h
    · rename_i hz
      cases h
      cases ra
      cases rs with
      | cons r rs =>
        cases rs
        obtain ⟨p, vs, rfl, t, hs⟩ := seqW_ok sr r e1
        obtain ⟨e3, _⟩ := strsOf_ok t e2
        subst e3
        exact ⟨_, p, ys, rfl, rfl, hs, hz.1, q.flat sr (.str hz.2)⟩
    · cases h
  · cases h
theorem e_join {o e : Expr} {d f : DE} {apos cpos : Pos} (he : EOk G c k o d) (ha : EOk G c k e f) (hbase : ∀ env, attributeBase o "join" env (eval o env) = eval o env := by intro _; rfl) (hline : (apos.endLine == cpos.line) = true := by rfl) (hp : plainE e = true := by rfl) :
    EOk G c k (.Call (.Attribute o "join" apos) [e] [] cpos) (dMt "str" mJoin d (aCons f aNil)) :=
  e_mt PySem.F.plainAttrs_str PySem.F.slot_str_join PySem.F.type_str_join (fun X U F => by rw [← F.K]; exact mt_join) o_join he (a_cons ha a_nil hp) hbase (fun env => by rw [starEach_plain hp]; rfl) hline (fun env => starEach_plain hp _ _)
def mSplit : OpM := fun a ws S => match a, ws with
  | .str x, [.str y] => if (y.length == 0) = false ∧ x.length + 2 ≤ sizeLine ∧ (Txt.split x y).all okS = true then some (.ref S.length, S ++ [.lst ((Txt.split x y).map W.str)]) else none
  | _, _ => none
theorem VRs.strs {K : PySem.W.Frag} {H : Hp} {ρ : List Addr} : ∀ {ys : List Str}, ys.all okS = true → VRs K H ρ (ys.map W.str) (ys.map V.str)
  | [], _ => .nil
  | y :: ys, h => by
    simp only [List.all_cons, Bool.and_eq_true] at h
    exact .cons (.str h.1) (VRs.strs h.2)
theorem o_split : OpMOk G (fun x xs H Q => ∃ a b, x = .str a ∧ xs = [.str b] ∧ (b.length == 0) = false ∧ a.length + 2 ≤ sizeLine ∧ rNewStrs (Txt.split a b) H Q) mSplit := fun H ρ S a ws x xs w S' Q sr ra rs h q => by
  unfold mSplit at h
  split at h
  · split at h
    · rename_i hz
      cases h
      cases ra
      cases rs with
      | cons r rs =>
        cases rs
        cases r
        exact ⟨_, _, rfl, rfl, hz.1, hz.2.1, fun p hp => q.list sr (VRs.strs hz.2.2) hp⟩
    · cases h
  · cases h
theorem e_split {o e : Expr} {d f : DE} {apos cpos : Pos} (he : EOk G c k o d) (ha : EOk G c k e f) (hbase : ∀ env, attributeBase o "split" env (eval o env) = eval o env := by intro _; rfl) (hline : (apos.endLine == cpos.line) = true := by rfl) (hp : plainE e = true := by rfl) :
    EOk G c k (.Call (.Attribute o "split" apos) [e] [] cpos) (dMt "str" mSplit d (aCons f aNil)) :=
  e_mt PySem.F.plainAttrs_str PySem.F.slot_str_split PySem.F.type_str_split (fun X U F => mt_split) o_split he (a_cons ha a_nil hp) hbase (fun env => by rw [starEach_plain hp]; rfl) hline (fun env => starEach_plain hp _ _)
/-! ### sorted, max, min, sum -/
def leI (i j : Int) : Bool := decide (i ≤ j)
def opSorted : OpA := fun ws S => match ws with
  | [w] => (listW w S).bind fun l => match intsOf l with
    | some ns => some (.ref S.length, S ++ [.lst ((ns.mergeSort leI).map W.int)])
    | none => none
  | _ => none
theorem leI_sorted (ns : List Int) : (ns.mergeSort leI).Pairwise (· ≤ ·) := by
  have := List.pairwise_mergeSort (le := leI) (fun a b c h1 h2 => by simp only [leI, decide_eq_true_eq] at *; omega) (fun a b => by simp only [leI, Bool.or_eq_true, decide_eq_true_eq]; omega) ns
  exact this.imp fun h => by simpa [leI] using h
theorem perm_sorted_eq : ∀ {as bs : List Int}, as.Perm bs → as.Pairwise (· ≤ ·) → bs.Pairwise (· ≤ ·) → as = bs := fun h h1 h2 =>
  h.eq_of_pairwise (fun a b _ _ => Int.le_antisymm) h1 h2
theorem o_sorted : OpAOk G (rSortedI G.K) opSorted := fun H ρ S ws vs w S' Q sr ra h q => by
  unfold opSorted at h
  split at h
  · rename_i w0
    cases ra with
    | cons r rs =>
      cases rs
      rw [Option.bind_eq_some_iff] at h
      obtain ⟨l, e1, h⟩ := h
      split at h
      · rename_i ns e2
        cases h
        obtain ⟨a, us, rfl, t, hs⟩ := listW_ok sr r e1
        have e3 := intsOf_ok t e2
        subst e3
        refine ⟨a, ns, rfl, hs, fun ns' p hp hw hn => ?_⟩
        have e : ns' = ns.mergeSort leI := perm_sorted_eq (hp.trans (List.mergeSort_perm ns leI).symm) hw (leI_sorted ns)
        subst e
        exact q.list sr (VRs.ints _) hn
      · cases h
  · cases h
theorem e_sorted {e : Expr} {d : DE} {p pos : Pos} (he : EOk G c k e d) (hm : G.mg "sorted" = none) (hg : c.sc.names.lookup ("sorted" : Str) = some .globalImplicit := by rfl) (hp : plainE e = true := by rfl) : EOk G c k (.Call (.Name "sorted" p) [e] [] pos) (dFn opSorted (aCons d aNil)) :=
  e_blt (fun X U F => by rw [← F.K]; exact cr_sortedI) o_sorted hm (by decide +kernel) (a_cons he a_nil hp) hg (by decide) (by decide) (fun env => starEach_plain hp _ _)
def maxI : List Int → Int
  | [] => 0
  | [x] => x
  | x :: y :: r => let m := maxI (y :: r); if x ≤ m then m else x
def minI : List Int → Int
  | [] => 0
  | [x] => x
  | x :: y :: r => let m := minI (y :: r); if x ≤ m then x else m
theorem maxI_spec : ∀ (ns : List Int), ns ≠ [] → maxI ns ∈ ns ∧ ∀ y ∈ ns, y ≤ maxI ns
  | [], h => absurd rfl h
  | [x], _ => ⟨List.mem_cons_self .., fun y hy => by rw [List.mem_singleton.mp hy]; exact Int.le_refl _⟩
  | x :: y :: r, _ => by
    have ih := maxI_spec (y :: r) (by simp)
    by_cases h : x ≤ maxI (y :: r)
    · have e : maxI (x :: y :: r) = maxI (y :: r) := if_pos h
      rw [e]
      exact ⟨List.mem_cons_of_mem _ ih.1, fun z hz => by
        rcases List.mem_cons.mp hz with rfl | hz
        · exact h
        · exact ih.2 z hz⟩
    · have e : maxI (x :: y :: r) = x := if_neg h
      rw [e]
      exact ⟨List.mem_cons_self .., fun z hz => by
        rcases List.mem_cons.mp hz with rfl | hz
        · exact Int.le_refl _
        · have := ih.2 z hz; omega⟩
theorem minI_spec : ∀ (ns : List Int), ns ≠ [] → minI ns ∈ ns ∧ ∀ y ∈ ns, minI ns ≤ y
  | [], h => absurd rfl h
  | [x], _ => ⟨List.mem_cons_self .., fun y hy => by rw [List.mem_singleton.mp hy]; exact Int.le_refl _⟩
  | x :: y :: r, _ => by
    have ih := minI_spec (y :: r) (by simp)
    by_cases h : x ≤ minI (y :: r)
    · have e : minI (x :: y :: r) = x := if_pos h
      rw [e]
      exact ⟨List.mem_cons_self .., fun z hz => by
        rcases List.mem_cons.mp hz with rfl | hz
        · exact Int.le_refl _
        · have := ih.2 z hz; omega⟩
    · have e : minI (x :: y :: r) = minI (y :: r) := if_neg h
      rw [e]
      exact ⟨List.mem_cons_of_mem _ ih.1, fun z hz => by
        rcases List.mem_cons.mp hz with rfl | hz
        · omega
        · exact ih.2 z hz⟩
def opMaxL : OpA := fun ws S => match ws with
  | [w] => (listW w S).bind fun l => (intsOf l).bind fun ns => if ns.isEmpty = false then some (.int (maxI ns), S) else none
  | _ => none
def opMinL : OpA := fun ws S => match ws with
  | [w] => (listW w S).bind fun l => (intsOf l).bind fun ns => if ns.isEmpty = false then some (.int (minI ns), S) else none
  | _ => none
theorem maxI_uniq {ns : List Int} {m : Int} (h : ns ≠ []) (h1 : m ∈ ns) (h2 : ∀ y ∈ ns, y ≤ m) : m = maxI ns := by
  have s := maxI_spec ns h
  have := h2 _ s.1
  have := s.2 _ h1
  omega
theorem minI_uniq {ns : List Int} {m : Int} (h : ns ≠ []) (h1 : m ∈ ns) (h2 : ∀ y ∈ ns, m ≤ y) : m = minI ns := by
  have s := minI_spec ns h
  have := h2 _ s.1
  have := s.2 _ h1
  omega
theorem o_maxL : OpAOk G (rMax G.K) opMaxL := fun H ρ S ws vs w S' Q sr ra h q => by
  unfold opMaxL at h
  split at h
  · cases ra with
    | cons r rs =>
      cases rs
      rw [Option.bind_eq_some_iff] at h
      obtain ⟨l, e1, h⟩ := h
      rw [Option.bind_eq_some_iff] at h
      obtain ⟨ns, e2, h⟩ := h
      split at h
      · rename_i hne
        cases h
        obtain ⟨a, us, rfl, t, hs⟩ := listW_ok sr r e1
        have e3 := intsOf_ok t e2
        subst e3
        have hn : ns ≠ [] := fun e => by rw [e] at hne; cases hne
        refine ⟨a, ns, rfl, hs, List.length_pos_iff.mpr hn, fun m h1 h2 => ?_⟩
        rw [maxI_uniq hn h1 h2]
        exact q.flat sr (.int _)
      · cases h
  · cases h
theorem o_minL : OpAOk G (rMin G.K) opMinL := fun H ρ S ws vs w S' Q sr ra h q => by
  unfold opMinL at h
  split at h
  · cases ra with
    | cons r rs =>
      cases rs
      rw [Option.bind_eq_some_iff] at h
      obtain ⟨l, e1, h⟩ := h
      rw [Option.bind_eq_some_iff] at h
      obtain ⟨ns, e2, h⟩ := h
      split at h
      · rename_i hne
        cases h
        obtain ⟨a, us, rfl, t, hs⟩ := listW_ok sr r e1
        have e3 := intsOf_ok t e2
        subst e3
        have hn : ns ≠ [] := fun e => by rw [e] at hne; cases hne
        refine ⟨a, ns, rfl, hs, List.length_pos_iff.mpr hn, fun m h1 h2 => ?_⟩
        rw [minI_uniq hn h1 h2]
        exact q.flat sr (.int _)
      · cases h
  · cases h
theorem e_maxL {e : Expr} {d : DE} {p pos : Pos} (he : EOk G c k e d) (hm : G.mg "max" = none) (hg : c.sc.names.lookup ("max" : Str) = some .globalImplicit := by rfl) (hp : plainE e = true := by rfl) (hh : c.hot = none := by rfl) : EOk G c k (.Call (.Name "max" p) [e] [] pos) (dFn opMaxL (aCons d aNil)) :=
  e_blt (fun X U F => by rw [← F.K]; exact cr_max (F.calm hh)) o_maxL hm (by decide +kernel) (a_cons he a_nil hp) hg (by decide) (by decide) (fun env => starEach_plain hp _ _)
theorem e_minL {e : Expr} {d : DE} {p pos : Pos} (he : EOk G c k e d) (hm : G.mg "min" = none) (hg : c.sc.names.lookup ("min" : Str) = some .globalImplicit := by rfl) (hp : plainE e = true := by rfl) (hh : c.hot = none := by rfl) : EOk G c k (.Call (.Name "min" p) [e] [] pos) (dFn opMinL (aCons d aNil)) :=
  e_blt (fun X U F => by rw [← F.K]; exact cr_min (F.calm hh)) o_minL hm (by decide +kernel) (a_cons he a_nil hp) hg (by decide) (by decide) (fun env => starEach_plain hp _ _)
theorem o_sum : OpAOk G (rSum G.K) opSum := fun H ρ S ws vs w S' Q sr ra h q => by
  unfold opSum at h
  split at h
  · cases ra with
    | cons r rs =>
      cases rs
      rw [Option.bind_eq_some_iff] at h
      obtain ⟨l, e1, h⟩ := h
      rw [Option.map_eq_some_iff] at h
      obtain ⟨ns, e2, h⟩ := h
      cases h
      obtain ⟨a, us, rfl, t, hs⟩ := listW_ok sr r e1
      have e3 := intsOf_ok t e2
      subst e3
      exact ⟨a, ns, rfl, hs, q.flat sr (.int _)⟩
  · cases h
theorem e_sum {e : Expr} {d : DE} {p pos : Pos} (he : EOk G c k e d) (hm : G.mg "sum" = none) (hg : c.sc.names.lookup ("sum" : Str) = some .globalImplicit := by rfl) (hp : plainE e = true := by rfl) (hh : c.hot = none := by rfl) : EOk G c k (.Call (.Name "sum" p) [e] [] pos) (dFn opSum (aCons d aNil)) :=
  e_blt (fun X U F => by rw [← F.K]; exact cr_sum (F.calm hh)) o_sum hm (by decide +kernel) (a_cons he a_nil hp) hg (by decide) (by decide) (fun env => starEach_plain hp _ _)
/-! ### xs[::-1] -/
def opRevL : Op1 := fun w S => (listW w S).map fun l => (.ref S.length, S ++ [.lst l.reverse])
theorem e_revL {e : Expr} {d : DE} {kk : Nat} {p1 p2 p3 pos : Pos} (he : EOk G c k e d) : EOk G c k (.Subscript e (.Slice none none (some (.UnaryOp .USub (.Constant (.int 1) kk p1) p2)) p3) pos) (dUn opRevL d) := fun X U F =>
  PE.imp (pe_revL (he X U F)) fun σ H Q ⟨ρ, ε, S, ev, sr, h⟩ => ⟨ρ, ε, S, ev, sr, (Rg.bind h).mono fun v H1 ⟨w, S1, ρ1, e1, s1, r1, q1⟩ => by
    obtain ⟨w', S2, hw, q2⟩ := Rg.lift q1
    unfold opRevL at hw
    rw [Option.map_eq_some_iff] at hw
    obtain ⟨l, e2, hw⟩ := hw
    cases hw
    obtain ⟨a, us, rfl, t, hs⟩ := listW_ok s1 r1 e2
    exact ⟨a, us, rfl, by rw [F.K]; exact hs, fun p hp => Wish.list q2 s1 t.reverse hp⟩⟩
/-! ### a = b = e -/
def dSet2 (i j : Nat) (d : DE) : DS := fun ε S => sBind (d ε) ε S fun w S' => .nx ((ε.set i (some w)).set j (some w)) S'
theorem s_set2 (i j : Nat) {x y : Str} {e : Expr} {d : DE} {px py pos : Pos} (he : EOk G c k e d) (hx : GOk G c k (.Name x px) (tgN i)) (hy : GOk G c k (.Name y py) (tgN j))
    (ha : ∀ env, (assignEach [.Name x px, .Name y py] env).map (·.2) = [assign (.Name x px) env, assign (.Name y py) env] := by intro _; rfl) (hw : ∀ env, swappedStores [.Name x px, .Name y py] e env = pure none := by intro _; rfl) : SOk G c k (.Assign [.Name x px, .Name y py] e pos) (dSet2 i j d) := fun X U F =>
  PS.imp (ps_asg2 (he X U F) (hx X U F) (hy X U F) (ha _) (hw _)) fun D σ H ⟨ρ, ε, S, ev, sr, h⟩ => ⟨ρ, ε, S, ev, sr, (Rg_sBind ev h).mono fun v H' ⟨w, S', ρ', e', s', r', q⟩ =>
    ⟨w, ε, ρ', S', _, r', ev.mono e', s', rfl, fun σ' ev' => ⟨w, _, ρ', S', _, r', ev', s', rfl, fun σ2 ev2 => q H' ρ' σ2 Ext.refl s' ev2⟩⟩⟩
/-! ### three names at once; a step -/
theorem s_par3 (i j l : Nat) {x y z : Str} {a b e : Expr} {da : DA} {px py pz pt pos : Pos} {kt k2 : Nat} {pt2 : Pos} (ha : AOk G c k [a, b, e] da) (hi : c.N[i]? = some x := by rfl) (hj : c.N[j]? = some y := by rfl) (hl : c.N[l]? = some z := by rfl) (hij : i ≠ j := by decide) (hil : i ≠ l := by decide) (hjl : j ≠ l := by decide)
    (hx : c.sc.names.lookup x = some .local := by rfl) (hy : c.sc.names.lookup y = some .local := by rfl) (hz : c.sc.names.lookup z = some .local := by rfl) (hk : c.sc.kind = .function := by rfl)
    (hw : swappedStores [.Tuple [.Name x px, .Name y py, .Name z pz] kt pt] (.Tuple [a, b, e] k2 pt2) (stdEnv c.sc) = pure (some [x, y, z]) := by rfl)
    (hs : ∀ env, swapsWithSole [.Tuple [.Name x px, .Name y py, .Name z pz] kt pt] (.Tuple [a, b, e] k2 pt2) pos.line env = pure false := by intro _; rfl) (hh : c.hot = none := by rfl) : SOk G c k (.Assign [.Tuple [.Name x px, .Name y py, .Name z pz] kt pt] (.Tuple [a, b, e] k2 pt2) pos) (dPar3 i j l da) := fun X U F =>
  PS.imp (ps_par3 (F.calm hh) F.nd (by rw [F.N]; exact hi) (by rw [F.N]; exact hj) (by rw [F.N]; exact hl) hij hil hjl (by rw [F.sc]; exact hx) (by rw [F.sc]; exact hy) (by rw [F.sc]; exact hz) (ha X U F) (by rw [swapped_std F.sc hk]; exact hw) (hs _)) fun D σ H ⟨ρ, ε, S, ev, sr, h⟩ => ⟨ρ, ε, S, ev, sr, (Rg_sBind ev h).mono fun vs H' ⟨ws, S', ρ', e', s', r', q⟩ => by
    cases r' with
    | nil => exact q.elim
    | cons r1 r' =>
      cases r' with
      | nil => exact q.elim
      | cons r2 r' =>
        cases r' with
        | nil => exact q.elim
        | cons r3 r' =>
          cases r' with
          | nil => exact ⟨_, _, _, rfl, q H' ρ' _ Ext.refl s' ((((ev.mono e').set i r1).set j r2).set l r3)⟩
          | cons _ _ => exact q.elim⟩
def dAugI (i : Nat) (f : Int → Int → Int) (d : DE) : DS := fun ε S => match ε[i]? with
  | some (some (.int a)) => sBind (d ε) ε S fun w S' => match w with
    | .int b => .nx (ε.set i (some (.int (f a b)))) S'
    | _ => .bad
  | _ => .bad
theorem s_aug (i : Nat) {x : Str} {e : Expr} {d : DE} {o : Operator} {f : Int → Int → Int} {px pos : Pos} (ho : ∀ X U, Fit G c k X U → PIp X o (ipI f)) (he : EOk G c k e d) (hN : c.N[i]? = some x := by rfl) (hx : Loc c.sc x := by first | exact Or.inl rfl | exact Or.inr rfl)
    (hf : c.fn x = true ∨ c.sc.names.lookup x = some .local := by first | exact .inl rfl | exact .inr rfl) : SOk G c k (.AugAssign (.Name x px) o e pos) (dAugI i f d) := fun X U F =>
  PS.imp (ps_aug (i := i) F.nd (by rw [F.N]; exact hN) (by rw [F.sc]; exact hx) (he X U F) (ho X U F) (hf.elim (fun z => .inl (F.fn x z)) fun z => .inr (by rw [F.sc]; exact z))) fun D σ H ⟨ρ, ε, S, ev, sr, h⟩ => by
    unfold dAugI at h
    split at h
    · rename_i a eq
      obtain ⟨v, hv, rv⟩ := ev.at_ i _ eq
      cases rv
      exact ⟨_, hv, ρ, ε, S, ev, sr, (Rg_sBind ev h).mono fun v H' ⟨w, S', ρ', e', s', r', q⟩ => by
        split at q
        · cases r'
          exact ⟨_, _, rfl, rfl, q H' ρ' _ Ext.refl s' ((ev.mono e').set i (.int _))⟩
        · exact q.elim⟩
    · exact h.elim
theorem s_augAdd (i : Nat) {x : Str} {e : Expr} {d : DE} {px pos : Pos} (he : EOk G c k e d) (hN : c.N[i]? = some x := by rfl) (hx : Loc c.sc x := by first | exact Or.inl rfl | exact Or.inr rfl)
    (hf : c.fn x = true ∨ c.sc.names.lookup x = some .local := by first | exact .inl rfl | exact .inr rfl) : SOk G c k (.AugAssign (.Name x px) .Add e pos) (dAugI i (fun a b => a + b) d) := s_aug i (fun X U F => ip_add) he hN hx hf
theorem s_augSub (i : Nat) {x : Str} {e : Expr} {d : DE} {px pos : Pos} (he : EOk G c k e d) (hN : c.N[i]? = some x := by rfl) (hx : Loc c.sc x := by first | exact Or.inl rfl | exact Or.inr rfl)
    (hf : c.fn x = true ∨ c.sc.names.lookup x = some .local := by first | exact .inl rfl | exact .inr rfl) : SOk G c k (.AugAssign (.Name x px) .Sub e pos) (dAugI i (fun a b => a - b) d) := s_aug i (fun X U F => ip_sub) he hN hx hf
end
end
end N
namespace N
open PySem PySem.Spec PyProof.Rows L2
noncomputable section
theorem PE.or {X : Cx} {e : Expr} {t t' : TE} (h : PE X e t) (h' : PE X e t') : PE X e (fun σ H Q => t σ H Q ∨ t' σ H Q) := ⟨fun pins s σ H Q I q => q.elim (h.run pins s σ H Q I) (h'.run pins s σ H Q I)⟩
theorem PS.or {X : Cx} {e : Stmt} {t t' : TS} (h : PS X e t) (h' : PS X e t') : PS X e (fun D σ H => t D σ H ∨ t' D σ H) := ⟨fun pins s σ H D I q => q.elim (h.run pins s σ H D I) (h'.run pins s σ H D I)⟩
/-- a key -/
def keyW : W → Option Key
  | .int i => some (.inl i)
  | .str x => some (.inr x)
  | _ => none
def getW (kvs : List (Key × W)) (k : Key) : Option W := (kvs.find? fun kv => decide (kv.1 = k)).map (·.2)
def putW (kvs : List (Key × W)) (k : Key) (v : W) : List (Key × W) :=
  if (kvs.any fun kv => decide (kv.1 = k)) = true then kvs.map (fun kv => if kv.1 = k then (kv.1, v) else kv) else kvs ++ [(k, v)]
section
variable {K : PySem.W.Frag} {H : Hp} {ρ : List Addr}
theorem keyW_ok {w : W} {v : V} {k : Key} (r : VR K H ρ w v) (e : keyW w = some k) : v = kV k := by
  unfold keyW at e
  cases r with
  | int i => cases e; rfl
  | str h => cases e; rfl
  | _ => cases e
theorem getW_ok {k : Key} : ∀ {kvs : List (Key × W)} {l : List (Key × V)}, FR K H ρ kvs l → match getW kvs k with
    | some w => ∃ v, valV l k = some v ∧ VR K H ρ w v
    | none => valV l k = none
  | _, _, .nil => rfl
  | p :: kvs, q :: l, .cons h t => by
    have ih := getW_ok (k := k) t
    by_cases e : p.1 = k
    · have e1 : getW (p :: kvs) k = some p.2 := by simp [getW, List.find?_cons, e]
      rw [e1]
      exact ⟨q.2, valV_pos (h.1 ▸ e), h.2⟩
    · have e1 : getW (p :: kvs) k = getW kvs k := by simp [getW, List.find?_cons, e]
      rw [e1, valV_neg (by rw [← h.1]; exact e)]
      exact ih
theorem any_same {k : Key} : ∀ {kvs : List (Key × W)} {l : List (Key × V)}, FR K H ρ kvs l → (kvs.any fun kv => decide (kv.1 = k)) = (l.any fun kv => decide (kv.1 = k))
  | _, _, .nil => rfl
  | p :: kvs, q :: l, .cons h t => by
    rw [List.any_cons, List.any_cons, any_same t, h.1]
theorem map_put {k : Key} {w : W} {v : V} (r : VR K H ρ w v) : ∀ {kvs : List (Key × W)} {l : List (Key × V)}, FR K H ρ kvs l → FR K H ρ (kvs.map fun kv => if kv.1 = k then (kv.1, w) else kv) (l.map fun kv => if kv.1 = k then (kv.1, v) else kv)
  | _, _, .nil => .nil
  | p :: kvs, q :: l, .cons h t => by
    refine .cons ?_ (map_put r t)
    dsimp only
    by_cases e : p.1 = k
    · rw [if_pos e, if_pos (h.1 ▸ e)]
      exact ⟨h.1, r⟩
    · rw [if_neg e, if_neg (by rw [← h.1]; exact e)]
      exact h
theorem FR.snoc {κ : Type} {p : κ × W} {q : κ × V} (r : p.1 = q.1 ∧ VR K H ρ p.2 q.2) : ∀ {kvs : List (κ × W)} {l : List (κ × V)}, FR K H ρ kvs l → FR K H ρ (kvs ++ [p]) (l ++ [q])
  | _, _, .nil => .cons r .nil
  | _, _, .cons h t => .cons h (FR.snoc r t)
theorem putW_ok {k : Key} {w : W} {v : V} {kvs : List (Key × W)} {l : List (Key × V)} (h : FR K H ρ kvs l) (r : VR K H ρ w v) : FR K H ρ (putW kvs k w) (putK l k v) := by
  unfold putW putK
  rw [any_same h]
  split
  · exact map_put r h
  · exact FR.snoc ⟨rfl, r⟩ h
theorem FR.length {κ : Type} : ∀ {kvs : List (κ × W)} {l : List (κ × V)}, FR K H ρ kvs l → kvs.length = l.length
  | _, _, .nil => rfl
  | _, _, .cons _ t => congrArg Nat.succ (FR.length t)
end
section
variable {G : Top} {c : Ctx} {k : Nat}
/-! ### d[y] -/
def opIxD : Op2 := fun a i S => match a with
  | .ref n => match S[n]? with
    | some (.dct kvs) => (keyW i).bind fun y => (getW kvs y).map fun w => (w, S)
    | _ => opIx a i S
  | _ => opIx a i S
theorem getW_some {K : PySem.W.Frag} {H : Hp} {ρ : List Addr} {kvs : List (Key × W)} {l : List (Key × V)} {k : Key} {w : W} (h : FR K H ρ kvs l) (e : getW kvs k = some w) : ∃ v, valV l k = some v ∧ VR K H ρ w v := by
  have := getW_ok (k := k) h
  rw [e] at this
  exact this
theorem e_ixD {a i : Expr} {d e : DE} {pos : Pos} (ha : EOk G c k a d) (hi : EOk G c k i e) (h0 : EOk G c k (.Subscript a i pos) (dOp opIx d e)) (hs : NoSl i := by intro _ _; rfl) : EOk G c k (.Subscript a i pos) (dOp opIxD d e) := fun X U F =>
  PE.imp (PE.or (h0 X U F) (pe_dget (by have := F.room.un; omega) (ha X U F) (hi X U F) hs)) fun σ H Q ⟨ρ, ε, S, ev, sr, h⟩ => by
    have h' : Rg G U σ (VR G.K) (M.bind (d ε) (fun x => M.bind (e ε) (fun y => lift (opIxD x y))) S) H ρ Q := h
    unfold M.bind at h'
    cases q : d ε S with
    | bad => rw [q] at h'; exact h'.elim
    | exc x S1 =>
      rw [q] at h'
      refine .inl ⟨ρ, ε, S, ev, sr, ?_⟩
      show Rg G U σ (VR G.K) (M.bind (d ε) (fun x => M.bind (e ε) (fun y => lift (opIx x y))) S) H ρ Q
      unfold M.bind
      rw [q]
      exact h'
    | ok w S1 =>
      rw [q] at h'
      simp only at h'
      cases q2 : e ε S1 with
      | bad => rw [q2] at h'; exact h'.elim
      | exc x S2 =>
        rw [q2] at h'
        refine .inl ⟨ρ, ε, S, ev, sr, ?_⟩
        show Rg G U σ (VR G.K) (M.bind (d ε) (fun x => M.bind (e ε) (fun y => lift (opIx x y))) S) H ρ Q
        unfold M.bind
        rw [q]
        simp only
        rw [q2]
        exact h'
      | ok b S2 =>
        rw [q2] at h'
        simp only at h'
        by_cases hd : ∃ n kvs, w = .ref n ∧ S2[n]? = some (.dct kvs)
        · obtain ⟨n, kvs, rfl, eo⟩ := hd
          refine .inr ⟨ρ, ε, S, ev, sr, Rg.okD q fun H1 ρ1 x e1 s1 r1 => ⟨ρ1, ε, S1, ev.mono e1, s1, Rg.okD q2 fun H2 ρ2 y e2 s2 r2 => ?_⟩⟩
          have r1' := r1.mono e2
          cases r1' with
          | ref hn =>
            obtain ⟨l, z, fr⟩ := s2.ob _ _ _ hn eo
            have e3 : opIxD (.ref n) b S2 = (keyW b).bind fun y => (getW kvs y).map fun w => (w, S2) := by
              unfold opIxD
              simp only [eo]
            unfold lift at h'
            rw [e3] at h'
            cases ek : keyW b with
            | none => rw [ek] at h'; exact h'.elim
            | some ky =>
              rw [ek] at h'
              cases ew : getW kvs ky with
              | none => simp only [Option.bind_some, ew, Option.map_none] at h'; exact h'.elim
              | some w1 =>
                simp only [Option.bind_some, ew, Option.map_some] at h'
                obtain ⟨v1, ev1, rv1⟩ := getW_some fr ew
                have hk := keyW_ok r2 ek
                subst hk
                refine ⟨_, v1, rfl, ev1 ▸ DGet.k z, ?_⟩
                have h2 : ∀ H' ρ' b, Ext G.K H ρ H' ρ' → SR G H' ρ' S2 → VR G.K H' ρ' w1 b → Q b H' := h'
                exact h2 _ _ _ (e1.trans e2) s2 rv1
        · have e3 : opIxD w b S2 = opIx w b S2 := by
            unfold opIxD
            split
            · rename_i n
              split
              · rename_i kvs eo
                exact absurd ⟨n, kvs, rfl, eo⟩ hd
              · rfl
            · rfl
          refine .inl ⟨ρ, ε, S, ev, sr, ?_⟩
          show Rg G U σ (VR G.K) (M.bind (d ε) (fun x => M.bind (e ε) (fun y => lift (opIx x y))) S) H ρ Q
          unfold M.bind
          rw [q]
          simp only
          rw [q2]
          simp only
          unfold lift at h' ⊢
          rw [e3] at h'
          exact h'
/-- {} -/
def dDict0 : DE := fun _ => alloc (.dct [])
theorem e_dict0 {pos : Pos} : EOk G c k (.Dict [] [] pos) dDict0 := fun X U F =>
  PE.imp pe_dnewK fun σ H Q ⟨ρ, ε, S, ev, sr, h⟩ p hp => by
    have h2 : ∀ H' ρ' b, Ext G.K H ρ H' ρ' → SR G H' ρ' (S ++ [.dct []]) → VR G.K H' ρ' (.ref S.length) b → Q b H' := h
    have e : Ext G.K H ρ (upd H p (.dK [])) (ρ ++ [p]) := Ext.snoc hp
    refine h2 _ _ _ e (sr.snoc hp ⟨[], upd_same, .nil⟩) (.ref ?_)
    rw [← sr.len, List.getElem?_append_right (Nat.le_refl _)]
    simp
/-! ### d[y] = v -/
def setIxD (o i v : W) (S : Store) : Option Store := match o with
  | .ref n => match S[n]? with
    | some (.dct kvs) => (keyW i).bind fun y => if kvs.length < sizeLine then some (S.set n (.dct (putW kvs y v))) else none
    | _ => setIx o i v S
  | _ => setIx o i v S
def dPutD (d o i : DE) : DS := fun ε S => sBind (d ε) ε S fun v S1 => sBind (o ε) ε S1 fun w S2 => sBind (i ε) ε S2 fun j S3 => match setIxD w j v S3 with
  | some S4 => .nx ε S4
  | none => .bad
theorem s_putD {o i e : Expr} {d d0 di : DE} {spos pos : Pos} (he : EOk G c k e d) (ho : EOk G c k o d0) (hi : EOk G c k i di) (h0 : SOk G c k (.Assign [.Subscript o i spos] e pos) (dPut d d0 di))
    (hs : ∀ env, swapsWith e (some (.Subscript o i spos)) pos.line env = pure false := by intro _; rfl) : SOk G c k (.Assign [.Subscript o i spos] e pos) (dPutD d d0 di) := fun X U F =>
  PS.imp (PS.or (h0 X U F) (ps_dput (by have := F.room.un; omega) (ho X U F) (hi X U F) (he X U F) (hs _))) fun D σ H ⟨ρ, ε, S, ev, sr, h⟩ => by
    unfold dPutD sBind at h
    cases q : d ε S with
    | bad => rw [q] at h; exact h.elim
    | exc x S1 =>
      rw [q] at h
      refine .inl ⟨ρ, ε, S, ev, sr, ?_⟩
      unfold dPut sBind
      rw [q]
      exact h
    | ok v S1 =>
      rw [q] at h
      simp only at h
      cases q2 : d0 ε S1 with
      | bad => rw [q2] at h; exact h.elim
      | exc x S2 =>
        rw [q2] at h
        refine .inl ⟨ρ, ε, S, ev, sr, ?_⟩
        unfold dPut sBind
        rw [q]
        simp only
        rw [q2]
        exact h
      | ok w S2 =>
        rw [q2] at h
        simp only at h
        cases q3 : di ε S2 with
        | bad => rw [q3] at h; exact h.elim
        | exc x S3 =>
          rw [q3] at h
          refine .inl ⟨ρ, ε, S, ev, sr, ?_⟩
          unfold dPut sBind
          rw [q]
          simp only
          rw [q2]
          simp only
          rw [q3]
          exact h
        | ok b S3 =>
          rw [q3] at h
          simp only at h
          by_cases hd : ∃ n kvs, w = .ref n ∧ S3[n]? = some (.dct kvs)
          · obtain ⟨n, kvs, rfl, eo⟩ := hd
            have e3 : setIxD (.ref n) b v S3 = (keyW b).bind fun y => if kvs.length < sizeLine then some (S3.set n (.dct (putW kvs y v))) else none := by
              unfold setIxD
              simp only [eo]
            rw [e3] at h
            cases ek : keyW b with
            | none => rw [ek] at h; exact h.elim
            | some ky =>
              rw [ek] at h
              simp only [Option.bind_some] at h
              by_cases hl : kvs.length < sizeLine
              · rw [if_pos hl] at h
                refine .inr ⟨ρ, ε, S, ev, sr, Rg.okD q fun H1 ρ1 y1 e1 s1 r1 => ⟨ρ1, ε, S1, ev.mono e1, s1, Rg.okD q2 fun H2 ρ2 x e2 s2 r2 => ⟨ρ2, ε, S2, (ev.mono e1).mono e2, s2, Rg.okD q3 fun H3 ρ3 y e4 s3 r3 => ?_⟩⟩⟩
                have r2' := r2.mono e4
                cases r2' with
                | ref hn =>
                  obtain ⟨l, z, fr⟩ := s3.ob _ _ _ hn eo
                  have hk := keyW_ok r3 ek
                  subst hk
                  have rv := (r1.mono e2).mono e4
                  have e5 : Ext G.K H3 ρ3 (upd H3 _ (.dK (putK l ky y1))) ρ3 := Ext.upd hn z trivial
                  refine ⟨_, _, rfl, DPut.k z (by rw [← FR.length fr]; exact hl), ?_⟩
                  exact h _ ρ3 σ (e1.trans (e2.trans (e4.trans e5))) (s3.upd hn z trivial ⟨_, upd_same, FR.mono e5 (putW_ok fr rv)⟩) ((((ev.mono e1).mono e2).mono e4).mono e5)
              · rw [if_neg hl] at h; exact h.elim
          · have e3 : setIxD w b v S3 = setIx w b v S3 := by
              unfold setIxD
              split
              · rename_i n
                split
                · rename_i kvs eo
                  exact absurd ⟨n, kvs, rfl, eo⟩ hd
                · rfl
              · rfl
            refine .inl ⟨ρ, ε, S, ev, sr, ?_⟩
            unfold dPut sBind
            rw [q]
            simp only
            rw [q2]
            simp only
            rw [q3]
            simp only
            rw [e3] at h
            exact h
/-! ### sorted: texts, a dict's keys -/
/-- the one sorted list of these texts -/
def sortStrs (ks : List Str) : Option (List Str) := open Classical in
  if h : ∃ ys : List Str, ys.Perm ks ∧ sortedS ys = true ∧ ∀ zs : List Str, zs.Perm ks → sortedS zs = true → zs = ys then some h.choose else none
theorem sortStrs_of {ks ys : List Str} (h1 : ys.Perm ks) (h2 : sortedS ys = true) (h3 : ∀ zs : List Str, zs.Perm ks → sortedS zs = true → zs = ys) : sortStrs ks = some ys := by
  have h : ∃ ys : List Str, ys.Perm ks ∧ sortedS ys = true ∧ ∀ zs : List Str, zs.Perm ks → sortedS zs = true → zs = ys := ⟨ys, h1, h2, h3⟩
  unfold sortStrs
  rw [dif_pos h]
  exact congrArg some (h3 _ h.choose_spec.1 h.choose_spec.2.1)
theorem sortStrs_spec {ks ys zs : List Str} (e : sortStrs ks = some ys) (h1 : zs.Perm ks) (h2 : sortedS zs = true) : zs = ys := by
  unfold sortStrs at e
  split at e
  · rename_i h
    cases e
    exact h.choose_spec.2.2 zs h1 h2
  · cases e
def keyStrs : List Key → Option (List Str)
  | [] => some []
  | .inr x :: ks => (keyStrs ks).map (x :: ·)
  | .inl _ :: _ => none
theorem keyStrs_ok : ∀ {ks : List Key} {xs : List Str}, keyStrs ks = some xs → ks = xs.map Sum.inr
  | [], xs, e => by cases e; rfl
  | .inr x :: ks, xs, e => by
    unfold keyStrs at e
    rw [Option.map_eq_some_iff] at e
    obtain ⟨ys, e1, rfl⟩ := e
    rw [keyStrs_ok e1]; rfl
  | .inl _ :: _, _, e => by cases e
/-- sorted(x): a list of texts (fewer than 64), or a dict's keys -/
def opSortS : OpA := fun ws S => match ws with
  | [.ref n] => match S[n]? with
    | some (.dct kvs) => (keyStrs (kvs.map (·.1))).bind fun ks => if ks.length < 64 ∧ ks.all okS = true then (sortStrs ks).map fun ys => (.ref S.length, S ++ [.lst (ys.map W.str)]) else none
    | some (.lst l) => (strsOf l).bind fun ks => if ks.length < 64 then (sortStrs ks).map fun ys => (.ref S.length, S ++ [.lst (ys.map W.str)]) else none
    | _ => none
  | _ => none
theorem keys_same {K : PySem.W.Frag} {H : Hp} {ρ : List Addr} : ∀ {kvs : List (Key × W)} {l : List (Key × V)}, FR K H ρ kvs l → kvs.map (·.1) = l.map (·.1)
  | _, _, .nil => rfl
  | _, _, .cons h t => by rw [List.map_cons, List.map_cons, keys_same t, h.1]
theorem all_perm {ks ys : List Str} (h : ys.Perm ks) (e : ks.all okS = true) : ys.all okS = true := by
  rw [List.all_eq_true] at e ⊢
  exact fun x hx => e x (h.mem_iff.mp hx)
theorem sortStrs_perm {ks ys : List Str} (e : sortStrs ks = some ys) : ys.Perm ks := by
  unfold sortStrs at e
  split at e
  · rename_i h; cases e; exact h.choose_spec.1
  · cases e
theorem o_sortS : OpAOk G (fun xs H Q => rSortedS G.K xs H Q ∨ ∃ (a : Addr) (kvs : List (Key × V)) (ks : List Str), xs = [.ref a] ∧ Rd H a (.dK kvs) ∧ kvs.map (·.1) = ks.map Sum.inr ∧ ks.length < 64 ∧
    ∀ ys p, ys.Perm ks → sortedS ys = true → H p = none → Q (.ref p) (upd H p (.lst (ys.map V.str)))) opSortS := fun H ρ S ws vs w S' Q sr ra h q => by
  unfold opSortS at h
  split at h
  · rename_i n
    cases ra with
    | cons r rs =>
      cases rs
      cases r with
      | ref hn =>
        split at h
        · rename_i kvs eo
          rw [Option.bind_eq_some_iff] at h
          obtain ⟨ks, e1, h⟩ := h
          split at h
          · rename_i hz
            rw [Option.map_eq_some_iff] at h
            obtain ⟨ys, e2, h⟩ := h
            cases h
            obtain ⟨l, z, fr⟩ := sr.ob _ _ _ hn eo
            refine .inr ⟨_, l, ks, rfl, .inl z, by rw [← keys_same fr]; exact keyStrs_ok e1, hz.1, fun zs p hp hs hn => ?_⟩
            have := sortStrs_spec e2 hp hs
            subst this
            exact q.list sr (VRs.strs (all_perm hp hz.2)) hn
          · cases h
        · rename_i l eo
          rw [Option.bind_eq_some_iff] at h
          obtain ⟨ks, e1, h⟩ := h
          split at h
          · rename_i hz
            rw [Option.map_eq_some_iff] at h
            obtain ⟨ys, e2, h⟩ := h
            cases h
            obtain ⟨vs, z, t⟩ := sr.ob _ _ _ hn eo
            obtain ⟨e3, hok⟩ := strsOf_ok t e1
            subst e3
            refine .inl ⟨_, ks, rfl, .of z, hz, fun zs p hp hs hn => ?_⟩
            have := sortStrs_spec e2 hp hs
            subst this
            exact q.list sr (VRs.strs (all_perm hp (List.all_eq_true.mpr hok))) hn
          · cases h
        · cases h
  · cases h
theorem e_sortS {e : Expr} {d : DE} {p pos : Pos} (he : EOk G c k e d) (hm : G.mg "sorted" = none) (hg : c.sc.names.lookup ("sorted" : Str) = some .globalImplicit := by rfl) (hp : plainE e = true := by rfl) (hh : c.hot = none := by rfl) : EOk G c k (.Call (.Name "sorted" p) [e] [] pos) (dFn opSortS (aCons d aNil)) :=
  e_blt (fun X U F => fun pins s σ H xs us Q I r q => by
    rcases q with q | q
    · exact cr_sortedS pins s σ H xs us Q I r (by rw [F.K]; exact q)
    · exact call_sortedD (F.calm hh) pins s σ H xs us Q I r q) o_sortS hm (by decide +kernel) (a_cons he a_nil hp) hg (by decide) (by decide) (fun env => starEach_plain hp _ _)
end
end
end N
namespace N
open PySem PySem.Spec PyProof.Rows L2
noncomputable section
section
variable {G : Top} {c : Ctx} {k : Nat}
/-- hi, hi - 1, .. (n of them) -/
def dngW (hi : Int) (n : Nat) : List W := (List.range n).map fun i : Nat => W.int (hi - (i : Int))
def dRng3 (a : DA) : DI := fun ε => a ε >>= fun ws => fun S => match ws with
  | [.int i, .int j, .int c] => if c = -1 ∧ (bnd i && bnd j) = true then .ok ⟨dngW i (i - j).toNat, fun _ => True⟩ S else .bad
  | _ => .bad
theorem good_dng {H : Hp} {ρ : List Addr} (lo : Int) (n : Nat) : Good G H ρ ⟨dngW lo n, fun _ => True⟩ (Itc lo (-1) n) := fun H2 ρ2 S2 e sr g => by
  refine ⟨fun i w hi => ?_, ?_⟩
  · unfold dngW at hi
    rw [List.getElem?_map] at hi
    have hl : i < n := by
      have := (List.getElem?_eq_some_iff.mp (show ((List.range n).map fun i : Nat => W.int (lo - (i : Int)))[i]? = some w by rw [List.getElem?_map]; exact hi)).1
      simpa using this
    rw [List.getElem?_range hl] at hi
    cases hi
    refine ⟨hl, fun v H3 hy => ?_⟩
    obtain ⟨rfl, rfl⟩ := hy
    refine ⟨Ext.refl, sr, ?_⟩
    rw [show lo + (i : Int) * -1 = lo - (i : Int) by omega]
    exact .int _
  · show n ≤ (dngW lo n).length
    simp [dngW]
theorem i_rng3 {tg e f g3 : Expr} {d g d3 : DE} {p pos : Pos} (he : EOk G c k e d) (hf : EOk G c k f g) (h3 : EOk G c k g3 d3) (hm : G.mg "range" = none) (hg : c.sc.names.lookup ("range" : Str) = some .globalImplicit := by rfl) (hp : plainE e = true := by rfl) (hq : plainE f = true := by rfl) (hr : plainE g3 = true := by rfl) : IOk G c k tg (.Call (.Name "range" p) [e, f, g3] [] pos) (dRng3 (aCons d (aCons g (aCons d3 aNil)))) := fun X U F =>
  PI.imp (pi_range3 (glob_of F hg) (by rw [F.mg]; exact hm) (a_cons he (a_cons hf (a_cons h3 a_nil hr) hq) hp X U F) (starEach_plain hp _ _) (by rw [starEach_plain hq, starEach_plain hr]; rfl)) fun σ H Q ⟨ρ, ε, S, ev, sr, h⟩ => ⟨ρ, ε, S, ev, sr, (Rg.bind h).mono fun vs H1 ⟨ws, S1, ρ1, e1, s1, r1, h1⟩ => by
    split at h1
    · rename_i i j c0
      cases r1 with
      | cons r rs =>
        cases rs with
        | cons r2 rs =>
          cases rs with
          | cons r3 rs =>
            cases rs
            cases r
            cases r2
            cases r3
            split at h1
            · rename_i hb
              obtain ⟨hc, hb⟩ := hb
              subst hc
              rw [Bool.and_eq_true] at hb
              have h2 := of_decide_eq_true hb.1
              have h3 := of_decide_eq_true hb.2
              exact ⟨i, j, -1, (i - j).toNat, rfl, RgC.neg h2.1 h2.2 h3.1 h3.2, h1 H1 ρ1 _ Ext.refl s1 (good_dng i (i - j).toNat)⟩
            · exact h1.elim
    · exact h1.elim⟩
end
end
/-! ### a, b = constants -/
theorem swapped_fold {ts vs : List Expr} {k k2 : Nat} {p p2 : Pos} {env : Env} (h : vs.all (foldedForSure 8) = true) : swappedStores [.Tuple ts k p] (.Tuple vs k2 p2) env = pure none := by
  unfold swappedStores
  simp only [h, if_true]
  repeat' split
  all_goals rfl
/-! ### plain rules -/
theorem dngW_len {hi : Int} {n : Nat} : (dngW hi n).length = n := by simp [dngW]
theorem dngW_get {hi : Int} {n i : Nat} {w : W} (h : (dngW hi n)[i]? = some w) : i < n ∧ w = .int (hi - (i : Int)) := by
  have hl : i < n := by simpa [dngW] using (List.getElem?_eq_some_iff.mp h).1
  unfold dngW at h
  rw [List.getElem?_map, List.getElem?_range hl] at h
  exact ⟨hl, by simpa using h.symm⟩
end N
namespace N
open PySem PySem.Spec PyProof.Rows L2
noncomputable section
section
variable {G : Top} {c : Ctx} {k : Nat}
/-! ### {x: i} -/
def dDict1 (x : Str) (i : Int) : DE := fun _ => alloc (.dct [(.inr x, .int i)])
theorem upd_twice {H : Hp} {p : Addr} {a b : HO} : upd (upd H p a) p b = upd H p b := by
  funext q
  unfold upd
  split <;> rfl
theorem e_dict1 {x : Str} {i : Int} {j j' : Nat} {p p' pos : Pos} : EOk G c k (.Dict [some (.Constant (.str x) j p)] [.Constant (.int i) j' p'] pos) (dDict1 x i) := fun X U F =>
  PE.imp (pe_disp (pps_cons pe_str pe_int pps_nil) rfl rfl (by simp) (by simp)) fun σ H Q ⟨ρ, ε, S, ev, sr, h⟩ q hq => by
    have h2 : ∀ H' ρ' b, Ext G.K H ρ H' ρ' → SR G H' ρ' (S ++ [.dct [(.inr x, .int i)]]) → VR G.K H' ρ' (.ref S.length) b → Q b H' := h
    refine ⟨upd_same, [(.inr x, .int i)], rfl, by simp, ?_⟩
    rw [upd_twice]
    have e : Ext G.K H ρ (upd H q (.dK [(.inr x, .int i)])) (ρ ++ [q]) := Ext.snoc hq
    refine h2 _ _ _ e (sr.snoc hq ⟨_, upd_same, .cons ⟨rfl, .int i⟩ .nil⟩) (.ref ?_)
    rw [← sr.len, List.getElem?_append_right (Nat.le_refl _)]
    simp
/-! ### data with dicts of flat values in it -/
def kD : Key → PyData
  | .inl i => .int i
  | .inr x => .str x
def kOk : Key → Bool
  | .inl _ => true
  | .inr x => okS x
def flD : W → Option PyData
  | .non => some .none
  | .bl b => some (.bool b)
  | .int i => some (.int i)
  | .str x => some (.str x)
  | _ => none
def pairD (kv : Key × W) : Option (PyData × PyData) := if kOk kv.1 = true then (flD kv.2).map fun d => (kD kv.1, d) else none
def toD1 (S : Store) (w : W) : Option PyData := match toD S deep w with
  | some d => some d
  | none => match w with
    | .ref n => match S[n]? with
      | some (.dct kvs) => (mapO pairD kvs).map .dict
      | _ => none
    | _ => none
inductive FlV : V → PyData → Prop
  | non : FlV .non .none
  | bl (b : Bool) : FlV (.bl b) (.bool b)
  | int (i : Int) : FlV (.int i) (.int i)
  | str (x : Str) : FlV (.str x) (.str x)
inductive FlKv : List (Key × V) → List (PyData × PyData) → Prop
  | nil : FlKv [] []
  | cons {y : Key} {v : V} {d : PyData} {l : List (Key × V)} {m : List (PyData × PyData)} : FlV v d → FlKv l m → FlKv ((y, v) :: l) ((kD y, d) :: m)
/-- data without dicts, or a dict of flat values -/
def D1 (K : PySem.W.Frag) (H : Hp) (v : V) (d : PyData) : Prop := (Dp K H v d ∧ d.canLay0 = true ∧ d.depth ≤ 50) ∨ ∃ a l m, v = .ref a ∧ d = .dict m ∧ H a = some (.dK l) ∧ FlKv l m ∧ PyData.depthKv m = 0
inductive D1All (K : PySem.W.Frag) (H : Hp) : List V → List PyData → Prop
  | nil : D1All K H [] []
  | cons {v : V} {vs : List V} {d : PyData} {ds : List PyData} : D1 K H v d → D1All K H vs ds → D1All K H (v :: vs) (d :: ds)
theorem flD_ok {H : Hp} {ρ : List Addr} {w : W} {v : V} {d : PyData} (r : VR G.K H ρ w v) (e : flD w = some d) : FlV v d ∧ okS d.shown = true ∧ d.depth = 0 := by
  cases r with
  | non => cases e; exact ⟨.non, by rw [PyData.shown_none]; exact okS_of _, rfl⟩
  | bl b => cases e; exact ⟨.bl b, by rw [PyData.shown_bool]; split <;> exact okS_of _, rfl⟩
  | int i => cases e; exact ⟨.int i, by rw [PyData.shown_int]; exact okS_of _, rfl⟩
  | str hx => cases e; exact ⟨.str _, by rw [PyData.shown_str]; exact okS_repr hx, rfl⟩
  | ref _ => cases e
  | tup _ _ => cases e
  | rl _ _ => cases e
  | exn0 => cases e
  | exnD _ _ _ _ => cases e
theorem kD_ok {y : Key} (h : kOk y = true) : okS (kD y).shown = true ∧ (kD y).depth = 0 := by
  cases y with
  | inl i => exact ⟨by unfold kD; rw [PyData.shown_int]; exact okS_of _, rfl⟩
  | inr x => exact ⟨by unfold kD; rw [PyData.shown_str]; exact okS_repr h, rfl⟩
theorem pairs_ok {H : Hp} {ρ : List Addr} : ∀ {kvs : List (Key × W)} {l : List (Key × V)} {m : List (PyData × PyData)}, FR G.K H ρ kvs l → mapO pairD kvs = some m → FlKv l m ∧ (∀ t ∈ PyData.shownKv m, okS t = true) ∧ PyData.depthKv m = 0
  | _, _, m, .nil, e => by
    cases e
    exact ⟨.nil, fun t ht => by simp [PyData.shownKv] at ht, rfl⟩
  | (y, w) :: kvs, (y', v) :: l, m, .cons hv tv, e => by
    obtain ⟨e0, r0⟩ := hv
    have e0 : y = y' := e0
    subst e0
    rw [mapO] at e
    cases z : pairD (y, w) with
    | none => rw [z] at e; cases e
    | some pd =>
      cases z2 : mapO pairD kvs with
      | none => rw [z, z2] at e; cases e
      | some m2 =>
        rw [z, z2] at e
        cases e
        obtain ⟨a1, a2, a3⟩ := pairs_ok tv z2
        unfold pairD at z
        split at z
        · rename_i hk
          rw [Option.map_eq_some_iff] at z
          obtain ⟨d, zd, rfl⟩ := z
          obtain ⟨b1, b2, b3⟩ := flD_ok (G := G) r0 zd
          have kk := kD_ok hk
          refine ⟨.cons b1 a1, fun t ht => ?_, ?_⟩
          · rw [PyData.shownKv] at ht
            rcases List.mem_cons.mp ht with q | q
            · rw [q]; exact okS_append (okS_append kk.1 (okS_of _)) b2
            · exact a2 t q
          · rw [PyData.depthKv, a3, kk.2, b3]; rfl
        · cases z
theorem toD1_ok {H : Hp} {ρ : List Addr} {S : Store} (sr : SR G H ρ S) {w : W} {v : V} {d : PyData} (r : VR G.K H ρ w v) (e : toD1 S w = some d) : D1 G.K H v d ∧ okS d.shown = true := by
  unfold toD1 at e
  cases z : toD S deep w with
  | some d' =>
    rw [z] at e
    cases e
    obtain ⟨x1, x2, x3⟩ := toD_ok sr deep r z
    exact ⟨.inl ⟨x1, x2, x3⟩, okS_shown d x2⟩
  | none =>
    rw [z] at e
    cases r with
    | @ref m a q =>
      cases ho : S[m]? with
      | none => simp only [ho] at e; cases e
      | some o =>
        simp only [ho] at e
        have ob := sr.ob m a o q ho
        cases o with
        | dct kvs =>
          obtain ⟨l, z1, z2⟩ := ob
          simp only [Option.map_eq_some_iff] at e
          obtain ⟨md, z3, rfl⟩ := e
          obtain ⟨x1, x2, x3⟩ := pairs_ok z2 z3
          refine ⟨.inr ⟨a, l, md, rfl, rfl, z1, x1, x3⟩, ?_⟩
          rw [PyData.shown]
          exact okS_append (okS_append (okS_of _) (okS_join (okS_of _) _ x2)) (okS_of _)
        | lst ws => cases e
        | ins c fs => cases e
        | fdct kvs => cases e
    | non => cases e
    | bl b => cases e
    | int i => cases e
    | str hx => cases e
    | tup q t => cases e
    | rl q t => cases e
    | exn0 => cases e
    | exnD _ _ _ _ => cases e
theorem toD1s_ok {H : Hp} {ρ : List Addr} {S : Store} (sr : SR G H ρ S) : ∀ {ws : List W} {vs : List V} {ds : List PyData}, VRs G.K H ρ ws vs → mapO (toD1 S) ws = some ds → D1All G.K H vs ds ∧ (∀ t ∈ PyData.shownAll ds, okS t = true)
  | [], _, ds, .nil, z => by
    cases z
    exact ⟨.nil, fun t ht => (by simp [PyData.shownAll] at ht)⟩
  | w :: ws, _, ds, .cons r1 rs, z => by
    rw [mapO] at z
    cases z1 : toD1 S w with
    | none => rw [z1] at z; cases z
    | some d1 =>
      cases z2 : mapO (toD1 S) ws with
      | none => rw [z1, z2] at z; cases z
      | some ds1 =>
        rw [z1, z2] at z
        cases z
        obtain ⟨a1, a2⟩ := toD1_ok sr r1 z1
        obtain ⟨b1, b2⟩ := toD1s_ok sr rs z2
        refine ⟨.cons a1 b1, fun t ht => ?_⟩
        rw [PyData.shownAll_cons] at ht
        rcases List.mem_cons.mp ht with q | q
        · rw [q]; exact a2
        · exact b2 t q
/-! ### read off the heap -/
section
variable {X : Cx} {pins : List (Addr × Obj)} {σ : L2.St} {H : Hp} {s : Shared}
theorem flV_reads {v : V} {d : PyData} {u : Value} {h : Heap} (f : FlV v d) (r : RelV v u) : Reads h u d [] := by
  cases f with
  | non => cases r; exact Reads.none
  | bl b => cases r; exact Reads.bool b
  | int i => obtain ⟨tk, rfl⟩ := r; exact Reads.int i tk
  | str x => obtain ⟨tk, rfl⟩ := r; exact Reads.str x tk
theorem kv_reads {P : Program} {w : World} {h : Heap} : ∀ {l : List (Key × V)} {md : List (PyData × PyData)} {vs : List (Key × Value)} {es : List DictEntry}, FlKv l md → KV l vs → Pairs (mixKind P w) es vs →
    ReadsAll h (es.map (·.key)) (md.map (·.1)) [] ∧ ReadsAll h (es.map (·.val)) (md.map (·.2)) []
  | _, _, vs, es, .nil, kv, pr => by
    cases kv
    cases pr
    exact ⟨.nil, .nil⟩
  | _, _, vs, es, .cons f t, kv, pr => by
    cases kv with
    | cons hv tv =>
      cases pr with
      | cons hi he tp =>
        have e1 := hv.1
        have e2 := hv.2
        have ih := kv_reads (h := h) t tv tp
        have rk : ∀ {y : Key} {u : Value}, (mixKind P w).is y u = true → Reads h u (kD y) [] := fun {y u} hu => by
          rcases keyIs_shape hu with ⟨i, tk, rfl, rfl⟩ | ⟨x, tk, rfl, rfl⟩
          · exact Reads.int i tk
          · exact Reads.str x tk
        rw [← e1] at hi
        refine ⟨?_, ?_⟩
        · exact ReadsAll.cons (as := []) (bs := []) (rk hi) ih.1
        · refine ReadsAll.cons (as := []) (bs := []) ?_ ih.2
          have r2 := flV_reads (h := h) f e2
          rw [← he] at r2
          exact r2
theorem D1.reads (I : Inv X pins σ H s) {d : PyData} {v : V} {u : Value} (q : D1 X.K H v d) (r : RelV v u) : ∃ as, Reads s.heap u d as ∧ (d.hasDict = true → sysModules ∉ as) := by
  rcases q with ⟨q, c, _⟩ | ⟨a, l, m, rfl, rfl, ha, hkv, _⟩
  · obtain ⟨as, h1⟩ := Dp.reads I d v u q r
    exact ⟨as, h1, PyData.noDict_hsm (PyData.hasDict_of_canLay d c)⟩
  · cases r
    obtain ⟨_, ne, vs, rel, ob, es, ep, gob, xob, dob, _, prs, _⟩ := dk_of I.hok ha
    obtain ⟨k1, k2⟩ := kv_reads (h := s.heap) hkv rel prs
    refine ⟨_, Reads.dict gob xob.1 dob k1 k2, fun _ => ?_⟩
    simp only [List.mem_append, List.mem_cons, List.not_mem_nil, or_false]
    exact fun z => beq_eq_false_iff_ne.mp ne z.symm
theorem D1All.reads (I : Inv X pins σ H s) : ∀ {ds : List PyData} {vs : List V} {us : List Value}, D1All X.K H vs ds → Vals vs us → PyData.showableAll ds = true → (∀ t ∈ PyData.shownAll ds, t.length ≤ sizeLine) →
    ∃ as bs, ReadsAll s.heap us ds as ∧ ReadAtMost s.heap (PyData.depthAll ds) bs ∧ ReprAllK X.prog X.w bs s.heap (PyData.depthAll ds) us (PyData.shownAll ds)
  | [], _, us, .nil, r, _, _ => by
    cases r
    refine ⟨[], [], .nil, (fun b hb => by cases hb), ?_⟩
    simp only [PyData.shownAll]
    exact .nil
  | d :: ds, _, us, .cons q1 q2, r, hs, hz => by
    cases r with
    | cons r1 r2 =>
      rw [PyData.showableAll, Bool.and_eq_true] at hs
      obtain ⟨as, x1, x2⟩ := D1.reads I q1 r1
      obtain ⟨cs, bs, y1, y2, y3⟩ := D1All.reads I q2 r2 hs.2 fun t ht => hz t (by rw [PyData.shownAll]; exact List.mem_cons_of_mem _ ht)
      obtain ⟨b1, z1, z2⟩ := ReprK.of_reads (prog := X.prog) (w := X.w) x1 hs.1 x2 (hz _ (by rw [PyData.shownAll]; exact List.mem_cons_self ..))
      refine ⟨as ++ cs, b1 ++ bs, .cons x1 y1, ?_, ?_⟩
      · rw [PyData.depthAll]
        exact (z1.mono (Nat.le_max_left _ _)).append (y2.mono (Nat.le_max_right _ _))
      · rw [PyData.depthAll, PyData.shownAll]
        have k1 := (z2.more (as' := b1 ++ bs) fun b hb => List.mem_append_left _ hb).level_le (Nat.le_max_left d.depth (PyData.depthAll ds))
        exact .cons k1 (y3.more_le (fun b hb => List.mem_append_right _ hb) (Nat.le_max_right _ _))
theorem D1All.deep : ∀ {ds : List PyData} {vs : List V} {K : PySem.W.Frag}, D1All K H vs ds → PyData.depthAll ds ≤ 50
  | _, _, _, .nil => by rw [PyData.depthAll]; omega
  | d :: ds, _, K, .cons q1 q2 => by
    have ih := D1All.deep q2
    have h1 : d.depth ≤ 50 := by
      rcases q1 with ⟨_, _, h⟩ | ⟨a, l, m, _, rfl, _, _, h⟩
      · exact h
      · rw [PyData.depth, h]; decide
    rw [PyData.depthAll]
    omega
end
/-! ### repr -/
def dataL (S : Store) (n : Nat) : Option PyData := match S[n]? with
  | some (.dct kvs) => (mapO pairD kvs).map .dict
  | some (.lst ws) => (mapO (toD1 S) ws).map .list
  | _ => none
def opReprD : OpA := fun ws S => match opRepr ws S with
  | some r => some r
  | none => match ws with
    | [.ref n] => (dataL S n).bind fun d => if d.showable = true ∧ d.shown.length ≤ sizeLine then some (.str d.shown, S) else none
    | _ => none
def rReprX (K : PySem.W.Frag) : List V → Hp → VK → Prop := fun xs H Q => ∃ (a : Addr) (d : PyData), xs = [.ref a] ∧ ((∃ l m, d = .dict m ∧ H a = some (.dK l) ∧ FlKv l m ∧ PyData.depthKv m = 0) ∨ ∃ vs ds, d = .list ds ∧ H a = some (.lst vs) ∧ D1All K H vs ds) ∧ d.showable = true ∧ d.shown.length ≤ sizeLine ∧ Q (.str d.shown) H
theorem cr_reprX {X : Cx} {U : WX} (F : Fit G c k X U) : CallR X (.builtin "repr") (rReprX X.K) := by
  intro pins s σ H xs us Q I r h
  obtain ⟨a, d, rfl, hd, hs, hz, q⟩ := h
  obtain ⟨u, rfl, ru⟩ := vals1 r
  have un := F.room.un
  cases ru
  rcases hd with ⟨l, m, rfl, ha, hkv, hm⟩ | ⟨vs, ds, rfl, ha, hall⟩
  · obtain ⟨as, r1, r2⟩ := D1.reads I (.inr ⟨a, l, m, rfl, rfl, ha, hkv, hm⟩) rfl
    refine PySem.repr_of_reads' r1 hs r2 F.gd (by rw [PyData.depth, hm]; omega) (fun _ _ e => e) (fun h' u tk hk => ⟨.str _, H, I.kept hk, ⟨_, rfl⟩, q⟩) hz
  · obtain ⟨items, rvs, ⟨ob, nn, gob, cob, _, dob⟩, _⟩ := I.list (SqL.of (K := X.K) ha)
    have hz' : (listText (PyData.shownAll ds)).length ≤ sizeLine := by rw [PyData.shown] at hz; exact hz
    rw [PyData.showable] at hs
    obtain ⟨as, bs, x1, x2, x3⟩ := D1All.reads I hall rvs hs fun t ht => Nat.le_trans (listText_mem_le ht) hz'
    have dp := hall.deep
    have na : a ∉ bs := not_mem_of_deeper (.list gob cob dob x1) (by rw [PyData.depth]; omega) x2
    rw [PyData.shown] at q
    refine call_repr_slot (by omega) ⟨ob, gob, cob⟩ PySem.F.slot_list_repr.toG ?_
    cases items with
    | nil =>
      cases x1
      rw [PyData.shownAll, listText_nil] at q
      exact call_list_repr_empty ⟨ob, gob, cob⟩ gob dob ⟨_, _, rfl, .str _, H, I.tok _, ⟨_, rfl⟩, q⟩
    | cons x l =>
      exact call_list_reprK gob cob dob na (by simpa using x3.length_eq) (fun i y e => x3.item i y (by simpa using e)) (by exact F.gd) (fun b _ => Clear.nil b) (by show X.A.units + 1 + _ < _; omega) (fun _ _ e => e) (fun h' u tk hk => ⟨_, _, rfl, .str _, H, I.kept hk, ⟨_, rfl⟩, q⟩) hz'
theorem o_reprD : OpAOk G (fun xs H Q => rRepr G.K xs H Q ∨ rReprX G.K xs H Q) opReprD := fun H ρ S ws vs w S' Q sr r h q => by
  unfold opReprD at h
  cases z : opRepr ws S with
  | some p =>
    rw [z] at h
    simp only [Option.some.injEq] at h
    subst h
    exact .inl (o_repr H ρ S ws vs w S' Q sr r z q)
  | none =>
    rw [z] at h
    simp only at h
    split at h
    · rename_i n
      cases r with
      | cons r rs =>
        cases rs
        cases r with
        | ref hn =>
          rw [Option.bind_eq_some_iff] at h
          obtain ⟨d, e, h⟩ := h
          split at h
          · rename_i hh
            cases h
            unfold dataL at e
            split at e
            · rename_i kvs eo
              obtain ⟨l, z1, z2⟩ := sr.ob _ _ _ hn eo
              rw [Option.map_eq_some_iff] at e
              obtain ⟨md, z3, rfl⟩ := e
              obtain ⟨x1, x2, x3⟩ := pairs_ok z2 z3
              refine .inr ⟨_, _, rfl, .inl ⟨l, md, rfl, z1, x1, x3⟩, hh.1, hh.2, q.flat sr (.str ?_)⟩
              show okS (PyData.shown (.dict md)) = true
              rw [PyData.shown]
              exact okS_append (okS_append (okS_of _) (okS_join (okS_of _) _ x2)) (okS_of _)
            · rename_i ws eo
              obtain ⟨vs, z1, z2⟩ := sr.ob _ _ _ hn eo
              rw [Option.map_eq_some_iff] at e
              obtain ⟨ds, z3, rfl⟩ := e
              obtain ⟨x1, x2⟩ := toD1s_ok sr z2 z3
              refine .inr ⟨_, _, rfl, .inr ⟨vs, ds, rfl, z1, x1⟩, hh.1, hh.2, q.flat sr (.str ?_)⟩
              rw [PyData.shown_list]
              exact okS_append (okS_append (okS_of _) (okS_join (okS_of _) _ x2)) (okS_of _)
            · cases e
          · cases h
    · cases h
theorem e_reprD {e : Expr} {d : DE} {p pos : Pos} (he : EOk G c k e d) (hm : G.mg "repr" = none) (hg : c.sc.names.lookup ("repr" : Str) = some .globalImplicit := by rfl) (hp : plainE e = true := by rfl) : EOk G c k (.Call (.Name "repr" p) [e] [] pos) (dFn opReprD (aCons d aNil)) :=
  e_blt (fun X U F => fun pins s σ H xs us Q I r q => by
    rcases q with q | q
    · exact cr_repr F pins s σ H xs us Q I r (by rw [F.K]; exact q)
    · exact cr_reprX F pins s σ H xs us Q I r (by rw [F.K]; exact q)) o_reprD hm (by decide +kernel) (a_cons he a_nil hp) hg (by decide) (by decide) (fun env => starEach_plain hp _ _)
/-! ### xs == [] -/
def opEqE : Op2 := fun a b S => match a, b with
  | .ref n, .ref m => match S[n]?, S[m]? with
    | some (.lst ws), some (.lst []) => some (.bl ws.isEmpty, S)
    | _, _ => none
  | _, _ => none
def rEqE : R2 := fun x y H Q => ∃ a b xs, x = .ref a ∧ y = .ref b ∧ H a = some (.lst xs) ∧ H b = some (.lst []) ∧ Q (.bl xs.isEmpty) H
theorem r_eqE : ∀ X W, Fit G c k X W → OpR X (compareOp .Eq) rEqE := fun X W F => by
  intro pins s σ H x y v u Q I rx ry h
  obtain ⟨a, b, xs, rfl, rfl, ha, hb, q⟩ := h
  obtain ⟨items, r1, l1, _⟩ := I.list (SqL.of (K := X.K) ha)
  obtain ⟨items2, r2, l2, _⟩ := I.list (SqL.of (K := X.K) hb)
  have un := F.room.un
  cases rx
  cases ry
  cases r2
  have z1 := r1.length
  cases xs with
  | nil =>
    cases r1
    refine SeqAt.eq_listAt (e := fun _ => true) l1.isList l2.isList rfl (by omega) (fun j h1 _ => absurd h1 (by simp)) ?_
    exact ⟨.bl true, H, I, rfl, q⟩
  | cons x xs =>
    cases r1 with
    | cons _ _ =>
      refine SeqAt.eq_list_lengthsAt l1.isList l2.isList (by simp) (by omega) ?_
      exact ⟨.bl false, H, I, rfl, q⟩
theorem o_eqE : Op2Ok G rEqE opEqE := fun H ρ S a b x y w S' Q sr ra rb h q => by
  unfold opEqE at h
  split at h
  · rename_i n m
    split at h
    · rename_i ws eo1 eo2
      cases h
      cases ra with
      | ref hn =>
        cases rb with
        | ref hm =>
          obtain ⟨vs, z, t⟩ := sr.ob _ _ _ hn eo1
          obtain ⟨vs2, z2, t2⟩ := sr.ob _ _ _ hm eo2
          cases t2
          refine ⟨_, _, vs, rfl, rfl, z, z2, ?_⟩
          have : vs.isEmpty = ws.isEmpty := by cases t <;> rfl
          rw [this]
          exact q.flat sr (.bl _)
    · cases h
  · cases h
/-! ### a text several times -/
def repS (x : Str) (n : Nat) : Str := ⟨(List.replicate n x.cps).foldl (· ++ ·) #[]⟩
theorem rep_go (x : Array Nat) : ∀ (n : Nat) (acc : Array Nat), ((List.replicate n x).foldl (· ++ ·) acc).toList = acc.toList ++ (List.replicate n x.toList).flatten
  | 0, acc => by simp
  | n + 1, acc => by
    rw [List.replicate_succ, List.foldl_cons, rep_go x n, List.replicate_succ, List.flatten_cons, Array.toList_append, List.append_assoc]
theorem repS_list {x : Str} {n : Nat} : (repS x n).cps.toList = (List.replicate n x.cps.toList).flatten := by
  show ((List.replicate n x.cps).foldl (· ++ ·) #[]).toList = _
  rw [rep_go]
  simp
theorem repS_len {x : Str} {n : Nat} : (repS x n).length = n * x.length := by
  show (repS x n).cps.size = n * x.cps.size
  rw [← Array.length_toList, repS_list]
  induction n with
  | zero => simp
  | succ n ih => rw [List.replicate_succ, List.flatten_cons, List.length_append, ih, Array.length_toList, Nat.add_mul, Nat.one_mul, Nat.add_comm]
theorem repS_ok {x : Str} {n : Nat} (h : okS x = true) : okS (repS x n) = true := by
  unfold okS at h ⊢
  rw [repS_list]
  rw [List.all_eq_true] at h ⊢
  intro c hc
  obtain ⟨l, hl, hm⟩ := List.mem_flatten.mp hc
  rw [List.mem_replicate] at hl
  rw [hl.2] at hm
  exact h c hm
def opMulS : Op2 := fun a b S => match a, b with
  | .str x, .int i => if 2 ≤ i ∧ i ≤ 100 ∧ 1 ≤ x.length ∧ x.length ≤ 1000 then some (.str (repS x i.toNat), S) else none
  | _, _ => none
def rMulS : R2 := fun x y H Q => ∃ z i, x = .str z ∧ y = .int i ∧ 2 ≤ i ∧ i ≤ 100 ∧ 1 ≤ z.length ∧ z.length ≤ 1000 ∧ Q (.str (repS z i.toNat)) H
theorem r_mulS {X : Cx} : OpR X (binaryOp .Mult) rMulS := by
  intro pins s σ H x y v u Q I rx ry h
  obtain ⟨z, i, rfl, rfl, h1, h2, h3, h4, q⟩ := h
  obtain ⟨t, rfl⟩ := rx
  obtain ⟨t', rfl⟩ := ry
  have hm : z.length * i.toNat ≤ 1000 * 100 := Nat.mul_le_mul h4 (by omega)
  refine PySem.P.mul_str ?_ (fun _ _ => ?_) (fun _ _ => ?_) ?_
  · rw [decide_eq_false (by omega), decide_eq_false (by omega)]; rfl
  · have : (1000 : Int) ≤ (2 ^ 63 - 1) / i := Int.le_ediv_of_mul_le (by omega) (by omega)
    omega
  · exact decide_eq_false (by have := sizeLine_eq; omega)
  · rw [if_neg (by omega), if_neg (by simp; omega)]
    refine ⟨?_, ?_⟩
    · have : (repS z i.toNat).length = i.toNat * z.length := repS_len
      show (repS z i.toNat).length ≤ _
      rw [this, sizeLine_eq, Nat.mul_comm]
      omega
    · exact ⟨.str _, H, I.tok _, ⟨_, rfl⟩, q⟩
theorem o_mulS : Op2Ok G rMulS opMulS := fun H ρ S a b x y w S' Q sr ra rb h q => by
  unfold opMulS at h
  split at h
  · rename_i z i
    split at h
    · rename_i hz
      cases h
      cases ra with
      | str hx =>
        cases rb with
        | int j => exact ⟨z, i, rfl, rfl, hz.1, hz.2.1, hz.2.2.1, hz.2.2.2, q.flat sr (.str (repS_ok hx))⟩
    · cases h
  · cases h
theorem e_mulS {a b : Expr} {d e : DE} {pos : Pos} (ha : EOk G c k a d) (hb : EOk G c k b e) : EOk G c k (.BinOp a .Mult b pos) (dOp opMulS d e) := e_bin (fun X U F => r_mulS) o_mulS ha hb
end
end
/-! ### plain rules -/
theorem wp_dDict1 {x : Str} {i : Int} {ε : Ev} {S : Store} {Q : W → Store → Prop} {E : Ex → Store → Prop} : wp (dDict1 x i ε S) Q E = Q (.ref S.length) (S ++ [.dct [(.inr x, .int i)]]) := rfl
end N
namespace N
open PySem PySem.Spec PyProof.Rows L2
/-- the law's own call at the heap behind the top -/
theorem law_at {G : World → Heap → Top} {P : Program} {w : World} {K : PySem.W.Frag} {mg mb : Str → Option Value} {k : Nat} {fa a : Addr} {fd : FuncData} {x : Str} {s₁ : Shared} {vs : List Value} {ns : List Int} {den : List W → M W}
    (inK : K.In s₁.heap) (hns : s₁.heap.Ns mainGlobals mg) (hb : s₁.heap.Ns builtinsNs mb) (hbb : ∀ x : Str, x ≠ "__name__" → mb x = bootBuiltins x) (lim : s₁.heap.NoLimit) (hg : s₁.gens = #[])
    (ha : s₁.heap.get? a = some { cls := .type "list", data := .seq vs.toArray }) (hi : IntsAre vs ns) (hl : ns.length ≤ sizeLine) (hr : Room k callerA)
    (hG : ∀ b, (G w b).P = P ∧ (G w b).w = w ∧ (G w b).K = K ∧ (G w b).mg = mg ∧ (G w b).base = b)
    (F : ∀ b : Heap, K.In b → b.Ns mainGlobals mg → FnG (G w b) k fa fd [x] (spN (G w b) den)) (bind : ∀ (s : Shared) (u : Value), BindsTo s fd ⟨[u], []⟩ [(x, u)])
    (good : wp (den [.rl (ns.map W.int)] []) (fun r _ => r = .bl true) (fun _ _ => False)) :
    codeAny (model P w) callerA (.call (.ref fa) ⟨[.ref a], []⟩) (fun r s' => r = .ok (.ret (.bool true)) ∧ OldK s₁.heap s'.heap ∧ s'.os = s₁.os ∧ AllBare s'.gens) s₁ := by
  have rv := vals_of_ints hi
  have lenV := hi.length
  have core : ∀ H : Hp, Only H → FzL K H a (ns.map V.int) → HOk P w H s₁.heap → (∀ b, H b ≠ none → b = a) → (H a ≠ none → K.lookup a = none) →
      codeAny (model P w) callerA (.call (.ref fa) ⟨[.ref a], []⟩) (fun r s' => r = .ok (.ret (.bool true)) ∧ OldK s₁.heap s'.heap ∧ s'.os = s₁.os ∧ AllBare s'.gens) s₁ := by
    intro H hO hS hok hA hK
    have none_of : ∀ {b : Addr}, b ≠ a → H b = none := fun {b} hne => by
      cases q : H b with
      | none => rfl
      | some u => exact absurd (hA b (by rw [q]; exact fun z => nomatch z)) hne
    have nsB : ∀ {b : Addr} {m : Str → Option Value}, s₁.heap.Ns b m → (hidT s₁.heap H).Ns b m := fun {b m} ⟨o, es, ep, e, d, r⟩ => by
      refine ⟨o, es, ep, hidT_get e (none_of fun z => ?_), d, r⟩
      subst z
      rw [ha] at e
      cases e
      exact nomatch (show Data.seq vs.toArray _ = Data.dict es ep from d)
    have inB : K.In (hidT s₁.heap H) := fun b o e => hidT_get (inK b o e) (by
      cases q : H b with
      | none => rfl
      | some u =>
        have z : b = a := hA b (by rw [q]; exact fun z => nomatch z)
        subst z
        rw [hK (by rw [q]; exact fun z => nomatch z)] at e
        cases e)
    have mod : Mod K mg (hidT s₁.heap H) := ⟨inB, nsB hns, ⟨mb, nsB hb, hbb⟩, let ⟨mc, h1, h2⟩ := lim; ⟨mc, nsB h1, h2⟩⟩
    have e0 : Env0 P w K mg (hidT s₁.heap H) callerA [] s₁ H := ⟨rfl, mod, fun b o e => of_hidT e, Nat.le_of_eq (hidT_size _ _), trivial, fun b hb => (nomatch (show b ∈ ([] : List Addr) from hb)), hok, .of_eq hg⟩
    obtain ⟨g1, g2, g3, g4, g5⟩ := hG (hidT s₁.heap H)
    have fn := F _ inB (nsB hns)
    have sp : spN (G w (hidT s₁.heap H)) den [.ref a] H (fun v _ => v = .bl true) (fun _ _ _ => False) := by
      refine ⟨[.rl (ns.map W.int)], [], [], .cons (.rl (by rw [g3]; exact hS) (VRs.ints ns)) .nil, ⟨rfl, List.nodup_nil, fun n b o z _ => by simp at z⟩, wp_mono good (fun r S' e H' ρ' v _ _ rv => ?_) fun _ _ z => z.elim⟩
      subst e
      cases rv
      rfl
    have run := fn.run callerA [] s₁ H ⟨[.ref a], []⟩ [.ref a] [.ref a] _ _ hr rfl (by rw [g1, g2, g3, g4, g5]; exact e0) (bind s₁ (.ref a)) (.cons rfl .nil) sp
    rw [g1, g2] at run
    refine codeAny_mono run fun r s' h => ?_
    cases r with
    | error e =>
      obtain ⟨_, _, _, _, _, _, _, _, _, _, _, _, z⟩ := h
      exact z.elim
    | ok fl =>
      cases fl with
      | next => exact False.elim h
      | brk => exact False.elim h
      | cont => exact False.elim h
      | ret u =>
        obtain ⟨v, H', os, bare, un, hok', r', q⟩ := h
        have q' : v = .bl true := q
        subst q'
        obtain rfl : u = Value.bool true := r'
        refine ⟨rfl, OldK.of_keep fun b o e => ?_, os, bare⟩
        rcases hO b with z | ⟨ob, xs, z⟩
        · exact un.keep b o e z (fun y => nomatch (show b ∈ ([] : List Addr) from y)) (fun y => nomatch y)
        · obtain ⟨e1, _⟩ := hok b _ z
          obtain ⟨e2, _⟩ := hok' b _ (un.frzs b ob _ z)
          rw [e] at e1
          cases e1
          exact e2
  cases hk : K.lookup a with
  | some o =>
    have e := inK a o hk
    rw [ha] at e
    cases e
    exact core (fun _ => none) (fun _ => .inl rfl) (.inr ⟨_, vs.toArray, _, hk, rfl, rfl, rfl, by rw [List.size_toArray, lenV]; exact hl, by simpa using rv⟩) (fun b u z => nomatch (show (none : Option HO) = some u from z)) (fun b z => absurd rfl z) fun z => absurd rfl z
  | none =>
    refine core (fun b => if b = a then some (.frz { cls := .type "list", data := .seq vs.toArray } (.lst (ns.map V.int))) else none) (fun b => ?_) (.inl ⟨{ cls := .type "list", data := .seq vs.toArray }, if_pos rfl⟩) (fun b u z => ?_) (fun b z => ?_) fun _ => hk
    · by_cases hb : b = a
      · exact .inr ⟨_, _, if_pos hb⟩
      · exact .inl (if_neg hb)
    · by_cases hb : b = a
      · have z' := (if_pos hb).symm.trans z
        cases z'
        subst hb
        exact ⟨ha, by rw [List.length_map]; exact hl, vs, _, rv, ha⟩
      · exact nomatch (if_neg hb).symm.trans z
    · by_cases hb : b = a
      · exact hb
      · exact absurd (if_neg hb) z
/-- THE END -/
theorem walkG {l : PySem.W.OpenLaw} {n k : Nat} {q : Program} {loose : List Str} {XP : (Str → Option Value) → Heap → Prop} {YP : World → Heap → Prop} {d : DefRec} {K : Params → PySem.W.Frag} {x : Str} {den : List W → M W}
    (hn : l.most = some n) (hn2 : n ≤ sizeLine) (hdf : d.params.defaults = []) (hr : Room k callerA)
    (hY : ∀ (w : World) (h : Heap), YP w h → (K w.params).In h)
    (F : ∀ (w : World) (mg : Str → Option Value) (fa : Addr) (h : Heap), (K w.params).In h → h.Ns mainGlobals mg → mg d.name = some (.ref fa) →
      ∃ (fd : FuncData) (cl : Nat → Addr), (∀ (s : Shared) (u : Value), BindsTo s fd ⟨[u], []⟩ [(x, u)]) ∧
        ∀ base : Heap, (K w.params).In base → base.Ns mainGlobals mg → FnG ⟨l.prog, w, K w.params, mg, base, cl⟩ k fa fd [x] (spN ⟨l.prog, w, K w.params, mg, base, cl⟩ den))
    (good : ∀ ns : List Int, ns.length ≤ n → (∀ z ∈ ns, Builtin.Int.intBits z ≤ 1048576) → wp (den [.rl (ns.map W.int)] []) (fun r _ => r = .bl true) (fun _ _ => False)) :
    PySem.W.WalkO q loose XP YP l.row.toRowW d [] (fun f vs => PySem.call f vs) := by
  refine Att.attach_callB hn hdf fun w s₀ s₁ mg mb fa o pm cd doc a vs ns G Y ho hd hcd hmg hobj hints hlen hbits hg => ?_
  have inK := hY w _ Y
  obtain ⟨fd, cl, hb, hF⟩ := F w mg fa _ inK G.T.g hmg
  exact law_at (G := fun w b => ⟨l.prog, w, K w.params, mg, b, cl⟩) inK G.T.g G.T.b G.T.builtins G.T.nolimit hg hobj hints (Nat.le_trans hlen hn2) hr (fun b => ⟨rfl, rfl, rfl, rfl, rfl⟩) hF hb (good ns hlen hbits)
end N
namespace N
open PySem L2
/-- what an answer asks -/
def wO {α : Type} (o : Option α) (Q : α → Prop) : Prop := match o with
  | some a => Q a
  | none => False
theorem wO_some {α : Type} {a : α} {Q : α → Prop} : wO (some a) Q = Q a := rfl
theorem wO_none {α : Type} {Q : α → Prop} : wO (none : Option α) Q = False := rfl
theorem wO_map {α β : Type} {o : Option α} {f : α → β} {Q : β → Prop} : wO (o.map f) Q = wO o (fun a => Q (f a)) := by cases o <;> rfl
theorem wO_bind {α β : Type} {o : Option α} {f : α → Option β} {Q : β → Prop} : wO (o.bind f) Q = wO o (fun a => wO (f a) Q) := by cases o <;> rfl
theorem wO_ite {α : Type} {c : Prop} [Decidable c] {a b : Option α} {Q : α → Prop} : wO (if c then a else b) Q = if c then wO a Q else wO b Q := by split <;> rfl
theorem wO_of {α : Type} {o : Option α} {a : α} {Q : α → Prop} (e : o = some a) (q : Q a) : wO o Q := by rw [e]; exact q
theorem wp_congr {α : Type} {r : R α} {Q Q' : α → Store → Prop} {E : Ex → Store → Prop} (h : ∀ a S, Q a S = Q' a S) : wp r Q E = wp r Q' E := by
  cases r with
  | ok a S => exact h a S
  | exc x S => rfl
  | bad => rfl
section
variable {α β : Type} {S : Store} {ε : Ev} {Q : α → Store → Prop} {E : Ex → Store → Prop} {D : NEnds}
theorem wp_ret {a : α} : wp (M.ret a S) Q E = Q a S := rfl
theorem wp_badM : wp ((bad : M α) S) Q E = False := rfl
theorem wp_lift {f : Store → Option (α × Store)} : wp (lift f S) Q E = wO (f S) (fun p => Q p.1 p.2) := by
  unfold lift wO
  cases f S with
  | none => rfl
  | some p => cases p; rfl
theorem wp_chk {b : Bool} {Q : Unit → Store → Prop} : wp (chk b S) Q E = (b = true ∧ Q () S) := by
  unfold chk
  cases b <;> simp [wp]
theorem wp_alloc {o : O} {Q : W → Store → Prop} : wp (alloc o S) Q E = Q (.ref S.length) (S ++ [o]) := rfl
theorem wp_grd {g : Store → Prop} {Q : Unit → Store → Prop} : wp (grd g S) Q E = (g S ∧ Q () S) := by
  unfold grd
  by_cases h : g S
  · rw [if_pos h]; simp [wp, h]
  · rw [if_neg h]; simp [wp, h]
theorem wp_tgt {t : DT} {w : W} {ε0 : Ev} {Q : Ev → Store → Prop} : wp (tgt t w ε0 S) Q E = wO (t w ε0 S) (fun ε' => Q ε' S) := by
  unfold tgt wO
  cases t w ε0 S <;> rfl
theorem wp_noXe {m : M α} : wp (noX m S) Q E = wp (m S) Q (fun _ _ => False) := by
  unfold noX
  cases m S <;> rfl
end
section
variable {S : Store} {ε : Ev} {Q : W → Store → Prop} {E : Ex → Store → Prop} {D : NEnds}
theorem wp_dVar {i : Nat} : wp (dVar i ε S) Q E = wO (ε[i]?) (fun o => wO o fun w => Q w S) := by
  unfold dVar wO
  cases ε[i]? with
  | none => rfl
  | some o => cases o <;> rfl
theorem wp_dC {w : W} : wp (dC w ε S) Q E = Q w S := rfl
theorem wp_aNil {Q : List W → Store → Prop} : wp (aNil ε S) Q E = Q [] S := rfl
theorem wp_aCons {d : DE} {e : DA} {Q : List W → Store → Prop} : wp (aCons d e ε S) Q E = wp (d ε S) (fun w S1 => wp (e ε S1) (fun ws S2 => Q (w :: ws) S2) E) E := by
  unfold aCons
  simp only [wp_bind, wp_ret]
theorem wp_dTup {a : DA} : wp (dTup a ε S) Q E = wp (a ε S) (fun ws S1 => lenOk ws.length = true ∧ Q (.tup ws) S1) E := by
  unfold dTup
  simp only [wp_bind, wp_chk, wp_ret]
theorem wp_dLst {a : DA} : wp (dLst a ε S) Q E = wp (a ε S) (fun ws S1 => lenOk ws.length = true ∧ Q (.ref S1.length) (S1 ++ [.lst ws])) E := by
  unfold dLst
  simp only [wp_bind, wp_chk, wp_alloc]
theorem wp_dOp {op : Op2} {d e : DE} : wp (dOp op d e ε S) Q E = wp (d ε S) (fun a S1 => wp (e ε S1) (fun b S2 => wO (op a b S2) fun p => Q p.1 p.2) E) E := by
  unfold dOp
  simp only [wp_bind, wp_lift]
theorem wp_dUn {op : Op1} {d : DE} : wp (dUn op d ε S) Q E = wp (d ε S) (fun a S1 => wO (op a S1) fun p => Q p.1 p.2) E := by
  unfold dUn
  simp only [wp_bind, wp_lift]
theorem wp_dFn {op : OpA} {a : DA} : wp (dFn op a ε S) Q E = wp (a ε S) (fun a S1 => wO (op a S1) fun p => Q p.1 p.2) E := by
  unfold dFn
  simp only [wp_bind, wp_lift]
/-- a truth asked for -/
def wB (w : W) (Q : Bool → Prop) : Prop := match w with
  | .bl b => Q b
  | _ => False
theorem wB_bl {b : Bool} {Q : Bool → Prop} : wB (.bl b) Q = Q b := rfl
theorem wp_dChain {op op' : Op2} {d e f : DE} : wp (dChain op op' d e f ε S) Q E = wp (d ε S) (fun a S1 => wp (e ε S1) (fun b S2 => wO (op a b S2) fun p => wB p.1 fun z => if z = true then wp (f ε p.2) (fun y S3 => wO (op' b y S3) fun q => Q q.1 q.2) E else Q (.bl false) p.2) E) E := by
  unfold dChain
  simp only [wp_bind, wp_lift]
  congr 1; funext a S1; congr 1; funext b S2; congr 1; funext p
  obtain ⟨z, S3⟩ := p
  cases z with
  | bl z => cases z <;> simp [wB, wp_bind, wp_lift, wp_ret]
  | _ => rfl
theorem wp_dTru {d : DE} {Q : Bool → Store → Prop} : wp (dTru d ε S) Q E = wp (d ε S) (fun w S1 => wO (truthW w S1) fun b => Q b S1) E := by
  unfold dTru
  simp only [wp_bind, wp_lift, wO_map]
theorem wp_dBool {d : DE} {Q : Bool → Store → Prop} : wp (dBool d ε S) Q E = wp (d ε S) (fun w S1 => wB w fun b => Q b S1) E := by
  unfold dBool
  simp only [wp_bind]
  congr 1; funext w S1
  cases w <;> rfl
theorem wp_dNot {d : DB} {Q : Bool → Store → Prop} : wp (dNot d ε S) Q E = wp (d ε S) (fun b S1 => Q (!b) S1) E := by
  unfold dNot
  simp only [wp_bind, wp_ret]
theorem wp_dAnd {d e : DB} {Q : Bool → Store → Prop} : wp (dAnd d e ε S) Q E = wp (d ε S) (fun b S1 => if b = true then wp (e ε S1) Q E else Q false S1) E := by
  unfold dAnd
  simp only [wp_bind]
  congr 1; funext b S1
  cases b <;> rfl
theorem wp_dOr {d e : DB} {Q : Bool → Store → Prop} : wp (dOr d e ε S) Q E = wp (d ε S) (fun b S1 => if b = true then Q true S1 else wp (e ε S1) Q E) E := by
  unfold dOr
  simp only [wp_bind]
  congr 1; funext b S1
  cases b <;> rfl
theorem wp_dAndV {d e : DE} : wp (dAndV d e ε S) Q E = wp (d ε S) (fun w S1 => wB w fun b => if b = true then wp (e ε S1) Q E else Q (.bl false) S1) E := by
  unfold dAndV
  simp only [wp_bind]
  congr 1; funext w S1
  cases w with
  | bl b => cases b <;> rfl
  | _ => rfl
theorem wp_dOrV {d e : DE} : wp (dOrV d e ε S) Q E = wp (d ε S) (fun w S1 => wB w fun b => if b = true then Q (.bl true) S1 else wp (e ε S1) Q E) E := by
  unfold dOrV
  simp only [wp_bind]
  congr 1; funext w S1
  cases w with
  | bl b => cases b <;> rfl
  | _ => rfl
theorem wp_dNotV {d : DE} : wp (dNotV d ε S) Q E = wp (d ε S) (fun w S1 => wB w fun b => Q (.bl (!b)) S1) E := by
  unfold dNotV
  simp only [wp_bind]
  congr 1; funext w S1
  cases w <;> rfl
theorem wp_dIfE {t : DB} {d e : DE} : wp (dIfE t d e ε S) Q E = wp (t ε S) (fun b S1 => if b = true then wp (d ε S1) Q E else wp (e ε S1) Q E) E := by
  unfold dIfE
  simp only [wp_bind]
  congr 1; funext b S1
  cases b <;> rfl
theorem wp_dYes {Q : Bool → Store → Prop} : wp (dYes ε S) Q E = Q true S := rfl
theorem wp_dCall {f : List W → M W} {a : DA} : wp (dCall f a ε S) Q E = wp (a ε S) (fun ws S1 => wp (f ws S1) Q E) E := by
  unfold dCall
  simp only [wp_bind]
theorem wp_dCallK {f : List W → M W} {na nk : Nat} {dW : List W} {perm : List Nat} {a b : DA} : wp (dCallK f na nk dW perm a b ε S) Q E = wp (a ε S) (fun ws S1 => wp (b ε S1) (fun us S2 => ws.length = na ∧ us.length = nk ∧ wO (permW perm (ws ++ us ++ dW)) fun zs => wp (f zs S2) Q E) E) E := by
  unfold dCallK
  refine wp_bind.trans (wp_congr fun ws S1 => wp_bind.trans (wp_congr fun us S2 => ?_))
  by_cases h : ws.length = na ∧ us.length = nk
  · rw [if_pos h]
    simp only [h.1, h.2, true_and]
    cases permW perm (ws ++ us ++ dW) <;> rfl
  · rw [if_neg h]
    simp only [wp_bad]
    refine propext ⟨False.elim, fun z => h ⟨z.1, z.2.1⟩⟩
theorem wp_dIsi {T : String} {d : DE} : wp (dIsi T d ε S) Q E = wp (d ε S) (fun w S1 => wO (tyN w S1) fun t => Q (.bl (isT t T)) S1) E := by
  unfold dIsi
  simp only [wp_bind, wp_lift, wO_map]
theorem wp_dIsi2 {T1 T2 : String} {d : DE} : wp (dIsi2 T1 T2 d ε S) Q E = wp (d ε S) (fun w S1 => wO (tyN w S1) fun t => Q (.bl (isT t T1 || isT t T2)) S1) E := by
  unfold dIsi2
  simp only [wp_bind, wp_lift, wO_map]
theorem wp_dMt {T : String} {op : OpM} {d : DE} {a : DA} : wp (dMt T op d a ε S) Q E = wp (d ε S) (fun w S1 => tyM T w S1 = true ∧ wp (a ε S1) (fun ws S2 => wO (op w ws S2) fun p => Q p.1 p.2) E) E := by
  unfold dMt
  refine wp_bind.trans (wp_congr fun w S1 => wp_bind.trans ?_)
  unfold chkT
  by_cases h : tyM T w S1 = true
  · rw [if_pos h]
    simp only [h, true_and]
    refine wp_bind.trans (wp_congr fun ws S2 => wp_lift)
  · rw [if_neg h]
    simp [h]
theorem wp_oN {Q : Option Int → Store → Prop} : wp (oN ε S) Q E = Q none S := rfl
/-- an integer asked for -/
def wI (w : W) (Q : Int → Prop) : Prop := match w with
  | .int i => Q i
  | _ => False
theorem wI_int {i : Int} {Q : Int → Prop} : wI (.int i) Q = Q i := rfl
theorem wp_oS {d : DE} {Q : Option Int → Store → Prop} : wp (oS d ε S) Q E = wp (d ε S) (fun w S1 => wI w fun i => Q (some i) S1) E := by
  unfold oS
  simp only [wp_bind]
  congr 1; funext w S1
  cases w <;> rfl
theorem wp_dSl {d : DE} {l h : DO} : wp (dSl d l h ε S) Q E = wp (d ε S) (fun w S1 => wp (l ε S1) (fun lo S2 => wp (h ε S2) (fun hi S3 => wO (opSl w lo hi S3) fun p => Q p.1 p.2) E) E) E := by
  unfold dSl
  simp only [wp_bind, wp_lift]
theorem wp_dSrc {d : DE} {Q : Src → Store → Prop} : wp (dSrc d ε S) Q E = wp (d ε S) (fun w S1 => wO (srcW w S1) fun p => Q p S1) E := by
  unfold dSrc
  refine wp_bind.trans (wp_congr fun w S1 => ?_)
  cases srcW w S1 <;> rfl
theorem wp_dZip {a : DA} {Q : Src → Store → Prop} : wp (dZip a ε S) Q E = wp (a ε S) (fun ws S1 => match ws with
    | [x, y] => wO (zipW x y S1) fun p => Q p S1
    | _ => False) E := by
  unfold dZip
  refine wp_bind.trans (wp_congr fun ws S1 => ?_)
  match ws with
  | [] => rfl
  | [_] => rfl
  | [x, y] =>
    show wp (match zipW x y S1 with | some p => R.ok p S1 | none => R.bad) Q E = wO (zipW x y S1) fun p => Q p S1
    cases zipW x y S1 <;> rfl
  | _ :: _ :: _ :: _ => rfl
theorem wp_dRng1 {a : DA} {Q : Src → Store → Prop} : wp (dRng1 a ε S) Q E = wp (a ε S) (fun ws S1 => match ws with
    | [.int j] => bnd j = true ∧ Q ⟨rngW 0 j.toNat, fun _ => True⟩ S1
    | _ => False) E := by
  unfold dRng1
  refine wp_bind.trans (wp_congr fun ws S1 => ?_)
  match ws with
  | [.int j] => cases h : bnd j <;> simp [h, wp]
  | [.non] => rfl
  | [.bl _] => rfl
  | [.str _] => rfl
  | [.tup _] => rfl
  | [.ref _] => rfl
  | [.rl _] => rfl
  | [.exn _ _ _ _] => rfl
  | [] => rfl
  | _ :: _ :: _ => simp
theorem wp_dRng2 {a : DA} {Q : Src → Store → Prop} : wp (dRng2 a ε S) Q E = wp (a ε S) (fun ws S1 => ∃ i j, ws = [.int i, .int j] ∧ bnd i = true ∧ bnd j = true ∧ Q ⟨rngW i (j - i).toNat, fun _ => True⟩ S1) E := by
  unfold dRng2
  refine wp_bind.trans (wp_congr fun ws S1 => ?_)
  by_cases h : ∃ i j, ws = [.int i, .int j]
  · obtain ⟨i, j, rfl⟩ := h
    refine propext ⟨fun z => ⟨i, j, rfl, ?_⟩, fun ⟨i', j', e, b1, b2, q⟩ => ?_⟩
    · cases h1 : bnd i <;> cases h2 : bnd j <;> simp_all [wp]
    · cases e
      simp only [b1, b2, Bool.and_self, if_true]
      exact q
  · have e : (∃ i j, ws = [W.int i, W.int j] ∧ bnd i = true ∧ bnd j = true ∧ Q ⟨rngW i (j - i).toNat, fun _ => True⟩ S1) = False := by
      refine propext ⟨fun ⟨i, j, e, _⟩ => h ⟨i, j, e⟩, False.elim⟩
    rw [e]
    split
    · exact (h ⟨_, _, rfl⟩).elim
    · rfl
theorem wp_dEnum {a : DA} {Q : Src → Store → Prop} : wp (dEnum a ε S) Q E = wp (a ε S) (fun ws S1 => ∃ n l, ws = [.ref n] ∧ S1[n]? = some (.lst l) ∧ Q ⟨enumL l, fun S' => S'[n]? = some (.lst l)⟩ S1) E := by
  unfold dEnum
  refine wp_bind.trans (wp_congr fun ws S1 => ?_)
  by_cases h : ∃ n l, ws = [.ref n] ∧ S1[n]? = some (.lst l)
  · obtain ⟨n, l, rfl, e⟩ := h
    simp [e, wp]
  · have e : (∃ n l, ws = [W.ref n] ∧ S1[n]? = some (.lst l) ∧ Q ⟨enumL l, fun S' => S'[n]? = some (.lst l)⟩ S1) = False := by
      refine propext ⟨fun ⟨i, j, e, e2, _⟩ => h ⟨i, j, e, e2⟩, False.elim⟩
    rw [e]
    split
    · split
      · rename_i l e2; exact (h ⟨_, _, rfl, e2⟩).elim
      · rfl
    · rfl
theorem wp_dLc {d : DI} {t : DT} {cnd : DB} {el : DE} {vs : List Nat} : wp (dLc d t cnd el vs ε S) Q E = wp (d ε S) (fun p S1 => lenOk p.items.length = true ∧ wp (lcL t cnd el p.g (wipeE ε vs) p.items S1) (fun ws S2 => Q (.ref S2.length) (S2 ++ [.lst ws])) E) E := by
  unfold dLc
  simp only [wp_bind, wp_chk, wp_alloc]
/-! ### statements -/
theorem wpS_sBind {α : Type} {m : M α} {f : α → Store → RS} : wpS (sBind m ε S f) D = wp (m S) (fun a S1 => wpS (f a S1) D) (fun x S1 => D.ex x ε S1) := by
  unfold sBind
  cases m S <;> rfl
theorem wpS_nx {ε : Ev} {S : Store} : wpS (.nx ε S) D = D.nx ε S := rfl
theorem wpS_rt {w : W} {S : Store} : wpS (.rt w S) D = D.rt w S := rfl
theorem wpS_bk : wpS (.bk ε S) D = D.bk ε S := rfl
theorem wpS_ct : wpS (.ct ε S) D = D.ct ε S := rfl
theorem wpS_exc {x : Ex} : wpS (.exc x ε S) D = D.ex x ε S := rfl
theorem wpS_bad : wpS .bad D = False := rfl
theorem wpS_ite {c : Prop} [Decidable c] {a b : RS} : wpS (if c then a else b) D = if c then wpS a D else wpS b D := by split <;> rfl
theorem wpS_dSeq {d e : DS} : wpS (dSeq d e ε S) D = wpS (d ε S) ⟨fun ε1 S1 => wpS (e ε1 S1) D, D.rt, D.bk, D.ct, D.ex⟩ := by
  unfold dSeq
  cases d ε S <;> rfl
theorem wpS_dNx : wpS (dNx ε S) D = D.nx ε S := rfl
theorem wpS_dBk : wpS (dBk ε S) D = D.bk ε S := rfl
theorem wpS_dCt : wpS (dCt ε S) D = D.ct ε S := rfl
theorem wpS_dDrop {d : DE} : wpS (dDrop d ε S) D = wp (d ε S) (fun _ S1 => D.nx ε S1) (fun x S1 => D.ex x ε S1) := by
  unfold dDrop; rw [wpS_sBind]; rfl
theorem wpS_dRet {d : DE} : wpS (dRet d ε S) D = wp (d ε S) (fun w S1 => D.rt w S1) (fun x S1 => D.ex x ε S1) := by
  unfold dRet; rw [wpS_sBind]; rfl
theorem wpS_dRetN : wpS (dRetN ε S) D = D.rt .non S := rfl
theorem wpS_dIf {c : DB} {t u : DS} : wpS (dIf c t u ε S) D = wp (c ε S) (fun b S1 => if b = true then wpS (t ε S1) D else wpS (u ε S1) D) (fun x S1 => D.ex x ε S1) := by
  unfold dIf; rw [wpS_sBind]
  congr 1; funext b S1
  cases b <;> rfl
theorem wpS_dSet {i : Nat} {d : DE} : wpS (dSet i d ε S) D = wp (d ε S) (fun w S1 => D.nx (ε.set i (some w)) S1) (fun x S1 => D.ex x ε S1) := by
  unfold dSet; rw [wpS_sBind]; rfl
theorem wpS_dAsg {t : DT} {d : DE} : wpS (dAsg t d ε S) D = wp (d ε S) (fun w S1 => wO (t w ε S1) fun ε1 => D.nx ε1 S1) (fun x S1 => D.ex x ε S1) := by
  unfold dAsg; rw [wpS_sBind]
  congr 1; funext w S1
  cases t w ε S1 <;> rfl
theorem wpS_dPar {i j : Nat} {a : DA} : wpS (dPar i j a ε S) D = wp (a ε S) (fun ws S1 => match ws with
    | [w, u] => D.nx ((ε.set i (some w)).set j (some u)) S1
    | _ => False) (fun x S1 => D.ex x ε S1) := by
  unfold dPar; rw [wpS_sBind]
  congr 1; funext ws S1
  match ws with
  | [] => rfl
  | [_] => rfl
  | [x, y] => rfl
  | _ :: _ :: _ :: _ => rfl
theorem wpS_dPar3 {i j l : Nat} {a : DA} : wpS (dPar3 i j l a ε S) D = wp (a ε S) (fun ws S1 => match ws with
    | [w, u, z] => D.nx (((ε.set i (some w)).set j (some u)).set l (some z)) S1
    | _ => False) (fun x S1 => D.ex x ε S1) := by
  unfold dPar3; rw [wpS_sBind]
  congr 1; funext ws S1
  match ws with
  | [] => rfl
  | [_] => rfl
  | [x, y] => rfl
  | [x, y, z] => rfl
  | _ :: _ :: _ :: _ :: _ => rfl
theorem wpS_dSet2 {i j : Nat} {d : DE} : wpS (dSet2 i j d ε S) D = wp (d ε S) (fun w S1 => D.nx ((ε.set i (some w)).set j (some w)) S1) (fun x S1 => D.ex x ε S1) := by
  unfold dSet2; rw [wpS_sBind]; rfl
theorem wpS_dPut {d o i : DE} : wpS (dPut d o i ε S) D = wp (d ε S) (fun v S1 => wp (o ε S1) (fun w S2 => wp (i ε S2) (fun j S3 => wO (setIx w j v S3) fun S4 => D.nx ε S4) (fun x S1 => D.ex x ε S1)) (fun x S1 => D.ex x ε S1)) (fun x S1 => D.ex x ε S1) := by
  unfold dPut; simp only [wpS_sBind]
  congr 1; funext v S1; congr 1; funext w S2; congr 1; funext j S3
  cases setIx w j v S3 <;> rfl
theorem wpS_dRaise {i : Nat} : wpS (dRaise i ε S) D = D.ex ⟨i, none⟩ ε S := rfl
theorem wpS_dFor {d : DI} {t : DT} {b : DS} : wpS (dFor d t b ε S) D = wp (d ε S) (fun p S1 => wpS (forL t b p.g p.items ε S1) D) (fun x S1 => D.ex x ε S1) := by
  unfold dFor; rw [wpS_sBind]
theorem wp_dfn {N n : Nat} {d : DS} {ws : List W} : wp (dfn N n d ws S) Q E = (ws.length = n ∧ wpS (d (ws.map some ++ List.replicate (N - n) none) S) ⟨fun _ S1 => Q .non S1, fun w S1 => Q w S1, fun _ _ => False, fun _ _ => False, fun x _ S1 => E x S1⟩) := by
  unfold dfn
  by_cases h : ws.length = n
  · rw [if_pos h]
    simp only [h, true_and]
    cases d (ws.map some ++ List.replicate (N - n) none) S <;> rfl
  · rw [if_neg h]
    simp [h]
end
/-! ### loops -/
theorem wpS_forL {t : DT} {body : DS} {g : Store → Prop} {D : NEnds} : ∀ {items : List W} {ε : Ev} {S : Store} (I : Nat → Ev → Store → Prop), I 0 ε S → (∀ i ε S, i ≤ items.length → I i ε S → g S) →
    (∀ i x ε S, items[i]? = some x → I i ε S → wO (t x ε S) fun ε1 => wpS (body ε1 S) ⟨fun ε' S' => I (i + 1) ε' S', D.rt, D.nx, fun ε' S' => I (i + 1) ε' S', D.ex⟩) →
    (∀ ε S, I items.length ε S → D.nx ε S) → wpS (forL t body g items ε S) D
  | [], ε, S, I, h0, hg, hs, hd => by
    unfold forL
    rw [if_pos (hg 0 _ _ (Nat.zero_le _) h0)]
    exact hd _ _ h0
  | x :: xs, ε, S, I, h0, hg, hs, hd => by
    unfold forL
    rw [if_pos (hg 0 _ _ (Nat.zero_le _) h0)]
    have h := hs 0 x ε S rfl h0
    cases z : t x ε S with
    | none => rw [z] at h; exact h.elim
    | some ε1 =>
      rw [z] at h
      have h : wpS (body ε1 S) _ := h
      have hrec : ∀ ε2 S2, I 1 ε2 S2 → wpS (forL t body g xs ε2 S2) D := fun ε2 S2 q =>
        wpS_forL (fun i => I (i + 1)) q (fun i ε S hi q => hg (i + 1) ε S (by simpa using hi) q) (fun i x ε S e q => hs (i + 1) x ε S (by simpa using e) q) (fun ε S q => hd ε S q)
      show wpS (match body ε1 S with
        | .nx ε2 S2 => forL t body g xs ε2 S2
        | .ct ε2 S2 => forL t body g xs ε2 S2
        | .bk ε2 S2 => .nx ε2 S2
        | r => r) D
      cases b : body ε1 S with
      | nx ε2 S2 => rw [b] at h; exact hrec _ _ h
      | ct ε2 S2 => rw [b] at h; exact hrec _ _ h
      | bk ε2 S2 => rw [b] at h; exact h
      | rt w S2 => rw [b] at h; exact h
      | exc x ε2 S2 => rw [b] at h; exact h
      | bad => rw [b] at h; exact h.elim
theorem wp_lcL {t : DT} {cnd : DB} {el : DE} {g : Store → Prop} {ε0 : Ev} {E : Ex → Store → Prop} : ∀ {items acc : List W} {S : Store} (I : Nat → List W → Store → Prop), I 0 acc S → (∀ i acc S, i ≤ items.length → I i acc S → g S) →
    (∀ i x acc S, items[i]? = some x → I i acc S → wO (t x ε0 S) fun ε1 => wp (cnd ε1 S) (fun b S1 => if b = true then wp (el ε1 S1) (fun w S2 => I (i + 1) (acc ++ [w]) S2) (fun _ _ => False) else I (i + 1) acc S1) (fun _ _ => False)) →
    wp (lcL t cnd el g ε0 items S) (fun ws S' => I items.length (acc ++ ws) S') E
  | [], acc, S, I, h0, hg, hs => by
    unfold lcL
    simp only [wp_bind, wp_grd, wp_ret]
    exact ⟨hg 0 _ _ (Nat.zero_le _) h0, by simpa using h0⟩
  | x :: xs, acc, S, I, h0, hg, hs => by
    unfold lcL
    simp only [wp_bind, wp_grd, wp_tgt, wp_noXe]
    refine ⟨hg 0 _ _ (Nat.zero_le _) h0, ?_⟩
    have h := hs 0 x acc S rfl h0
    cases z : t x ε0 S with
    | none => rw [z] at h; exact h.elim
    | some ε1 =>
      rw [z] at h
      have hrec : ∀ acc S, I 1 acc S → wp (lcL t cnd el g ε0 xs S) (fun ws S' => I (xs.length + 1) (acc ++ ws) S') E := fun acc S q =>
        wp_lcL (fun i => I (i + 1)) q (fun i acc S hi q => hg (i + 1) acc S (by simpa using hi) q) (fun i x acc S e q => hs (i + 1) x acc S (by simpa using e) q)
      show wp (cnd ε1 S) _ _
      refine wp_mono (h : wp (cnd ε1 S) _ _) (fun b S1 q => ?_) (fun _ _ f => f)
      cases b with
      | false => exact hrec _ _ q
      | true =>
        show wp ((noX (el ε1) >>= fun w => lcL t cnd el g ε0 xs >>= fun ws => M.ret (w :: ws)) S1) _ _
        simp only [wp_bind, wp_noXe, wp_ret]
        refine wp_mono (q : wp (el ε1 S1) _ _) (fun w S2 q2 => ?_) (fun _ _ f => f)
        refine wp_mono (hrec _ _ q2) (fun ws S3 q3 => ?_) (fun _ _ f => f)
        simpa using q3
theorem wpS_whL {t : DB} {body : DS} {D : NEnds} (I : Nat → Ev → Store → Prop) (hs : ∀ n ε S, I n ε S → wp (t ε S) (fun b S1 => if b = true then wpS (body ε S1) ⟨fun ε' S' => ∃ m, m < n ∧ I m ε' S', D.rt, D.nx, fun ε' S' => ∃ m, m < n ∧ I m ε' S', D.ex⟩ else D.nx ε S1) (fun x S1 => D.ex x ε S1)) :
    ∀ (f n : Nat) {ε : Ev} {S : Store}, n < f → I n ε S → wpS (whL t body f ε S) D
  | 0, n, ε, S, h, _ => absurd h (Nat.not_lt_zero _)
  | f + 1, n, ε, S, h, h0 => by
    unfold whL
    rw [wpS_sBind]
    refine wp_mono (hs n ε S h0) (fun b S1 q => ?_) (fun _ _ q => q)
    cases b with
    | false => exact q
    | true =>
      have q : wpS (body ε S1) _ := q
      show wpS (match body ε S1 with
        | .nx ε2 S2 => whL t body f ε2 S2
        | .ct ε2 S2 => whL t body f ε2 S2
        | .bk ε2 S2 => .nx ε2 S2
        | r => r) D
      cases b : body ε S1 with
      | nx ε2 S2 => rw [b] at q; obtain ⟨m, hm, q⟩ := q; exact wpS_whL I hs f m (by omega) q
      | ct ε2 S2 => rw [b] at q; obtain ⟨m, hm, q⟩ := q; exact wpS_whL I hs f m (by omega) q
      | bk ε2 S2 => rw [b] at q; exact q
      | rt w S2 => rw [b] at q; exact q
      | exc x ε2 S2 => rw [b] at q; exact q
      | bad => rw [b] at q; exact q.elim
theorem wpS_dWhile {t : DB} {body : DS} {D : NEnds} {ε : Ev} {S : Store} (n : Nat) (I : Nat → Ev → Store → Prop) (hn : n < 2 ^ 250) (h0 : I n ε S)
    (hs : ∀ n ε S, I n ε S → wp (t ε S) (fun b S1 => if b = true then wpS (body ε S1) ⟨fun ε' S' => ∃ m, m < n ∧ I m ε' S', D.rt, D.nx, fun ε' S' => ∃ m, m < n ∧ I m ε' S', D.ex⟩ else D.nx ε S1) (fun x S1 => D.ex x ε S1)) : wpS (dWhile t body ε S) D :=
  wpS_whL I hs fuel n hn h0
/-- a while that ends in P -/
theorem wpS_dWhileQ {t : DB} {body : DS} {D : NEnds} {ε : Ev} {S : Store} (n : Nat) (I : Nat → Ev → Store → Prop) (P : Ev → Store → Prop) (hn : n < 2 ^ 250) (h0 : I n ε S)
    (hs : ∀ n ε S, I n ε S → wp (t ε S) (fun b S1 => if b = true then wpS (body ε S1) ⟨fun ε' S' => ∃ m, m < n ∧ I m ε' S', fun _ _ => False, P, fun ε' S' => ∃ m, m < n ∧ I m ε' S', fun _ _ _ => False⟩ else P ε S1) (fun _ _ => False)) (hP : ∀ ε S, P ε S → D.nx ε S) : wpS (dWhile t body ε S) D :=
  wpS_mono (wpS_dWhile (D := ⟨P, fun _ _ => False, fun _ _ => False, fun _ _ => False, fun _ _ _ => False⟩) n I hn h0 hs) hP (fun _ _ h => h.elim) (fun _ _ h => h.elim) (fun _ _ h => h.elim) (fun _ _ _ h => h.elim)
/-- a statement that ends in P -/
theorem wpS_join {r : RS} {D : NEnds} (P : Ev → Store → Prop) (h : wpS r ⟨P, fun _ _ => False, fun _ _ => False, fun _ _ => False, fun _ _ _ => False⟩) (hP : ∀ ε S, P ε S → D.nx ε S) : wpS r D :=
  wpS_mono h hP (fun _ _ h => h.elim) (fun _ _ h => h.elim) (fun _ _ h => h.elim) (fun _ _ _ h => h.elim)
theorem wpS_join' {r : RS} {D : NEnds} (P : Ev → Store → Prop) (h : wpS r ⟨P, D.rt, D.bk, D.ct, D.ex⟩) (hP : ∀ ε S, P ε S → D.nx ε S) : wpS r D :=
  wpS_mono h hP (fun _ _ h => h) (fun _ _ h => h) (fun _ _ h => h) (fun _ _ _ h => h)
/-! ### what stays -/
/-- from S to S': grown, the places from B on as they were -/
structure Fr (B : Nat) (S S' : Store) : Prop where
  len : S.length ≤ S'.length
  get : ∀ (i : Nat) (o : O), B ≤ i → S[i]? = some o → S'[i]? = some o
theorem Fr.refl {B : Nat} {S : Store} : Fr B S S := ⟨Nat.le_refl _, fun _ _ _ e => e⟩
theorem Fr.trans {B : Nat} {S S' S2 : Store} (a : Fr B S S') (b : Fr B S' S2) : Fr B S S2 := ⟨Nat.le_trans a.len b.len, fun i o h e => b.get i o h (a.get i o h e)⟩
theorem Fr.up {B C : Nat} {S S' : Store} (a : Fr B S S') (h : B ≤ C) : Fr C S S' := ⟨a.len, fun i o hi e => a.get i o (Nat.le_trans h hi) e⟩
theorem Fr.app {B : Nat} {S T : Store} : Fr B S (S ++ T) := ⟨by simp, fun i o _ e => by rw [List.getElem?_append_left (List.getElem?_eq_some_iff.mp e).1]; exact e⟩
theorem Fr.snoc {B : Nat} {S S' T : Store} (a : Fr B S S') : Fr B S (S' ++ T) := a.trans .app
/-- a change at a place that S has not -/
theorem Fr.setN {B n : Nat} {S S' : Store} {o : O} (a : Fr B S S') (h : S.length ≤ n) : Fr B S (S'.set n o) := ⟨by simpa using a.len, fun i p hi e => by
  have := (List.getElem?_eq_some_iff.mp e).1
  rw [List.getElem?_set_ne (by omega)]
  exact a.get i p hi e⟩
theorem Fr.setB {B n : Nat} {S S' : Store} {o : O} (a : Fr B S S') (h : n < B) : Fr B S (S'.set n o) := ⟨by simpa using a.len, fun i p hi e => by
  rw [List.getElem?_set_ne (by omega)]
  exact a.get i p hi e⟩
theorem Fr.g0 {S S' : Store} (a : Fr 0 S S') {i : Nat} {o : O} (e : S[i]? = some o) : S'[i]? = some o := a.get i o (Nat.zero_le _) e
theorem get_new {S T : Store} {o : O} : (S ++ o :: T)[S.length]? = some o := by simp
theorem get_set {S : Store} {n : Nat} {o p : O} (e : S[n]? = some p) : (S.set n o)[n]? = some o := by
  rw [List.getElem?_set_self (List.getElem?_eq_some_iff.mp e).1]
theorem get_lt {S : Store} {n : Nat} {o : O} (e : S[n]? = some o) : n < S.length := (List.getElem?_eq_some_iff.mp e).1
end N
namespace N
open PySem L2
theorem opEq_int {i j : Int} {S : Store} : opEq (.int i) (.int j) S = some (.bl (i == j), S) := rfl
theorem opNe_int {i j : Int} {S : Store} : opNe (.int i) (.int j) S = some (.bl (!(i == j)), S) := rfl
theorem opEq_str {i j : Str} {S : Store} : opEq (.str i) (.str j) S = some (.bl (i == j), S) := rfl
theorem opNe_str {i j : Str} {S : Store} : opNe (.str i) (.str j) S = some (.bl (!(i == j)), S) := rfl
theorem opEq_bl {i j : Bool} {S : Store} : opEq (.bl i) (.bl j) S = some (.bl (i == j), S) := rfl
theorem opNe_bl {i j : Bool} {S : Store} : opNe (.bl i) (.bl j) S = some (.bl (!(i == j)), S) := rfl
theorem opAdd_int {i j : Int} {S : Store} : opAdd (.int i) (.int j) S = some (.int (i + j), S) := rfl
theorem opSub_int {i j : Int} {S : Store} : opSub (.int i) (.int j) S = some (.int (i - j), S) := rfl
theorem opMod_pos {i j : Int} {S : Store} : opMod (.int i) (.int j) S = if 0 < j then some (.int (i % j), S) else none := rfl
theorem opMul_int {i j : Int} {S : Store} : opMul (.int i) (.int j) S = if mulOk i j = true then some (.int (i * j), S) else none := rfl
theorem opFdiv_int {i j : Int} {S : Store} : opFdiv (.int i) (.int j) S = if divOk i j = true then some (.int (i / j), S) else none := rfl
theorem opPow_int {i j : Int} {S : Store} : opPow (.int i) (.int j) S = if powOk i j = true then some (.int (i ^ j.toNat), S) else none := rfl
theorem opLt_int {i j : Int} {S : Store} : opLt (.int i) (.int j) S = some (.bl (decide (i < j)), S) := rfl
theorem opLe_int {i j : Int} {S : Store} : opLe (.int i) (.int j) S = some (.bl (decide (i ≤ j)), S) := rfl
theorem opGt_int {i j : Int} {S : Store} : opGt (.int i) (.int j) S = some (.bl (decide (j < i)), S) := rfl
theorem opGe_int {i j : Int} {S : Store} : opGe (.int i) (.int j) S = some (.bl (decide (j ≤ i)), S) := rfl
theorem opLt_str {x y : Str} {S : Store} : opLt (.str x) (.str y) S = some (.bl (decide (x.cps.toList < y.cps.toList)), S) := rfl
theorem opLe_str {x y : Str} {S : Store} : opLe (.str x) (.str y) S = some (.bl (!decide (y.cps.toList < x.cps.toList)), S) := rfl
theorem opIsN_ref {n : Nat} {S : Store} : opIsN (.ref n) .non S = some (.bl false, S) := rfl
theorem opIsN_non {S : Store} : opIsN .non .non S = some (.bl true, S) := rfl
theorem opIsN_int {n : Int} {S : Store} : opIsN (.int n) .non S = some (.bl false, S) := rfl
theorem opIsN_bl {n : Bool} {S : Store} : opIsN (.bl n) .non S = some (.bl false, S) := rfl
theorem opIsN_tup {n : List W} {S : Store} : opIsN (.tup n) .non S = some (.bl false, S) := rfl
theorem opIsN_str {n : Str} {S : Store} : opIsN (.str n) .non S = some (.bl false, S) := rfl
theorem opIsN_any {w : W} {S : Store} : opIsN w .non S = some (.bl (isNon w), S) := rfl
theorem ixN_pos {n : Nat} {i : Int} (h0 : 0 ≤ i) (h1 : i < n) : ixN n i = some i.toNat := by unfold ixN; rw [if_pos h0, if_pos h1]
theorem atI_nn {α : Type} {xs : List α} {i : Int} (h : 0 ≤ i) : atI xs i = xs[i.toNat]? := by
  unfold atI ixN
  rw [if_pos h]
  by_cases h1 : i < xs.length
  · rw [if_pos h1]; rfl
  · rw [if_neg h1]
    have : xs.length ≤ i.toNat := by omega
    rw [List.getElem?_eq_none this]; rfl
theorem atI_0 {α : Type} {xs : List α} : atI xs 0 = xs[0]? := atI_nn (by decide)
theorem atI_1 {α : Type} {xs : List α} : atI xs 1 = xs[1]? := atI_nn (by decide)
theorem atI_2 {α : Type} {xs : List α} : atI xs 2 = xs[2]? := atI_nn (by decide)
theorem atI_3 {α : Type} {xs : List α} : atI xs 3 = xs[3]? := atI_nn (by decide)
theorem atI_n {α : Type} {xs : List α} {n : Nat} : atI xs (n : Int) = xs[n]? := atI_nn (by omega)
/-- the list at a place -/
def lstAt (S : Store) (n : Nat) : Option (List W) := match S[n]? with
  | some (.lst ws) => some ws
  | _ => none
theorem lstAt_of {S : Store} {n : Nat} {ws : List W} (e : S[n]? = some (.lst ws)) : lstAt S n = some ws := by unfold lstAt; rw [e]
theorem opIx_ref {n : Nat} {i : Int} {S : Store} : opIx (.ref n) (.int i) S = (lstAt S n).bind fun ws => (atI ws i).map fun w => (w, S) := by
  unfold opIx seqW lstAt
  rfl
theorem opIx_tup {ws : List W} {i : Int} {S : Store} : opIx (.tup ws) (.int i) S = (atI ws i).map fun w => (w, S) := rfl
theorem opIx_rl {ws : List W} {i : Int} {S : Store} : opIx (.rl ws) (.int i) S = (atI ws i).map fun w => (w, S) := rfl
theorem opLen_ref {n : Nat} {ws : List W} {S : Store} (e : S[n]? = some (.lst ws)) : opLen [.ref n] S = some (.int ws.length, S) := by
  unfold opLen lenW
  simp only [e]
  rfl
theorem opLen_tup {ws : List W} {S : Store} : opLen [.tup ws] S = some (.int ws.length, S) := rfl
theorem opLen_rl {ws : List W} {S : Store} : opLen [.rl ws] S = some (.int ws.length, S) := rfl
theorem opLen_str {x : Str} {S : Store} : opLen [.str x] S = if x.length ≤ sizeLine then some (.int x.length, S) else none := by
  unfold opLen lenW
  by_cases h : x.length ≤ sizeLine
  · simp [h]
  · simp [h]
theorem opMax2_int {i j : Int} {S : Store} : opMax2 [.int i, .int j] S = some (.int (if j > i then j else i), S) := rfl
theorem opMin2_int {i j : Int} {S : Store} : opMin2 [.int i, .int j] S = some (.int (if j < i then j else i), S) := rfl
theorem opInt_int {i : Int} {S : Store} : opInt [.int i] S = some (.int i, S) := rfl
theorem opInt_bl {i : Bool} {S : Store} : opInt [.bl i] S = some (.int (if i then 1 else 0), S) := rfl
theorem mAppend_ref {n : Nat} {w : W} {l : List W} {S : Store} (e : S[n]? = some (.lst l)) : mAppend (.ref n) [w] S = if l.length < sizeLine then some (.non, S.set n (.lst (l ++ [w]))) else none := by
  unfold mAppend
  simp only [e]
theorem setIx_ref {n : Nat} {i : Int} {v : W} {l : List W} {S : Store} (e : S[n]? = some (.lst l)) : setIx (.ref n) (.int i) v S = (ixN l.length i).map fun m => S.set n (.lst (l.set m v)) := by
  unfold setIx
  simp only [e]
theorem tyN_ref {n : Nat} {l : List W} {S : Store} (e : S[n]? = some (.lst l)) : tyN (.ref n) S = some "list" := by
  unfold tyN
  simp only [e]
theorem tyM_ref {n : Nat} {l : List W} {S : Store} (e : S[n]? = some (.lst l)) : tyM "list" (.ref n) S = true := by
  unfold tyM
  simp only [e]
  rfl
theorem tyN_non {S : Store} : tyN .non S = some "NoneType" := rfl
theorem tyN_bl {b : Bool} {S : Store} : tyN (.bl b) S = some "bool" := rfl
theorem tyN_int {b : Int} {S : Store} : tyN (.int b) S = some "int" := rfl
theorem tyN_str {b : Str} {S : Store} : tyN (.str b) S = some "str" := rfl
theorem tyN_tup {b : List W} {S : Store} : tyN (.tup b) S = some "tuple" := rfl
theorem tyN_rl {b : List W} {S : Store} : tyN (.rl b) S = some "list" := rfl
theorem truthW_bl {b : Bool} {S : Store} : truthW (.bl b) S = some b := rfl
theorem srcW_ref {n : Nat} {l : List W} {S : Store} (e : S[n]? = some (.lst l)) : srcW (.ref n) S = some ⟨l, fun S' => S'[n]? = some (.lst l)⟩ := by
  unfold srcW
  simp only [e]
theorem srcW_tup {l : List W} {S : Store} : srcW (.tup l) S = some ⟨l, fun _ => True⟩ := rfl
theorem srcW_rl {l : List W} {S : Store} : srcW (.rl l) S = some ⟨l, fun _ => True⟩ := rfl
theorem opAdd_ref {n m : Nat} {a b : List W} {S : Store} (h1 : S[n]? = some (.lst a)) (h2 : S[m]? = some (.lst b)) (h : a.length + b.length ≤ 1000000) : opAdd (.ref n) (.ref m) S = some (.ref S.length, S ++ [.lst (a ++ b)]) := by
  unfold opAdd
  simp only [h1, h2]
  rw [if_pos (by rw [sizeLine_eq]; omega)]
theorem opSl_ref {n : Nat} {a : List W} {lo hi : Option Int} {S : Store} (h1 : S[n]? = some (.lst a)) : opSl (.ref n) lo hi S = some (.ref S.length, S ++ [.lst (cutL a lo hi)]) := by
  unfold opSl
  have e : listW (.ref n) S = some a := by
    unfold listW
    simp only [h1]
  show (listW (.ref n) S).map _ = _
  rw [e]
  rfl
theorem lenOk_of {n : Nat} (h : n ≤ 1000000) : lenOk n = true := by
  unfold lenOk
  rw [sizeLine_eq]
  exact decide_eq_true (by omega)
theorem log2_lt {x : Int} {k : Nat} (h : x.natAbs < 2 ^ k) (hk : 0 < k) : x.natAbs.log2 < k := by
  by_cases z : x.natAbs = 0
  · rw [z]; simpa using hk
  · exact (Nat.log2_lt z).mpr h
theorem mulOk_of {i j : Int} (hi : i.natAbs < 2 ^ 1000) (hj : j.natAbs < 2 ^ 1000) : mulOk i j = true := by
  have h1 := log2_lt hi (by decide)
  have h2 := log2_lt hj (by decide)
  unfold mulOk
  exact decide_eq_true (by omega)
theorem pow3Ok {i : Int} (hi : i.natAbs < 2 ^ 1000) : powOk i 3 = true := by
  have h1 := log2_lt hi (by decide)
  unfold powOk
  refine decide_eq_true ⟨by decide, ?_⟩
  show (i.natAbs.log2 + 1) * 3 ≤ _
  omega
theorem pow2Ok {i : Int} (hi : i.natAbs < 2 ^ 1000) : powOk i 2 = true := by
  have h1 := log2_lt hi (by decide)
  unfold powOk
  refine decide_eq_true ⟨by decide, ?_⟩
  show (i.natAbs.log2 + 1) * 2 ≤ _
  omega
theorem divOk_of {i j : Int} (h0 : 0 < j) (hj : j.natAbs < 2 ^ 1000) : divOk i j = true := by
  have h2 := log2_lt hj (by decide)
  unfold divOk
  exact decide_eq_true ⟨h0, by omega⟩
/-! ### the deck -/
structure Deck (B n d : Nat) (S : Store) : Prop where
  bl : B ≤ S.length
  ex : ∃ (rs : Nat) (k : Int) (cs : List W), d < B ∧ rs < B ∧ d ≠ rs ∧ S[d]? = some (.lst [.ref rs, .int k]) ∧ S[rs]? = some (.lst cs) ∧ cs ≠ [] ∧
    ∀ c ∈ cs, ∃ (p : Nat) (a b t : Int), c = .ref p ∧ p < B ∧ p ≠ d ∧ p ≠ rs ∧ S[p]? = some (.lst [.int a, .int b, .int t]) ∧ 0 ≤ t ∧ t ≤ n
theorem Deck.mono {B n d m : Nat} {S S' : Store} (D : Deck B n d S) (h : n ≤ m) (f : Fr 0 S S') : Deck B m d S' := by
  obtain ⟨rs, k, cs, h1, h2, h3, h4, h5, h6, h7⟩ := D.ex
  refine ⟨Nat.le_trans D.bl f.len, rs, k, cs, h1, h2, h3, f.g0 h4, f.g0 h5, h6, fun c hc => ?_⟩
  obtain ⟨p, a, b, t, e1, e2, e3, e4, e5, e6, e7⟩ := h7 c hc
  exact ⟨p, a, b, t, e1, e2, e3, e4, f.g0 e5, e6, by omega⟩
theorem Deck.setB {B n d m k : Nat} {o : O} {S : Store} (D : Deck B n d S) (h : n ≤ m) (hk : B ≤ k) : Deck B m d (S.set k o) := by
  obtain ⟨rs, k', cs, h1, h2, h3, h4, h5, h6, h7⟩ := D.ex
  refine ⟨by rw [List.length_set]; exact D.bl, rs, k', cs, h1, h2, h3, by rw [List.getElem?_set_ne (by omega)]; exact h4, by rw [List.getElem?_set_ne (by omega)]; exact h5, h6, fun c hc => ?_⟩
  obtain ⟨p, a, b, t, e1, e2, e3, e4, e5, e6, e7⟩ := h7 c hc
  exact ⟨p, a, b, t, e1, e2, e3, e4, by rw [List.getElem?_set_ne (by omega)]; exact e5, e6, by omega⟩
def d_law_draw : DS :=
  dSeq (dSet 2 (dOp opIx (dOp opIx (dVar 0) (dC (.int 0))) (dOp opMod (dOp opIx (dVar 0) (dC (.int 1))) (dFn opLen (aCons (dOp opIx (dVar 0) (dC (.int 0))) aNil)))))
  (dSeq (dPut (dOp opAdd (dOp opIx (dVar 0) (dC (.int 1))) (dC (.int 1))) (dVar 0) (dC (.int 1)))
  (dSeq (dIf (dAnd (dBool (dOp opEq (dOp opIx (dVar 2) (dC (.int 1))) (dC (.int 1)))) (dBool (dOp opGt (dOp opIx (dVar 2) (dC (.int 0))) (dC (.int 0))))) (dSeq (dSet 4 (dOp opMod (dOp opIx (dVar 2) (dC (.int 0))) (dVar 1)))
  (dSeq (dPut (dOp opFdiv (dOp opIx (dVar 2) (dC (.int 0))) (dVar 1)) (dVar 2) (dC (.int 0)))
  (dRet (dVar 4)))) (dNx))
  (dSeq (dPut (dOp opAdd (dOp opIx (dVar 2) (dC (.int 2))) (dC (.int 1))) (dVar 2) (dC (.int 2)))
  (dSeq (dSet 3 (dOp opAdd (dOp opMod (dOp opIx (dVar 2) (dC (.int 0))) (dC (.int 162259276829213363391578010288127))) (dOp opMul (dC (.int 982451653)) (dOp opIx (dVar 2) (dC (.int 2))))))
  (dSeq (dSet 3 (dOp opMod (dOp opPow (dVar 3) (dC (.int 3))) (dC (.int 618970019642690137449562111))))
  (dSeq (dSet 3 (dOp opMod (dOp opPow (dOp opAdd (dVar 3) (dOp opMul (dC (.int 49979687)) (dOp opIx (dVar 2) (dC (.int 2))))) (dC (.int 3))) (dC (.int 162259276829213363391578010288127))))
  (dRet (dOp opMod (dOp opFdiv (dVar 3) (dC (.int 524288))) (dVar 1)))))))))
def n_law_draw : List W → M W := dfn 5 2 d_law_draw
/-- a draw -/
theorem draw_spec {B n d : Nat} {S : Store} {m : Int} {E : Ex → Store → Prop} (D : Deck B n d S) (hn : n < 2 ^ 100) (h0 : 0 < m) (h1 : m < 2 ^ 900) :
    wp (n_law_draw [.ref d, .int m] S) (fun r S' => ∃ k : Int, r = .int k ∧ 0 ≤ k ∧ k < m ∧ Deck B (n + 1) d S' ∧ Fr B S S' ∧ S'.length = S.length) E := by
  obtain ⟨rs, k, cs, hd, hrs, hne, e1, e2, hcs, hcards⟩ := D.ex
  have hpos : (0 : Int) < (cs.length : Int) := by
    cases cs with
    | nil => exact absurd rfl hcs
    | cons _ _ => simp only [List.length_cons]; omega
  have m0 : 0 ≤ k % (cs.length : Int) := Int.emod_nonneg _ (by omega)
  have m1 : k % (cs.length : Int) < cs.length := Int.emod_lt_of_pos _ hpos
  obtain ⟨c, hc⟩ : ∃ c, cs[(k % (cs.length : Int)).toNat]? = some c := by
    have : (k % (cs.length : Int)).toNat < cs.length := by omega
    exact ⟨_, List.getElem?_eq_getElem this⟩
  obtain ⟨p, a, b, t, rfl, hp, hpd, hprs, e3, t0, t1⟩ := hcards c (List.mem_of_getElem? hc)
  unfold n_law_draw d_law_draw
  simp only [wp_ok, wp_exc, wp_ret, wp_badM, wp_lift, wp_chk, wp_alloc, wp_grd, wp_tgt, wp_noXe, wp_dVar, wp_dC, wp_aNil, wp_aCons, wp_dTup, wp_dLst, wp_dOp, wp_dUn, wp_dFn, wB_bl, wp_dChain, wp_dTru, wp_dBool, wp_dNot, wp_dAnd, wp_dOr, wp_dAndV, wp_dOrV, wp_dNotV, wp_dIfE, wp_dYes, wp_dCall, wp_dCallK, wp_dIsi, wp_dIsi2, wp_dMt, wp_oN, wI_int, wp_oS, wp_dSl, wp_dSrc, wp_dZip, wp_dRng1, wp_dRng2, wp_dEnum, wp_dLc, wpS_nx, wpS_rt, wpS_bk, wpS_ct, wpS_exc, wpS_bad, wpS_ite, wpS_dSeq, wpS_dNx, wpS_dBk, wpS_dCt, wpS_dDrop, wpS_dRet, wpS_dRetN, wpS_dIf, wpS_dSet, wpS_dAsg, wpS_dPar, wpS_dPar3, wpS_dSet2, wpS_dPut, wpS_dRaise, wpS_dFor, wp_dfn, wO_some, wO_none, wO_map, wO_bind, wO_ite, List.map_cons, List.map_nil, List.replicate_succ, List.replicate_zero, List.cons_append, List.nil_append, Nat.reduceSub, Nat.reduceAdd, List.getElem?_cons_zero, List.getElem?_cons_succ, List.set_cons_zero, List.set_cons_succ, List.length_cons, List.length_nil, tgN, tgNil, tgCons, tgTup, wipeE, isT, String.reduceBEq, Bool.and_false, Bool.false_and, Bool.true_and, Bool.and_true, Bool.or_false, Bool.false_or, Bool.true_or, Bool.or_true, Bool.not_true, Bool.not_false, if_true, if_false, true_and, and_true, Bool.false_eq_true, Bool.true_eq_false, reduceIte, opEq_int, opNe_int, opEq_str, opNe_str, opAdd_int, opSub_int, opMod_pos, opLt_int, opLe_int, opGt_int, opGe_int, opLt_str, opLe_str, opIsN_ref, opIsN_non, opIsN_int, opIsN_tup, opIsN_str, opIsN_bl, opEq_bl, opNe_bl, opFdiv_int, opMul_int, opPow_int, atI_0, atI_1, atI_2, opIx_ref, opIx_tup, opIx_rl, opLen_tup, opLen_str, opLen_rl, opMax2_int, opMin2_int, opInt_int, opInt_bl, tyN_non, tyN_bl, tyN_int, tyN_str, tyN_tup, tyN_rl, truthW_bl, srcW_tup, srcW_rl, lstAt_of e1, lstAt_of e2, Option.bind_some, Option.map_some, opLen_ref e2, hpos, atI_nn m0, hc, setIx_ref e1, ixN_pos (show (0:Int) ≤ 1 by decide)]
  have i21 : ixN 2 1 = some 1 := rfl
  have i30 : ixN 3 0 = some 0 := rfl
  have i32 : ixN 3 2 = some 2 := rfl
  simp only [i21, wO_some, List.map_cons, List.map_nil, List.replicate_succ, List.replicate_zero, List.cons_append, List.nil_append, Nat.reduceSub, Nat.reduceAdd, List.getElem?_cons_zero, List.getElem?_cons_succ, List.set_cons_zero, List.set_cons_succ, List.length_cons, List.length_nil, tgN, tgNil, tgCons, tgTup, wipeE, isT, String.reduceBEq, Bool.and_false, Bool.false_and, Bool.true_and, Bool.and_true, Bool.or_false, Bool.false_or, Bool.true_or, Bool.or_true, Bool.not_true, Bool.not_false, if_true, if_false, true_and, and_true, Bool.false_eq_true, Bool.true_eq_false, reduceIte]
  have g1 : (List.set S d (O.lst [W.ref rs, W.int (k + 1)]))[d]? = some (.lst [.ref rs, .int (k + 1)]) := get_set e1
  have g2 : (List.set S d (O.lst [W.ref rs, W.int (k + 1)]))[rs]? = some (.lst cs) := by rw [List.getElem?_set_ne hne]; exact e2
  have g3 : ∀ q : Nat, q ≠ d → (List.set S d (O.lst [W.ref rs, W.int (k + 1)]))[q]? = S[q]? := fun q hq => List.getElem?_set_ne (Ne.symm hq)
  have gl : (List.set S d (O.lst [W.ref rs, W.int (k + 1)])).length = S.length := by simp
  have gf : Fr B S (List.set S d (O.lst [W.ref rs, W.int (k + 1)])) := Fr.refl.setB hd
  generalize List.set S d (O.lst [W.ref rs, W.int (k + 1)]) = S1 at g1 g2 g3 gl gf ⊢
  have e4 : S1[p]? = some (.lst [.int a, .int b, .int t]) := by rw [g3 p hpd]; exact e3
  have fin : ∀ (a' b' t' : Int), 0 ≤ t' → t' ≤ n + 1 → Deck B (n + 1) d (List.set S1 p (.lst [.int a', .int b', .int t'])) ∧ Fr B S (List.set S1 p (.lst [.int a', .int b', .int t'])) ∧ (List.set S1 p (.lst [.int a', .int b', .int t'])).length = S.length := fun a' b' t' q0 q1 => by
    refine ⟨⟨by rw [List.length_set, gl]; exact D.bl, rs, k + 1, cs, hd, hrs, hne, by rw [List.getElem?_set_ne hpd]; exact g1, by rw [List.getElem?_set_ne hprs]; exact g2, hcs, fun c' hc' => ?_⟩, gf.setB hp, by simpa using gl⟩
    obtain ⟨p', a2, b2, t2, z1, z2, z3, z4, z5, z6, z7⟩ := hcards c' hc'
    by_cases hpp : p' = p
    · subst hpp
      exact ⟨p', a', b', t', z1, z2, z3, z4, get_set e4, q0, by omega⟩
    · exact ⟨p', a2, b2, t2, z1, z2, z3, z4, by rw [List.getElem?_set_ne (Ne.symm hpp), g3 p' z3]; exact z5, z6, by omega⟩
  have mod_lt : ∀ x : Int, 0 ≤ x % m ∧ x % m < m := fun x => ⟨Int.emod_nonneg _ (by omega), Int.emod_lt_of_pos _ h0⟩
  have mabs : m.natAbs < 2 ^ 1000 := by
    have : m.natAbs < 2 ^ 900 := by omega
    exact Nat.lt_of_lt_of_le this (Nat.pow_le_pow_right (by decide) (by decide))
  simp only [wp_ok, wp_exc, wp_ret, wp_badM, wp_lift, wp_chk, wp_alloc, wp_grd, wp_tgt, wp_noXe, wp_dVar, wp_dC, wp_aNil, wp_aCons, wp_dTup, wp_dLst, wp_dOp, wp_dUn, wp_dFn, wB_bl, wp_dChain, wp_dTru, wp_dBool, wp_dNot, wp_dAnd, wp_dOr, wp_dAndV, wp_dOrV, wp_dNotV, wp_dIfE, wp_dYes, wp_dCall, wp_dCallK, wp_dIsi, wp_dIsi2, wp_dMt, wp_oN, wI_int, wp_oS, wp_dSl, wp_dSrc, wp_dZip, wp_dRng1, wp_dRng2, wp_dEnum, wp_dLc, wpS_nx, wpS_rt, wpS_bk, wpS_ct, wpS_exc, wpS_bad, wpS_ite, wpS_dSeq, wpS_dNx, wpS_dBk, wpS_dCt, wpS_dDrop, wpS_dRet, wpS_dRetN, wpS_dIf, wpS_dSet, wpS_dAsg, wpS_dPar, wpS_dPar3, wpS_dSet2, wpS_dPut, wpS_dRaise, wpS_dFor, wp_dfn, wO_some, wO_none, wO_map, wO_bind, wO_ite, List.map_cons, List.map_nil, List.replicate_succ, List.replicate_zero, List.cons_append, List.nil_append, Nat.reduceSub, Nat.reduceAdd, List.getElem?_cons_zero, List.getElem?_cons_succ, List.set_cons_zero, List.set_cons_succ, List.length_cons, List.length_nil, tgN, tgNil, tgCons, tgTup, wipeE, isT, String.reduceBEq, Bool.and_false, Bool.false_and, Bool.true_and, Bool.and_true, Bool.or_false, Bool.false_or, Bool.true_or, Bool.or_true, Bool.not_true, Bool.not_false, if_true, if_false, true_and, and_true, Bool.false_eq_true, Bool.true_eq_false, reduceIte, opEq_int, opNe_int, opEq_str, opNe_str, opAdd_int, opSub_int, opMod_pos, opLt_int, opLe_int, opGt_int, opGe_int, opLt_str, opLe_str, opIsN_ref, opIsN_non, opIsN_int, opIsN_tup, opIsN_str, opIsN_bl, opEq_bl, opNe_bl, opFdiv_int, opMul_int, opPow_int, atI_0, atI_1, atI_2, opIx_ref, opIx_tup, opIx_rl, opLen_tup, opLen_str, opLen_rl, opMax2_int, opMin2_int, opInt_int, opInt_bl, tyN_non, tyN_bl, tyN_int, tyN_str, tyN_tup, tyN_rl, truthW_bl, srcW_tup, srcW_rl, lstAt_of e4, Option.bind_some, Option.map_some, h0, divOk_of h0 mabs, setIx_ref e4, i30, i32]
  have tail : wO (lstAt (List.set S1 p (O.lst [W.int a, W.int b, W.int (t + 1)])) p) fun _ => True := by rw [lstAt_of (get_set e4)]; trivial
  have e5 : (List.set S1 p (O.lst [W.int a, W.int b, W.int (t + 1)]))[p]? = some (.lst [.int a, .int b, .int (t + 1)]) := get_set e4
  obtain ⟨f1, f2, f3⟩ := fin a b (t + 1) (by omega) (by omega)
  generalize List.set S1 p (O.lst [W.int a, W.int b, W.int (t + 1)]) = S2 at e5 f1 f2 f3 tail ⊢
  have b1 : ∀ x y : Int, 0 < y → y < 2 ^ 200 → (x % y).natAbs < 2 ^ 1000 ∧ (x % y).natAbs < 2 ^ 200 := fun x y h1 h2 => by
    have := Int.emod_nonneg x (show y ≠ 0 by omega)
    have := Int.emod_lt_of_pos x h1
    have h3 : (x % y).natAbs < 2 ^ 200 := by omega
    exact ⟨Nat.lt_of_lt_of_le h3 (Nat.pow_le_pow_right (by decide) (by decide)), h3⟩
  have tb : (t + 1).natAbs < 2 ^ 1000 := by
    have : (t + 1).natAbs < 2 ^ 101 := by omega
    exact Nat.lt_of_lt_of_le this (Nat.pow_le_pow_right (by decide) (by decide))
  have tb2 : (t + 1).natAbs < 2 ^ 101 := by omega
  have big : ∀ x c : Int, x.natAbs < 2 ^ 200 → 0 < c → c < 2 ^ 40 → (x + c * (t + 1)).natAbs < 2 ^ 1000 := fun x c h1 h2 h3 => by
    have h4 : (c * (t + 1)).natAbs ≤ 2 ^ 40 * 2 ^ 101 := by
      rw [Int.natAbs_mul]
      exact Nat.mul_le_mul (by omega) (by omega)
    have h5 : (x + c * (t + 1)).natAbs ≤ x.natAbs + (c * (t + 1)).natAbs := Int.natAbs_add_le _ _
    have h6 : (x + c * (t + 1)).natAbs < 2 ^ 201 := by omega
    exact Nat.lt_of_lt_of_le h6 (Nat.pow_le_pow_right (by decide) (by decide))
  simp only [wp_ok, wp_exc, wp_ret, wp_badM, wp_lift, wp_chk, wp_alloc, wp_grd, wp_tgt, wp_noXe, wp_dVar, wp_dC, wp_aNil, wp_aCons, wp_dTup, wp_dLst, wp_dOp, wp_dUn, wp_dFn, wB_bl, wp_dChain, wp_dTru, wp_dBool, wp_dNot, wp_dAnd, wp_dOr, wp_dAndV, wp_dOrV, wp_dNotV, wp_dIfE, wp_dYes, wp_dCall, wp_dCallK, wp_dIsi, wp_dIsi2, wp_dMt, wp_oN, wI_int, wp_oS, wp_dSl, wp_dSrc, wp_dZip, wp_dRng1, wp_dRng2, wp_dEnum, wp_dLc, wpS_nx, wpS_rt, wpS_bk, wpS_ct, wpS_exc, wpS_bad, wpS_ite, wpS_dSeq, wpS_dNx, wpS_dBk, wpS_dCt, wpS_dDrop, wpS_dRet, wpS_dRetN, wpS_dIf, wpS_dSet, wpS_dAsg, wpS_dPar, wpS_dPar3, wpS_dSet2, wpS_dPut, wpS_dRaise, wpS_dFor, wp_dfn, wO_some, wO_none, wO_map, wO_bind, wO_ite, List.map_cons, List.map_nil, List.replicate_succ, List.replicate_zero, List.cons_append, List.nil_append, Nat.reduceSub, Nat.reduceAdd, List.getElem?_cons_zero, List.getElem?_cons_succ, List.set_cons_zero, List.set_cons_succ, List.length_cons, List.length_nil, tgN, tgNil, tgCons, tgTup, wipeE, isT, String.reduceBEq, Bool.and_false, Bool.false_and, Bool.true_and, Bool.and_true, Bool.or_false, Bool.false_or, Bool.true_or, Bool.or_true, Bool.not_true, Bool.not_false, if_true, if_false, true_and, and_true, Bool.false_eq_true, Bool.true_eq_false, reduceIte, opEq_int, opNe_int, opEq_str, opNe_str, opAdd_int, opSub_int, opMod_pos, opLt_int, opLe_int, opGt_int, opGe_int, opLt_str, opLe_str, opIsN_ref, opIsN_non, opIsN_int, opIsN_tup, opIsN_str, opIsN_bl, opEq_bl, opNe_bl, opFdiv_int, opMul_int, opPow_int, atI_0, atI_1, atI_2, opIx_ref, opIx_tup, opIx_rl, opLen_tup, opLen_str, opLen_rl, opMax2_int, opMin2_int, opInt_int, opInt_bl, tyN_non, tyN_bl, tyN_int, tyN_str, tyN_tup, tyN_rl, truthW_bl, srcW_tup, srcW_rl, lstAt_of e5, Option.bind_some, Option.map_some]
  have c1 : (0 : Int) < 162259276829213363391578010288127 := by decide
  have c2 : (0 : Int) < 618970019642690137449562111 := by decide
  simp only [c1, c2, if_true, wO_some, List.map_cons, List.map_nil, List.replicate_succ, List.replicate_zero, List.cons_append, List.nil_append, Nat.reduceSub, Nat.reduceAdd, List.getElem?_cons_zero, List.getElem?_cons_succ, List.set_cons_zero, List.set_cons_succ, List.length_cons, List.length_nil, tgN, tgNil, tgCons, tgTup, wipeE, isT, String.reduceBEq, Bool.and_false, Bool.false_and, Bool.true_and, Bool.and_true, Bool.or_false, Bool.false_or, Bool.true_or, Bool.or_true, Bool.not_true, Bool.not_false, if_true, if_false, true_and, and_true, Bool.false_eq_true, Bool.true_eq_false, reduceIte]
  have k1 := mulOk_of (i := 982451653) (by decide) tb
  have k2 := mulOk_of (i := 49979687) (by decide) tb
  simp only [k1, k2, if_true, wO_some, opAdd_int, opPow_int]
  have k3 := pow3Ok (big (a % 162259276829213363391578010288127) 982451653 (b1 _ _ c1 (by decide)).2 (by decide) (by decide))
  simp only [k3, if_true, wO_some, opMod_pos, c2, opAdd_int, opPow_int]
  have k4 := fun x => pow3Ok (big (x % 618970019642690137449562111) 49979687 (b1 _ _ c2 (by decide)).2 (by decide) (by decide))
  simp only [k4, if_true, wO_some, opMod_pos, c1, opFdiv_int]
  have k5 : ∀ x, divOk x 524288 = true := fun x => divOk_of (by decide) (by decide)
  simp only [k5, if_true, wO_some, opMod_pos, h0]
  have last : ∀ x : Int, ∃ k : Int, W.int (x % m) = W.int k ∧ 0 ≤ k ∧ k < m ∧ Deck B (n + 1) d S2 ∧ Fr B S S2 ∧ S2.length = S.length := fun x => ⟨_, rfl, (mod_lt x).1, (mod_lt x).2, f1, f2, f3⟩
  by_cases hb : (b == 1) = true
  · rw [if_pos hb]
    by_cases ha : decide (0 < a) = true
    · rw [if_pos ha]
      exact ⟨_, rfl, (mod_lt a).1, (mod_lt a).2, fin _ _ _ t0 (by omega)⟩
    · rw [if_neg ha]
      exact last _
  · rw [if_neg hb]
    exact last _
/-! ### the deck made -/
noncomputable def d_law_deck : DS :=
  dSeq (dSet 1 (dLst (aNil)))
  (dSeq (dFor (dRng1 (aCons (dFn opMax2 (aCons (dC (.int 1)) (aCons (dFn opMin2 (aCons (dC (.int 63)) (aCons (dFn opLen (aCons (dVar 0) aNil)) aNil))) aNil))) aNil)) (tgN 2) (dSeq (dSet 3 (dC (.int 0)))
  (dSeq (dIf (dBool (dOp opLt (dVar 2) (dFn opLen (aCons (dVar 0) aNil)))) (dSet 3 (dOp opIx (dVar 0) (dVar 2))) (dNx))
  (dDrop (dMt "list" mAppend (dVar 1) (aCons (dLst (aCons (dVar 3) (aCons (dFn opInt (aCons (dOp opGe (dVar 3) (dOp opPow (dC (.int 10)) (dC (.int 18)))) aNil)) (aCons (dOp opMul (dC (.int 31)) (dVar 2)) (aNil))))) (aNil)))))))
  (dRet (dLst (aCons (dVar 1) (aCons (dC (.int 0)) (aNil))))))
noncomputable def n_law_deck : List W → M W := dfn 4 1 d_law_deck
theorem rngW_get {lo : Int} {n i : Nat} {x : W} (e : (rngW lo n)[i]? = some x) : i < n ∧ x = .int (lo + i) := by
  unfold rngW at e
  rw [List.getElem?_map, Option.map_eq_some_iff] at e
  obtain ⟨j, e1, rfl⟩ := e
  obtain ⟨h, e2⟩ := List.getElem?_eq_some_iff.mp e1
  simp only [List.length_range] at h
  simp only [List.getElem_range] at e2
  subst e2
  exact ⟨h, rfl⟩
theorem rngW_len {lo : Int} {n : Nat} : (rngW lo n).length = n := by simp [rngW]
theorem deck_spec {ns : List Int} {S : Store} {E : Ex → Store → Prop} (h : ns.length ≤ 63) :
    wp (n_law_deck [.rl (ns.map W.int)] S) (fun r S' => ∃ d, r = .ref d ∧ Deck S'.length 2000 d S' ∧ Fr 0 S S') E := by
  unfold n_law_deck d_law_deck
  simp only [wp_ok, wp_exc, wp_ret, wp_badM, wp_lift, wp_chk, wp_alloc, wp_grd, wp_tgt, wp_noXe, wp_dVar, wp_dC, wp_aNil, wp_aCons, wp_dTup, wp_dLst, wp_dOp, wp_dUn, wp_dFn, wB_bl, wp_dChain, wp_dTru, wp_dBool, wp_dNot, wp_dAnd, wp_dOr, wp_dAndV, wp_dOrV, wp_dNotV, wp_dIfE, wp_dYes, wp_dCall, wp_dCallK, wp_dIsi, wp_dIsi2, wp_dMt, wp_oN, wI_int, wp_oS, wp_dSl, wp_dSrc, wp_dZip, wp_dRng1, wp_dRng2, wp_dEnum, wp_dLc, wpS_nx, wpS_rt, wpS_bk, wpS_ct, wpS_exc, wpS_bad, wpS_ite, wpS_dSeq, wpS_dNx, wpS_dBk, wpS_dCt, wpS_dDrop, wpS_dRet, wpS_dRetN, wpS_dIf, wpS_dSet, wpS_dAsg, wpS_dPar, wpS_dPar3, wpS_dSet2, wpS_dPut, wpS_dRaise, wpS_dFor, wp_dfn, wO_some, wO_none, wO_map, wO_bind, wO_ite, List.map_cons, List.map_nil, List.replicate_succ, List.replicate_zero, List.cons_append, List.nil_append, Nat.reduceSub, Nat.reduceAdd, List.getElem?_cons_zero, List.getElem?_cons_succ, List.set_cons_zero, List.set_cons_succ, List.length_cons, List.length_nil, tgN, tgNil, tgCons, tgTup, wipeE, isT, String.reduceBEq, Bool.and_false, Bool.false_and, Bool.true_and, Bool.and_true, Bool.or_false, Bool.false_or, Bool.true_or, Bool.or_true, Bool.not_true, Bool.not_false, if_true, if_false, true_and, and_true, Bool.false_eq_true, Bool.true_eq_false, reduceIte, opEq_int, opNe_int, opEq_str, opNe_str, opAdd_int, opSub_int, opMod_pos, opLt_int, opLe_int, opGt_int, opGe_int, opLt_str, opLe_str, opIsN_ref, opIsN_non, opIsN_int, opIsN_tup, opIsN_str, opIsN_bl, opEq_bl, opNe_bl, opFdiv_int, opMul_int, opPow_int, atI_0, atI_1, atI_2, opIx_ref, opIx_tup, opIx_rl, opLen_tup, opLen_str, opLen_rl, opMax2_int, opMin2_int, opInt_int, opInt_bl, tyN_non, tyN_bl, tyN_int, tyN_str, tyN_tup, tyN_rl, truthW_bl, srcW_tup, srcW_rl, List.length_map, lenOk_of (show 0 ≤ 1000000 by decide)]
  obtain ⟨m, hm, hm0, hm1⟩ : ∃ m : Nat, (if (if (ns.length : Int) < 63 then (ns.length : Int) else 63) > 1 then (if (ns.length : Int) < 63 then (ns.length : Int) else 63) else 1) = (m : Int) ∧ 0 < m ∧ m ≤ 63 := by
    refine ⟨if ns.length ≤ 1 then 1 else ns.length, ?_, ?_, ?_⟩
    · split <;> split <;> (try split) <;> omega
    · split <;> omega
    · split <;> omega
  rw [hm]
  refine ⟨by unfold bnd; exact decide_eq_true (by omega), ?_⟩
  refine wpS_forL (fun i ε S' => ∃ x y cs, ε = [some (.rl (ns.map W.int)), some (.ref S.length), x, y] ∧ i ≤ m ∧ cs.length = i ∧ S'[S.length]? = some (.lst cs) ∧ Fr 0 S S' ∧ ∀ c ∈ cs, ∃ (p : Nat) (a b t : Int), c = .ref p ∧ S.length < p ∧ p < S'.length ∧ S'[p]? = some (.lst [.int a, .int b, .int t]) ∧ 0 ≤ t ∧ t ≤ 2000) ?_ ?_ ?_ ?_
  · exact ⟨_, _, [], rfl, Nat.zero_le _, rfl, get_new, Fr.app, fun c hc => by cases hc⟩
  · intros; trivial
  · rintro i x ε S' e ⟨x0, y0, cs, rfl, him, hl, g, f, hcs⟩
    obtain ⟨hi, rfl⟩ := rngW_get e
    have hi : i < m := by simpa using hi
    have z1 : powOk 10 18 = true := by decide +kernel
    have z2 : mulOk 31 (0 + (i : Int)) = true := mulOk_of (by decide) (by
      have : (0 + (i : Int)).natAbs ≤ 63 := by omega
      exact Nat.lt_of_le_of_lt this (by decide))
    simp only [wp_ok, wp_exc, wp_ret, wp_badM, wp_lift, wp_chk, wp_alloc, wp_grd, wp_tgt, wp_noXe, wp_dVar, wp_dC, wp_aNil, wp_aCons, wp_dTup, wp_dLst, wp_dOp, wp_dUn, wp_dFn, wB_bl, wp_dChain, wp_dTru, wp_dBool, wp_dNot, wp_dAnd, wp_dOr, wp_dAndV, wp_dOrV, wp_dNotV, wp_dIfE, wp_dYes, wp_dCall, wp_dCallK, wp_dIsi, wp_dIsi2, wp_dMt, wp_oN, wI_int, wp_oS, wp_dSl, wp_dSrc, wp_dZip, wp_dRng1, wp_dRng2, wp_dEnum, wp_dLc, wpS_nx, wpS_rt, wpS_bk, wpS_ct, wpS_exc, wpS_bad, wpS_ite, wpS_dSeq, wpS_dNx, wpS_dBk, wpS_dCt, wpS_dDrop, wpS_dRet, wpS_dRetN, wpS_dIf, wpS_dSet, wpS_dAsg, wpS_dPar, wpS_dPar3, wpS_dSet2, wpS_dPut, wpS_dRaise, wpS_dFor, wp_dfn, wO_some, wO_none, wO_map, wO_bind, wO_ite, List.map_cons, List.map_nil, List.replicate_succ, List.replicate_zero, List.cons_append, List.nil_append, Nat.reduceSub, Nat.reduceAdd, List.getElem?_cons_zero, List.getElem?_cons_succ, List.set_cons_zero, List.set_cons_succ, List.length_cons, List.length_nil, tgN, tgNil, tgCons, tgTup, wipeE, isT, String.reduceBEq, Bool.and_false, Bool.false_and, Bool.true_and, Bool.and_true, Bool.or_false, Bool.false_or, Bool.true_or, Bool.or_true, Bool.not_true, Bool.not_false, if_true, if_false, true_and, and_true, Bool.false_eq_true, Bool.true_eq_false, reduceIte, opEq_int, opNe_int, opEq_str, opNe_str, opAdd_int, opSub_int, opMod_pos, opLt_int, opLe_int, opGt_int, opGe_int, opLt_str, opLe_str, opIsN_ref, opIsN_non, opIsN_int, opIsN_tup, opIsN_str, opIsN_bl, opEq_bl, opNe_bl, opFdiv_int, opMul_int, opPow_int, atI_0, atI_1, atI_2, opIx_ref, opIx_tup, opIx_rl, opLen_tup, opLen_str, opLen_rl, opMax2_int, opMin2_int, opInt_int, opInt_bl, tyN_non, tyN_bl, tyN_int, tyN_str, tyN_tup, tyN_rl, truthW_bl, srcW_tup, srcW_rl, tyM_ref g, mAppend_ref g, z1, z2, lenOk_of (show 0 + 1 + 1 + 1 ≤ 1000000 by decide)]
    have key : ∀ (c b t : Int), 0 ≤ t → t ≤ 2000 → wO (mAppend (W.ref (List.length S)) [W.ref (List.length S')] (S' ++ [O.lst [W.int c, W.int b, W.int t]])) fun p => ∃ x y cs,
        [some (W.rl (List.map W.int ns)), some (W.ref (List.length S)), some (W.int (0 + ↑i)), some (W.int c)] = [some (W.rl (List.map W.int ns)), some (W.ref (List.length S)), x, y] ∧
        i + 1 ≤ m ∧ cs.length = i + 1 ∧ p.snd[List.length S]? = some (O.lst cs) ∧ Fr 0 S p.snd ∧ ∀ (c : W), c ∈ cs → ∃ p_1 a b t, c = W.ref p_1 ∧ List.length S < p_1 ∧ p_1 < List.length p.snd ∧ p.snd[p_1]? = some (O.lst [W.int a, W.int b, W.int t]) ∧ 0 ≤ t ∧ t ≤ 2000 := fun c b t t0 t1 => by
      have g2 : (S' ++ [O.lst [W.int c, W.int b, W.int t]])[S.length]? = some (.lst cs) := Fr.app.g0 g
      have lt := get_lt g
      rw [mAppend_ref g2, if_pos (by rw [sizeLine_eq]; omega), wO_some]
      refine ⟨_, _, cs ++ [.ref S'.length], rfl, hi, by simp [hl], get_set g2, f.snoc.setN (Nat.le_refl _), fun c' hc' => ?_⟩
      rcases List.mem_append.mp hc' with hc' | hc'
      · obtain ⟨p, a, b, t, e1, e2, e3, e4, e5, e6⟩ := hcs c' hc'
        exact ⟨p, a, b, t, e1, e2, by simp; omega, by rw [List.getElem?_set_ne (by omega)]; exact Fr.app.g0 e4, e5, e6⟩
      · rw [List.mem_singleton] at hc'
        exact ⟨S'.length, c, b, t, hc', lt, by simp, by rw [List.getElem?_set_ne (by omega)]; exact get_new, t0, t1⟩
    split
    · rename_i hlt
      have hlt : i < ns.length := by simpa using hlt
      have e2 : atI (List.map W.int ns) (0 + (i : Int)) = some (.int ns[i]) := by
        rw [atI_nn (by omega)]
        simp [hlt]
      rw [e2, wO_some]
      simp only [wp_ok, wp_exc, wp_ret, wp_badM, wp_lift, wp_chk, wp_alloc, wp_grd, wp_tgt, wp_noXe, wp_dVar, wp_dC, wp_aNil, wp_aCons, wp_dTup, wp_dLst, wp_dOp, wp_dUn, wp_dFn, wB_bl, wp_dChain, wp_dTru, wp_dBool, wp_dNot, wp_dAnd, wp_dOr, wp_dAndV, wp_dOrV, wp_dNotV, wp_dIfE, wp_dYes, wp_dCall, wp_dCallK, wp_dIsi, wp_dIsi2, wp_dMt, wp_oN, wI_int, wp_oS, wp_dSl, wp_dSrc, wp_dZip, wp_dRng1, wp_dRng2, wp_dEnum, wp_dLc, wpS_nx, wpS_rt, wpS_bk, wpS_ct, wpS_exc, wpS_bad, wpS_ite, wpS_dSeq, wpS_dNx, wpS_dBk, wpS_dCt, wpS_dDrop, wpS_dRet, wpS_dRetN, wpS_dIf, wpS_dSet, wpS_dAsg, wpS_dPar, wpS_dPar3, wpS_dSet2, wpS_dPut, wpS_dRaise, wpS_dFor, wp_dfn, wO_some, wO_none, wO_map, wO_bind, wO_ite, List.map_cons, List.map_nil, List.replicate_succ, List.replicate_zero, List.cons_append, List.nil_append, Nat.reduceSub, Nat.reduceAdd, List.getElem?_cons_zero, List.getElem?_cons_succ, List.set_cons_zero, List.set_cons_succ, List.length_cons, List.length_nil, tgN, tgNil, tgCons, tgTup, wipeE, isT, String.reduceBEq, Bool.and_false, Bool.false_and, Bool.true_and, Bool.and_true, Bool.or_false, Bool.false_or, Bool.true_or, Bool.or_true, Bool.not_true, Bool.not_false, if_true, if_false, true_and, and_true, Bool.false_eq_true, Bool.true_eq_false, reduceIte, opEq_int, opNe_int, opEq_str, opNe_str, opAdd_int, opSub_int, opMod_pos, opLt_int, opLe_int, opGt_int, opGe_int, opLt_str, opLe_str, opIsN_ref, opIsN_non, opIsN_int, opIsN_tup, opIsN_str, opIsN_bl, opEq_bl, opNe_bl, opFdiv_int, opMul_int, opPow_int, atI_0, atI_1, atI_2, opIx_ref, opIx_tup, opIx_rl, opLen_tup, opLen_str, opLen_rl, opMax2_int, opMin2_int, opInt_int, opInt_bl, tyN_non, tyN_bl, tyN_int, tyN_str, tyN_tup, tyN_rl, truthW_bl, srcW_tup, srcW_rl]
      exact key _ _ _ (by omega) (by omega)
    · exact key _ _ _ (by omega) (by omega)
  · rintro ε S' ⟨x0, y0, cs, rfl, him, hl, g, f, hcs⟩
    simp only [rngW_len] at hl
    simp only [wp_ok, wp_exc, wp_ret, wp_badM, wp_lift, wp_chk, wp_alloc, wp_grd, wp_tgt, wp_noXe, wp_dVar, wp_dC, wp_aNil, wp_aCons, wp_dTup, wp_dLst, wp_dOp, wp_dUn, wp_dFn, wB_bl, wp_dChain, wp_dTru, wp_dBool, wp_dNot, wp_dAnd, wp_dOr, wp_dAndV, wp_dOrV, wp_dNotV, wp_dIfE, wp_dYes, wp_dCall, wp_dCallK, wp_dIsi, wp_dIsi2, wp_dMt, wp_oN, wI_int, wp_oS, wp_dSl, wp_dSrc, wp_dZip, wp_dRng1, wp_dRng2, wp_dEnum, wp_dLc, wpS_nx, wpS_rt, wpS_bk, wpS_ct, wpS_exc, wpS_bad, wpS_ite, wpS_dSeq, wpS_dNx, wpS_dBk, wpS_dCt, wpS_dDrop, wpS_dRet, wpS_dRetN, wpS_dIf, wpS_dSet, wpS_dAsg, wpS_dPar, wpS_dPar3, wpS_dSet2, wpS_dPut, wpS_dRaise, wpS_dFor, wp_dfn, wO_some, wO_none, wO_map, wO_bind, wO_ite, List.map_cons, List.map_nil, List.replicate_succ, List.replicate_zero, List.cons_append, List.nil_append, Nat.reduceSub, Nat.reduceAdd, List.getElem?_cons_zero, List.getElem?_cons_succ, List.set_cons_zero, List.set_cons_succ, List.length_cons, List.length_nil, tgN, tgNil, tgCons, tgTup, wipeE, isT, String.reduceBEq, Bool.and_false, Bool.false_and, Bool.true_and, Bool.and_true, Bool.or_false, Bool.false_or, Bool.true_or, Bool.or_true, Bool.not_true, Bool.not_false, if_true, if_false, true_and, and_true, Bool.false_eq_true, Bool.true_eq_false, reduceIte, opEq_int, opNe_int, opEq_str, opNe_str, opAdd_int, opSub_int, opMod_pos, opLt_int, opLe_int, opGt_int, opGe_int, opLt_str, opLe_str, opIsN_ref, opIsN_non, opIsN_int, opIsN_tup, opIsN_str, opIsN_bl, opEq_bl, opNe_bl, opFdiv_int, opMul_int, opPow_int, atI_0, atI_1, atI_2, opIx_ref, opIx_tup, opIx_rl, opLen_tup, opLen_str, opLen_rl, opMax2_int, opMin2_int, opInt_int, opInt_bl, tyN_non, tyN_bl, tyN_int, tyN_str, tyN_tup, tyN_rl, truthW_bl, srcW_tup, srcW_rl, lenOk_of (show 2 ≤ 1000000 by decide)]
    refine ⟨S'.length, rfl, ⟨Nat.le_refl _, S.length, 0, cs, by simp, by have := get_lt g; simp; omega, by have := get_lt g; omega, get_new, Fr.app.g0 g, ?_, fun c hc => ?_⟩, f.snoc⟩
    · intro e; rw [e] at hl; simp at hl; omega
    · obtain ⟨p, a, b, t, e1, e2, e3, e4, e5, e6⟩ := hcs c hc
      exact ⟨p, a, b, t, e1, by simp; omega, by omega, by omega, Fr.app.g0 e4, e5, e6⟩
/-! ### same -/
noncomputable def d_law_same (r : List W → M W) : DS :=
  dSeq (dIf (dTru (dIsi2 "list" "tuple" (dVar 1))) (dSeq (dIf (dOr (dBool (dOp opNe (dIsi "list" (dVar 0)) (dIsi "list" (dVar 1)))) (dBool (dOp opNe (dIsi "tuple" (dVar 0)) (dIsi "tuple" (dVar 1))))) (dRet (dC (.bl false))) (dNx))
  (dSeq (dIf (dBool (dOp opNe (dFn opLen (aCons (dVar 0) aNil)) (dFn opLen (aCons (dVar 1) aNil)))) (dRet (dC (.bl false))) (dNx))
  (dRet (dOp opEq (dLc (dZip (aCons (dVar 0) (aCons (dVar 1) aNil))) (tgTup 2 (tgCons (tgN 2) (tgCons (tgN 3) (tgNil)))) (dNot (dTru (dCall r (aCons (dVar 2) (aCons (dVar 3) (aNil)))))) (dC (.int 1)) [2, 3]) (dLst (aNil)))))) (dNx))
  (dSeq (dIf (dOr (dBool (dOp opIsN (dVar 1) (dC .non))) (dBool (dOp opIsN (dVar 0) (dC .non)))) (dRet (dAndV (dOp opIsN (dVar 1) (dC .non)) (dOp opIsN (dVar 0) (dC .non)))) (dNx))
  (dSeq (dIf (dOr (dBool (dOp opNe (dIsi "bool" (dVar 0)) (dIsi "bool" (dVar 1)))) (dBool (dOp opNe (dIsi "str" (dVar 0)) (dIsi "str" (dVar 1))))) (dRet (dC (.bl false))) (dNx))
  (dRet (dOp opEq (dVar 0) (dVar 1)))))
noncomputable def n_law_same : Nat → List W → M W
  | 0 => fun _ => bad
  | j + 1 => dfn 4 2 (d_law_same (n_law_same j))

/-- equal in all parts -/
def Twin (S : Store) : Nat → W → W → Prop
  | 0, _, _ => False
  | n + 1, a, b => (a = .non ∧ b = .non) ∨ (∃ x, a = .bl x ∧ b = .bl x) ∨ (∃ x, a = .int x ∧ b = .int x) ∨ (∃ x, a = .str x ∧ b = .str x) ∨
    (∃ xs ys, a = .tup xs ∧ b = .tup ys ∧ xs.length = ys.length ∧ xs.length ≤ 1000000 ∧ ∀ (i : Nat) x y, xs[i]? = some x → ys[i]? = some y → Twin S n x y) ∨
    (∃ p q xs ys, a = .ref p ∧ b = .ref q ∧ S[p]? = some (.lst xs) ∧ S[q]? = some (.lst ys) ∧ xs.length = ys.length ∧ xs.length ≤ 1000000 ∧ ∀ (i : Nat) x y, xs[i]? = some x → ys[i]? = some y → Twin S n x y)
theorem Twin.mono {S S' : Store} (f : Fr 0 S S') : ∀ {n m : Nat} {a b : W}, n ≤ m → Twin S n a b → Twin S' m a b
  | 0, _, _, _, _, h => h.elim
  | n + 1, 0, _, _, h, _ => absurd h (by omega)
  | n + 1, m + 1, a, b, hm, h => by
    rcases h with h | h | h | h | ⟨xs, ys, e1, e2, e3, e4, h⟩ | ⟨p, q, xs, ys, e1, e2, g1, g2, e3, e4, h⟩
    · exact .inl h
    · exact .inr (.inl h)
    · exact .inr (.inr (.inl h))
    · exact .inr (.inr (.inr (.inl h)))
    · exact .inr (.inr (.inr (.inr (.inl ⟨xs, ys, e1, e2, e3, e4, fun i x y a b => Twin.mono f (by omega) (h i x y a b)⟩))))
    · exact .inr (.inr (.inr (.inr (.inr ⟨p, q, xs, ys, e1, e2, f.g0 g1, f.g0 g2, e3, e4, fun i x y a b => Twin.mono f (by omega) (h i x y a b)⟩))))
theorem zipL_at : ∀ {xs ys : List W} {i : Nat} {w : W}, (zipL xs ys)[i]? = some w → ∃ x y, xs[i]? = some x ∧ ys[i]? = some y ∧ w = .tup [x, y]
  | [], ys, i, w, e => by simp [zipL] at e
  | x :: xs, [], i, w, e => by simp [zipL] at e
  | x :: xs, y :: ys, 0, w, e => by
    simp [zipL] at e
    exact ⟨x, y, rfl, rfl, e.symm⟩
  | x :: xs, y :: ys, i + 1, w, e => by
    have e : (zipL xs ys)[i]? = some w := by simpa [zipL] using e
    simpa using zipL_at e
theorem zipL_length {xs ys : List W} (h : xs.length = ys.length) : (zipL xs ys).length = xs.length := by simp [zipL, h]
theorem opEq_nil {n m : Nat} {S : Store} (h1 : S[n]? = some (.lst [])) (h2 : S[m]? = some (.lst [])) : opEq (.ref n) (.ref m) S = some (.bl true, S) := by
  unfold opEq
  have e : ∀ k, S[k]? = some (.lst []) → toD S deep (.ref k) = some (.list []) := fun k h => by
    show (match S[k]? with
      | some (.lst ws) => (mapO (toD S 49) ws).map PyData.list
      | _ => none) = _
    rw [h]; rfl
  rw [e n h1, e m h2]
  rfl
theorem same_spec {E : Ex → Store → Prop} : ∀ (n : Nat) {a b : W} {S : Store}, Twin S n a b → wp (n_law_same n [a, b] S) (fun r S' => r = .bl true ∧ Fr 0 S S') E
  | 0, a, b, S, h => h.elim
  | n + 1, a, b, S, h => by
    have lc : ∀ (xs ys : List W) (g : Store → Prop), (∀ S', Fr 0 S S' → g S') → xs.length = ys.length → (∀ (i : Nat) x y, xs[i]? = some x → ys[i]? = some y → Twin S n x y) → ∀ ε0 : Ev, (∃ x0 y0, ε0 = [x0, y0, none, none]) →
        wp (lcL (tgTup 2 (tgCons (tgN 2) (tgCons (tgN 3) (tgNil)))) (dNot (dTru (dCall (n_law_same n) (aCons (dVar 2) (aCons (dVar 3) (aNil)))))) (dC (.int 1)) g ε0 (zipL xs ys) S) (fun ws S' => ws = [] ∧ Fr 0 S S') E := by
      rintro xs ys g hg hl ht ε0 ⟨x0, y0, rfl⟩
      refine wp_mono (wp_lcL (acc := []) (fun _ acc S' => acc = [] ∧ Fr 0 S S') ⟨rfl, Fr.refl⟩ (fun _ _ S' _ h => hg _ h.2) ?_) (fun ws S' q => by simpa using q) (fun _ _ q => q)
      rintro i x acc S' e ⟨rfl, f⟩
      obtain ⟨u, v, e1, e2, rfl⟩ := zipL_at e
      simp only [wp_ok, wp_exc, wp_ret, wp_badM, wp_lift, wp_chk, wp_alloc, wp_grd, wp_tgt, wp_noXe, wp_dVar, wp_dC, wp_aNil, wp_aCons, wp_dTup, wp_dLst, wp_dOp, wp_dUn, wp_dFn, wB_bl, wp_dChain, wp_dTru, wp_dBool, wp_dNot, wp_dAnd, wp_dOr, wp_dAndV, wp_dOrV, wp_dNotV, wp_dIfE, wp_dYes, wp_dCall, wp_dCallK, wp_dIsi, wp_dIsi2, wp_dMt, wp_oN, wI_int, wp_oS, wp_dSl, wp_dSrc, wp_dZip, wp_dRng1, wp_dRng2, wp_dEnum, wp_dLc, wpS_nx, wpS_rt, wpS_bk, wpS_ct, wpS_exc, wpS_bad, wpS_ite, wpS_dSeq, wpS_dNx, wpS_dBk, wpS_dCt, wpS_dDrop, wpS_dRet, wpS_dRetN, wpS_dIf, wpS_dSet, wpS_dAsg, wpS_dPar, wpS_dPar3, wpS_dSet2, wpS_dPut, wpS_dRaise, wpS_dFor, wp_dfn, wO_some, wO_none, wO_map, wO_bind, wO_ite, List.map_cons, List.map_nil, List.replicate_succ, List.replicate_zero, List.cons_append, List.nil_append, Nat.reduceSub, Nat.reduceAdd, List.getElem?_cons_zero, List.getElem?_cons_succ, List.set_cons_zero, List.set_cons_succ, List.length_cons, List.length_nil, tgN, tgNil, tgCons, tgTup, wipeE, isT, String.reduceBEq, Bool.and_false, Bool.false_and, Bool.true_and, Bool.and_true, Bool.or_false, Bool.false_or, Bool.true_or, Bool.or_true, Bool.not_true, Bool.not_false, if_true, if_false, true_and, and_true, Bool.false_eq_true, Bool.true_eq_false, reduceIte, opEq_int, opNe_int, opEq_str, opNe_str, opAdd_int, opSub_int, opMod_pos, opLt_int, opLe_int, opGt_int, opGe_int, opLt_str, opLe_str, opIsN_ref, opIsN_non, opIsN_int, opIsN_tup, opIsN_str, opIsN_bl, opEq_bl, opNe_bl, opFdiv_int, opMul_int, opPow_int, atI_0, atI_1, atI_2, opIx_ref, opIx_tup, opIx_rl, opLen_tup, opLen_str, opLen_rl, opMax2_int, opMin2_int, opInt_int, opInt_bl, tyN_non, tyN_bl, tyN_int, tyN_str, tyN_tup, tyN_rl, truthW_bl, srcW_tup, srcW_rl]
      refine wp_mono (same_spec n ((ht i u v e1 e2).mono f (Nat.le_refl _))) ?_ (fun _ _ q => q)
      rintro r S2 ⟨rfl, f2⟩
      simp only [wp_ok, wp_exc, wp_ret, wp_badM, wp_lift, wp_chk, wp_alloc, wp_grd, wp_tgt, wp_noXe, wp_dVar, wp_dC, wp_aNil, wp_aCons, wp_dTup, wp_dLst, wp_dOp, wp_dUn, wp_dFn, wB_bl, wp_dChain, wp_dTru, wp_dBool, wp_dNot, wp_dAnd, wp_dOr, wp_dAndV, wp_dOrV, wp_dNotV, wp_dIfE, wp_dYes, wp_dCall, wp_dCallK, wp_dIsi, wp_dIsi2, wp_dMt, wp_oN, wI_int, wp_oS, wp_dSl, wp_dSrc, wp_dZip, wp_dRng1, wp_dRng2, wp_dEnum, wp_dLc, wpS_nx, wpS_rt, wpS_bk, wpS_ct, wpS_exc, wpS_bad, wpS_ite, wpS_dSeq, wpS_dNx, wpS_dBk, wpS_dCt, wpS_dDrop, wpS_dRet, wpS_dRetN, wpS_dIf, wpS_dSet, wpS_dAsg, wpS_dPar, wpS_dPar3, wpS_dSet2, wpS_dPut, wpS_dRaise, wpS_dFor, wp_dfn, wO_some, wO_none, wO_map, wO_bind, wO_ite, List.map_cons, List.map_nil, List.replicate_succ, List.replicate_zero, List.cons_append, List.nil_append, Nat.reduceSub, Nat.reduceAdd, List.getElem?_cons_zero, List.getElem?_cons_succ, List.set_cons_zero, List.set_cons_succ, List.length_cons, List.length_nil, tgN, tgNil, tgCons, tgTup, wipeE, isT, String.reduceBEq, Bool.and_false, Bool.false_and, Bool.true_and, Bool.and_true, Bool.or_false, Bool.false_or, Bool.true_or, Bool.or_true, Bool.not_true, Bool.not_false, if_true, if_false, true_and, and_true, Bool.false_eq_true, Bool.true_eq_false, reduceIte, opEq_int, opNe_int, opEq_str, opNe_str, opAdd_int, opSub_int, opMod_pos, opLt_int, opLe_int, opGt_int, opGe_int, opLt_str, opLe_str, opIsN_ref, opIsN_non, opIsN_int, opIsN_tup, opIsN_str, opIsN_bl, opEq_bl, opNe_bl, opFdiv_int, opMul_int, opPow_int, atI_0, atI_1, atI_2, opIx_ref, opIx_tup, opIx_rl, opLen_tup, opLen_str, opLen_rl, opMax2_int, opMin2_int, opInt_int, opInt_bl, tyN_non, tyN_bl, tyN_int, tyN_str, tyN_tup, tyN_rl, truthW_bl, srcW_tup, srcW_rl, Bool.not_true]
      exact f.trans f2
    unfold n_law_same d_law_same
    rcases h with ⟨rfl, rfl⟩ | ⟨x, rfl, rfl⟩ | ⟨x, rfl, rfl⟩ | ⟨x, rfl, rfl⟩ | ⟨xs, ys, rfl, rfl, hl, hz, h⟩ | ⟨p, q, xs, ys, rfl, rfl, g1, g2, hl, hz, h⟩
    · simp only [wp_ok, wp_exc, wp_ret, wp_badM, wp_lift, wp_chk, wp_alloc, wp_grd, wp_tgt, wp_noXe, wp_dVar, wp_dC, wp_aNil, wp_aCons, wp_dTup, wp_dLst, wp_dOp, wp_dUn, wp_dFn, wB_bl, wp_dChain, wp_dTru, wp_dBool, wp_dNot, wp_dAnd, wp_dOr, wp_dAndV, wp_dOrV, wp_dNotV, wp_dIfE, wp_dYes, wp_dCall, wp_dCallK, wp_dIsi, wp_dIsi2, wp_dMt, wp_oN, wI_int, wp_oS, wp_dSl, wp_dSrc, wp_dZip, wp_dRng1, wp_dRng2, wp_dEnum, wp_dLc, wpS_nx, wpS_rt, wpS_bk, wpS_ct, wpS_exc, wpS_bad, wpS_ite, wpS_dSeq, wpS_dNx, wpS_dBk, wpS_dCt, wpS_dDrop, wpS_dRet, wpS_dRetN, wpS_dIf, wpS_dSet, wpS_dAsg, wpS_dPar, wpS_dPar3, wpS_dSet2, wpS_dPut, wpS_dRaise, wpS_dFor, wp_dfn, wO_some, wO_none, wO_map, wO_bind, wO_ite, List.map_cons, List.map_nil, List.replicate_succ, List.replicate_zero, List.cons_append, List.nil_append, Nat.reduceSub, Nat.reduceAdd, List.getElem?_cons_zero, List.getElem?_cons_succ, List.set_cons_zero, List.set_cons_succ, List.length_cons, List.length_nil, tgN, tgNil, tgCons, tgTup, wipeE, isT, String.reduceBEq, Bool.and_false, Bool.false_and, Bool.true_and, Bool.and_true, Bool.or_false, Bool.false_or, Bool.true_or, Bool.or_true, Bool.not_true, Bool.not_false, if_true, if_false, true_and, and_true, Bool.false_eq_true, Bool.true_eq_false, reduceIte, opEq_int, opNe_int, opEq_str, opNe_str, opAdd_int, opSub_int, opMod_pos, opLt_int, opLe_int, opGt_int, opGe_int, opLt_str, opLe_str, opIsN_ref, opIsN_non, opIsN_int, opIsN_tup, opIsN_str, opIsN_bl, opEq_bl, opNe_bl, opFdiv_int, opMul_int, opPow_int, atI_0, atI_1, atI_2, opIx_ref, opIx_tup, opIx_rl, opLen_tup, opLen_str, opLen_rl, opMax2_int, opMin2_int, opInt_int, opInt_bl, tyN_non, tyN_bl, tyN_int, tyN_str, tyN_tup, tyN_rl, truthW_bl, srcW_tup, srcW_rl, isT, String.reduceBEq, Bool.and_false, Bool.false_and, Bool.true_and, Bool.and_true, Bool.or_false, Bool.false_or, Bool.true_or, Bool.or_true]
      exact Fr.refl
    · simp only [wp_ok, wp_exc, wp_ret, wp_badM, wp_lift, wp_chk, wp_alloc, wp_grd, wp_tgt, wp_noXe, wp_dVar, wp_dC, wp_aNil, wp_aCons, wp_dTup, wp_dLst, wp_dOp, wp_dUn, wp_dFn, wB_bl, wp_dChain, wp_dTru, wp_dBool, wp_dNot, wp_dAnd, wp_dOr, wp_dAndV, wp_dOrV, wp_dNotV, wp_dIfE, wp_dYes, wp_dCall, wp_dCallK, wp_dIsi, wp_dIsi2, wp_dMt, wp_oN, wI_int, wp_oS, wp_dSl, wp_dSrc, wp_dZip, wp_dRng1, wp_dRng2, wp_dEnum, wp_dLc, wpS_nx, wpS_rt, wpS_bk, wpS_ct, wpS_exc, wpS_bad, wpS_ite, wpS_dSeq, wpS_dNx, wpS_dBk, wpS_dCt, wpS_dDrop, wpS_dRet, wpS_dRetN, wpS_dIf, wpS_dSet, wpS_dAsg, wpS_dPar, wpS_dPar3, wpS_dSet2, wpS_dPut, wpS_dRaise, wpS_dFor, wp_dfn, wO_some, wO_none, wO_map, wO_bind, wO_ite, List.map_cons, List.map_nil, List.replicate_succ, List.replicate_zero, List.cons_append, List.nil_append, Nat.reduceSub, Nat.reduceAdd, List.getElem?_cons_zero, List.getElem?_cons_succ, List.set_cons_zero, List.set_cons_succ, List.length_cons, List.length_nil, tgN, tgNil, tgCons, tgTup, wipeE, isT, String.reduceBEq, Bool.and_false, Bool.false_and, Bool.true_and, Bool.and_true, Bool.or_false, Bool.false_or, Bool.true_or, Bool.or_true, Bool.not_true, Bool.not_false, if_true, if_false, true_and, and_true, Bool.false_eq_true, Bool.true_eq_false, reduceIte, opEq_int, opNe_int, opEq_str, opNe_str, opAdd_int, opSub_int, opMod_pos, opLt_int, opLe_int, opGt_int, opGe_int, opLt_str, opLe_str, opIsN_ref, opIsN_non, opIsN_int, opIsN_tup, opIsN_str, opIsN_bl, opEq_bl, opNe_bl, opFdiv_int, opMul_int, opPow_int, atI_0, atI_1, atI_2, opIx_ref, opIx_tup, opIx_rl, opLen_tup, opLen_str, opLen_rl, opMax2_int, opMin2_int, opInt_int, opInt_bl, tyN_non, tyN_bl, tyN_int, tyN_str, tyN_tup, tyN_rl, truthW_bl, srcW_tup, srcW_rl, isT, String.reduceBEq, Bool.and_false, Bool.false_and, Bool.true_and, Bool.and_true, Bool.or_false, Bool.false_or, Bool.true_or, Bool.or_true, opIsN_bl, opEq_bl, opNe_bl, beq_self_eq_true, Bool.not_true]
      exact Fr.refl
    · simp only [wp_ok, wp_exc, wp_ret, wp_badM, wp_lift, wp_chk, wp_alloc, wp_grd, wp_tgt, wp_noXe, wp_dVar, wp_dC, wp_aNil, wp_aCons, wp_dTup, wp_dLst, wp_dOp, wp_dUn, wp_dFn, wB_bl, wp_dChain, wp_dTru, wp_dBool, wp_dNot, wp_dAnd, wp_dOr, wp_dAndV, wp_dOrV, wp_dNotV, wp_dIfE, wp_dYes, wp_dCall, wp_dCallK, wp_dIsi, wp_dIsi2, wp_dMt, wp_oN, wI_int, wp_oS, wp_dSl, wp_dSrc, wp_dZip, wp_dRng1, wp_dRng2, wp_dEnum, wp_dLc, wpS_nx, wpS_rt, wpS_bk, wpS_ct, wpS_exc, wpS_bad, wpS_ite, wpS_dSeq, wpS_dNx, wpS_dBk, wpS_dCt, wpS_dDrop, wpS_dRet, wpS_dRetN, wpS_dIf, wpS_dSet, wpS_dAsg, wpS_dPar, wpS_dPar3, wpS_dSet2, wpS_dPut, wpS_dRaise, wpS_dFor, wp_dfn, wO_some, wO_none, wO_map, wO_bind, wO_ite, List.map_cons, List.map_nil, List.replicate_succ, List.replicate_zero, List.cons_append, List.nil_append, Nat.reduceSub, Nat.reduceAdd, List.getElem?_cons_zero, List.getElem?_cons_succ, List.set_cons_zero, List.set_cons_succ, List.length_cons, List.length_nil, tgN, tgNil, tgCons, tgTup, wipeE, isT, String.reduceBEq, Bool.and_false, Bool.false_and, Bool.true_and, Bool.and_true, Bool.or_false, Bool.false_or, Bool.true_or, Bool.or_true, Bool.not_true, Bool.not_false, if_true, if_false, true_and, and_true, Bool.false_eq_true, Bool.true_eq_false, reduceIte, opEq_int, opNe_int, opEq_str, opNe_str, opAdd_int, opSub_int, opMod_pos, opLt_int, opLe_int, opGt_int, opGe_int, opLt_str, opLe_str, opIsN_ref, opIsN_non, opIsN_int, opIsN_tup, opIsN_str, opIsN_bl, opEq_bl, opNe_bl, opFdiv_int, opMul_int, opPow_int, atI_0, atI_1, atI_2, opIx_ref, opIx_tup, opIx_rl, opLen_tup, opLen_str, opLen_rl, opMax2_int, opMin2_int, opInt_int, opInt_bl, tyN_non, tyN_bl, tyN_int, tyN_str, tyN_tup, tyN_rl, truthW_bl, srcW_tup, srcW_rl, isT, String.reduceBEq, Bool.and_false, Bool.false_and, Bool.true_and, Bool.and_true, Bool.or_false, Bool.false_or, Bool.true_or, Bool.or_true, opIsN_bl, opEq_bl, opNe_bl, beq_self_eq_true, Bool.not_true]
      exact Fr.refl
    · simp only [wp_ok, wp_exc, wp_ret, wp_badM, wp_lift, wp_chk, wp_alloc, wp_grd, wp_tgt, wp_noXe, wp_dVar, wp_dC, wp_aNil, wp_aCons, wp_dTup, wp_dLst, wp_dOp, wp_dUn, wp_dFn, wB_bl, wp_dChain, wp_dTru, wp_dBool, wp_dNot, wp_dAnd, wp_dOr, wp_dAndV, wp_dOrV, wp_dNotV, wp_dIfE, wp_dYes, wp_dCall, wp_dCallK, wp_dIsi, wp_dIsi2, wp_dMt, wp_oN, wI_int, wp_oS, wp_dSl, wp_dSrc, wp_dZip, wp_dRng1, wp_dRng2, wp_dEnum, wp_dLc, wpS_nx, wpS_rt, wpS_bk, wpS_ct, wpS_exc, wpS_bad, wpS_ite, wpS_dSeq, wpS_dNx, wpS_dBk, wpS_dCt, wpS_dDrop, wpS_dRet, wpS_dRetN, wpS_dIf, wpS_dSet, wpS_dAsg, wpS_dPar, wpS_dPar3, wpS_dSet2, wpS_dPut, wpS_dRaise, wpS_dFor, wp_dfn, wO_some, wO_none, wO_map, wO_bind, wO_ite, List.map_cons, List.map_nil, List.replicate_succ, List.replicate_zero, List.cons_append, List.nil_append, Nat.reduceSub, Nat.reduceAdd, List.getElem?_cons_zero, List.getElem?_cons_succ, List.set_cons_zero, List.set_cons_succ, List.length_cons, List.length_nil, tgN, tgNil, tgCons, tgTup, wipeE, isT, String.reduceBEq, Bool.and_false, Bool.false_and, Bool.true_and, Bool.and_true, Bool.or_false, Bool.false_or, Bool.true_or, Bool.or_true, Bool.not_true, Bool.not_false, if_true, if_false, true_and, and_true, Bool.false_eq_true, Bool.true_eq_false, reduceIte, opEq_int, opNe_int, opEq_str, opNe_str, opAdd_int, opSub_int, opMod_pos, opLt_int, opLe_int, opGt_int, opGe_int, opLt_str, opLe_str, opIsN_ref, opIsN_non, opIsN_int, opIsN_tup, opIsN_str, opIsN_bl, opEq_bl, opNe_bl, opFdiv_int, opMul_int, opPow_int, atI_0, atI_1, atI_2, opIx_ref, opIx_tup, opIx_rl, opLen_tup, opLen_str, opLen_rl, opMax2_int, opMin2_int, opInt_int, opInt_bl, tyN_non, tyN_bl, tyN_int, tyN_str, tyN_tup, tyN_rl, truthW_bl, srcW_tup, srcW_rl, isT, String.reduceBEq, Bool.and_false, Bool.false_and, Bool.true_and, Bool.and_true, Bool.or_false, Bool.false_or, Bool.true_or, Bool.or_true, opIsN_bl, opEq_bl, opNe_bl, beq_self_eq_true, Bool.not_true]
      exact Fr.refl
    · simp only [wp_ok, wp_exc, wp_ret, wp_badM, wp_lift, wp_chk, wp_alloc, wp_grd, wp_tgt, wp_noXe, wp_dVar, wp_dC, wp_aNil, wp_aCons, wp_dTup, wp_dLst, wp_dOp, wp_dUn, wp_dFn, wB_bl, wp_dChain, wp_dTru, wp_dBool, wp_dNot, wp_dAnd, wp_dOr, wp_dAndV, wp_dOrV, wp_dNotV, wp_dIfE, wp_dYes, wp_dCall, wp_dCallK, wp_dIsi, wp_dIsi2, wp_dMt, wp_oN, wI_int, wp_oS, wp_dSl, wp_dSrc, wp_dZip, wp_dRng1, wp_dRng2, wp_dEnum, wp_dLc, wpS_nx, wpS_rt, wpS_bk, wpS_ct, wpS_exc, wpS_bad, wpS_ite, wpS_dSeq, wpS_dNx, wpS_dBk, wpS_dCt, wpS_dDrop, wpS_dRet, wpS_dRetN, wpS_dIf, wpS_dSet, wpS_dAsg, wpS_dPar, wpS_dPar3, wpS_dSet2, wpS_dPut, wpS_dRaise, wpS_dFor, wp_dfn, wO_some, wO_none, wO_map, wO_bind, wO_ite, List.map_cons, List.map_nil, List.replicate_succ, List.replicate_zero, List.cons_append, List.nil_append, Nat.reduceSub, Nat.reduceAdd, List.getElem?_cons_zero, List.getElem?_cons_succ, List.set_cons_zero, List.set_cons_succ, List.length_cons, List.length_nil, tgN, tgNil, tgCons, tgTup, wipeE, isT, String.reduceBEq, Bool.and_false, Bool.false_and, Bool.true_and, Bool.and_true, Bool.or_false, Bool.false_or, Bool.true_or, Bool.or_true, Bool.not_true, Bool.not_false, if_true, if_false, true_and, and_true, Bool.false_eq_true, Bool.true_eq_false, reduceIte, opEq_int, opNe_int, opEq_str, opNe_str, opAdd_int, opSub_int, opMod_pos, opLt_int, opLe_int, opGt_int, opGe_int, opLt_str, opLe_str, opIsN_ref, opIsN_non, opIsN_int, opIsN_tup, opIsN_str, opIsN_bl, opEq_bl, opNe_bl, opFdiv_int, opMul_int, opPow_int, atI_0, atI_1, atI_2, opIx_ref, opIx_tup, opIx_rl, opLen_tup, opLen_str, opLen_rl, opMax2_int, opMin2_int, opInt_int, opInt_bl, tyN_non, tyN_bl, tyN_int, tyN_str, tyN_tup, tyN_rl, truthW_bl, srcW_tup, srcW_rl, isT, String.reduceBEq, Bool.and_false, Bool.false_and, Bool.true_and, Bool.and_true, Bool.or_false, Bool.false_or, Bool.true_or, Bool.or_true, opIsN_bl, opEq_bl, opNe_bl, beq_self_eq_true, Bool.not_true, hl, zipW]
      refine ⟨lenOk_of (by rw [zipL_length hl]; exact hz), ?_⟩
      refine wp_mono (lc xs ys _ (fun _ _ => trivial) hl h _ ⟨_, _, rfl⟩) ?_ (fun _ _ q => q)
      rintro ws S2 ⟨rfl, f⟩
      refine ⟨lenOk_of (by decide), ?_⟩
      rw [opEq_nil (by rw [List.append_assoc]; exact get_new) get_new]
      exact ⟨rfl, f.snoc.snoc⟩
    · simp only [wp_ok, wp_exc, wp_ret, wp_badM, wp_lift, wp_chk, wp_alloc, wp_grd, wp_tgt, wp_noXe, wp_dVar, wp_dC, wp_aNil, wp_aCons, wp_dTup, wp_dLst, wp_dOp, wp_dUn, wp_dFn, wB_bl, wp_dChain, wp_dTru, wp_dBool, wp_dNot, wp_dAnd, wp_dOr, wp_dAndV, wp_dOrV, wp_dNotV, wp_dIfE, wp_dYes, wp_dCall, wp_dCallK, wp_dIsi, wp_dIsi2, wp_dMt, wp_oN, wI_int, wp_oS, wp_dSl, wp_dSrc, wp_dZip, wp_dRng1, wp_dRng2, wp_dEnum, wp_dLc, wpS_nx, wpS_rt, wpS_bk, wpS_ct, wpS_exc, wpS_bad, wpS_ite, wpS_dSeq, wpS_dNx, wpS_dBk, wpS_dCt, wpS_dDrop, wpS_dRet, wpS_dRetN, wpS_dIf, wpS_dSet, wpS_dAsg, wpS_dPar, wpS_dPar3, wpS_dSet2, wpS_dPut, wpS_dRaise, wpS_dFor, wp_dfn, wO_some, wO_none, wO_map, wO_bind, wO_ite, List.map_cons, List.map_nil, List.replicate_succ, List.replicate_zero, List.cons_append, List.nil_append, Nat.reduceSub, Nat.reduceAdd, List.getElem?_cons_zero, List.getElem?_cons_succ, List.set_cons_zero, List.set_cons_succ, List.length_cons, List.length_nil, tgN, tgNil, tgCons, tgTup, wipeE, isT, String.reduceBEq, Bool.and_false, Bool.false_and, Bool.true_and, Bool.and_true, Bool.or_false, Bool.false_or, Bool.true_or, Bool.or_true, Bool.not_true, Bool.not_false, if_true, if_false, true_and, and_true, Bool.false_eq_true, Bool.true_eq_false, reduceIte, opEq_int, opNe_int, opEq_str, opNe_str, opAdd_int, opSub_int, opMod_pos, opLt_int, opLe_int, opGt_int, opGe_int, opLt_str, opLe_str, opIsN_ref, opIsN_non, opIsN_int, opIsN_tup, opIsN_str, opIsN_bl, opEq_bl, opNe_bl, opFdiv_int, opMul_int, opPow_int, atI_0, atI_1, atI_2, opIx_ref, opIx_tup, opIx_rl, opLen_tup, opLen_str, opLen_rl, opMax2_int, opMin2_int, opInt_int, opInt_bl, tyN_non, tyN_bl, tyN_int, tyN_str, tyN_tup, tyN_rl, truthW_bl, srcW_tup, srcW_rl, isT, tyN_ref g1, tyN_ref g2, String.reduceBEq, Bool.and_false, Bool.false_and, Bool.true_and, Bool.and_true, Bool.or_false, Bool.false_or, Bool.true_or, Bool.or_true, opIsN_bl, opEq_bl, opNe_bl, beq_self_eq_true, Bool.not_true, hl, zipW, opLen_ref g1, opLen_ref g2, g1, g2]
      refine ⟨lenOk_of (by rw [zipL_length hl]; exact hz), ?_⟩
      refine wp_mono (lc xs ys _ (fun S' f => ⟨f.g0 g1, f.g0 g2⟩) hl h _ ⟨_, _, rfl⟩) ?_ (fun _ _ q => q)
      rintro ws S2 ⟨rfl, f⟩
      refine ⟨lenOk_of (by decide), ?_⟩
      rw [opEq_nil (by rw [List.append_assoc]; exact get_new) get_new]
      exact ⟨rfl, f.snoc.snoc⟩
end N
namespace N
open PySem L2
/-- the first answer of f at 0 .. n - 1 -/
def fstN {α : Type} (f : Nat → Option α) : Nat → Option α
  | 0 => none
  | n + 1 => match fstN f n with
    | some v => some v
    | none => f n
theorem fstN_none {α : Type} {f : Nat → Option α} : ∀ {n : Nat}, fstN f n = none ↔ ∀ i, i < n → f i = none
  | 0 => ⟨fun _ i h => absurd h (Nat.not_lt_zero _), fun _ => rfl⟩
  | n + 1 => by
    unfold fstN
    constructor
    · intro h i hi
      cases z : fstN f n with
      | some v => rw [z] at h; cases h
      | none =>
        rw [z] at h
        rcases Nat.lt_or_ge i n with q | q
        · exact fstN_none.mp z i q
        · have : i = n := by omega
          subst this
          exact h
    · intro h
      rw [fstN_none.mpr fun i hi => h i (by omega)]
      exact h n (by omega)
theorem fstN_some {α : Type} {f : Nat → Option α} {i : Nat} {v : α} (h : ∀ j, j < i → f j = none) (e : f i = some v) : ∀ {n : Nat}, i < n → fstN f n = some v
  | 0, hi => absurd hi (Nat.not_lt_zero _)
  | n + 1, hi => by
    unfold fstN
    rcases Nat.lt_or_ge i n with q | q
    · rw [fstN_some h e q]
    · have : i = n := by omega
      subst this
      rw [fstN_none.mpr h]
      exact e
theorem fstN_congr {α : Type} {f g : Nat → Option α} : ∀ {n : Nat}, (∀ i, i < n → f i = g i) → fstN f n = fstN g n
  | 0, _ => rfl
  | n + 1, h => by
    unfold fstN
    rw [fstN_congr fun i hi => h i (by omega), h n (by omega)]
theorem fstN_mem {α : Type} {f : Nat → Option α} {v : α} : ∀ {n : Nat}, fstN f n = some v → ∃ i, i < n ∧ f i = some v
  | 0, e => by cases e
  | n + 1, e => by
    unfold fstN at e
    cases z : fstN f n with
    | some u =>
      rw [z] at e
      obtain ⟨i, h1, h2⟩ := fstN_mem z
      cases e
      exact ⟨i, by omega, h2⟩
    | none => rw [z] at e; exact ⟨n, by omega, e⟩
/-- a loop that returns at the first answer -/
theorem wpS_forFind {t : DT} {body : DS} {g : Store → Prop} {D : NEnds} {items : List W} {ε : Ev} {S : Store} (f : Nat → Option W) (I : Ev → Store → Prop) (h0 : I ε S) (hg : ∀ ε S, I ε S → g S)
    (hs : ∀ (i : Nat) x ε S, items[i]? = some x → I ε S → wO (t x ε S) fun ε1 => wpS (body ε1 S) ⟨fun ε' S' => f i = none ∧ I ε' S', fun w S' => f i = some w ∧ (fstN f items.length = some w → D.rt w S'), fun _ _ => False, fun ε' S' => f i = none ∧ I ε' S', D.ex⟩)
    (hd : ∀ ε S, fstN f items.length = none → I ε S → D.nx ε S) : wpS (forL t body g items ε S) D := by
  refine wpS_forL (fun i ε S => (∀ j, j < i → f j = none) ∧ I ε S) ⟨fun j h => absurd h (Nat.not_lt_zero _), h0⟩ (fun _ _ _ _ h => hg _ _ h.2) ?_ (fun ε S h => hd ε S (fstN_none.mpr h.1) h.2)
  rintro i x ε S e ⟨hj, h⟩
  have q := hs i x ε S e h
  cases z : t x ε S with
  | none => rw [z] at q; exact q.elim
  | some ε1 =>
    rw [z] at q
    have lt : i < items.length := (List.getElem?_eq_some_iff.mp e).1
    have up : ∀ ε' S', f i = none ∧ I ε' S' → (∀ j, j < i + 1 → f j = none) ∧ I ε' S' := fun ε' S' ⟨a, b⟩ => ⟨fun j hh => by
      rcases Nat.lt_or_ge j i with q | q
      · exact hj j q
      · have : j = i := by omega
        rw [this]; exact a, b⟩
    refine wpS_mono (q : wpS (body ε1 S) _) up (fun w S' ⟨a, b⟩ => b (fstN_some hj a lt)) (fun _ _ h => h.elim) up (fun _ _ _ h => h)
/-- a comprehension without conditions, an answer for each item -/
theorem wp_lcMap {t : DT} {el : DE} {g : Store → Prop} {ε0 : Ev} {E : Ex → Store → Prop} {items : List W} {S : Store} (f : Nat → W) (I : Nat → Store → Prop) (h0 : I 0 S) (hg : ∀ i S, i ≤ items.length → I i S → g S)
    (hs : ∀ (i : Nat) x S, items[i]? = some x → I i S → wO (t x ε0 S) fun ε1 => wp (el ε1 S) (fun w S2 => w = f i ∧ I (i + 1) S2) (fun _ _ => False)) :
    wp (lcL t dYes el g ε0 items S) (fun ws S' => ws = (List.range items.length).map f ∧ I items.length S') E := by
  refine wp_mono (wp_lcL (acc := []) (fun i acc S => acc = (List.range i).map f ∧ I i S) ⟨rfl, h0⟩ (fun i _ S hi h => hg i S hi h.2) ?_) (fun ws S' q => by simpa using q) (fun _ _ q => q)
  rintro i x acc S e ⟨rfl, h⟩
  have q := hs i x S e h
  cases z : t x ε0 S with
  | none => rw [z] at q; exact q.elim
  | some ε1 =>
    rw [z] at q
    rw [wO_some, wp_dYes, if_pos rfl]
    refine wp_mono (q : wp (el ε1 S) _ _) (fun w S2 ⟨e1, h2⟩ => ⟨?_, h2⟩) (fun _ _ q => q)
    rw [e1, List.range_succ, List.map_append]
    rfl
theorem map_range {α β : Type} {f : α → β} {xs : List α} {g : Nat → β} (h : ∀ (i : Nat) x, xs[i]? = some x → g i = f x) : (List.range xs.length).map g = xs.map f := by
  apply List.ext_getElem?
  intro i
  rw [List.getElem?_map, List.getElem?_map]
  rcases Nat.lt_or_ge i xs.length with q | q
  · rw [List.getElem?_range q, List.getElem?_eq_getElem q]
    show some (g i) = some (f _)
    rw [h i _ (List.getElem?_eq_getElem q)]
  · rw [List.getElem?_eq_none (by simpa using q), List.getElem?_eq_none q]
    rfl
/-- each item answered alike -/
theorem wp_lcF {α : Type} {t : DT} {el : DE} {g : Store → Prop} {ε0 : Ev} {E : Ex → Store → Prop} {xs : List α} {c : α → W} {S : Store} (f : α → W) (I : Store → Prop) (h0 : I S) (hg : ∀ S, I S → g S)
    (hs : ∀ (i : Nat) x S, xs[i]? = some x → I S → wO (t (c x) ε0 S) fun ε1 => wp (el ε1 S) (fun w S2 => w = f x ∧ I S2) (fun _ _ => False)) :
    wp (lcL t dYes el g ε0 (xs.map c) S) (fun ws S' => ws = xs.map f ∧ I S') E := by
  refine wp_mono (wp_lcMap (fun i => match xs[i]? with
    | some x => f x
    | none => .non) (fun _ => I) h0 (fun _ S _ h => hg S h) ?_) (fun ws S' ⟨e, h⟩ => ⟨?_, h⟩) (fun _ _ q => q)
  · intro i w S e h
    rw [List.getElem?_map, Option.map_eq_some_iff] at e
    obtain ⟨x, e1, rfl⟩ := e
    rw [e1]
    exact hs i x S e1 h
  · rw [e, List.length_map]
    exact map_range fun i x e => by rw [e]
theorem blsOf_map : ∀ {bs : List Bool}, blsOf (bs.map W.bl) = some bs
  | [] => rfl
  | b :: bs => by
    have ih : blsOf (bs.map W.bl) = some bs := blsOf_map
    unfold blsOf at ih ⊢
    rw [List.map_cons]
    simp only [mapO, ih]
theorem listW_ref {n : Nat} {l : List W} {S : Store} (e : S[n]? = some (.lst l)) : listW (.ref n) S = some l := by
  unfold listW
  simp only [e]
theorem opAll_ref {n : Nat} {bs : List Bool} {S : Store} (e : S[n]? = some (.lst (bs.map W.bl))) : opAll [.ref n] S = some (.bl (bs.all id), S) := by
  unfold opAll
  simp only [listW_ref e, Option.bind_some, blsOf_map, Option.map_some]
theorem opAny_ref {n : Nat} {bs : List Bool} {S : Store} (e : S[n]? = some (.lst (bs.map W.bl))) : opAny [.ref n] S = some (.bl (bs.any id), S) := by
  unfold opAny
  simp only [listW_ref e, Option.bind_some, blsOf_map, Option.map_some]
/-- the comprehension under all(..) -/
theorem map_true {α : Type} {xs : List α} {f : α → Bool} (h : ∀ x ∈ xs, f x = true) : (xs.map f).all id = true := by
  simpa using h
/-- [1 for ..] == [], != [] : whether a list is empty -/
theorem toD_ints {S : Store} {k : Nat} : ∀ {ws : List W} {i : Int}, (∀ w ∈ ws, w = .int i) → mapO (toD S (k + 1)) ws = some (ws.map fun _ => PyData.int i)
  | [], i, _ => rfl
  | w :: ws, i, h => by
    have e := h w (List.mem_cons_self ..)
    subst e
    have ih := toD_ints (S := S) (k := k) fun w hw => h w (List.mem_cons_of_mem _ hw)
    simp only [mapO, ih, toD, List.map_cons]
theorem toD_lst {S : Store} {n k : Nat} {ws : List W} (e : S[n]? = some (.lst ws)) : toD S (k + 1) (.ref n) = (mapO (toD S k) ws).map PyData.list := by
  show (match S[n]? with
    | some (.lst ws) => (mapO (toD S k) ws).map PyData.list
    | _ => none) = _
  rw [e]
theorem eqv_nil {α : Type} {ws : List α} {f : α → PyData} : PyData.eqv (.list (ws.map f)) (.list []) = ws.isEmpty := by
  cases ws <;> simp [PyData.eqv, PyData.eqvAll]
theorem opEq_ones {n m : Nat} {ws : List W} {i : Int} {S : Store} (h1 : S[n]? = some (.lst ws)) (h2 : S[m]? = some (.lst [])) (hw : ∀ w ∈ ws, w = .int i) : opEq (.ref n) (.ref m) S = some (.bl ws.isEmpty, S) := by
  unfold opEq
  rw [toD_lst h1, toD_lst h2, toD_ints hw]
  show some (W.bl (PyData.eqv _ _), S) = _
  rw [eqv_nil]
theorem opNe_ones {n m : Nat} {ws : List W} {i : Int} {S : Store} (h1 : S[n]? = some (.lst ws)) (h2 : S[m]? = some (.lst [])) (hw : ∀ w ∈ ws, w = .int i) : opNe (.ref n) (.ref m) S = some (.bl (!ws.isEmpty), S) := by
  unfold opNe
  rw [toD_lst h1, toD_lst h2, toD_ints hw]
  show some (W.bl (!PyData.eqv _ _), S) = _
  rw [eqv_nil]

/-! ### repr of small data -/
mutual
def tiny : PyData → Bool
  | .none | .bool _ => true
  | .int i => decide (i.natAbs < 10 ^ 60)
  | .str x => x.cps.toList.all fun c => decide (c < 16 ^ 8)
  | .list xs | .tuple xs => tinyAll xs
  | .dict _ => false
def tinyAll : List PyData → Bool
  | [] => true
  | x :: xs => tiny x && tinyAll xs
end
mutual
theorem tiny_ok : ∀ d : PyData, tiny d = true → d.showable = true ∧ d.leavesShort 70 = true
  | .none, _ => ⟨rfl, rfl⟩
  | .bool _, _ => ⟨rfl, rfl⟩
  | .int i, h => by
    have h : i.natAbs < 10 ^ 60 := by simpa only [tiny, decide_eq_true_eq] using h
    constructor
    · simp only [PyData.showable, decide_eq_true_eq]
      by_cases z : i.natAbs = 0
      · rw [z]; decide
      · refine (Nat.log2_lt z).mpr (Nat.lt_of_lt_of_le h ?_)
        exact Nat.le_trans (by decide +kernel : 10 ^ 60 ≤ 2 ^ 200) (Nat.pow_le_pow_right (by decide) (by decide))
    · simp only [PyData.leavesShort, decide_eq_true_eq]
      have e := int_text_length_le10 (k := 60) (by decide) h
      show (Str.ofString (toString i)).length ≤ 70
      rw [ofString_length]; omega
  | .str x, h => by
    simp only [tiny] at h
    exact ⟨rfl, by simpa only [PyData.leavesShort] using h⟩
  | .list xs, h => by
    have h := tinyAll_ok xs (by simpa only [tiny] using h)
    exact ⟨by simpa only [PyData.showable] using h.1, by simpa only [PyData.leavesShort] using h.2⟩
  | .tuple xs, h => by
    have h := tinyAll_ok xs (by simpa only [tiny] using h)
    exact ⟨by simpa only [PyData.showable] using h.1, by simpa only [PyData.leavesShort] using h.2⟩
  | .dict _, h => by simp [tiny] at h
theorem tinyAll_ok : ∀ xs : List PyData, tinyAll xs = true → PyData.showableAll xs = true ∧ PyData.leavesShortAll 70 xs = true
  | [], _ => ⟨rfl, rfl⟩
  | x :: xs, h => by
    have h : tiny x = true ∧ tinyAll xs = true := by simpa only [tinyAll, Bool.and_eq_true] using h
    have h1 := tiny_ok x h.1
    have h2 := tinyAll_ok xs h.2
    exact ⟨by simp only [PyData.showableAll, h1.1, h2.1, Bool.and_self], by simp only [PyData.leavesShortAll, h1.2, h2.2, Bool.and_self]⟩
end
theorem tinyAll_map {α : Type} {f : α → PyData} : ∀ {xs : List α}, (∀ x ∈ xs, tiny (f x) = true) → tinyAll (xs.map f) = true
  | [], _ => rfl
  | x :: xs, h => by
    simp only [List.map_cons, tinyAll, h x (List.mem_cons_self ..), Bool.true_and]
    exact tinyAll_map fun y hy => h y (List.mem_cons_of_mem _ hy)
theorem bulkAll_map {α : Type} {f : α → PyData} {c : Nat} : ∀ {xs : List α}, (∀ x ∈ xs, (f x).bulk ≤ c) → PyData.bulkAll (xs.map f) ≤ xs.length * (c + 1)
  | [], _ => by simp [PyData.bulkAll]
  | x :: xs, h => by
    have h1 := h x (List.mem_cons_self ..)
    have h2 := bulkAll_map (xs := xs) fun y hy => h y (List.mem_cons_of_mem _ hy)
    simp only [List.map_cons, PyData.bulkAll, List.length_cons, Nat.add_mul, Nat.one_mul]
    omega
theorem opRepr_tiny {w : W} {S : Store} {d : PyData} (e : toD S deep w = some d) (h : tiny d = true) (hb : d.bulk ≤ 200000) : opRepr [w] S = some (.str d.shown, S) := by
  unfold opRepr
  have := tiny_ok d h
  have h2 := PyData.shown_le_bulk 70 (by decide) d this.2
  simp only [e, Option.bind_some]
  rw [if_pos ⟨this.1, by rw [sizeLine_eq]; omega⟩]
theorem mapO_map {α β γ : Type} {f : β → Option γ} {c : α → β} {g : α → γ} : ∀ {xs : List α}, (∀ x ∈ xs, f (c x) = some (g x)) → mapO f (xs.map c) = some (xs.map g)
  | [], _ => rfl
  | x :: xs, h => by
    have ih := mapO_map (f := f) (c := c) (g := g) (xs := xs) fun y hy => h y (List.mem_cons_of_mem _ hy)
    simp only [List.map_cons, mapO, h x (List.mem_cons_self ..), ih]
theorem str_tiny {x : Str} (h : okS x = true) : tiny (.str x) = true := by
  simp only [tiny, List.all_eq_true, decide_eq_true_eq]
  unfold okS at h
  rw [List.all_eq_true] at h
  intro c hc
  have := h c hc
  simp only [decide_eq_true_eq] at this
  exact Nat.lt_of_lt_of_le this (by decide)
theorem int_tiny {i : Int} (h : i.natAbs < 10 ^ 60) : tiny (.int i) = true := by simpa only [tiny, decide_eq_true_eq] using h

/-! ### comprehensions with a condition -/
theorem wp_lcP {α : Type} {t : DT} {cnd : DB} {el : DE} {g : Store → Prop} {ε0 : Ev} {E : Ex → Store → Prop} {xs : List α} {c : α → W} {S : Store} (p : α → Bool) (f : α → W) (I : Store → Prop) (h0 : I S) (hg : ∀ S, I S → g S)
    (hs : ∀ (i : Nat) x S, xs[i]? = some x → I S → wO (t (c x) ε0 S) fun ε1 => wp (cnd ε1 S) (fun b S1 => b = p x ∧ (if p x = true then wp (el ε1 S1) (fun w S2 => w = f x ∧ I S2) (fun _ _ => False) else I S1)) (fun _ _ => False)) :
    wp (lcL t cnd el g ε0 (xs.map c) S) (fun ws S' => ws = (xs.filter p).map f ∧ I S') E := by
  refine wp_mono (wp_lcL (acc := []) (fun i acc S => acc = ((xs.take i).filter p).map f ∧ I S) ⟨rfl, h0⟩ (fun i _ S hi h => hg S h.2) ?_) (fun ws S' q => ?_) (fun _ _ q => q)
  · rintro i w acc S e ⟨rfl, h⟩
    rw [List.getElem?_map, Option.map_eq_some_iff] at e
    obtain ⟨x, e1, rfl⟩ := e
    have q := hs i x S e1 h
    cases z : t (c x) ε0 S with
    | none => rw [z] at q; exact q.elim
    | some ε1 =>
      rw [z] at q
      rw [wO_some]
      refine wp_mono (q : wp (cnd ε1 S) _ _) (fun b S1 ⟨e2, q2⟩ => ?_) (fun _ _ q => q)
      have e3 : (xs.take (i + 1)).filter p = (xs.take i).filter p ++ (if p x = true then [x] else []) := by
        rw [List.take_succ, e1, List.filter_append]
        simp only [Option.toList, List.filter_cons, List.filter_nil]
      rw [e2, e3]
      cases hp : p x with
      | true =>
        rw [hp] at q2
        rw [if_pos rfl, if_pos rfl]
        refine wp_mono (q2 : wp (el ε1 S1) _ _) (fun w S2 ⟨e4, h4⟩ => ⟨?_, h4⟩) (fun _ _ q => q)
        rw [e4, List.map_append]; rfl
      | false =>
        rw [hp] at q2
        rw [if_neg (by decide), if_neg (by decide)]
        exact ⟨by rw [List.append_nil], q2⟩
  · simp only [List.nil_append, List.length_map, List.take_length] at q
    exact q
/-- [1 for ..]: whether one is there -/
theorem wp_lcEx {t : DT} {cnd : DB} {i1 : Int} {g : Store → Prop} {ε0 : Ev} {E : Ex → Store → Prop} {items : List W} {S : Store} (P : Nat → Prop) (I : Store → Prop) (h0 : I S) (hg : ∀ S, I S → g S)
    (hs : ∀ (i : Nat) x S, items[i]? = some x → I S → wO (t x ε0 S) fun ε1 => wp (cnd ε1 S) (fun b S1 => (b = true ↔ P i) ∧ I S1) (fun _ _ => False)) :
    wp (lcL t cnd (dC (.int i1)) g ε0 items S) (fun ws S' => (∀ w ∈ ws, w = .int i1) ∧ (ws.isEmpty = false ↔ ∃ i, i < items.length ∧ P i) ∧ I S') E := by
  refine wp_mono (wp_lcL (acc := []) (fun i acc S => (∀ w ∈ acc, w = .int i1) ∧ (acc.isEmpty = false ↔ ∃ j, j < i ∧ P j) ∧ I S) ⟨fun w h => by simp at h, ⟨fun h => by simp at h, fun ⟨j, h, _⟩ => absurd h (Nat.not_lt_zero _)⟩, h0⟩ (fun i _ S hi h => hg S h.2.2) ?_) (fun ws S' q => by simpa only [List.nil_append] using q) (fun _ _ q => q)
  rintro i w acc S e ⟨h1, h2, h⟩
  have q := hs i w S e h
  cases z : t w ε0 S with
  | none => rw [z] at q; exact q.elim
  | some ε1 =>
    rw [z] at q
    rw [wO_some]
    refine wp_mono (q : wp (cnd ε1 S) _ _) (fun b S1 ⟨e2, q2⟩ => ?_) (fun _ _ q => q)
    cases b with
    | true =>
      rw [if_pos rfl, wp_dC]
      refine ⟨fun w hw => ?_, ⟨fun _ => ⟨i, by omega, e2.mp rfl⟩, fun _ => by simp⟩, q2⟩
      rcases List.mem_append.mp hw with h | h
      · exact h1 w h
      · exact List.mem_singleton.mp h
    | false =>
      rw [if_neg (by decide)]
      refine ⟨h1, ⟨fun h => ?_, fun ⟨j, hj, hp⟩ => ?_⟩, q2⟩
      · obtain ⟨j, hj, hp⟩ := h2.mp h
        exact ⟨j, by omega, hp⟩
      · rcases Nat.lt_or_ge j i with q | q
        · exact h2.mpr ⟨j, q, hp⟩
        · have : j = i := by omega
          subst this
          exact absurd (e2.mpr hp) (by decide)
end N
namespace N
open PySem L2
theorem EVA : (type_of% @List.map_cons.{0,0}) ∧
  (type_of% @List.map_nil.{0,0}) ∧
  (type_of% @List.replicate_succ.{0}) ∧
  (type_of% @List.replicate_zero.{0}) ∧
  (type_of% @List.cons_append.{0}) ∧
  (type_of% @List.nil_append.{0}) ∧
  (type_of% @List.getElem?_cons_zero.{0}) ∧
  (type_of% @List.getElem?_cons_succ.{0}) ∧
  (type_of% @List.set_cons_zero.{0}) ∧
  (type_of% @List.set_cons_succ.{0}) ∧
  (type_of% @List.length_cons.{0}) ∧
  (type_of% @List.length_nil.{0}) ∧
  (type_of% @Bool.and_false) ∧
  (type_of% @Bool.false_and) ∧
  (type_of% @Bool.true_and) ∧
  (type_of% @Bool.and_true) ∧
  (type_of% @Bool.or_false) ∧
  (type_of% @Bool.false_or) ∧
  (type_of% @Bool.true_or) ∧
  (type_of% @Bool.or_true) ∧
  (type_of% @Bool.not_true) ∧
  (type_of% @Bool.not_false) ∧
  (type_of% @if_true.{1}) ∧
  (type_of% @if_false.{1}) ∧
  (type_of% @true_and) ∧
  (type_of% @and_true) ∧
  (type_of% @Bool.false_eq_true) ∧
  (type_of% @Bool.true_eq_false) :=
  ⟨@List.map_cons.{0,0},
  @List.map_nil.{0,0},
  @List.replicate_succ.{0},
  @List.replicate_zero.{0},
  @List.cons_append.{0},
  @List.nil_append.{0},
  @List.getElem?_cons_zero.{0},
  @List.getElem?_cons_succ.{0},
  @List.set_cons_zero.{0},
  @List.set_cons_succ.{0},
  @List.length_cons.{0},
  @List.length_nil.{0},
  @Bool.and_false,
  @Bool.false_and,
  @Bool.true_and,
  @Bool.and_true,
  @Bool.or_false,
  @Bool.false_or,
  @Bool.true_or,
  @Bool.or_true,
  @Bool.not_true,
  @Bool.not_false,
  @if_true.{1},
  @if_false.{1},
  @true_and,
  @and_true,
  @Bool.false_eq_true,
  @Bool.true_eq_false⟩
theorem WPA : (type_of% @wp_ok) ∧
  (type_of% @wp_exc) ∧
  (type_of% @wp_ret) ∧
  (type_of% @wp_badM) ∧
  (type_of% @wp_lift) ∧
  (type_of% @wp_chk) ∧
  (type_of% @wp_alloc) ∧
  (type_of% @wp_grd) ∧
  (type_of% @wp_tgt) ∧
  (type_of% @wp_noXe) ∧
  (type_of% @wp_dVar) ∧
  (type_of% @wp_dC) ∧
  (type_of% @wp_aNil) ∧
  (type_of% @wp_aCons) ∧
  (type_of% @wp_dTup) ∧
  (type_of% @wp_dLst) ∧
  (type_of% @wp_dOp) ∧
  (type_of% @wp_dUn) ∧
  (type_of% @wp_dFn) ∧
  (type_of% @wB_bl) ∧
  (type_of% @wp_dChain) ∧
  (type_of% @wp_dTru) ∧
  (type_of% @wp_dBool) ∧
  (type_of% @wp_dNot) ∧
  (type_of% @wp_dAnd) ∧
  (type_of% @wp_dOr) ∧
  (type_of% @wp_dAndV) ∧
  (type_of% @wp_dOrV) ∧
  (type_of% @wp_dNotV) ∧
  (type_of% @wp_dIfE) ∧
  (type_of% @wp_dYes) ∧
  (type_of% @wp_dCall) ∧
  (type_of% @wp_dCallK) ∧
  (type_of% @wp_dIsi) ∧
  (type_of% @wp_dIsi2) ∧
  (type_of% @wp_dMt) ∧
  (type_of% @wp_oN) ∧
  (type_of% @wI_int) ∧
  (type_of% @wp_oS) ∧
  (type_of% @wp_dSl) ∧
  (type_of% @wp_dSrc) ∧
  (type_of% @wp_dZip) ∧
  (type_of% @wp_dRng1) ∧
  (type_of% @wp_dRng2) ∧
  (type_of% @wp_dEnum) ∧
  (type_of% @wp_dLc) ∧
  (type_of% @wpS_nx) ∧
  (type_of% @wpS_rt) ∧
  (type_of% @wpS_bk) ∧
  (type_of% @wpS_ct) ∧
  (type_of% @wpS_exc) ∧
  (type_of% @wpS_bad) ∧
  (type_of% @wpS_ite) ∧
  (type_of% @wpS_dSeq) ∧
  (type_of% @wpS_dNx) ∧
  (type_of% @wpS_dBk) ∧
  (type_of% @wpS_dCt) ∧
  (type_of% @wpS_dDrop) ∧
  (type_of% @wpS_dRet) ∧
  (type_of% @wpS_dRetN) ∧
  (type_of% @wpS_dIf) ∧
  (type_of% @wpS_dSet) ∧
  (type_of% @wpS_dAsg) ∧
  (type_of% @wpS_dPar) ∧
  (type_of% @wpS_dPar3) ∧
  (type_of% @wpS_dSet2) ∧
  (type_of% @wpS_dPut) ∧
  (type_of% @wpS_dRaise) ∧
  (type_of% @wpS_dFor) ∧
  (type_of% @wp_dfn) ∧
  (type_of% @wO_some) ∧
  (type_of% @wO_none) ∧
  (type_of% @wO_map) ∧
  (type_of% @wO_bind) ∧
  (type_of% @wO_ite) ∧
  (type_of% @List.map_cons.{0,0}) ∧
  (type_of% @List.map_nil.{0,0}) ∧
  (type_of% @List.replicate_succ.{0}) ∧
  (type_of% @List.replicate_zero.{0}) ∧
  (type_of% @List.cons_append.{0}) ∧
  (type_of% @List.nil_append.{0}) ∧
  (type_of% @List.getElem?_cons_zero.{0}) ∧
  (type_of% @List.getElem?_cons_succ.{0}) ∧
  (type_of% @List.set_cons_zero.{0}) ∧
  (type_of% @List.set_cons_succ.{0}) ∧
  (type_of% @List.length_cons.{0}) ∧
  (type_of% @List.length_nil.{0}) ∧
  (type_of% @Bool.and_false) ∧
  (type_of% @Bool.false_and) ∧
  (type_of% @Bool.true_and) ∧
  (type_of% @Bool.and_true) ∧
  (type_of% @Bool.or_false) ∧
  (type_of% @Bool.false_or) ∧
  (type_of% @Bool.true_or) ∧
  (type_of% @Bool.or_true) ∧
  (type_of% @Bool.not_true) ∧
  (type_of% @Bool.not_false) ∧
  (type_of% @if_true.{1}) ∧
  (type_of% @if_false.{1}) ∧
  (type_of% @true_and) ∧
  (type_of% @and_true) ∧
  (type_of% @Bool.false_eq_true) ∧
  (type_of% @Bool.true_eq_false) ∧
  (type_of% @opEq_int) ∧
  (type_of% @opNe_int) ∧
  (type_of% @opEq_str) ∧
  (type_of% @opNe_str) ∧
  (type_of% @opAdd_int) ∧
  (type_of% @opSub_int) ∧
  (type_of% @opMod_pos) ∧
  (type_of% @opLt_int) ∧
  (type_of% @opLe_int) ∧
  (type_of% @opGt_int) ∧
  (type_of% @opGe_int) ∧
  (type_of% @opLt_str) ∧
  (type_of% @opLe_str) ∧
  (type_of% @opIsN_ref) ∧
  (type_of% @opIsN_non) ∧
  (type_of% @opIsN_int) ∧
  (type_of% @opIsN_tup) ∧
  (type_of% @opIsN_str) ∧
  (type_of% @opIsN_bl) ∧
  (type_of% @opEq_bl) ∧
  (type_of% @opNe_bl) ∧
  (type_of% @opFdiv_int) ∧
  (type_of% @opMul_int) ∧
  (type_of% @opPow_int) ∧
  (type_of% @atI_0) ∧
  (type_of% @atI_1) ∧
  (type_of% @atI_2) ∧
  (type_of% @opIx_ref) ∧
  (type_of% @opIx_tup) ∧
  (type_of% @opIx_rl) ∧
  (type_of% @opLen_tup) ∧
  (type_of% @opLen_str) ∧
  (type_of% @opLen_rl) ∧
  (type_of% @opMax2_int) ∧
  (type_of% @opMin2_int) ∧
  (type_of% @opInt_int) ∧
  (type_of% @opInt_bl) ∧
  (type_of% @tyN_non) ∧
  (type_of% @tyN_bl) ∧
  (type_of% @tyN_int) ∧
  (type_of% @tyN_str) ∧
  (type_of% @tyN_tup) ∧
  (type_of% @tyN_rl) ∧
  (type_of% @truthW_bl) ∧
  (type_of% @srcW_tup) ∧
  (type_of% @srcW_rl) :=
  ⟨@wp_ok,
  @wp_exc,
  @wp_ret,
  @wp_badM,
  @wp_lift,
  @wp_chk,
  @wp_alloc,
  @wp_grd,
  @wp_tgt,
  @wp_noXe,
  @wp_dVar,
  @wp_dC,
  @wp_aNil,
  @wp_aCons,
  @wp_dTup,
  @wp_dLst,
  @wp_dOp,
  @wp_dUn,
  @wp_dFn,
  @wB_bl,
  @wp_dChain,
  @wp_dTru,
  @wp_dBool,
  @wp_dNot,
  @wp_dAnd,
  @wp_dOr,
  @wp_dAndV,
  @wp_dOrV,
  @wp_dNotV,
  @wp_dIfE,
  @wp_dYes,
  @wp_dCall,
  @wp_dCallK,
  @wp_dIsi,
  @wp_dIsi2,
  @wp_dMt,
  @wp_oN,
  @wI_int,
  @wp_oS,
  @wp_dSl,
  @wp_dSrc,
  @wp_dZip,
  @wp_dRng1,
  @wp_dRng2,
  @wp_dEnum,
  @wp_dLc,
  @wpS_nx,
  @wpS_rt,
  @wpS_bk,
  @wpS_ct,
  @wpS_exc,
  @wpS_bad,
  @wpS_ite,
  @wpS_dSeq,
  @wpS_dNx,
  @wpS_dBk,
  @wpS_dCt,
  @wpS_dDrop,
  @wpS_dRet,
  @wpS_dRetN,
  @wpS_dIf,
  @wpS_dSet,
  @wpS_dAsg,
  @wpS_dPar,
  @wpS_dPar3,
  @wpS_dSet2,
  @wpS_dPut,
  @wpS_dRaise,
  @wpS_dFor,
  @wp_dfn,
  @wO_some,
  @wO_none,
  @wO_map,
  @wO_bind,
  @wO_ite,
  @List.map_cons.{0,0},
  @List.map_nil.{0,0},
  @List.replicate_succ.{0},
  @List.replicate_zero.{0},
  @List.cons_append.{0},
  @List.nil_append.{0},
  @List.getElem?_cons_zero.{0},
  @List.getElem?_cons_succ.{0},
  @List.set_cons_zero.{0},
  @List.set_cons_succ.{0},
  @List.length_cons.{0},
  @List.length_nil.{0},
  @Bool.and_false,
  @Bool.false_and,
  @Bool.true_and,
  @Bool.and_true,
  @Bool.or_false,
  @Bool.false_or,
  @Bool.true_or,
  @Bool.or_true,
  @Bool.not_true,
  @Bool.not_false,
  @if_true.{1},
  @if_false.{1},
  @true_and,
  @and_true,
  @Bool.false_eq_true,
  @Bool.true_eq_false,
  @opEq_int,
  @opNe_int,
  @opEq_str,
  @opNe_str,
  @opAdd_int,
  @opSub_int,
  @opMod_pos,
  @opLt_int,
  @opLe_int,
  @opGt_int,
  @opGe_int,
  @opLt_str,
  @opLe_str,
  @opIsN_ref,
  @opIsN_non,
  @opIsN_int,
  @opIsN_tup,
  @opIsN_str,
  @opIsN_bl,
  @opEq_bl,
  @opNe_bl,
  @opFdiv_int,
  @opMul_int,
  @opPow_int,
  @atI_0,
  @atI_1,
  @atI_2,
  @opIx_ref,
  @opIx_tup,
  @opIx_rl,
  @opLen_tup,
  @opLen_str,
  @opLen_rl,
  @opMax2_int,
  @opMin2_int,
  @opInt_int,
  @opInt_bl,
  @tyN_non,
  @tyN_bl,
  @tyN_int,
  @tyN_str,
  @tyN_tup,
  @tyN_rl,
  @truthW_bl,
  @srcW_tup,
  @srcW_rl⟩
end N
/-! OA: own classes: fields, methods, properties, new instances. -/
namespace N
open PySem L2
open PyProof.Rows (envOfC)
noncomputable section
/-! ### fields -/
def putI {α : Type} (f : Str) (v : α) : List (Str × α) → List (Str × α)
  | [] => [(f, v)]
  | (g, x) :: r => if g = f then (g, v) :: r else (g, x) :: putI f v r
theorem putI_putF (f : Str) (v : V) : ∀ l : List (Str × V), putI f v l = putF f v l
  | [] => rfl
  | (g, x) :: r => by
    show (if g = f then (g, v) :: r else (g, x) :: putI f v r) = (if g = f then (g, v) :: r else (g, x) :: putF f v r)
    rw [putI_putF f v r]
section
variable {K : PySem.W.Frag} {H : Hp} {ρ : List Addr}
theorem FR.put {f : Str} {w : W} {v : V} (r : VR K H ρ w v) : ∀ {fs : List (Str × W)} {l : List (Str × V)}, FR K H ρ fs l → FR K H ρ (putI f w fs) (putI f v l)
  | _, _, .nil => .cons ⟨rfl, r⟩ .nil
  | (g, x) :: fs, (g', y) :: l, .cons h t => by
    have e : g = g' := h.1
    subst e
    show FR K H ρ (if g = f then (g, w) :: fs else (g, x) :: putI f w fs) (if g = f then (g, v) :: l else (g, y) :: putI f v l)
    by_cases q : g = f
    · rw [if_pos q, if_pos q]; exact .cons ⟨rfl, r⟩ t
    · rw [if_neg q, if_neg q]; exact .cons h (FR.put r t)
theorem FR.look (f : Str) : ∀ {fs : List (Str × W)} {l : List (Str × V)}, FR K H ρ fs l → (fs.lookup f = none ∧ l.lookup f = none) ∨ ∃ w v, fs.lookup f = some w ∧ l.lookup f = some v ∧ VR K H ρ w v
  | _, _, .nil => .inl ⟨rfl, rfl⟩
  | (g, x) :: fs, (g', y) :: l, .cons h t => by
    have e : g = g' := h.1
    subst e
    rw [List.lookup_cons, List.lookup_cons]
    cases q : (f == g) with
    | true => exact .inr ⟨x, y, rfl, rfl, h.2⟩
    | false => exact FR.look f t
theorem FR.len {κ : Type} : ∀ {fs : List (κ × W)} {l : List (κ × V)}, FR K H ρ fs l → fs.length = l.length
  | _, _, .nil => rfl
  | _ :: _, _ :: _, .cons _ t => by rw [List.length_cons, List.length_cons, FR.len t]
end
/-- the fields of an instance of one of the classes -/
def insOf (cs : List Nat) (w : W) (S : Store) : Option (List (Str × W)) := match w with
  | .ref n => match S[n]? with
    | some (.ins c fs) => if cs.contains c = true then some fs else none
    | _ => none
  | _ => none
theorem insOf_inv {cs : List Nat} {w : W} {S : Store} {fs : List (Str × W)} (h : insOf cs w S = some fs) : ∃ n c, w = .ref n ∧ S[n]? = some (.ins c fs) ∧ cs.contains c = true := by
  unfold insOf at h
  cases w with
  | ref n =>
    simp only at h
    cases e : S[n]? with
    | none => rw [e] at h; cases h
    | some o =>
      rw [e] at h
      cases o with
      | ins c gs =>
        simp only at h
        split at h
        · rename_i hc
          cases h
          exact ⟨n, c, rfl, e, hc⟩
        · cases h
      | lst _ => cases h
      | dct _ => cases h
      | fdct _ => cases h
  | _ => cases h
theorem insOf_ref {cs : List Nat} {n c : Nat} {S : Store} {fs : List (Str × W)} (h : S[n]? = some (.ins c fs)) (hc : cs.contains c = true) : insOf cs (.ref n) S = some fs := by
  unfold insOf
  simp only [h, hc, if_true]
/-- what is asked of the classes for a field -/
def FldC (G : Top) (cs : List Nat) (f : Str) : Prop := ∀ c, cs.contains c = true → Cls G.K (G.cl c) ∧ NoAttr G.K (G.cl c) f
def getF (cs : List Nat) (f : Str) (w : W) (S : Store) : Option (W × Store) := match insOf cs w S with
  | some fs => (fs.lookup f).map fun v => (v, S)
  | none => none
def dFld (cs : List Nat) (f : Str) (d : DE) : DE := fun ε => d ε >>= fun w => lift (getF cs f w)
/-- an instance behind its relation -/
theorem SR.ins {G : Top} {H : Hp} {ρ : List Addr} {S : Store} {n c : Nat} {x : V} {fs : List (Str × W)} (sr : SR G H ρ S) (r : VR G.K H ρ (.ref n) x) (h : S[n]? = some (.ins c fs)) :
    ∃ a dx l, x = .ref a ∧ ρ[n]? = some a ∧ H a = some (.ins (G.cl c) dx l) ∧ FR G.K H ρ fs l := by
  cases r with
  | @ref n a q =>
    obtain ⟨dx, l, z, t⟩ := sr.ob n a _ q h
    exact ⟨a, dx, l, rfl, q, z, t⟩
section
variable {G : Top} {c : Ctx} {k : Nat}
theorem e_fld {cs : List Nat} {f : Str} {e : Expr} {d : DE} {pos : Pos} (hc : FldC G cs f) (he : EOk G c k e d) (hb : ∀ env, attributeBase e f env (eval e env) = eval e env := by intro _; rfl) : EOk G c k (.Attribute e f pos) (dFld cs f d) := fun X U F =>
  PE.imp (pe_fld (he X U F) (hb _)) fun σ H Q ⟨ρ, ε, S, ev, sr, h⟩ => ⟨ρ, ε, S, ev, sr, (Rg.bind h).mono fun x H1 ⟨w, S1, ρ1, e1, s1, r1, h1⟩ => by
    obtain ⟨v, S2, hv, q⟩ := Rg.lift h1
    unfold getF at hv
    cases hi : insOf cs w S1 with
    | none => rw [hi] at hv; cases hv
    | some fs =>
      rw [hi] at hv
      obtain ⟨n, ci, rfl, hs, hin⟩ := insOf_inv hi
      obtain ⟨a, dx, l, rfl, _, ha, fr⟩ := s1.ins r1 hs
      rcases fr.look f with ⟨z, _⟩ | ⟨w', v', z, z', rv⟩
      · simp only [z] at hv; cases hv
      · simp only [z] at hv
        cases hv
        obtain ⟨h1', h2'⟩ := hc ci hin
        exact ⟨a, _, dx, l, v', rfl, ha, by rw [F.K]; exact h1', by rw [F.K]; exact h2', z', q H1 ρ1 v' Ext.refl s1 rv⟩⟩
def setF (cs : List Nat) (f : Str) (w v : W) (S : Store) : Option Store := match w with
  | .ref n => match S[n]? with
    | some (.ins c fs) => if cs.contains c = true ∧ fs.length < 1000 then some (S.set n (.ins c (putI f v fs))) else none
    | _ => none
  | _ => none
def dSetF (cs : List Nat) (f : Str) (o d : DE) : DS := fun ε S => sBind (d ε) ε S fun v S1 => sBind (o ε) ε S1 fun w S2 => match setF cs f w v S2 with
  | some S3 => .nx ε S3
  | none => .bad
theorem s_fld {cs : List Nat} {f : Str} {o e : Expr} {d0 d : DE} {pos pos' : Pos} (hc : FldC G cs f) (ho : EOk G c k o d0) (he : EOk G c k e d) (hs : ∀ env, swapsWith e (some (.Attribute o f pos')) pos.line env = pure false := by intro _; rfl) :
    SOk G c k (.Assign [.Attribute o f pos'] e pos) (dSetF cs f d0 d) := fun X U F =>
  PS.imp (ps_fld (ho X U F) (he X U F) (hs _)) fun D σ H ⟨ρ, ε, S, ev, sr, h⟩ => ⟨ρ, ε, S, ev, sr, (Rg_sBind ev h).mono fun y H1 ⟨v, S1, ρ1, e1, s1, r1, h1⟩ => ⟨ρ1, ε, S1, ev.mono e1, s1, (Rg_sBind (ev.mono e1) h1).mono fun x H2 ⟨w, S2, ρ2, e2, s2, r2, h2⟩ => by
    cases hq : setF cs f w v S2 with
    | none => simp only [hq] at h2; exact h2.elim
    | some S3 =>
      simp only [hq] at h2
      unfold setF at hq
      cases w with
      | ref n =>
        simp only at hq
        cases eo : S2[n]? with
        | none => rw [eo] at hq; cases hq
        | some ob =>
          rw [eo] at hq
          cases ob with
          | ins ci fs =>
            simp only at hq
            split at hq
            · rename_i hz
              cases hq
              obtain ⟨a, dx, l, rfl, hn, ha, fr⟩ := s2.ins r2 eo
              obtain ⟨c1, c2⟩ := hc ci hz.1
              refine ⟨a, _, dx, l, rfl, ha, by rw [F.K]; exact c1, by rw [F.K]; exact c2, by rw [← fr.len]; exact hz.2, ?_⟩
              have ex : Ext G.K H2 ρ2 (upd H2 a (.ins (G.cl ci) dx (putF f y l))) ρ2 := Ext.upd hn ha trivial
              refine h2 _ ρ2 σ ex (s2.upd hn ha trivial ⟨dx, _, upd_same, ?_⟩) (((ev.mono e1).mono e2).mono ex)
              have q := FR.put (f := f) ((r1.mono e2).mono ex) (FR.mono ex fr)
              rw [putI_putF f y l] at q
              exact q
            · cases hq
          | lst _ => cases hq
          | dct _ => cases hq
          | fdct _ => cases hq
      | _ => cases hq⟩⟩
/-! ### methods -/
structure Mth (G : Top) (k : Nat) (cs : List Nat) (m : Str) (ps : List Str) (d : List W → M W) : Prop where
  ex : ∃ f fd, (∀ c, cs.contains c = true → Cls G.K (G.cl c) ∧ Meth G.K (G.cl c) m f) ∧ PySem.W.keepIn G.K (.ref f) = true ∧ FnG G k f fd ps (spN G d) ∧ Binds G.K fd ps []
def chkI (cs : List Nat) (m : Str) (w : W) : M Unit := fun S => match insOf cs w S with
  | some fs => if (fs.lookup m).isNone = true then .ok () S else .bad
  | none => .bad
theorem Rg.chkI {α β : Type} {U : WX} {σ : L2.St} {rel : Hp → List Addr → α → β → Prop} {cs : List Nat} {m : Str} {w : W} {f : Unit → M α} {S : Store} {H : Hp} {ρ : List Addr} {Q : β → Hp → Prop} (h : Rg G U σ rel ((N.chkI cs m w >>= f) S) H ρ Q) :
    (∃ fs, insOf cs w S = some fs ∧ fs.lookup m = none) ∧ Rg G U σ rel (f () S) H ρ Q := by
  have h' : Rg G U σ rel (M.bind (N.chkI cs m w) f S) H ρ Q := h
  unfold M.bind N.chkI at h'
  cases hi : insOf cs w S with
  | none => rw [hi] at h'; exact h'.elim
  | some fs =>
    rw [hi] at h'
    simp only at h'
    by_cases q : (fs.lookup m).isNone = true
    · rw [if_pos q] at h'
      exact ⟨⟨fs, rfl, by simpa using q⟩, h'⟩
    · rw [if_neg q] at h'
      exact h'.elim
theorem FR.lookN {K : PySem.W.Frag} {H : Hp} {ρ : List Addr} {f : Str} {fs : List (Str × W)} {l : List (Str × V)} (fr : FR K H ρ fs l) (h : fs.lookup f = none) : l.lookup f = none := by
  rcases fr.look f with ⟨_, z⟩ | ⟨w, v, z, _, _⟩
  · exact z
  · rw [h] at z; cases z
def dMeth (cs : List Nat) (m : Str) (d : List W → M W) (o : DE) (a : DA) : DE := fun ε => o ε >>= fun w => chkI cs m w >>= fun _ => a ε >>= fun ws => d (w :: ws)
theorem e_meth {j : Nat} {cs : List Nat} {m : Str} {ps : List Str} {d : List W → M W} {o e : Expr} {es : List Expr} {d0 : DE} {a : DA} {apos pos : Pos} {pl : Env → Sem Bool} (D : Mth G j cs m ps d) (hj : j ≤ k) (ho : EOk G c k o d0) (ha : AOk G c k (e :: es) a)
    (hst : ∀ env, starEach (e :: es) env = (false, eval e env) :: starEach es env := by intro _; rfl) (hpl : ∀ env, (backTo pos (starEach es env)).any (·.1) = false := by intro _; rfl)
    (ht : ∀ env, eval (.Call (.Attribute o m apos) (e :: es) [] pos) env = (do
      let ov ← eval o env
      standAt apos.atName
      let (f, first) ← holding [ov] (getMethod ov m (pl env))
      callWith pos f first (backTo pos (starEach (e :: es) env)) (backToKw pos (keywordEach [] env))) := by intro _; rfl) (hh : c.hot = none := by rfl) :
    EOk G c k (.Call (.Attribute o m apos) (e :: es) [] pos) (dMeth cs m d d0 a) := fun X U F => by
  obtain ⟨f, fd, hc, hk, hf, hb⟩ := D.ex
  refine ⟨fun pins s σ H Q I h => ?_⟩
  obtain ⟨ρ, ε, S, ev, sr, h⟩ := h
  refine PySem.W.methodCall_KW (pl := pl X.env) (thn ((ho X U F).run pins s σ H _ I ⟨ρ, ε, S, ev, sr, Rg.bind h⟩) fun u s1 ⟨x, H1, I1, rx, w, S1, ρ1, e1, s1', r1, h1⟩ => ?_) (ht _)
  obtain ⟨⟨fs, hi, hl⟩, h2⟩ := Rg.chkI h1
  obtain ⟨n, ci, rfl, hs, hin⟩ := insOf_inv hi
  obtain ⟨b, dx, l, rfl, _, hbb, fr⟩ := s1'.ins r1 hs
  obtain rfl : u = Value.ref b := rx
  obtain ⟨c1, c2⟩ := hc ci hin
  refine getmeth_ok I1 hbb (by rw [F.K]; exact c1) (by rw [F.K]; exact c2) (fr.lookN hl) ?_
  refine PySem.W.callWith_K (first := [.ref b]) (h₀ := X.base) I.ok.mod.kin (by rw [F.K]; exact hk) (thn ((ha X U F).run pos pins s1 σ H1 _ I1 ⟨ρ1, ε, S1, ev.mono e1, s1', Rg.bind h2⟩) fun us s2 ⟨vs, H2, I2, r, ws, S2, ρ2, e2, s2', r2, h3⟩ => ⟨I2.kIn, ?_⟩) (hst _) (hpl _)
  have sp := call_sp h3 s2' (.cons (r1.mono e2) r2)
  have rr : Vals (V.ref b :: vs) (Value.ref b :: us) := .cons rfl r
  exact run_G F hh hf hj (args := ⟨.ref b :: us, []⟩) I2 (binds0 hb (by rw [← F.K]; exact I2.kIn) (by rw [← rr.length]; exact hf.len _ _ _ _ sp)) rr sp
theorem e_meth0 {j : Nat} {cs : List Nat} {m : Str} {ps : List Str} {d : List W → M W} {o : Expr} {d0 : DE} {apos pos : Pos} {pl : Env → Sem Bool} (D : Mth G j cs m ps d) (hj : j ≤ k) (ho : EOk G c k o d0)
    (ht : ∀ env, eval (.Call (.Attribute o m apos) [] [] pos) env = (do
      let ov ← eval o env
      standAt apos.atName
      let (f, first) ← holding [ov] (getMethod ov m (pl env))
      callWith pos f first (backTo pos (starEach [] env)) (backToKw pos (keywordEach [] env))) := by intro _; rfl) (hh : c.hot = none := by rfl) :
    EOk G c k (.Call (.Attribute o m apos) [] [] pos) (dMeth cs m d d0 aNil) := fun X U F => by
  obtain ⟨f, fd, hc, hk, hf, hb⟩ := D.ex
  refine ⟨fun pins s σ H Q I h => ?_⟩
  obtain ⟨ρ, ε, S, ev, sr, h⟩ := h
  refine PySem.W.methodCall_KW (pl := pl X.env) (thn ((ho X U F).run pins s σ H _ I ⟨ρ, ε, S, ev, sr, Rg.bind h⟩) fun u s1 ⟨x, H1, I1, rx, w, S1, ρ1, e1, s1', r1, h1⟩ => ?_) (ht _)
  obtain ⟨⟨fs, hi, hl⟩, h2⟩ := Rg.chkI h1
  obtain ⟨n, ci, rfl, hs, hin⟩ := insOf_inv hi
  obtain ⟨b, dx, l, rfl, _, hbb, fr⟩ := s1'.ins r1 hs
  obtain rfl : u = Value.ref b := rx
  obtain ⟨c1, c2⟩ := hc ci hin
  refine getmeth_ok I1 hbb (by rw [F.K]; exact c1) (by rw [F.K]; exact c2) (fr.lookN hl) ?_
  have h3 : Rg G U σ (VR G.K) (d [.ref n] S1) H1 ρ1 Q := h2
  have sp := call_sp h3 s1' (.cons r1 .nil)
  have rr : Vals [V.ref b] [Value.ref b] := .cons rfl .nil
  exact PySem.W.callWith_K0 (first := [.ref b]) I1.kIn (by rw [F.K]; exact hk) (run_G F hh hf hj (args := ⟨[.ref b], []⟩) I1 (binds0 hb (by rw [← F.K]; exact I1.kIn) (hf.len _ _ _ _ sp)) rr sp)
/-- o.m(e, .., k = v, ..) -/
structure MthK (G : Top) (k : Nat) (cs : List Nat) (m : Str) (ps : List Str) (d : List W → M W) (ks : List Str) (na : Nat) (dW : List W) (perm : List Nat) : Prop where
  ex : ∃ f fd, (∀ c, cs.contains c = true → Cls G.K (G.cl c) ∧ Meth G.K (G.cl c) m f) ∧ PySem.W.keepIn G.K (.ref f) = true ∧ FnG G k f fd ps (spN G d) ∧ KB G.K fd ps ks (na + 1) dW perm
def permD (d : List W → M W) (na nk : Nat) (dW : List W) (perm : List Nat) (ws us : List W) : M W := fun S => if ws.length = na ∧ us.length = nk then (match permW perm (ws ++ us ++ dW) with
  | some zs => d zs S
  | none => .bad) else .bad
def dMethK (cs : List Nat) (m : Str) (d : List W → M W) (na nk : Nat) (dW : List W) (perm : List Nat) (o : DE) (a b : DA) : DE := fun ε => o ε >>= fun w => chkI cs m w >>= fun _ => a ε >>= fun ws => b ε >>= fun us => permD d (na + 1) nk dW perm (w :: ws) us
theorem e_methK0 {j : Nat} {cs : List Nat} {m : Str} {ps ks : List Str} {dW : List W} {perm : List Nat} {d : List W → M W} {o : Expr} {d0 : DE} {kws : List Keyword} {b : DA} {apos pos : Pos} {pl : Env → Sem Bool} (D : MthK G j cs m ps d ks 0 dW perm) (hj : j ≤ k) (ho : EOk G c k o d0) (hkw : KOk G c k kws b)
    (hall : ∀ env, (backToKw pos (keywordEach kws env)).all (·.1.isSome) = true := by intro _; rfl) (hks : ∀ env, (backToKw pos (keywordEach kws env)).filterMap (·.1) = ks := by intro _; rfl)
    (hpl : ∀ env, ((backTo pos (starEach [] env)).any (·.1) || (backToKw pos (keywordEach kws env)).any (·.1.isNone)) = false := by intro _; rfl)
    (ht : ∀ env, eval (.Call (.Attribute o m apos) [] kws pos) env = (do
      let ov ← eval o env
      standAt apos.atName
      let (f, first) ← holding [ov] (getMethod ov m (pl env))
      callWith pos f first (backTo pos (starEach [] env)) (backToKw pos (keywordEach kws env))) := by intro _; rfl) (hh : c.hot = none := by rfl) :
    EOk G c k (.Call (.Attribute o m apos) [] kws pos) (dMethK cs m d 0 ks.length dW perm d0 aNil b) := fun X U F => by
  obtain ⟨f, fd, hc, hk, hf, hb⟩ := D.ex
  refine ⟨fun pins s σ H Q I h => ?_⟩
  obtain ⟨ρ, ε, S, ev, sr, h⟩ := h
  refine PySem.W.methodCall_KW (pl := pl X.env) (thn ((ho X U F).run pins s σ H _ I ⟨ρ, ε, S, ev, sr, Rg.bind h⟩) fun u s1 ⟨x, H1, I1, rx, w, S1, ρ1, e1, s1', r1, h1⟩ => ?_) (ht _)
  obtain ⟨⟨fs, hi, hl⟩, h2⟩ := Rg.chkI h1
  obtain ⟨n, ci, rfl, hs, hin⟩ := insOf_inv hi
  obtain ⟨q, dx, l, rfl, _, hbb, fr⟩ := s1'.ins r1 hs
  obtain rfl : u = Value.ref q := rx
  obtain ⟨c1, c2⟩ := hc ci hin
  refine getmeth_ok I1 hbb (by rw [F.K]; exact c1) (by rw [F.K]; exact c2) (fr.lookN hl) ?_
  refine PySem.W.callWith_KW0 (first := [.ref q]) (h₀ := X.base) I.ok.mod.kin (by rw [F.K]; exact hk) (hall _) ?_ (hpl _)
  have h3 : Rg G U σ (VR G.K) ((b ε >>= fun us => permD d 1 ks.length dW perm [.ref n] us) S1) H1 ρ1 Q := h2
  refine thn ((hkw X U F).run pos pins s1 σ H1 _ I1 ⟨ρ1, ε, S1, ev.mono e1, s1', Rg.bind h3⟩) fun uz s2 ⟨zs, H2, I2, rz, us', S2, ρ2, e2, s2', r2, q2⟩ => ⟨I2.kIn, ?_⟩
  rw [hks]
  exact run_K F hh hf hj hb I2 s2' (.cons (r1.mono e2) .nil) r2 (vs := [.ref q]) (uv := [.ref q]) (.cons rfl .nil) rz q2
theorem e_methK {j : Nat} {cs : List Nat} {m : Str} {ps ks : List Str} {na : Nat} {dW : List W} {perm : List Nat} {d : List W → M W} {o e : Expr} {es : List Expr} {d0 : DE} {kws : List Keyword} {a b : DA} {apos pos : Pos} {pl : Env → Sem Bool} (D : MthK G j cs m ps d ks na dW perm) (hj : j ≤ k) (ho : EOk G c k o d0) (ha : AOk G c k (e :: es) a) (hkw : KOk G c k kws b)
    (hall : ∀ env, (backToKw pos (keywordEach kws env)).all (·.1.isSome) = true := by intro _; rfl) (hks : ∀ env, (backToKw pos (keywordEach kws env)).filterMap (·.1) = ks := by intro _; rfl)
    (hst : ∀ env, starEach (e :: es) env = (false, eval e env) :: starEach es env := by intro _; rfl)
    (hpl : ∀ env, ((backTo pos (starEach (e :: es) env)).any (·.1) || (backToKw pos (keywordEach kws env)).any (·.1.isNone)) = false := by intro _; rfl)
    (ht : ∀ env, eval (.Call (.Attribute o m apos) (e :: es) kws pos) env = (do
      let ov ← eval o env
      standAt apos.atName
      let (f, first) ← holding [ov] (getMethod ov m (pl env))
      callWith pos f first (backTo pos (starEach (e :: es) env)) (backToKw pos (keywordEach kws env))) := by intro _; rfl) (hh : c.hot = none := by rfl) :
    EOk G c k (.Call (.Attribute o m apos) (e :: es) kws pos) (dMethK cs m d na ks.length dW perm d0 a b) := fun X U F => by
  obtain ⟨f, fd, hc, hk, hf, hb⟩ := D.ex
  refine ⟨fun pins s σ H Q I h => ?_⟩
  obtain ⟨ρ, ε, S, ev, sr, h⟩ := h
  refine PySem.W.methodCall_KW (pl := pl X.env) (thn ((ho X U F).run pins s σ H _ I ⟨ρ, ε, S, ev, sr, Rg.bind h⟩) fun u s1 ⟨x, H1, I1, rx, w, S1, ρ1, e1, s1', r1, h1⟩ => ?_) (ht _)
  obtain ⟨⟨fs, hi, hl⟩, h2⟩ := Rg.chkI h1
  obtain ⟨n, ci, rfl, hs, hin⟩ := insOf_inv hi
  obtain ⟨q, dx, l, rfl, _, hbb, fr⟩ := s1'.ins r1 hs
  obtain rfl : u = Value.ref q := rx
  obtain ⟨c1, c2⟩ := hc ci hin
  refine getmeth_ok I1 hbb (by rw [F.K]; exact c1) (by rw [F.K]; exact c2) (fr.lookN hl) ?_
  refine PySem.W.callWith_KW (first := [.ref q]) (h₀ := X.base) I.ok.mod.kin (by rw [F.K]; exact hk) (hall _) (thn ((ha X U F).run pos pins s1 σ H1 _ I1 ⟨ρ1, ε, S1, ev.mono e1, s1', Rg.bind h2⟩) fun us s2 ⟨vs, H2, I2, r, ws, S2, ρ2, e2, s2', r2, q1⟩ => ?_) (hpl _) (hst _)
  refine thn ((hkw X U F).run pos pins s2 σ H2 _ I2 ⟨ρ2, ε, S2, (ev.mono e1).mono e2, s2', Rg.bind q1⟩) fun uz s3 ⟨zs, H3, I3, rz, us', S3, ρ3, e3, s3', r3, q2⟩ => ⟨I3.kIn, ?_⟩
  rw [hks]
  exact run_K F hh hf hj hb I3 s3' (.cons ((r1.mono e2).mono e3) (VRs.mono e3 r2)) r3 (vs := .ref q :: vs) (uv := .ref q :: us) (.cons rfl r) rz q2
/-! ### a new instance -/
structure MakC (G : Top) (k : Nat) (x : Str) (ci : Nat) (ps : List Str) (d : List W → M W) (ks : List Str) (na : Nat) (dW : List W) (perm : List Nat) : Prop where
  ex : ∃ f fd, G.mg x = some (.ref (G.cl ci)) ∧ Mk G.K (G.cl ci) f ∧ FnG G k f fd ps (spN G d) ∧ KB G.K fd ps ks (na + 1) dW perm
def mkW (ci : Nat) (d : List W → M W) (na nk : Nat) (dW : List W) (perm : List Nat) (ws us : List W) : M W := fun S => match permD d (na + 1) nk dW perm (.ref S.length :: ws) us (S ++ [.ins ci []]) with
  | .ok .non S' => .ok (.ref S.length) S'
  | .exc x S' => .exc x S'
  | _ => .bad
theorem run_M {X : Cx} {U : WX} (F : Fit G c k X U) (hh : c.hot = none) {j : Nat} {f : Addr} {fd : FuncData} {ps ks : List Str} {na ci : Nat} {dW : List W} {perm : List Nat} {d : List W → M W} (M : Mk G.K (G.cl ci) f) (hf : FnG G j f fd ps (spN G d)) (hj : j + 1 ≤ k) (hb : KB G.K fd ps ks (na + 1) dW perm)
    {pins : List (Addr × Obj)} {σ : L2.St} {H : Hp} {ρ : List Addr} {S : Store} {s : Shared} {Q : VK} {ws us : List W} {vs zs : List V} {uv uz : List Value} (I : Inv X pins σ H s) (sr : SR G H ρ S) (r1 : VRs G.K H ρ ws vs) (r2 : VRs G.K H ρ us zs) (v1 : Vals vs uv) (v2 : Vals zs uz)
    (h : Rg G U σ (VR G.K) (mkW ci d na ks.length dW perm ws us S) H ρ Q) : wpAny (model X.prog X.w) X.A (call (.ref (G.cl ci)) uv (ks.zip uz)) (EP X pins σ Q) X.xe s := by
  have nx := I.hok.fresh (a := s.heap.objs.size + 1) (Nat.le_succ _)
  have nd := I.hok.fresh (a := s.heap.objs.size) (Nat.le_refl _)
  have ne : s.heap.objs.size ≠ s.heap.objs.size + 1 := Nat.ne_of_lt (Nat.lt_succ_self _)
  have I2 := Inv.made (C := G.cl ci) I
  generalize hx : s.heap.objs.size + 1 = x at I2 nx ne
  generalize hd : s.heap.objs.size = dx at I2 nd ne
  have nx' : (upd H dx (.own x)) x = none := by rw [upd_ne (fun z => ne z.symm)]; exact nx
  have E1 : Ext G.K H ρ (upd H dx (.own x)) ρ := Ext.fresh nd
  have E2 : Ext G.K (upd H dx (.own x)) ρ (upd (upd H dx (.own x)) x (.ins (G.cl ci) dx [])) (ρ ++ [x]) := Ext.snoc nx'
  have E3 := E1.trans E2
  have sr2 : SR G (upd (upd H dx (.own x)) x (.ins (G.cl ci) dx [])) (ρ ++ [x]) (S ++ [.ins ci []]) := (sr.fresh nd).snoc nx' ⟨dx, [], upd_same, .nil⟩
  have hr : (ρ ++ [x])[S.length]? = some x := by
    rw [← sr.len, List.getElem?_append_right (Nat.le_refl _)]
    simp
  obtain ⟨ds, dV, rd, vd, to⟩ := hb.ex
  unfold mkW permD at h
  by_cases hl : (W.ref S.length :: ws).length = na + 1 ∧ us.length = ks.length
  · simp only [if_pos hl] at h
    cases hp : permW perm ((W.ref S.length :: ws) ++ us ++ dW) with
    | none => simp only [hp] at h; exact h.elim
    | some z =>
      simp only [hp] at h
      have ra : VRs G.K (upd (upd H dx (.own x)) x (.ins (G.cl ci) dx [])) (ρ ++ [x]) ((W.ref S.length :: ws) ++ us ++ dW) ((V.ref x :: vs) ++ zs ++ dV) :=
        (VRs.append (.cons (.ref hr) (VRs.mono E3 r1)) (VRs.mono E3 r2)).append (rd _ _)
      have vx : Vals (V.ref x :: vs) (Value.ref x :: uv) := .cons rfl v1
      have va : Vals ((V.ref x :: vs) ++ zs ++ dV) ((Value.ref x :: uv) ++ uz ++ ds) := (vx.append v2).append vd
      obtain ⟨zv, e1, p1⟩ := permW_rel ra.length (paired_get ra.paired) hp
      obtain ⟨zu, e2, p2⟩ := permW_rel va.length (paired_get va) e1
      have sp : spN G d zv (upd (upd H dx (.own x)) x (.ins (G.cl ci) dx [])) (fun v H2 => v = .non ∧ Q (.ref x) H2) (fun cls dd H' => U cls dd σ H') := by
        refine ⟨z, _, _, VRs.of_paired p1, sr2, ?_⟩
        unfold Rg at h
        cases hz : d z (S ++ [.ins ci []]) with
        | bad => rw [hz] at h; exact h.elim
        | exc y S' =>
          rw [hz] at h
          exact fun H' ρ' cls dd e s r => h H' ρ' cls dd (E3.trans e) s r
        | ok w S' =>
          rw [hz] at h
          cases w with
          | non =>
            intro H' ρ' v e s r
            cases r
            exact ⟨rfl, h H' ρ' (.ref x) (E3.trans e) s (.ref (e.pre _ _ hr))⟩
          | _ => exact h.elim
      have bt := to _ (Value.ref x :: uv) uz zu (by rw [← F.K]; exact I2.kIn) (by rw [← vx.length, List.length_cons, ← r1.length]; exact hl.1) (by rw [← v2.length, ← r2.length]; exact hl.2) e2
      have e0 := I2.env0.make (G.cl ci) uv (ks.zip uz)
      rw [F.P, F.w, F.K, F.mg, F.base] at e0
      have rm : Room (j + 1) X.A := (F.rm hh I).mono hj
      have z0 := hf.run _ X.stack _ _ ⟨Value.ref x :: uv, ks.zip uz⟩ zu zv (fun v H2 => v = .non ∧ Q (.ref x) H2) (fun cls dd H' => U cls dd σ H') (rm.make (G.cl ci) uv (ks.zip uz)) F.gd e0 bt p2 sp
      rw [← F.P, ← F.w] at z0
      subst hx
      subst hd
      refine wpAny_call (make_map (f := f) (by rw [← F.K]; exact I.kIn) M.makes M.init (beq_iff_eq.mp M.fn) (codeAny_mono z0 fun r s' hq' => ?_))
      cases r with
      | error e => exact L2N.passAt F.tk σ pins _ _ e s' I2 hq'
      | ok fl =>
        cases fl with
        | ret u =>
          obtain ⟨v, H', I3, rv, ev, q3⟩ := I2.after hq'
          subst ev
          exact ⟨rv, ⟨V.ref _, H', I3, rfl, q3⟩⟩
        | next => exact False.elim hq'
        | brk => exact False.elim hq'
        | cont => exact False.elim hq'
  · simp only [if_neg hl] at h
    exact h.elim
def dMake (ci : Nat) (d : List W → M W) (na nk : Nat) (dW : List W) (perm : List Nat) (a b : DA) : DE := fun ε => a ε >>= fun ws => b ε >>= fun us => mkW ci d na nk dW perm ws us
theorem e_makeK {j ci : Nat} {x : Str} {ps ks : List Str} {na : Nat} {dW : List W} {perm : List Nat} {d : List W → M W} {e : Expr} {es : List Expr} {kws : List Keyword} {a b : DA} {p pos : Pos} (D : MakC G j x ci ps d ks na dW perm) (hj : j + 1 ≤ k) (ha : AOk G c k (e :: es) a) (hkw : KOk G c k kws b) (hg : c.sc.names.lookup x = some .globalImplicit := by rfl)
    (hall : ∀ env, (backToKw pos (keywordEach kws env)).all (·.1.isSome) = true := by intro _; rfl) (hks : ∀ env, (backToKw pos (keywordEach kws env)).filterMap (·.1) = ks := by intro _; rfl)
    (hdb : (x == ("__debug__" : Str)) = false := by decide) (he : ∀ env, starEach (e :: es) env = (false, eval e env) :: starEach es env := by intro _; rfl)
    (hpl : ∀ env, ((backTo pos (starEach (e :: es) env)).any (·.1) || (backToKw pos (keywordEach kws env)).any (·.1.isNone)) = false := by intro _; rfl) (hh : c.hot = none := by rfl) : EOk G c k (.Call (.Name x p) (e :: es) kws pos) (dMake ci d na ks.length dW perm a b) := fun X U F => by
  obtain ⟨f, fd, hm, M, hf, hb⟩ := D.ex
  refine ⟨fun pins s σ H Q I h => ?_⟩
  obtain ⟨ρ, ε, S, ev, sr, h⟩ := h
  refine wpAny_Call_Name_kw (ld_glob I (glob_of F hg) (by rw [F.mg]; exact hm) ?_ hdb)
  refine PySem.W.callWith_KW (h₀ := X.base) I.ok.mod.kin (by rw [F.K]; exact M.kp) (hall _) (thn ((ha X U F).run pos pins s σ H _ I ⟨ρ, ε, S, ev, sr, Rg.bind h⟩) fun us s1 ⟨vs, H1, I1, r, ws, S1, ρ1, e1, s1', r1, q1⟩ => ?_) (hpl _) (he _)
  refine thn ((hkw X U F).run pos pins s1 σ H1 _ I1 ⟨ρ1, ε, S1, ev.mono e1, s1', Rg.bind q1⟩) fun uz s2 ⟨zs, H2, I2, rz, us', S2, ρ2, e2, s2', r2, q2⟩ => ⟨I2.kIn, ?_⟩
  rw [hks]
  exact run_M F hh M hf hj hb I2 s2' (VRs.mono e2 r1) r2 r rz q2
theorem e_makeK0 {j ci : Nat} {x : Str} {ps ks : List Str} {dW : List W} {perm : List Nat} {d : List W → M W} {kws : List Keyword} {b : DA} {p pos : Pos} (D : MakC G j x ci ps d ks 0 dW perm) (hj : j + 1 ≤ k) (hkw : KOk G c k kws b) (hg : c.sc.names.lookup x = some .globalImplicit := by rfl)
    (hall : ∀ env, (backToKw pos (keywordEach kws env)).all (·.1.isSome) = true := by intro _; rfl) (hks : ∀ env, (backToKw pos (keywordEach kws env)).filterMap (·.1) = ks := by intro _; rfl)
    (hdb : (x == ("__debug__" : Str)) = false := by decide)
    (hpl : ∀ env, ((backTo pos (starEach [] env)).any (·.1) || (backToKw pos (keywordEach kws env)).any (·.1.isNone)) = false := by intro _; rfl) (hh : c.hot = none := by rfl) : EOk G c k (.Call (.Name x p) [] kws pos) (dMake ci d 0 ks.length dW perm aNil b) := fun X U F => by
  obtain ⟨f, fd, hm, M, hf, hb⟩ := D.ex
  refine ⟨fun pins s σ H Q I h => ?_⟩
  obtain ⟨ρ, ε, S, ev, sr, h⟩ := h
  refine wpAny_Call_Name_kw (ld_glob I (glob_of F hg) (by rw [F.mg]; exact hm) ?_ hdb)
  refine PySem.W.callWith_KW0 (h₀ := X.base) I.ok.mod.kin (by rw [F.K]; exact M.kp) (hall _) ?_ (hpl _)
  have h' : Rg G U σ (VR G.K) ((b ε >>= fun us => mkW ci d 0 ks.length dW perm [] us) S) H ρ Q := h
  refine thn ((hkw X U F).run pos pins s σ H _ I ⟨ρ, ε, S, ev, sr, Rg.bind h'⟩) fun uz s2 ⟨zs, H2, I2, rz, us', S2, ρ2, e2, s2', r2, q2⟩ => ⟨I2.kIn, ?_⟩
  rw [hks]
  exact run_M F hh M hf hj hb I2 s2' .nil r2 (vs := []) (uv := []) .nil rz q2
theorem e_make {j ci : Nat} {x : Str} {ps : List Str} {na : Nat} {dW : List W} {perm : List Nat} {d : List W → M W} {e : Expr} {es : List Expr} {a : DA} {p pos : Pos} (D : MakC G j x ci ps d [] na dW perm) (hj : j + 1 ≤ k) (ha : AOk G c k (e :: es) a) (hg : c.sc.names.lookup x = some .globalImplicit := by rfl)
    (hdb : (x == ("__debug__" : Str)) = false := by decide) (he : ∀ env, starEach (e :: es) env = (false, eval e env) :: starEach es env := by intro _; rfl) (hpl : ∀ env, (backTo pos (starEach es env)).any (·.1) = false := by intro _; rfl) (hh : c.hot = none := by rfl) : EOk G c k (.Call (.Name x p) (e :: es) [] pos) (dMake ci d na 0 dW perm a aNil) := fun X U F => by
  obtain ⟨f, fd, hm, M, hf, hb⟩ := D.ex
  refine ⟨fun pins s σ H Q I h => ?_⟩
  obtain ⟨ρ, ε, S, ev, sr, h⟩ := h
  refine wpAny_Call_Name_kw (ld_glob I (glob_of F hg) (by rw [F.mg]; exact hm) ?_ hdb)
  refine PySem.W.callWith_K (h₀ := X.base) I.ok.mod.kin (by rw [F.K]; exact M.kp) (thn ((ha X U F).run pos pins s σ H _ I ⟨ρ, ε, S, ev, sr, Rg.bind h⟩) fun us s1 ⟨vs, H1, I1, r, ws, S1, ρ1, e1, s1', r1, q1⟩ => ⟨I1.kIn, ?_⟩) (he _) (hpl _)
  have q2 : Rg G U σ (VR G.K) (mkW ci d na 0 dW perm ws [] S1) H1 ρ1 Q := q1
  exact run_M (ks := []) F hh M hf hj hb I1 s1' r1 .nil (zs := []) (uz := []) r .nil q2
/-! ### a property -/
structure Prp (G : Top) (k : Nat) (cs : List Nat) (f : Str) (d : List W → M W) : Prop where
  ex : ∃ p g fd, (∀ c, cs.contains c = true → Cls G.K (G.cl c) ∧ PropOf G.K (G.cl c) f p g) ∧ FnG G k g fd ["self"] (spN G d) ∧ Binds G.K fd ["self"] []
def dProp (cs : List Nat) (d : List W → M W) (o : DE) : DE := fun ε => o ε >>= fun w => fun S => if (insOf cs w S).isSome = true then noX (d [w]) S else .bad
theorem e_prop {j : Nat} {cs : List Nat} {f : Str} {d : List W → M W} {e : Expr} {d0 : DE} {pos : Pos} (D : Prp G j cs f d) (hj : j + 1 ≤ k) (he : EOk G c k e d0) (hb : ∀ env, attributeBase e f env (eval e env) = eval e env := by intro _; rfl) (hh : c.hot = none := by rfl) : EOk G c k (.Attribute e f pos) (dProp cs d d0) := fun X U F => by
  obtain ⟨p, g, fd, hc, hf, hbi⟩ := D.ex
  refine ⟨fun pins s σ H Q I h => ?_⟩
  obtain ⟨ρ, ε, S, ev, sr, h⟩ := h
  refine attr_of (hb _) (thn ((he X U F).run pins s σ H _ I ⟨ρ, ε, S, ev, sr, Rg.bind h⟩) fun u s1 ⟨x, H1, I1, rx, w, S1, ρ1, e1, s1', r1, h1⟩ => ?_)
  by_cases hi : (insOf cs w S1).isSome = true
  · rw [if_pos hi] at h1
    obtain ⟨fs, hi⟩ := Option.isSome_iff_exists.mp hi
    obtain ⟨n, ci, rfl, hs, hin⟩ := insOf_inv hi
    obtain ⟨a, dx, l, rfl, _, ha, fr⟩ := s1'.ins r1 hs
    obtain rfl : u = Value.ref a := rx
    obtain ⟨c1, hp⟩ := hc ci hin
    rw [← F.K] at c1 hp
    obtain ⟨mA, O, _, _, _, _⟩ := ins_get I1.hok ha
    obtain ⟨od, J, _⟩ := O.look
    obtain ⟨rest, hrec⟩ := hp.rec_
    have I2 := I1.tok (s1.toks + 1)
    have hcl : (PySem.W.clsIn X.K (G.cl ci)).isSome = true := by
      obtain ⟨cd, q, _⟩ := PySem.W.any_some c1.hd
      rw [q]; rfl
    have sp : spN G d [.ref a] H1 Q (fun _ _ _ => False) := ⟨_, S1, ρ1, .cons r1 .nil, s1', wp_mono (wp_noX (E' := fun _ _ => False) h1) (fun _ _ z => z) fun _ _ z => z.elim⟩
    have ee := I2.env0.in1
    rw [F.P, F.w, F.K, F.mg, F.base] at ee
    have rm : Room (j + 1) X.A := (F.rm hh I1).mono hj
    have z0 := hf.run X.A.in1 X.stack { s1 with toks := s1.toks + 1 } H1 ⟨[.ref a], []⟩ [.ref a] [.ref a] Q (fun _ _ _ => False) rm.in1 F.gd ee (binds0 hbi (by rw [← F.K]; exact I2.kIn) rfl) (.cons rfl .nil) sp
    rw [← F.P, ← F.w] at z0
    refine PySem.W.get_bind I1.kIn J (PySem.W.plainGet_of (c1.get f)).1 (PySem.W.findObj_data hcl hp.at_ hp.get hp.tak) (PySem.W.plainGet_of (c1.get f)).2 (wpAny_call (PySem.W.prop_get (s := { s1 with toks := s1.toks + 1 }) I1.kIn hrec (codeAny_mono z0 fun r s' hq => ?_)))
    cases r with
    | error e => exact absurd hq (by
        intro hq
        obtain ⟨_, _, _, _, _, _, _, _, _, _, _, z⟩ := hq
        exact z.2)
    | ok fl =>
      cases fl with
      | ret u =>
        obtain ⟨v, H', I3, rv, q3⟩ := I2.after hq
        show wpAny (model X.prog X.w) X.A (handedOut u) (EP X pins σ Q) X.xe s'
        rw [PySem.W.handedOut_of (handed_of rv)]
        exact wpAny_pure ⟨v, H', I3, rv, q3⟩
      | next => exact False.elim hq
      | brk => exact False.elim hq
      | cont => exact False.elim hq
  · rw [if_neg hi] at h1
    exact h1.elim
end
end
end N
/-! OB: sorted of rows (two ints, perhaps a bool behind), of a list or a tuple; list(range); divmod. -/
namespace N
open PySem L2
section
open PySem.Spec PyProof.Rows
/-- what a row holds -/
def rowVs (t u : Tok) (x y : Int) : Option Bool → List Value
  | none => [.int x t, .int y u]
  | some b => [.int x t, .int y u, .bool b]
def IsRow (h : Heap) (v : Value) (x y : Int) (c : Option Bool) : Prop := ∃ a o t u n, v = .ref a ∧ h.get? a = some o ∧ o.cls = .type "tuple" ∧ o.data = .seq (rowVs t u x y c).toArray n
theorem IsRow.keeps {h h' : Heap} {v : Value} {x y : Int} {c : Option Bool} (p : IsRow h v x y c) (k : ∀ b o, h.get? b = some o → o.cls = .type "tuple" → h'.get? b = some o) : IsRow h' v x y c := by
  obtain ⟨a, o, t, u, n, e, ho, hc, hd⟩ := p
  exact ⟨a, o, t, u, n, e, k _ _ ho hc, hc, hd⟩
variable {prog : Program} {w : World} {A : Around} {E : Value → Shared → Prop} {s : Shared}
abbrev RK := Value → (Int × Int) × Option Bool
abbrev ltR (k : RK) (v u : Value) : Bool := SrtO.lexB (k v).1 (k u).1
theorem swo_row (k : RK) : SrtO.Swo (ltR k) := SrtO.swo_lex fun v => (k v).1
structure RowsOk (h : Heap) (vs : List Value) (k : RK) : Prop where
  row : ∀ v ∈ vs, IsRow h v (k v).1.1 (k v).1.2 (k v).2
  sh : ∀ v ∈ vs, ∀ u ∈ vs, (k v).2.isSome = (k u).2.isSome
  fn : ∀ v ∈ vs, ∀ u ∈ vs, (k v).1 = (k u).1 → (k v).2 = (k u).2
theorem RowsOk.keeps {h h' : Heap} {vs : List Value} {k : RK} (r : RowsOk h vs k) (kp : ∀ b o, h.get? b = some o → o.cls = .type "tuple" → h'.get? b = some o) : RowsOk h' vs k :=
  ⟨fun v hv => (r.row v hv).keeps kp, r.sh, r.fn⟩
theorem row_cmp {vs : List Value} {k : RK} (R : RowsOk s.heap vs k) : SrtO.Cmp prog w A s (tuples' true) (fun p => p.1 ∈ vs) (SrtO.lt2 (ltR k)) := by
  intro p q hm hm'
  have h1 := R.row _ hm
  have h2 := R.row _ hm'
  have sh := R.sh _ hm _ hm'
  have fn := R.fn _ hm _ hm'
  show wpAny (model prog w) A (keyLt' (tuples' true) p.1 q.1) (fun r s' => s' = s ∧ r = SrtO.lexB (k p.1).1 (k q.1).1) (fun _ _ => False) s
  unfold SrtO.lexB
  generalize (k p.1) = P at h1 sh fn ⊢
  generalize (k q.1) = R' at h2 sh fn ⊢
  obtain ⟨⟨x, y⟩, c⟩ := P
  obtain ⟨⟨x', y'⟩, c'⟩ := R'
  simp only at h1 h2 sh fn ⊢
  obtain ⟨a, o, t, u, n, e, ho, hc, hd⟩ := h1
  obtain ⟨a', o', t', u', n', e', ho', hc', hd'⟩ := h2
  rw [e, e']
  have hsz : decide ((rowVs t u x y c).toArray.size < (rowVs t' u' x' y' c').toArray.size) = false := by
    cases c with
    | none => cases c' with
      | none => rfl
      | some b' => cases sh
    | some b => cases c' with
      | none => cases sh
      | some b' => rfl
  refine PySem.W.kat_lt ho hd ho' hd' ?_
  rw [hsz]
  have hrest : ∀ Q : Bool → Shared → Prop, (x = x' → y = y' → Q false s) → x = x' → y = y' → PySem.W.KatLex prog w A true false Q (((rowVs t u x y c).drop 2).zip ((rowVs t' u' x' y' c').drop 2)) 2 s := by
    intro Q hQ ex ey
    have ec : c = c' := fn (by rw [ex, ey])
    subst ec
    cases c with
    | none => exact PySem.W.kat_nil (hQ ex ey)
    | some b =>
      refine PySem.W.kat_cons (SeqAt.EqAt.bool_bool b b prog w _ _ ?_)
      refine PySem.W.kat_go (fun _ => PySem.W.kat_yes (PySem.W.kat_nil (hQ ex ey))) (fun e0 => ?_)
      simp at e0
  have hz : (rowVs t u x y c).toArray.toList.zip (rowVs t' u' x' y' c').toArray.toList = (.int x t, .int x' t') :: (.int y u, .int y' u') :: ((rowVs t u x y c).drop 2).zip ((rowVs t' u' x' y' c').drop 2) := by
    cases c <;> cases c' <;> rfl
  rw [hz]
  refine PySem.W.kat_cons (SeqAt.EqAt.int_int x t x' t' prog w _ _ (PySem.W.kat_go (fun e1 => ?_) (fun e1 => ?_)))
  · have ex : x = x' := by simpa using e1
    refine PySem.W.kat_yes (PySem.W.kat_cons (SeqAt.EqAt.int_int y u y' u' prog w _ _ (PySem.W.kat_go (fun e2 => ?_) (fun e2 => ?_))))
    · have ey : y = y' := by simpa using e2
      refine PySem.W.kat_yes (hrest _ (fun _ _ => ⟨rfl, ?_⟩) ex ey)
      rw [if_pos ex, ey]
      exact (decide_eq_false (Int.lt_irrefl _)).symm
    · refine PySem.W.kat_no (PySem.W.kat_one _ _ (PyProof.Rows.lt_int ?_))
      exact ⟨rfl, (if_pos ex).symm⟩
  · have ex : ¬ x = x' := by simpa using e1
    exact PySem.W.kat_no (oneLt_int ⟨rfl, (if_neg ex).symm⟩)
theorem row_firsts {h : Heap} {k : RK} : ∀ {vs : List Value}, (∀ v ∈ vs, IsRow h v (k v).1.1 (k v).1.2 (k v).2) → ∃ fs : List Value, PySem.W.KatTups h vs fs ∧ fs.length = vs.length ∧ ∀ f ∈ fs, ∃ x t, f = Value.int x t
  | [], _ => ⟨[], PySem.W.KatTups.nil, rfl, fun _ hm => by simp at hm⟩
  | v :: vs, hp => by
    obtain ⟨fs, h1, h2, h3⟩ := row_firsts (vs := vs) fun v' hm => hp v' (List.mem_cons_of_mem _ hm)
    obtain ⟨a, o, t, u, n, e, ho, hc, hd⟩ := hp v List.mem_cons_self
    generalize k v = kv at hd
    subst e
    have hf : (rowVs t u kv.1.1 kv.1.2 kv.2).toArray[0]? = some (Value.int kv.1.1 t) := by
      cases kv.2 <;> rfl
    exact ⟨.int kv.1.1 t :: fs, PySem.W.KatTups.cons ho hc hd hf h1, by simp [h2], fun f hm => (List.mem_cons.mp hm).elim (fun z => ⟨_, _, z⟩) (h3 f)⟩
theorem row_sortable {a : Addr} {vs : List Value} {k : RK} (h0 : 0 < vs.length) (R : RowsOk s.heap vs k) (ha : ∀ o, s.heap.get? a = some o → o.cls ≠ .type "tuple") : SrtO.SortableO prog w A s a vs (ltR k) := by
  intro h' keep
  have R' : RowsOk h' vs k := R.keeps fun b o e c => keep b o (fun z => by subst z; exact ha o e c) e
  obtain ⟨fs, h1, h2, h3⟩ := row_firsts R'.row
  refine ⟨tuples' true, fun Q E hq => PySem.W.kat_kind (T := .type "int") h1 (by omega) (fun f hm => ?_) (by rfl) ?_, row_cmp R'⟩
  · obtain ⟨x, t, rfl⟩ := h3 f hm
    exact PySem.W.Looks.now
  · rw [show (Value.type "int" != Value.type "tuple") = true by first | decide +kernel | rfl | decide]
    exact hq
theorem collect_tup {l : Addr} {vs : List Value} {Q : List Value → Shared → Prop} (hl : IsTup s.heap l vs.toArray)
    (h : Q vs { s with heap := (s.heap.push (seqObj "list" #[] 0)).update s.heap.objs.size (Obj.mapSeq (· ++ vs.toArray)) }) (hsz : vs.length ≤ sizeLine) :
    wpAny (model prog w) A (collect (.ref l)) Q E s := by
  obtain ⟨o, ho, hc, n, hd⟩ := id hl
  unfold collect
  refine wpAny_bind (wpAny_runValue (codeAny_builtin PySem.F.entry_proto_collect ?_)); rw [Around.under_plainId PySem.F.plain_proto_collect _]
  show wpAny _ A.in1 (newList [] >>= fun l' => again (.builtin "list.__iadd__" ⟨[l', .ref l], []⟩)) _ _ s
  refine wpAny_bind (wpAny_newList (wpAny_pure ⟨plainId_quiet PySem.F.plain_list_iadd _, codeAny_builtin PySem.F.entry_list_iadd ?_⟩) (Nat.zero_le _)); rw [Around.under_plainId PySem.F.plain_list_iadd _]
  show wpAny _ A.in1 (Builtin.List.listExtendWith (.ref s.heap.objs.size) (.ref l) (.ref s.heap.objs.size)) _ _ { s with heap := s.heap.push (seqObj "list" #[] 0) }
  unfold Builtin.List.listExtendWith
  have ho' : (s.heap.push (seqObj "list" #[] 0)).get? l = some o := Heap.get?_push_of_some _ ho
  refine wpAny_bind (wpAny_typeOf (T := "tuple") ⟨o, ho', hc⟩ ?_)
  rw [if_pos (by rw [show (Value.type "tuple" == Value.type "tuple") = true by rfl]; simp)]
  refine wpAny_bind (listItems_at ho' hd ?_); refine wpAny_bind (listItems_at (xs := #[]) (n := 0) (Heap.get?_push_size _ rfl) rfl ?_); rw [if_neg (by simp)]
  have hz : (#[] ++ vs.toArray : Array Value).size ≤ sizeLine + 1 := by simp only [Array.size_append, List.size_toArray, List.length_nil]; omega
  refine wpAny_bind (listUpdate_at (xs := #[]) (n := 0) (Heap.get?_push_size _ rfl) rfl (wpAny_pure ?_) (Nat.zero_le _) hz)
  show wpAny (model prog w) A (do
      let o' ← load s.heap.objs.size
      match o'.data with
      | .seq ys _ => pure ys.toList
      | _ => unsupported "internal:collect") Q E { s with heap := (s.heap.push (seqObj "list" #[] 0)).update s.heap.objs.size (Obj.mapSeq (· ++ vs.toArray)) }
  refine wpAny_bind (wpAny_load (get?_update_seq (Heap.get?_push_size _ rfl) _) ?_)
  show wpAny _ _ (pure ((#[] : Array Value) ++ vs.toArray).toList) Q E _
  have e0 : ((#[] : Array Value) ++ vs.toArray).toList = vs := by simp
  rw [e0]; exact wpAny_pure h
theorem collect_lt {l : Addr} {vs : List Value} {Q : List Value → Shared → Prop} (hl : s.heap.IsList l vs.toArray ∨ IsTup s.heap l vs.toArray)
    (h : Q vs { s with heap := (s.heap.push (seqObj "list" #[] 0)).update s.heap.objs.size (Obj.mapSeq (· ++ vs.toArray)) }) (hsz : vs.length ≤ sizeLine) :
    wpAny (model prog w) A (collect (.ref l)) Q E s := hl.elim (fun q => collect_list q h hsz) fun q => collect_tup q h hsz
/-- sorted of a list or a tuple, by any order that the items have -/
theorem sorted_lt {l : Addr} {vs : List Value} {ltv : Value → Value → Bool} {Q : Value → Shared → Prop} (O : SrtO.Swo ltv) (hl : s.heap.IsList l vs.toArray ∨ IsTup s.heap l vs.toArray) (hz : vs.length ≤ sizeLine)
    (hS : 2 ≤ vs.length → ∀ (h₁ : Heap) (a : Addr), h₁.get? a = some (seqObj "list" vs.toArray 0) → (∀ b o, s.heap.get? b = some o → b ≠ a ∧ h₁.get? b = some o) → SrtO.SortableO prog w A.in1.in1 { s with heap := h₁ } a vs ltv)
    (h : ∀ out : List Value, SrtO.Srtd ltv out → SrtO.Stb ltv out vs → Q (.ref (s.heap.objs.size + 1)) { s with heap := sortedAll s.heap vs out.toArray }) :
    wpAny (model prog w) A (call (.builtin "sorted") [.ref l]) Q E s := by
  refine Calls.call_function_entry kind_sorted plain_sorted entry_sorted (args_sorted1 _) ?_; unfold Builtin.«sorted»
  refine wpAny_bind (m := checkCount "sorted" 1 1 _) (wpAny_pure (wpAny_bind (collect_lt hl (wpAny_bind (wpAny_newList ?_ hz)) hz)))
  generalize hg : (s.heap.push (seqObj "list" #[] 0)).update s.heap.objs.size (Obj.mapSeq (· ++ vs.toArray)) = g
  have hsz : g.objs.size = s.heap.objs.size + 1 := by rw [← hg, Heap.size_update, size_push']
  have hoL : (g.push (seqObj "list" vs.toArray 0)).get? (s.heap.objs.size + 1) = some (seqObj "list" vs.toArray 0) := by rw [← hsz]; exact Heap.get?_push_size _ rfl
  have keep : ∀ b o, s.heap.get? b = some o → b ≠ s.heap.objs.size + 1 ∧ (g.push (seqObj "list" vs.toArray 0)).get? b = some o := fun b o q => by
    have hlt : b < s.heap.objs.size := Heap.lt_size q
    refine ⟨Nat.ne_of_lt (Nat.lt_succ_of_lt hlt), Heap.get?_push_of_some _ ?_⟩
    rw [← hg, Heap.get?_update_ne _ _ _ _ (Nat.ne_of_lt hlt)]; exact Heap.get?_push_of_some _ q
  show wpAny _ _ _ _ _ { s with heap := g.push (seqObj "list" vs.toArray 0) }
  rw [hsz]
  refine wpAny_bind (wpAny_holding (wpAny_call_entry slot_list_sort ⟨_, hoL, rfl⟩ entry_list_sort (SrtO.list_sort_ord O hoL hz (fun h2 => hS h2 _ _ hoL keep) fun out hs hb => ⟨_, rfl, wpAny_pure ⟨_, rfl, ?_⟩⟩) (args_list_sort _)))
  have q := h out hs hb
  unfold sortedAll at q
  rw [hg] at q
  exact q
theorem sorted_rows {l : Addr} {vs : List Value} {k : RK} {Q : Value → Shared → Prop} (hl : s.heap.IsList l vs.toArray ∨ IsTup s.heap l vs.toArray) (hz : vs.length ≤ sizeLine) (R : RowsOk s.heap vs k)
    (h : ∀ (h' : Heap) (d : Addr) (out : List Value), SrtO.Srtd (ltR k) out → out.Perm vs → (∀ b o, s.heap.get? b = some o → h'.get? b = some o) → s.heap.objs.size ≤ d → (∃ n, h'.get? d = some (seqObj "list" out.toArray n)) → Q (.ref d) { s with heap := h' }) :
    wpAny (model prog w) A (call (.builtin "sorted") [.ref l]) Q E s := by
  refine sorted_lt (swo_row k) hl hz (fun h2 h₁ a ha kk => ?_) fun out hs hb => h _ _ out hs hb.perm (fun b o e => sortedAll_old e) (Nat.le_succ _) (sortedAll_at s.heap vs out.toArray)
  refine row_sortable (s := { s with heap := h₁ }) (by omega) (R.keeps fun b o e _ => (kk b o e).2) fun o e c => ?_
  have e' : some o = some (seqObj "list" vs.toArray 0) := e.symm.trans ha
  cases e'
  exact absurd (Value.type.inj c) (by decide)
end
/-! ### as a rule of the layer -/
section
open PySem.Spec PyProof.Rows
def rowV (k : (Int × Int) × Option Bool) : List V := match k.2 with
  | none => [.int k.1.1, .int k.1.2]
  | some b => [.int k.1.1, .int k.1.2, .bl b]
def rowsFit (l : List ((Int × Int) × Option Bool)) : Prop := (∀ x ∈ l, ∀ y ∈ l, x.2.isSome = y.2.isSome) ∧ (∀ x ∈ l, ∀ y ∈ l, x.1 = y.1 → x.2 = y.2)
def leR (k l : (Int × Int) × Option Bool) : Bool := !SrtO.lexB l.1 k.1
theorem lexB_tot {p q : Int × Int} (h1 : SrtO.lexB p q = false) (h2 : SrtO.lexB q p = false) : p = q := by
  have a := SrtO.lexB_no.mp h1
  have b := SrtO.lexB_no.mp h2
  refine Prod.ext ?_ ?_ <;> omega
theorem leR_trans (a b c : (Int × Int) × Option Bool) (h1 : leR a b = true) (h2 : leR b c = true) : leR a c = true := by
  unfold leR at *
  simp only [Bool.not_eq_true'] at *
  exact (SrtO.swo_lex (fun v => match v with | _ => (0, 0))) |> fun _ => by
    have x := SrtO.lexB_no.mp h1
    have y := SrtO.lexB_no.mp h2
    refine SrtO.lexB_no.mpr ?_
    omega
theorem leR_total (a b : (Int × Int) × Option Bool) : (leR a b || leR b a) = true := by
  unfold leR
  cases h : SrtO.lexB b.1 a.1 with
  | false => rfl
  | true =>
    have x := SrtO.lexB_iff.mp h
    have y : SrtO.lexB a.1 b.1 = false := SrtO.lexB_no.mpr (by omega)
    rw [y]; rfl
theorem leR_sorted (l : List ((Int × Int) × Option Bool)) : (l.mergeSort leR).Pairwise fun a b => leR a b = true := List.pairwise_mergeSort leR_trans leR_total l
/-- a sorted rearrangement of rows that are told by their ints is the sorted list -/
theorem row_uniq : ∀ {l m : List ((Int × Int) × Option Bool)}, l.Perm m → l.Pairwise (fun a b => leR a b = true) → m.Pairwise (fun a b => leR a b = true) → (∀ x ∈ l, ∀ y ∈ l, x.1 = y.1 → x.2 = y.2) → l = m
  | [], m, p, _, _, _ => (List.Perm.eq_nil p.symm).symm
  | x :: l, [], p, _, _, _ => absurd p.length_eq (by simp)
  | x :: l, y :: m, p, hl, hm, fn => by
    have e : x = y := by
      have hy : y ∈ x :: l := p.mem_iff.mpr List.mem_cons_self
      have hx : x ∈ y :: m := p.mem_iff.mp List.mem_cons_self
      rcases List.mem_cons.mp hy with e | hy'
      · exact e.symm
      · rcases List.mem_cons.mp hx with e | hx'
        · exact e
        · have a := List.rel_of_pairwise_cons hl hy'
          have b := List.rel_of_pairwise_cons hm hx'
          unfold leR at a b
          simp only [Bool.not_eq_true'] at a b
          have e1 := lexB_tot b a
          exact Prod.ext e1 (fn x List.mem_cons_self y hy e1)
    subst e
    rw [row_uniq p.cons_inv (List.pairwise_cons.mp hl).2 (List.pairwise_cons.mp hm).2 fun a ha b hb => fn a (List.mem_cons_of_mem _ ha) b (List.mem_cons_of_mem _ hb)]
/-- a row in the heap -/
def RowAt (K : PySem.W.Frag) (H : Hp) (x : V) (k : (Int × Int) × Option Bool) : Prop := ∃ t, x = V.ref t ∧ SqT K H t (rowV k)
theorem rowV_inj {k l : (Int × Int) × Option Bool} (h : rowV k = rowV l) : k = l := by
  obtain ⟨⟨a, b⟩, c⟩ := k
  obtain ⟨⟨a', b'⟩, c'⟩ := l
  cases c <;> cases c' <;> simp [rowV] at h ⊢ <;> simp only [h, and_self]
def rSortR (K : PySem.W.Frag) : List V → Hp → VK → Prop := fun vs H Q => ∃ (a : Addr) (xs : List V) (l : List ((Int × Int) × Option Bool)), vs = [V.ref a] ∧ (SqL K H a xs ∨ SqT K H a xs) ∧ Paired (RowAt K H) xs l ∧ rowsFit l ∧
  ∀ ys p, Paired (RowAt K H) ys (l.mergeSort leR) → H p = none → Q (.ref p) (upd H p (.lst ys))
theorem paired_left {α β : Type} {P : α → β → Prop} : ∀ {xs : List α} {ys : List β}, Paired P xs ys → ∀ x ∈ xs, ∃ y ∈ ys, P x y
  | _, _, .nil, x, h => absurd h (by simp)
  | _, _, .cons r t, x, h => (List.mem_cons.mp h).elim (fun e => ⟨_, List.mem_cons_self, by rw [e]; exact r⟩) fun z => by
    obtain ⟨y, h1, h2⟩ := paired_left t x z
    exact ⟨y, List.mem_cons_of_mem _ h1, h2⟩
open Classical in
theorem cr_sortR {X : Cx} : CallR X (.builtin "sorted") (rSortR X.K) := by
  intro pins s σ H vs us Q I r h
  obtain ⟨a, xs, l, rfl, hs, hx, ⟨h1, h2⟩, q⟩ := h
  obtain ⟨u, rfl, ru⟩ := vals1 r
  obtain rfl : u = Value.ref a := ru
  obtain ⟨its, rv, hl, hz⟩ : ∃ its : List Value, Vals xs its ∧ (s.heap.IsList a its.toArray ∨ IsTup s.heap a its.toArray) ∧ xs.length ≤ sizeLine := by
    rcases hs with hs | hs
    · obtain ⟨its, rv, hl, hz⟩ := I.list hs
      exact ⟨its, rv, .inl hl.isList, hz⟩
    · obtain ⟨its, rv, hl, hz⟩ := I.tuple hs
      exact ⟨its, rv, .inr hl, hz⟩
  have hxm : ∀ x ∈ xs, ∃ k ∈ l, RowAt X.K H x k := fun x hx' => paired_left hx x hx'
  obtain ⟨e1, e2⟩ := refs_back rv fun x m => by
    obtain ⟨k, _, t, e, _⟩ := hxm x m
    exact ⟨t, e⟩
  obtain ⟨k, hk⟩ : ∃ k : V → (Int × Int) × Option Bool, ∀ x kk, RowAt X.K H x kk → k x = kk := by
    refine ⟨fun x => if h : ∃ kk, RowAt X.K H x kk then h.choose else ((0, 0), none), fun x kk hr => ?_⟩
    have hex : ∃ kk, RowAt X.K H x kk := ⟨kk, hr⟩
    simp only [dif_pos hex]
    obtain ⟨t, e, ht⟩ := hex.choose_spec
    obtain ⟨t', e', ht'⟩ := hr
    subst e
    cases e'
    exact rowV_inj (I.tuple_inj ht ht')
  have hl0 : l = xs.map k := by
    clear h1 h2 q rv hl hz hs hxm e1 e2
    induction hx with
    | nil => rfl
    | cons h t ih => rw [List.map_cons, ← ih, hk _ _ h]
  have hin : ∀ x ∈ xs, k x ∈ l := fun x m => by rw [hl0]; exact List.mem_map_of_mem m
  have hat : ∀ x ∈ xs, RowAt X.K H x (k x) := fun x m => by
    obtain ⟨kk, _, hr⟩ := hxm x m
    rw [hk x kk hr]; exact hr
  have mem : ∀ v ∈ its, backV v ∈ xs := fun v hv => by rw [e1]; exact List.mem_map_of_mem hv
  refine sorted_rows (k := fun u => k (backV u)) hl (by rw [← rv.length]; exact hz) ⟨fun v hv => ?_, fun v hv u hu => h1 _ (hin _ (mem v hv)) _ (hin _ (mem u hu)), fun v hv u hu => h2 _ (hin _ (mem v hv)) _ (hin _ (mem u hu))⟩ fun h' d out s1 s2 kp hd hn => ?_
  · obtain ⟨t, rfl⟩ := e2 v hv
    obtain ⟨t', e, ht⟩ := hat _ (mem _ hv)
    cases e
    obtain ⟨its2, r2, ⟨o, ho, hc, n, hd⟩, _⟩ := I.tuple ht
    generalize k (backV (Value.ref t)) = kk at r2 ⊢
    unfold rowV at r2
    cases hk : kk.2 with
    | none =>
      simp only [hk] at r2
      obtain ⟨u1, u2, rfl, ri, rj⟩ := vals2 r2
      obtain ⟨t1, rfl⟩ := ri
      obtain ⟨t2, rfl⟩ := rj
      exact ⟨t, o, t1, t2, n, rfl, ho, hc, hd⟩
    | some b =>
      simp only [hk] at r2
      cases r2 with
      | cons ri r2 =>
        cases r2 with
        | cons rj r2 =>
          cases r2 with
          | cons rb r2 =>
            cases r2
            obtain ⟨t1, rfl⟩ := ri
            obtain ⟨t2, rfl⟩ := rj
            cases rb
            exact ⟨t, o, t1, t2, n, rfl, ho, hc, hd⟩
  · have h3 : ∀ u ∈ out, ∃ a, u = Value.ref a := fun u hu => e2 u (s2.mem_iff.mp hu)
    obtain ⟨n, hn⟩ := hn
    have hp : (out.map backV).Perm xs := by rw [e1]; exact s2.map backV
    have hs' : ((out.map backV).map k).Pairwise (fun a b => leR a b = true) := by
      rw [List.pairwise_map, List.pairwise_map]
      exact s1.imp fun z => by unfold leR; rw [show SrtO.lexB _ _ = false from z]; rfl
    have hm : (out.map backV).map k = l.mergeSort leR := row_uniq ((hp.map k).trans (by rw [← hl0]; exact (List.mergeSort_perm l leR).symm)) hs' (leR_sorted l) fun x hx y hy => by
      rw [hl0] at h2
      exact h2 x ((hp.map k).mem_iff.mp hx) y ((hp.map k).mem_iff.mp hy)
    have hpr : Paired (RowAt X.K H) (out.map backV) (l.mergeSort leR) := by
      rw [← hm]
      have hall : ∀ x ∈ out.map backV, RowAt X.K H x (k x) := fun x m => hat x (hp.mem_iff.mp m)
      clear hm hs' hp s1 s2 hn h3
      generalize out.map backV = ys at hall
      induction ys with
      | nil => exact .nil
      | cons y ys ih => exact .cons (hall y List.mem_cons_self) (ih fun x m => hall x (List.mem_cons_of_mem _ m))
    refine ⟨.ref d, upd H d (.lst (out.map backV)), I.laid (t' := s.toks) kp hd ⟨?_, out, n, vals_back h3, hn⟩, rfl, q _ d hpr (I.hok.fresh hd)⟩
    rw [hp.length_eq]; exact hz
end
noncomputable section
/-! ### over the store -/
/-- two ints, perhaps a bool behind -/
def rowK : W → Option ((Int × Int) × Option Bool)
  | .tup [.int a, .int b] => some ((a, b), none)
  | .tup [.int a, .int b, .bl c] => some ((a, b), some c)
  | _ => none
def rowW (k : (Int × Int) × Option Bool) : W := match k.2 with
  | none => .tup [.int k.1.1, .int k.1.2]
  | some b => .tup [.int k.1.1, .int k.1.2, .bl b]
theorem rowK_inv {w : W} {k : (Int × Int) × Option Bool} (h : rowK w = some k) : w = rowW k := by
  unfold rowK at h
  split at h
  · cases h; rfl
  · cases h; rfl
  · cases h
theorem rowK_rowW (k : (Int × Int) × Option Bool) : rowK (rowW k) = some k := by
  obtain ⟨⟨a, b⟩, c⟩ := k
  cases c <;> rfl
/-- the rows of a list or a tuple, none if something else stands in it -/
def rowsOf (w : W) (S : Store) : Option (List ((Int × Int) × Option Bool)) := (match w with
  | .ref n => match S[n]? with
    | some (.lst ws) => some ws
    | _ => none
  | .tup ws => some ws
  | .rl ws => some ws
  | _ => none).bind fun ws => ws.mapM rowK
open Classical in
def opSortR : OpA := fun ws S => match ws with
  | [w] => (rowsOf w S).bind fun l => if rowsFit l then some (.ref S.length, S ++ [.lst ((l.mergeSort leR).map rowW)]) else none
  | _ => none
theorem mapM_rowK : ∀ {ws : List W} {l : List ((Int × Int) × Option Bool)}, ws.mapM rowK = some l → ws = l.map rowW
  | [], l, h => by
    have e : (some [] : Option (List ((Int × Int) × Option Bool))) = some l := h
    cases e; rfl
  | w :: ws, l, h => by
    rw [List.mapM_cons] at h
    cases hk : rowK w with
    | none => rw [hk] at h; cases h
    | some k =>
      rw [hk] at h
      cases hr : ws.mapM rowK with
      | none =>
        have h' : (do let b ← ws.mapM rowK; some (k :: b)) = some l := h
        rw [hr] at h'; cases h'
      | some r =>
        have h' : (do let b ← ws.mapM rowK; some (k :: b)) = some l := h
        rw [hr] at h'
        cases h'
        rw [List.map_cons, ← rowK_inv hk, ← mapM_rowK hr]
theorem mapM_rowW (l : List ((Int × Int) × Option Bool)) : (l.map rowW).mapM rowK = some l := by
  induction l with
  | nil => rfl
  | cons k l ih =>
    rw [List.map_cons, List.mapM_cons, rowK_rowW]
    show (do let b ← (l.map rowW).mapM rowK; some (k :: b)) = _
    rw [ih]; rfl
section
variable {G : Top} {c : Ctx} {k : Nat}
theorem rows_at {K : PySem.W.Frag} {H : Hp} {ρ : List Addr} : ∀ {l : List ((Int × Int) × Option Bool)} {vs : List V}, VRs K H ρ (l.map rowW) vs → Paired (RowAt K H) vs l
  | [], _, .nil => .nil
  | k :: l, _ :: vs, .cons r rs => by
    refine .cons ?_ (rows_at rs)
    obtain ⟨⟨a, b⟩, c⟩ := k
    cases c with
    | none =>
      cases r with
      | tup s t =>
        cases t with
        | cons r1 t => cases t with
          | cons r2 t => cases t; cases r1; cases r2; exact ⟨_, rfl, s⟩
    | some b' =>
      cases r with
      | tup s t =>
        cases t with
        | cons r1 t => cases t with
          | cons r2 t => cases t with
            | cons r3 t => cases t; cases r1; cases r2; cases r3; exact ⟨_, rfl, s⟩
theorem at_rows {K : PySem.W.Frag} {H : Hp} {ρ : List Addr} : ∀ {l : List ((Int × Int) × Option Bool)} {vs : List V}, Paired (RowAt K H) vs l → VRs K H ρ (l.map rowW) vs
  | [], _, .nil => .nil
  | k :: l, _ :: vs, .cons r rs => by
    refine .cons ?_ (at_rows rs)
    obtain ⟨t, rfl, s⟩ := r
    obtain ⟨⟨a, b⟩, c⟩ := k
    cases c with
    | none => exact .tup s (.cons (.int a) (.cons (.int b) .nil))
    | some b' => exact .tup s (.cons (.int a) (.cons (.int b) (.cons (.bl b') .nil)))
theorem o_sortR : OpAOk G (rSortR G.K) opSortR := fun H ρ S ws vs w S' Q sr ra h q => by
  unfold opSortR at h
  split at h
  · rename_i w0
    cases hl : rowsOf w0 S with
    | none => rw [hl] at h; cases h
    | some l =>
      rw [hl] at h
      simp only [Option.bind_some] at h
      split at h
      · rename_i hf
        cases h
        cases ra with
        | cons r rs =>
          cases rs
          have fin : ∀ (a : Addr) (xs : List V), (SqL G.K H a xs ∨ SqT G.K H a xs) → VRs G.K H ρ (l.map rowW) xs → rSortR G.K [.ref a] H Q := fun a xs hs hr =>
            ⟨a, xs, l, rfl, hs, rows_at hr, hf, fun ys p hy hp => Rg.list (U := fun _ _ _ _ => False) (σ := []) (ws := (l.mergeSort leR).map rowW) q sr (at_rows hy) hp⟩
          unfold rowsOf at hl
          cases r with
          | @ref n a hn =>
            simp only at hl
            cases eo : S[n]? with
            | none => rw [eo] at hl; cases hl
            | some o =>
              rw [eo] at hl
              cases o with
              | lst ws =>
                simp only [Option.bind_some] at hl
                obtain ⟨xs, z, t⟩ := sr.ob n a _ hn eo
                rw [mapM_rowK hl] at t
                exact fin a xs (.inl (.inl (.of z))) t
              | dct _ => cases hl
              | fdct _ => cases hl
              | ins _ _ => cases hl
          | @tup ws a vs s t =>
            simp only [Option.bind_some] at hl
            rw [mapM_rowK hl] at t
            exact fin a vs (.inr s) t
          | @rl ws a vs s t =>
            simp only [Option.bind_some] at hl
            rw [mapM_rowK hl] at t
            exact fin a vs (.inl s.sq) t
          | _ => cases hl
      · cases h
  · cases h
theorem e_sortR {e : Expr} {d : DE} {p pos : Pos} (he : EOk G c k e d) (hm : G.mg "sorted" = none) (hg : c.sc.names.lookup ("sorted" : Str) = some .globalImplicit := by rfl) (hp : plainE e = true := by rfl) : EOk G c k (.Call (.Name "sorted" p) [e] [] pos) (dFn opSortR (aCons d aNil)) :=
  e_blt (fun X U F => by rw [← F.K]; exact cr_sortR) o_sortR hm (by first | rfl | decide +kernel) (a_cons he a_nil hp) hg (by decide) (by decide) (fun env => starEach_plain hp _ _)
/-- list(range(a, b)) -/
def opListRg : OpA := fun ws S => match ws with
  | [.int a, .int b] => if (-1000000000 ≤ a ∧ a ≤ 1000000000) ∧ (-1000000000 ≤ b ∧ b ≤ 1000000000) ∧ (b - a).toNat ≤ 1000000 then some (.ref S.length, S ++ [.lst ((List.range (b - a).toNat).map fun i => .int (a + (i : Nat)))]) else none
  | _ => none
theorem e_listRg {a b : Expr} {da db : DE} {p p2 pos pos2 : Pos} (ha : EOk G c k a da) (hb : EOk G c k b db) (hm : G.mg "list" = none) (hm2 : G.mg "range" = none) (hg : c.sc.names.lookup ("list" : Str) = some .globalImplicit := by rfl) (hg2 : c.sc.names.lookup ("range" : Str) = some .globalImplicit := by rfl)
    (hp : plainE a = true := by rfl) (hp2 : plainE b = true := by rfl) (hh : c.hot = none := by rfl) : EOk G c k (.Call (.Name "list" p) [.Call (.Name "range" p2) [a, b] [] pos2] [] pos) (dFn opListRg (aCons da (aCons db aNil))) := fun X U F =>
  PE.imp (pe_listRg (F.calm hh) (glob_of F hg) (by rw [F.mg]; exact hm) (prg_2 (glob_of F hg2) (by rw [F.mg]; exact hm2) (ha X U F) (hb X U F) (starEach_plain hp _ _) (starEach_plain hp2 _ _) (by cases b <;> first | rfl | (simp [plainE] at hp2))) (by rfl)) fun σ H Q q => by
    obtain ⟨ρ, ε, S, ev, sr, q⟩ := q
    have q0 : Rg G U σ (VR G.K) ((da ε >>= fun w => db ε >>= fun u => lift (opListRg [w, u])) S) H ρ Q := by
      have e0 : dFn opListRg (aCons da (aCons db aNil)) ε = (da ε >>= fun w => db ε >>= fun u => lift (opListRg [w, u])) := by
        unfold dFn aCons aNil
        simp only [M.assoc, M.ret_bind]
      rw [← e0]; exact q
    refine ⟨ρ, ε, S, ev, sr, (Rg.bind q0).mono fun x H1 ⟨w, S1, ρ1, e1, s1, r1, q1⟩ => ⟨ρ1, ε, S1, ev.mono e1, s1, (Rg.bind q1).mono fun y H2 ⟨u, S2, ρ2, e2, s2, r2, q2⟩ => ?_⟩⟩
    obtain ⟨w', S3, hw, q3⟩ := Rg.lift q2
    unfold opListRg at hw
    split at hw
    · rename_i i j e
      cases e
      split at hw
      · rename_i hz
        cases hw
        cases r1
        cases r2
        refine ⟨i, j, rfl, rfl, ⟨by omega, by omega, by omega, by omega, by omega⟩, fun q hq => ?_⟩
        refine Rg.list (U := fun _ _ _ _ => False) (σ := []) (ws := (List.range (j - i).toNat).map fun n => W.int (i + (n : Nat))) q3 s2 ?_ hq
        unfold rgV
        generalize List.range (j - i).toNat = l
        induction l with
        | nil => exact .nil
        | cons n l ih => exact .cons (.int _) ih
      · cases hw
    · cases hw
/-- divmod(i, j) -/
def opDivmod : OpA := fun ws S => match ws with
  | [.int i, .int j] => if 0 < j ∧ Builtin.divisionGoesByPylong i j = false then some (.tup [.int (i / j), .int (i % j)], S) else none
  | _ => none
theorem o_divmod : OpAOk G (fun xs H Q => ∃ i j, xs = [.int i, .int j] ∧ CDivP i j ∧ ∀ p, H p = none → Q (.ref p) (upd H p (.tup [.int (i / j), .int (i % j)]))) opDivmod := fun H ρ S ws vs w S' Q sr ra h q => by
  unfold opDivmod at h
  split at h
  · rename_i i j
    split at h
    · rename_i hz
      cases h
      cases ra with
      | cons r1 ra => cases ra with
        | cons r2 ra =>
          cases ra; cases r1; cases r2
          exact ⟨i, j, rfl, hz, fun p hp => q _ _ _ (Ext.fresh hp) (sr.fresh hp) (.tup (.inl (.of upd_same)) (.cons (.int _) (.cons (.int _) .nil)))⟩
    · cases h
  · cases h
theorem e_divmod {a b : Expr} {da db : DE} {p pos : Pos} (ha : EOk G c k a da) (hb : EOk G c k b db) (hm : G.mg "divmod" = none) (hg : c.sc.names.lookup ("divmod" : Str) = some .globalImplicit := by rfl) (hp : plainE a = true := by rfl) (hp2 : plainE b = true := by rfl) :
    EOk G c k (.Call (.Name "divmod" p) [a, b] [] pos) (dFn opDivmod (aCons da (aCons db aNil))) :=
  e_blt (fun X U F => call_divmodW) o_divmod hm (by first | rfl | decide +kernel) (a_cons ha (a_cons hb a_nil hp2) hp) hg (by decide) (by decide) (fun env => starEach_plain hp _ _) (fun env => by cases b <;> first | rfl | (simp [plainE] at hp2))
/-- a constant of a class -/
theorem e_cval {x f : Str} {ci : Nat} {w : W} {v : V} {u mc : Value} {p pos : Pos} (hm : G.mg x = some (.ref (G.cl ci))) (hr : ClX.CRead G.K (G.cl ci) mc) (hv : ClX.CVal G.K (G.cl ci) mc f v u) (hc : isC w = some v) (hg : c.sc.names.lookup x = some .globalImplicit := by rfl) (hd : (x == ("__debug__" : Str)) = false := by decide)
    (hb : ∀ env, attributeBase (.Name x p) f env (eval (.Name x p) env) = eval (.Name x p) env := by intro _; rfl) : EOk G c k (.Attribute (.Name x p) f pos) (dC w) := fun X U F =>
  PE.imp (ClX.pe_cval (pe_glob (v := .ref (G.cl ci)) (glob_of F hg) (by rw [F.mg]; exact hm) rfl hd) (hb _)) fun σ H Q h => ⟨_, mc, v, u, rfl, by rw [F.K]; exact hr, by rw [F.K]; exact hv, tC_ok h fun _ => isC_ok hc⟩
end
end
end N
/-! OC: what a law's text gives of classes. -/
namespace N
open PySem L2
open PyProof.Rows (envOfC)
noncomputable section
variable {G : Top}
/-- a def that stands under another name in the module -/
structure MdefA (G : Top) (g x : Str) (st : Stmt) : Prop where
  ex : ∃ f fd, G.mg g = some (.ref f) ∧ PySem.W.keepIn G.K (.ref f) = true ∧ FunX G.K x x st f fd ∧ fd.defaults = .none
theorem def_mkA {g x : Str} {st : Stmt} {N ps : List Str} {k n : Nat} {d : DS} (D : MdefA G g x st) (S : FnScope N ps (defScope st)) (hn : ps.length = n) (hb : SsOk G ⟨N, defScope st, fun _ => true, none, true⟩ k (defBody st) d)
    (bind : ∀ (kV doc pm : Value) (an : Option Addr) (cdv ct : Value) (us : List Value), us.length = ps.length → bindArgs (PySem.W.fnOf x x (defArgs st) (defBody st) (defScope st) .none kV doc pm an cdv ct) ⟨us, []⟩ = pure (ps.zip us)) : Def G (k + 1) g ps (dfn N.length n d) := by
  obtain ⟨f, fd, h1, h2, F, hd⟩ := D.ex
  have hf := fn_ok F S hn hb
  obtain ⟨oc, od, dV, kV, doc, pm, an, cdv, ct, osl, rfl, lk, hcd⟩ := F.ex
  obtain rfl : dV = .none := hd
  exact ⟨f, _, h1, h2, hf, .all (bind kV doc pm an cdv ct)⟩
/-- a method, without defaults -/
structure Mmth (G : Top) (cs : List Nat) (m qual : Str) (st : Stmt) : Prop where
  ex : ∃ f fd, (∀ c, cs.contains c = true → Cls G.K (G.cl c) ∧ Meth G.K (G.cl c) m f) ∧ PySem.W.keepIn G.K (.ref f) = true ∧ FunX G.K m qual st f fd ∧ fd.defaults = .none
theorem mth_mk {cs : List Nat} {m qual : Str} {st : Stmt} {N ps : List Str} {k n : Nat} {d : DS} (D : Mmth G cs m qual st) (S : FnScope N ps (defScope st)) (hn : ps.length = n) (hb : SsOk G ⟨N, defScope st, fun _ => true, none, true⟩ k (defBody st) d)
    (bind : ∀ (kV doc pm : Value) (an : Option Addr) (cdv ct : Value) (us : List Value), us.length = ps.length → bindArgs (PySem.W.fnOf m qual (defArgs st) (defBody st) (defScope st) .none kV doc pm an cdv ct) ⟨us, []⟩ = pure (ps.zip us)) : Mth G (k + 1) cs m ps (dfn N.length n d) := by
  obtain ⟨f, fd, h1, h2, F, hd⟩ := D.ex
  have hf := fn_ok F S hn hb
  obtain ⟨oc, od, dV, kV, doc, pm, an, cdv, ct, osl, rfl, lk, hcd⟩ := F.ex
  obtain rfl : dV = .none := hd
  exact ⟨f, _, h1, h2, hf, .all (bind kV doc pm an cdv ct)⟩
theorem mthK_mk {cs : List Nat} {m qual : Str} {st : Stmt} {N ps ks : List Str} {k n na : Nat} {perm : List Nat} {d : DS} (D : Mmth G cs m qual st) (S : FnScope N ps (defScope st)) (hn : ps.length = n) (hb : SsOk G ⟨N, defScope st, fun _ => true, none, true⟩ k (defBody st) d)
    (bind : ∀ (kV doc pm : Value) (an : Option Addr) (cdv ct : Value) (us ws zs : List Value), us.length = na + 1 → ws.length = ks.length → permW perm (us ++ ws ++ []) = some zs → bindArgs (PySem.W.fnOf m qual (defArgs st) (defBody st) (defScope st) .none kV doc pm an cdv ct) ⟨us, ks.zip ws⟩ = pure (ps.zip zs)) : MthK G (k + 1) cs m ps (dfn N.length n d) ks na [] perm := by
  obtain ⟨f, fd, h1, h2, F, hd⟩ := D.ex
  have hf := fn_ok F S hn hb
  obtain ⟨oc, od, dV, kV, doc, pm, an, cdv, ct, osl, rfl, lk, hcd⟩ := F.ex
  obtain rfl : dV = .none := hd
  exact ⟨f, _, h1, h2, hf, ⟨[], [], fun _ _ => .nil, .nil, fun s us ws zs _ l1 l2 e => .of_eq (bind kV doc pm an cdv ct us ws zs l1 l2 e)⟩⟩
/-- a property -/
structure Mprp (G : Top) (cs : List Nat) (f m qual : Str) (st : Stmt) : Prop where
  ex : ∃ p g fd, (∀ c, cs.contains c = true → Cls G.K (G.cl c) ∧ PropOf G.K (G.cl c) f p g) ∧ FunX G.K m qual st g fd ∧ fd.defaults = .none
theorem prp_mk {cs : List Nat} {f m qual : Str} {st : Stmt} {N : List Str} {k : Nat} {d : DS} (D : Mprp G cs f m qual st) (S : FnScope N ["self"] (defScope st)) (hb : SsOk G ⟨N, defScope st, fun _ => true, none, true⟩ k (defBody st) d)
    (bind : ∀ (kV doc pm : Value) (an : Option Addr) (cdv ct : Value) (us : List Value), us.length = 1 → bindArgs (PySem.W.fnOf m qual (defArgs st) (defBody st) (defScope st) .none kV doc pm an cdv ct) ⟨us, []⟩ = pure ((["self"] : List Str).zip us)) : Prp G (k + 1) cs f (dfn N.length 1 d) := by
  obtain ⟨p, g, fd, h1, F, hd⟩ := D.ex
  have hf := fn_ok F S (n := 1) rfl hb
  obtain ⟨oc, od, dV, kV, doc, pm, an, cdv, ct, osl, rfl, lk, hcd⟩ := F.ex
  obtain rfl : dV = .none := hd
  exact ⟨p, g, _, h1, hf, .all (bind kV doc pm an cdv ct)⟩
/-- a class of the module that is made by its own __init__; kws: its keyword-only defaults -/
structure Minit (G : Top) (x : Str) (ci : Nat) (qual : Str) (st : Stmt) (kws : List (Str × W)) : Prop where
  ex : ∃ f fd D, G.mg x = some (.ref (G.cl ci)) ∧ Mk G.K (G.cl ci) f ∧ FunX G.K "__init__" qual st f fd ∧ fd.defaults = .none ∧ fd.kwdefaults = .ref D ∧ ∀ q ∈ kws, ∃ u v, PySem.W.nsIn G.K D q.1 = some (some u) ∧ RelV v u ∧ ∀ H ρ, VR G.K H ρ q.2 v
/-- .. without keyword-only defaults -/
structure Minit0 (G : Top) (x : Str) (ci : Nat) (qual : Str) (st : Stmt) : Prop where
  ex : ∃ f fd, G.mg x = some (.ref (G.cl ci)) ∧ Mk G.K (G.cl ci) f ∧ FunX G.K "__init__" qual st f fd ∧ fd.defaults = .none
theorem kw_vals {K : PySem.W.Frag} {D : Addr} : ∀ {kws : List (Str × W)}, (∀ q ∈ kws, ∃ u v, PySem.W.nsIn K D q.1 = some (some u) ∧ RelV v u ∧ ∀ H ρ, VR K H ρ q.2 v) →
    ∃ (mv : List Value) (dV : List V), mv.length = kws.length ∧ (∀ q ∈ (kws.map (·.1)).zip mv, PySem.W.nsIn K D q.1 = some (some q.2)) ∧ Vals dV mv ∧ ∀ H ρ, VRs K H ρ (kws.map (·.2)) dV
  | [], _ => ⟨[], [], rfl, fun q hq => by simp at hq, .nil, fun _ _ => .nil⟩
  | p :: kws, h => by
    obtain ⟨u, v, e1, e2, e3⟩ := h p List.mem_cons_self
    obtain ⟨mv, dV, h1, h2, h3, h4⟩ := kw_vals (kws := kws) fun q hq => h q (List.mem_cons_of_mem _ hq)
    refine ⟨u :: mv, v :: dV, by simp [h1], fun q hq => ?_, .cons e2 h3, fun H ρ => .cons (e3 H ρ) (h4 H ρ)⟩
    rw [List.map_cons, List.zip_cons_cons] at hq
    rcases List.mem_cons.mp hq with z | z
    · subst z; exact e1
    · exact h2 q z
theorem mak_mk {x : Str} {ci : Nat} {qual : Str} {st : Stmt} {kws : List (Str × W)} {N ps ks : List Str} {k n na : Nat} {perm : List Nat} {d : DS} (D : Minit G x ci qual st kws) (S : FnScope N ps (defScope st)) (hn : ps.length = n) (hb : SsOk G ⟨N, defScope st, fun _ => true, none, true⟩ k (defBody st) d)
    (bind : ∀ (D : Addr) (doc pm : Value) (an : Option Addr) (cdv ct : Value) (us ws mv zs : List Value), us.length = na + 1 → ws.length = ks.length → mv.length = kws.length → permW perm (us ++ ws ++ mv) = some zs →
      ∃ l, (∀ q ∈ l, q ∈ (kws.map (·.1)).zip mv) ∧ KwChain D l (bindArgs (PySem.W.fnOf "__init__" qual (defArgs st) (defBody st) (defScope st) .none (.ref D) doc pm an cdv ct) ⟨us, ks.zip ws⟩) (ps.zip zs)) : MakC G (k + 1) x ci ps (dfn N.length n d) ks na (kws.map (·.2)) perm := by
  obtain ⟨f, fd, DD, h1, h2, F, hd, hkd, hq⟩ := D.ex
  have hf := fn_ok F S hn hb
  obtain ⟨oc, od, dV, kV, doc, pm, an, cdv, ct, osl, rfl, lk, hcd⟩ := F.ex
  obtain rfl : dV = .none := hd
  obtain rfl : kV = .ref DD := hkd
  obtain ⟨mv, dV', m1, m2, m3, m4⟩ := kw_vals hq
  refine ⟨f, _, h1, h2, hf, ⟨mv, dV', m4, m3, fun s us ws zs inK l1 l2 e => ?_⟩⟩
  obtain ⟨l, hl, hc⟩ := bind DD doc pm an cdv ct us ws mv zs l1 l2 m1 e
  exact BindsTo.of_looks fun M => KwChain.looks inK (fun q hq => m2 q (hl q hq)) hc
theorem mak0_mk {x : Str} {ci : Nat} {qual : Str} {st : Stmt} {N ps ks : List Str} {k n na : Nat} {perm : List Nat} {d : DS} (D : Minit0 G x ci qual st) (S : FnScope N ps (defScope st)) (hn : ps.length = n) (hb : SsOk G ⟨N, defScope st, fun _ => true, none, true⟩ k (defBody st) d)
    (bind : ∀ (kV doc pm : Value) (an : Option Addr) (cdv ct : Value) (us ws zs : List Value), us.length = na + 1 → ws.length = ks.length → permW perm (us ++ ws ++ []) = some zs → bindArgs (PySem.W.fnOf "__init__" qual (defArgs st) (defBody st) (defScope st) .none kV doc pm an cdv ct) ⟨us, ks.zip ws⟩ = pure (ps.zip zs)) : MakC G (k + 1) x ci ps (dfn N.length n d) ks na [] perm := by
  obtain ⟨f, fd, h1, h2, F, hd⟩ := D.ex
  have hf := fn_ok F S hn hb
  obtain ⟨oc, od, dV, kV, doc, pm, an, cdv, ct, osl, rfl, lk, hcd⟩ := F.ex
  obtain rfl : dV = .none := hd
  exact ⟨f, _, h1, h2, hf, ⟨[], [], fun _ _ => .nil, .nil, fun s us ws zs _ l1 l2 e => .of_eq (bind kV doc pm an cdv ct us ws zs l1 l2 e)⟩⟩
/-- an empty tuple of the module -/
theorem tup0_ok {K : PySem.W.Frag} {T : Addr} {dd : Option Addr} {n : Nat} {sl : Array (Option Value)} (h : K.lookup T = some ⟨.type "tuple", dd, .seq #[] n, sl⟩) (H : Hp) (ρ : List Addr) : VR K H ρ (.tup []) (.ref T) :=
  .tup (.inr ⟨_, #[], n, h, rfl, rfl, Nat.zero_le _, .nil⟩) .nil
end
end N
/-! OD: enumerate of a text; what is wished of the class rules (wp). -/
namespace N
open PySem L2
open PyProof.Rows (envOfC)
section
open PySem.Spec PyProof.Rows
/-- the signs of a text, each in a new pair with its place -/
def Ies (x : Str) : It := ⟨fun i _ => i < x.cps.size, fun i H v H' => ∃ T c, v = .ref T ∧ H T = none ∧ x.cps[i]? = some c ∧ H' = upd H T (.tup [.int (i : Nat), .str ⟨#[c]⟩]), fun i _ => x.cps.size ≤ i⟩
theorem turn_enumS {P : Program} {w : World} {K : PySem.W.Frag} {elts : List Expr} {kk : Nat} {tpos : Pos} (x : Str) (t : Tok) (e it : Addr) :
    Turn P w K (.Tuple elts kk tpos) (Ies x) [e, it] e (fun i h => (∃ old, IsEnum h e it ((i : Nat) : Int) old) ∧ h.IsStrIter it (strIterType x) x t i ∧ e ≠ it ∧ i ≤ x.cps.size) where
  mem := by simp
  obj := fun i h st b hb => by
    obtain ⟨⟨old, he⟩, ⟨o, ho, _, hd⟩, _⟩ := st
    rcases (show b = e ∨ b = it by simpa using hb) with z | z
    · subst z; exact ⟨_, he, fun v q => nomatch q⟩
    · subst z; exact ⟨o, ho, fun v q => by rw [hd] at q; cases q⟩
  keep := fun i h h' st k => by
    obtain ⟨⟨old, he⟩, ⟨o, ho, hr⟩, hne⟩ := st
    exact ⟨⟨old, k e (by simp) _ he⟩, ⟨o, k it (by simp) o ho, hr⟩, hne⟩
  item := by
    intro X hP hw hK hc i pins s σ H E I hf st hg
    subst hP hw hK
    obtain ⟨⟨old, he⟩, hit, hne, _⟩ := st
    have hel : e < s.heap.objs.size := Heap.lt_size he
    have hil : it < s.heap.objs.size := by obtain ⟨_, q, _⟩ := hit; exact Heap.lt_size q
    have D := Draws.text (prog := X.prog) (w := X.w) (A := X.A.in1) (I.ok.hd hc) it x t
    refine wpAny_pyNext_enum_itemD D he hit hg hne (by simpa using hne) fun v h' tk hv ho hit' hT hsz hk => ?_
    obtain ⟨c, u, hcx, rfl⟩ := hv
    refine ⟨_, rfl, wpAny_letOwnedTupleGo_enum (s := { s with heap := h', toks := tk + 1 }) ho fun h2 he2 sb => ?_⟩
    have hT2 : h2.get? s.heap.objs.size = some { cls := .type "tuple", data := .seq #[.int i tk, .str ⟨#[c]⟩ u] } := (sb.2 _ (Nat.ne_of_gt hel)).trans hT
    have new : ObjOk X.prog X.w (upd H s.heap.objs.size (.tup [.int (i : Nat), .str ⟨#[c]⟩])) h2 s.heap.objs.size (.tup [.int (i : Nat), .str ⟨#[c]⟩]) := ⟨by show 2 ≤ sizeLine; decide, [_, _], .cons ⟨_, rfl⟩ (.cons ⟨u, rfl⟩ .nil), ⟨_, hT2, rfl, _, rfl⟩⟩
    have I1 : Inv X pins σ (upd H s.heap.objs.size (.tup [.int (i : Nat), .str ⟨#[c]⟩])) { s with heap := h2, toks := tk + 1 } :=
      I.turnedNew (ch := [e, it]) (fun b ob hb q => (sb.2 b (fun z => hb (by simp [z]))).trans (hk b ob (fun z => hb (by simp [z])) (fun z => hb (by simp [z])) q)) hf (Nat.le_refl _) new
    have hlt : i < x.cps.size := hg
    refine ⟨.ref s.heap.objs.size, _, I1, rfl, ⟨_, c, rfl, I.hok.fresh (Nat.le_refl _), hcx, rfl⟩, ⟨⟨.str ⟨#[c]⟩ u, ?_⟩, ?_, hne, hlt⟩, fun b hb => ?_⟩
    · rw [show ((i + 1 : Nat) : Int) = (i : Int) + 1 by omega]; exact he2
    · obtain ⟨oi, ho', r'⟩ := hit'
      exact ⟨oi, (sb.2 it (Ne.symm hne)).trans ho', r'⟩
    · have hb' : b < s.heap.objs.size := (show b = e ∨ b = it by simpa using hb).elim (fun z => by rw [z]; exact hel) fun z => by rw [z]; exact hil
      rw [upd_ne (Nat.ne_of_lt hb')]
      exact (hf b hb).1
  done := by
    intro X hP hw hK hc i pins s σ H E I hf st hg
    subst hP hw hK
    obtain ⟨⟨old, he⟩, hit, hne, hle⟩ := st
    obtain ⟨f0, f1, f2, f3, f4, f5⟩ := hf it (by simp)
    have e0 : i = x.cps.size := Nat.le_antisymm hle hg
    subst e0
    have D := Draws.text (prog := X.prog) (w := X.w) (A := X.A.in1) (I.ok.hd hc) it x t
    exact wpAny_pyNext_enum_endD D he hit fun h' eb => ⟨rfl, I.turned (t' := s.toks) (fun b o hb q => eb b o hb q) f0 f1 f3 f4 f5⟩
  self := fun A i s Q E st h => let ⟨⟨_, he⟩, _⟩ := st; wpAny_pyIter_enum he h
def iEnumS (ta : TA) : TI := fun σ H R => ta σ H fun vs H1 => ∃ x, vs = [.str x] ∧ R (Ies x) H1
theorem pi_enumS {X : Cx} {e : Expr} {ta : TA} {p pos tpos : Pos} {elts : List Expr} {kk : Nat} (hg : Gl X "enumerate") (hm : X.mg "enumerate" = none) (ha : PA X [e] ta) (hs : starEach [e] X.env = [(false, eval e X.env)] := by rfl) :
    PI X (.Tuple elts kk tpos) (.Call (.Name "enumerate" p) [e] [] pos) (iEnumS ta) := by
  refine ⟨fun pins s σ H R I h => Call_ (ld_blt I hg hm boot_enumerate (PyProof.Rows.callWith_type1 (thn (ha.run pos pins s σ H _ I h) fun us s1 ⟨vs, H1, I1, r1, q1⟩ => ?_) hs rfl))⟩
  obtain ⟨x, ex, q⟩ := q1
  subst ex
  cases r1 with
  | cons r rr =>
    cases rr
    obtain ⟨t, rfl⟩ := r
    refine call_enumerate_str fun h' he hit hsz hk => wpAny_pyIter_enum he ?_
    refine ⟨s1.heap.objs.size + 1, [s1.heap.objs.size + 1, s1.heap.objs.size], _, _, H1, rfl, I1.kept (t' := s1.toks) hk, turn_enumS x t (s1.heap.objs.size + 1) s1.heap.objs.size, ⟨⟨.none, he⟩, hit, Nat.succ_ne_self _, Nat.zero_le _⟩, fun b hb => ?_, q⟩
    have hle : s1.heap.objs.size ≤ b := (show b = s1.heap.objs.size + 1 ∨ b = s1.heap.objs.size by simpa using hb).elim (fun z => by rw [z]; exact Nat.le_add_right _ _) fun z => by rw [z]; exact Nat.le_refl _
    exact I1.fpOk hle (I1.hok.fresh hle)
end
noncomputable section
def signsW (x : Str) : List W := x.cps.toList.map fun c => W.str ⟨#[c]⟩
def dEnumS (a : DA) : DI := fun ε => a ε >>= fun ws => fun S => match ws with
  | [.str x] => if okS x = true then .ok ⟨enumL (signsW x), fun _ => True⟩ S else .bad
  | _ => .bad
section
variable {G : Top} {c : Ctx} {k : Nat}
theorem good_enumS {H : Hp} {ρ : List Addr} {x : Str} (hx : okS x = true) : Good G H ρ ⟨enumL (signsW x), fun _ => True⟩ (Ies x) := fun H2 ρ2 S2 e sr g => by
  have hlen : (enumL (signsW x)).length = x.cps.size := by simp [enumL, signsW]
  refine ⟨fun i w hi => ?_, by show x.cps.size ≤ _; rw [hlen]; exact Nat.le_refl _⟩
  obtain ⟨y, hy, rfl⟩ := enumL_get hi
  unfold signsW at hy
  rw [List.getElem?_map] at hy
  cases hc : x.cps.toList[i]? with
  | none => rw [hc] at hy; cases hy
  | some c0 =>
    rw [hc] at hy
    cases hy
    have hlt : i < x.cps.size := by
      have := (List.getElem?_eq_some_iff.mp hc).1
      simpa using this
    refine ⟨hlt, fun y H3 hy => ?_⟩
    obtain ⟨T, c1, rfl, hT, hc1, rfl⟩ := hy
    have e1 : c1 = c0 := by
      have : x.cps.toList[i]? = x.cps[i]? := by simp
      rw [this, hc1] at hc
      cases hc; rfl
    subst e1
    refine ⟨Ext.fresh hT, sr.fresh hT, .tup (.inl (.of upd_same)) (.cons (.int _) (.cons (.str ?_) .nil))⟩
    unfold okS at hx ⊢
    have hm : c1 ∈ x.cps.toList := List.mem_of_getElem? hc
    simpa using (List.all_eq_true.mp hx) c1 hm
theorem i_enumS {e : Expr} {elts : List Expr} {kk : Nat} {tpos : Pos} {d : DE} {p pos : Pos} (he : EOk G c k e d) (hm : G.mg "enumerate" = none) (hg : c.sc.names.lookup ("enumerate" : Str) = some .globalImplicit := by rfl) (hp : plainE e = true := by rfl) : IOk G c k (.Tuple elts kk tpos) (.Call (.Name "enumerate" p) [e] [] pos) (dEnumS (aCons d aNil)) := fun X U F =>
  PI.imp (pi_enumS (glob_of F hg) (by rw [F.mg]; exact hm) (a_cons he a_nil hp X U F) (starEach_plain hp _ _)) fun σ H Q ⟨ρ, ε, S, ev, sr, h⟩ => ⟨ρ, ε, S, ev, sr, (Rg.bind h).mono fun vs H1 ⟨ws, S1, ρ1, e1, s1, r1, h1⟩ => by
    split at h1
    · rename_i x
      cases r1 with
      | cons r rs =>
        cases rs
        cases r with
        | str hx =>
          rw [if_pos hx] at h1
          exact ⟨x, rfl, h1 H1 ρ1 _ Ext.refl s1 (good_enumS hx)⟩
    · exact h1.elim⟩
/-- a text in a tuple of texts -/
def opInT : Op2 := fun a b S => match a, b with
  | .str x, .tup ws => (strsOf ws).map fun ys => (.bl (ys.any fun y => y == x), S)
  | _, _ => none
theorem r_inT : ∀ X W, Fit G c k X W → OpR X (compareOp .In) (rIn G.K false) := fun X W F => by rw [← F.K]; exact op_in_seq
theorem o_inT : Op2Ok G (rIn G.K false) opInT := fun H ρ S a b x y w S' Q sr ra rb h q => by
  unfold opInT at h
  split at h
  · rename_i x0 ws
    cases e : strsOf ws with
    | none => rw [e] at h; cases h
    | some ys =>
      rw [e] at h
      cases h
      cases ra with
      | str hx =>
        cases rb with
        | tup s t =>
          obtain ⟨e2, _⟩ := strsOf_ok t e
          subst e2
          refine ⟨_, _, rfl, .inr s, rfl, ?_, ?_⟩
          · rw [List.all_map]; exact List.all_eq_true.mpr fun _ _ => rfl
          · have e3 : inV (V.str x0) (ys.map V.str) = ys.any fun y => y == x0 := by
              unfold inV
              rw [List.any_map]
              rfl
            rw [e3]
            exact q.flat sr (.bl _)
  · cases h
end
end
end N
/-! OF: range with a step upwards. -/
namespace N
open PySem PySem.Spec PyProof.Rows L2
noncomputable section
section
variable {G : Top} {c : Ctx} {k : Nat}
/-- lo, lo + c, .. (n of them) -/
def stpW (lo c : Int) (n : Nat) : List W := (List.range n).map fun i : Nat => W.int (lo + (i : Int) * c)
def dRngS (a : DA) : DI := fun ε => a ε >>= fun ws => fun S => match ws with
  | [.int i, .int j, .int c] => if (0 < c ∧ c < 1073741824) ∧ Builtin.Range.small i j c = true then .ok ⟨stpW i c (Builtin.Range.rangeSize i j c).toNat, fun _ => True⟩ S else .bad
  | _ => .bad
theorem good_stp {H : Hp} {ρ : List Addr} (lo c : Int) (n : Nat) : Good G H ρ ⟨stpW lo c n, fun _ => True⟩ (Itc lo c n) := fun H2 ρ2 S2 e sr g => by
  refine ⟨fun i w hi => ?_, by show n ≤ (stpW lo c n).length; simp [stpW]⟩
  have hl : i < n := by simpa [stpW] using (List.getElem?_eq_some_iff.mp hi).1
  unfold stpW at hi
  rw [List.getElem?_map, List.getElem?_range hl] at hi
  cases hi
  refine ⟨hl, fun v H3 hy => ?_⟩
  obtain ⟨rfl, rfl⟩ := hy
  exact ⟨Ext.refl, sr, .int _⟩
theorem size_nn {i j c : Int} (h : 0 < c) : 0 ≤ Builtin.Range.rangeSize i j c := by
  unfold Builtin.Range.rangeSize
  rw [if_pos h]
  split
  · have := Int.ediv_nonneg (a := j - i - 1) (b := c) (by omega) (by omega)
    omega
  · exact Int.le_refl _
theorem i_rngS {tg e f g3 : Expr} {d g d3 : DE} {p pos : Pos} (he : EOk G c k e d) (hf : EOk G c k f g) (h3 : EOk G c k g3 d3) (hm : G.mg "range" = none) (hg : c.sc.names.lookup ("range" : Str) = some .globalImplicit := by rfl) (hp : plainE e = true := by rfl) (hq : plainE f = true := by rfl) (hr : plainE g3 = true := by rfl) : IOk G c k tg (.Call (.Name "range" p) [e, f, g3] [] pos) (dRngS (aCons d (aCons g (aCons d3 aNil)))) := fun X U F =>
  PI.imp (pi_range3 (glob_of F hg) (by rw [F.mg]; exact hm) (a_cons he (a_cons hf (a_cons h3 a_nil hr) hq) hp X U F) (starEach_plain hp _ _) (by rw [starEach_plain hq, starEach_plain hr]; rfl)) fun σ H Q ⟨ρ, ε, S, ev, sr, h⟩ => ⟨ρ, ε, S, ev, sr, (Rg.bind h).mono fun vs H1 ⟨ws, S1, ρ1, e1, s1, r1, h1⟩ => by
    split at h1
    · rename_i i j c0
      cases r1 with
      | cons r rs => cases rs with
        | cons r2 rs => cases rs with
          | cons r3 rs =>
            cases rs; cases r; cases r2; cases r3
            split at h1
            · rename_i hb
              obtain ⟨⟨c1, c2⟩, hs⟩ := hb
              have nn := size_nn (i := i) (j := j) c1
              exact ⟨i, j, c0, (Builtin.Range.rangeSize i j c0).toNat, rfl, ⟨by omega, by omega, hs, by omega⟩, h1 H1 ρ1 _ Ext.refl s1 (good_stp i c0 _)⟩
            · exact h1.elim
    · exact h1.elim⟩
end
end
theorem stpW_get {lo c : Int} {n i : Nat} {w : W} (h : (stpW lo c n)[i]? = some w) : i < n ∧ w = .int (lo + (i : Int) * c) := by
  have hl : i < n := by simpa [stpW] using (List.getElem?_eq_some_iff.mp h).1
  unfold stpW at h
  rw [List.getElem?_map, List.getElem?_range hl] at h
  exact ⟨hl, by simpa using h.symm⟩
theorem stpW_len {lo c : Int} {n : Nat} : (stpW lo c n).length = n := by simp [stpW]
/-- a, b = x, y (both sides written, some of the names not plain): stored from the left -/
theorem s_asgS {G : Top} {c : Ctx} {k : Nat} {tg e : Expr} {t : DT} {d : DE} {pos : Pos} (he : EOk G c k e d) (hg : GOk G c k tg t) (hk : c.sc.kind = .function := by rfl) (hs : ∀ env, swapsWithSole [tg] e pos.line env = pure false := by intro _; rfl) (hw : swappedStores [tg] e (stdEnv c.sc) = pure none := by rfl)
    (h1 : ∀ env, (assignEach [tg] env).map (·.2) = [assign tg env] := by intro _; rfl) : SOk G c k (.Assign [tg] e pos) (dAsg t d) := fun X U F =>
  PS.imp (ps_asg (he X U F) (hg X U F) (hs _) (by rw [swapped_std F.sc hk]; exact hw) (h1 _)) fun D σ H ⟨ρ, ε, S, ev, sr, h⟩ => ⟨ρ, ε, S, ev, sr, (Rg_sBind ev h).mono fun v H' ⟨w, S', ρ', e', s', r', q⟩ => by
    cases z : t w ε S' with
    | none => simp only [z] at q; exact q.elim
    | some ε' =>
      simp only [z] at q
      exact ⟨w, ε, ρ', S', ε', r', ev.mono e', s', z, fun σ' ev' => q H' ρ' σ' Ext.refl s' ev'⟩⟩
end N
/-! OG: range of any size; count of a text. -/
namespace N
open PySem PySem.Spec PyProof.Rows L2
theorem turn_long {P : Program} {w : World} {K : PySem.W.Frag} {tg : Expr} (it : Addr) (lo : Int) (n : Nat) : Turn P w K tg (Itr lo n) [it] it (fun i h => IsLongIter h it (lo + (i : Nat) * 1) ((n : Int) - (i : Nat)) 1) where
  mem := by simp
  obj := fun i h st b hb => by
    have e : b = it := by simpa using hb
    subst e
    exact ⟨_, st, fun v z => by
      have z' : Data.fields _ = Data.cell v := z
      cases z'⟩
  keep := fun i h h' st k => k it (by simp) _ st
  item := by
    intro X hP hw hK hc i pins s σ H E I hf st hg
    subst hP hw hK
    obtain ⟨f0, f1, f2, f3, f4, f5⟩ := hf it (by simp)
    have W := Walks.longrange (prog := X.prog) (w := X.w) (I.ok.hd hc) it lo 1 n
    refine W.item i s _ _ hg st fun v h' tk hv st' kk => ?_
    obtain ⟨t, rfl⟩ := hv
    have I1 : Inv X pins σ H { s with heap := h', toks := tk } := I.turned (fun b o hb e => kk b o (by simpa using hb) e) f0 f1 f3 f4 f5
    refine ⟨_, rfl, go_of (s := { s with heap := h', toks := tk }) (n := "longrange_iterator") st' rfl rfl (by decide) ⟨.int (lo + i), H, I1, ⟨t, ?_⟩, ⟨rfl, rfl⟩, st', fun b hb => (hf b hb).1⟩⟩
    rw [Int.mul_one]
  done := by
    intro X hP hw hK hc i pins s σ H E I hf st hg
    subst hP hw hK
    obtain ⟨f0, f1, f2, f3, f4, f5⟩ := hf it (by simp)
    exact wpAny_pyNext_long_end (I.ok.hd hc) st (by have : n ≤ i := hg; omega) fun h' eb => ⟨rfl, I.turned (t' := s.toks) (fun b o hb e => eb b o hb e) f0 f1 f3 f4 f5⟩
  self := fun A i s Q E st h => wpAny_pyIter_longiter st h
section
variable {X : Cx} {tg : Expr}
theorem range_itA {pins : List (Addr × Obj)} {σ : L2.St} {H : Hp} {s : Shared} {R : It → Hp → Prop} {E : Value → Shared → Prop} {lo hi : Int} {t u v : Tok} {tk : Nat} (I : Inv X pins σ H s)
    (q : R (Itr lo (hi - lo).toNat) H) : wpAny (model X.prog X.w) X.A (pyIter (.ref s.heap.objs.size)) (PIE X pins σ tg R) E { s with heap := s.heap.push { cls := .type "range", data := .fields #[.int lo t, .int hi u, .int 1 v] }, toks := tk } := by
  have e1 : lo + ((0 : Nat) : Int) * 1 = lo := by simp
  have e2 : (((hi - lo).toNat : Nat) : Int) - ((0 : Nat) : Int) = Builtin.Range.rangeSize lo hi 1 := by rw [rangeSize_one]; split <;> omega
  have I1 : Inv X pins σ H { s with heap := s.heap.push { cls := .type "range", data := .fields #[.int lo t, .int hi u, .int 1 v] }, toks := tk } := I.kept fun b o e => Heap.get?_push_of_some _ e
  cases hs : Builtin.Range.small lo hi 1 with
  | true =>
    refine wpAny_pyIter_range (IsRange.new ..) hs ?_
    refine pi_one (tk := tk) I1 _ (turn_range _ lo (hi - lo).toNat) ?_ q
    show IsRangeIter _ _ (lo + ((0 : Nat) : Int) * 1) ((((hi - lo).toNat : Nat) : Int) - ((0 : Nat) : Int)) 1
    rw [e1, e2]
    exact Heap.get?_push_size _ rfl
  | false =>
    refine wpAny_pyIter_longrange (IsRange.new ..) hs ?_
    refine pi_one (tk := tk) I1 _ (turn_long _ lo (hi - lo).toNat) ?_ q
    show IsLongIter _ _ (lo + ((0 : Nat) : Int) * 1) ((((hi - lo).toNat : Nat) : Int) - ((0 : Nat) : Int)) 1
    rw [e1, e2]
    exact Heap.get?_push_size _ rfl
def iRngA (ta : TA) : TI := fun σ H R => ta σ H fun vs H1 => ∃ i j : Int, vs = [.int i, .int j] ∧ R (Itr i (j - i).toNat) H1
theorem pi_rangeA {a b : Expr} {ta : TA} {p pos : Pos} (hg : Gl X "range") (hm : X.mg "range" = none) (ha : PA X [a, b] ta) (hs : starEach [a, b] X.env = [(false, eval a X.env), (false, eval b X.env)] := by rfl) (hs2 : starEach [b] X.env = [(false, eval b X.env)] := by rfl) :
    PI X tg (.Call (.Name "range" p) [a, b] [] pos) (iRngA ta) := by
  refine ⟨fun pins s σ H R I h => ?_⟩
  refine Call_ (ld_blt I hg hm boot_range (PyProof.Rows.callWith_type1 (thn (ha.run pos pins s σ H _ I h) fun us s1 ⟨vs, H1, I1, r1, q1⟩ => ?_) (by rw [hs, hs2]) (by rw [hs2]; rfl)))
  obtain ⟨i, j, e, q⟩ := q1
  subst e
  cases r1 with
  | cons r rr =>
    cases rr with
    | cons r' rr =>
      cases rr
      obtain ⟨t, rfl⟩ := r
      obtain ⟨t', rfl⟩ := r'
      exact call_range_2 (range_itA I1 q)
end
noncomputable section
section
variable {G : Top} {c : Ctx} {k : Nat}
/-- range(i, j), of any size -/
def dRngA (a : DA) : DI := fun ε => a ε >>= fun ws => fun S => match ws with
  | [.int i, .int j] => .ok ⟨rngW i (j - i).toNat, fun _ => True⟩ S
  | _ => .bad
theorem i_rngA {tg e f : Expr} {d g : DE} {p pos : Pos} (he : EOk G c k e d) (hf : EOk G c k f g) (hm : G.mg "range" = none) (hg : c.sc.names.lookup ("range" : Str) = some .globalImplicit := by rfl) (hp : plainE e = true := by rfl) (hq : plainE f = true := by rfl) : IOk G c k tg (.Call (.Name "range" p) [e, f] [] pos) (dRngA (aCons d (aCons g aNil))) := fun X U F =>
  PI.imp (pi_rangeA (glob_of F hg) (by rw [F.mg]; exact hm) (a_cons he (a_cons hf a_nil hq) hp X U F) (by rw [starEach_plain hp, starEach_plain hq]; rfl) (by rw [starEach_plain hq]; rfl)) fun σ H Q ⟨ρ, ε, S, ev, sr, h⟩ => ⟨ρ, ε, S, ev, sr, (Rg.bind h).mono fun vs H1 ⟨ws, S1, ρ1, e1, s1, r1, h1⟩ => by
    split at h1
    · rename_i i j
      cases r1 with
      | cons r rs => cases rs with
        | cons r2 rs =>
          cases rs; cases r; cases r2
          exact ⟨i, j, rfl, h1 H1 ρ1 _ Ext.refl s1 (good_rng i _)⟩
    · exact h1.elim⟩
/-! ### count of a text -/
def mCount : OpM := fun a ws S => match a, ws with
  | .str x, [.str y] => some (.int (Txt.count x y), S)
  | _, _ => none
theorem o_count : OpMOk G (fun x xs H Q => ∃ a b, x = .str a ∧ xs = [.str b] ∧ Q (.int (Txt.count a b)) H) mCount := fun H ρ S a ws x xs w S' Q sr ra rs h q => by
  unfold mCount at h
  split at h
  · cases h
    cases ra
    cases rs with
    | cons r rs =>
      cases rs
      cases r
      exact ⟨_, _, rfl, rfl, q.flat sr (.int _)⟩
  · cases h
theorem e_count {o e : Expr} {d f : DE} {apos cpos : Pos} (he : EOk G c k o d) (ha : EOk G c k e f) (hbase : ∀ env, attributeBase o "count" env (eval o env) = eval o env := by intro _; rfl) (hline : (apos.endLine == cpos.line) = true := by rfl) (hp : plainE e = true := by rfl) :
    EOk G c k (.Call (.Attribute o "count" apos) [e] [] cpos) (dMt "str" mCount d (aCons f aNil)) :=
  e_mt PySem.F.plainAttrs_str PySem.F.slot_str_count PySem.F.type_str_count (fun X U F => mt_count) o_count he (a_cons ha a_nil hp) hbase (fun env => by rw [starEach_plain hp]; rfl) hline (fun env => starEach_plain hp _ _)
end
end
end N
/-! OH: dicts of anything: walked, made of pairs, written down. -/
namespace N
open PySem PySem.Spec PyProof.Rows L2
noncomputable section
section
variable {G : Top} {c : Ctx} {k : Nat}
/-! ### a dict locked through an expression -/
/-- the dict that the variable i holds is locked through d -/
def dLock (i : Nat) (d : DE) : DE := fun ε S => match ε[i]? with
  | some (some (.ref n)) => match S[n]? with
    | some (.dct kvs) => match d ε (S.set n (.fdct kvs)) with
      | .ok w S2 => match S2[n]? with
        | some (.fdct kvs2) => .ok w (S2.set n (.dct kvs2))
        | _ => .bad
      | _ => .bad
    | _ => .bad
  | _ => .bad
theorem frz_ne {H : Hp} {a b : Addr} {od : Obj} {l : List (Key × V)} {u : HO} (h : H a = some (.frz od (.dK l))) (q : H b = some u) (hu : u ≠ .frz od (.dK l)) : b ≠ a := fun e => by
  subst e
  rw [h] at q
  cases q
  exact hu rfl
theorem tups_unl {K : PySem.W.Frag} {H : Hp} {a : Addr} {od : Obj} {l : List (Key × V)} {u : HO} (h : H a = some (.frz od (.dK l))) : ∀ b vs, SqT K H b vs → SqT K (upd H a u) b vs := fun b vs q => by
  rcases q with q | q
  · refine .inl ?_
    rcases q with q | ⟨ob, q⟩
    · exact .inl (by rw [upd_ne (frz_ne h q (by simp))]; exact q)
    · exact .inr ⟨ob, by rw [upd_ne (frz_ne h q (by simp))]; exact q⟩
  · exact .inr q
theorem xd_unl {H : Hp} {a : Addr} {od : Obj} {l : List (Key × V)} {u : HO} (h : H a = some (.frz od (.dK l))) : ∀ d m, H d = some (.xd m) → upd H a u d = some (.xd m) := fun b m q => by
  rw [upd_ne (fun e => by rw [e, h] at q; cases q)]
  exact q
theorem fz_unl {K : PySem.W.Frag} {H : Hp} {a : Addr} {od : Obj} {l : List (Key × V)} {u : HO} (h : H a = some (.frz od (.dK l))) : ∀ b vs, FzL K H b vs → FzL K (upd H a u) b vs := fun b vs q => by
  rcases q with ⟨ob, q⟩ | q
  · exact .inl ⟨ob, by rw [upd_ne (frz_ne h q (by simp))]; exact q⟩
  · exact .inr q
theorem e_lock (i : Nat) {e : Expr} {d : DE} (he : EOk G c k e d) : EOk G c k e (dLock i d) := fun X U F =>
  PE.imp (pe_lock (he X U F)) fun σ H Q ⟨ρ, ε, S, ev, sr, h⟩ => by
    have h' : Rg G U σ (VR G.K) (dLock i d ε S) H ρ Q := h
    unfold dLock at h'
    split at h'
    · rename_i n e1
      split at h'
      · rename_i kvs e2
        obtain ⟨v, hv, rv⟩ := ev.at_ i _ e1
        cases rv with
        | @ref _ a hn =>
          obtain ⟨l, z, fr⟩ := sr.ob n a _ hn e2
          refine ⟨a, .dK l, z, trivial, fun od => ?_⟩
          have e0 : Ext G.K H ρ (upd H a (.frz od (.dK l))) ρ := Ext.upd hn z trivial
          have ha : a ∈ ρ := List.mem_of_getElem? hn
          refine ⟨ρ, ε, S.set n (.fdct kvs), ev.mono e0, sr.upd hn z trivial ⟨od, l, upd_same, FR.mono e0 fr⟩, ?_⟩
          cases q : d ε (S.set n (.fdct kvs)) with
          | bad => rw [q] at h'; exact h'.elim
          | exc x S1 => rw [q] at h'; exact h'.elim
          | ok w S2 =>
            rw [q] at h'
            simp only at h'
            split at h'
            · rename_i kvs2 e3
              have h2 : ∀ H' ρ' b, Ext G.K H ρ H' ρ' → SR G H' ρ' (S2.set n (.dct kvs2)) → VR G.K H' ρ' w b → Q b H' := h'
              intro H' ρ' b e s r
              have hfz : H' a = some (.frz od (.dK l)) := e.frzs _ _ _ upd_same
              have hn' := e.pre n a hn
              refine ⟨hfz, h2 (upd H' a (.dK l)) ρ' b ?_ ?_ (VR.remap (tups_unl hfz) (fz_unl hfz) (xd_unl hfz) r)⟩
              · refine ⟨e.pre, fun b o hb hx => ?_, fun b hb => (e.new b hb).elim .inl fun z2 => .inr ?_, fun b vs q2 => tups_unl hfz b vs (e.tups b vs (tups_upd z trivial b vs q2)), fun b o u hx => ?_, fun b l2 q2 => xd_unl hfz b l2 (e.xds b l2 (xd_upd z trivial b l2 q2))⟩
                · have hne : b ≠ a := fun z2 => hb (by rw [z2]; exact ha)
                  rw [upd_ne hne]
                  exact e.keep b o hb (by rw [upd_ne hne]; exact hx)
                · have hne : b ≠ a := fun z3 => by rw [z3, upd_same] at z2; cases z2
                  rw [upd_ne hne] at z2
                  exact z2
                · have hne : b ≠ a := fun z3 => by rw [z3, z] at hx; cases hx
                  rw [upd_ne hne]
                  exact e.frzs b o u (by rw [upd_ne hne]; exact hx)
              · refine ⟨by rw [List.length_set]; exact s.len, s.nd, fun m b o h1 h3 => ?_⟩
                by_cases hm : n = m
                · subst hm
                  rw [hn'] at h1
                  cases h1
                  obtain ⟨o', l', z3, fr2⟩ := s.ob n a _ hn' e3
                  rw [hfz] at z3
                  cases z3
                  rw [List.getElem?_set_self (List.getElem?_eq_some_iff.mp e3).1] at h3
                  cases h3
                  exact ⟨l, upd_same, Paired.mapP fr2 fun _ _ z => ⟨z.1, VR.remap (tups_unl hfz) (fz_unl hfz) (xd_unl hfz) z.2⟩⟩
                · rw [List.getElem?_set_ne hm] at h3
                  have hne : b ≠ a := fun z3 => by
                    subst z3
                    obtain ⟨g1, g2⟩ := List.getElem?_eq_some_iff.mp hn'
                    obtain ⟨g3, g4⟩ := List.getElem?_eq_some_iff.mp h1
                    exact hm (by
                      rcases Nat.lt_trichotomy n m with h | h | h
                      · exact absurd (g2.trans g4.symm) (List.pairwise_iff_getElem.mp s.nd n m g1 g3 h)
                      · exact h
                      · exact absurd (g4.trans g2.symm) (List.pairwise_iff_getElem.mp s.nd m n g3 g1 h))
                  have r2 := s.ob m b o h1 h3
                  cases o with
                  | lst ws => obtain ⟨vs, z, q⟩ := r2; exact ⟨vs, by rw [upd_ne hne]; exact z, VRs.remap (tups_unl hfz) (fz_unl hfz) (xd_unl hfz) q⟩
                  | dct kvs => obtain ⟨vs, z, q⟩ := r2; exact ⟨vs, by rw [upd_ne hne]; exact z, Paired.mapP q fun _ _ z => ⟨z.1, VR.remap (tups_unl hfz) (fz_unl hfz) (xd_unl hfz) z.2⟩⟩
                  | ins c fs => obtain ⟨dx, vs, z, q⟩ := r2; exact ⟨dx, vs, by rw [upd_ne hne]; exact z, Paired.mapP q fun _ _ z => ⟨z.1, VR.remap (tups_unl hfz) (fz_unl hfz) (xd_unl hfz) z.2⟩⟩
                  | fdct kvs => obtain ⟨ob, vs, z, q⟩ := r2; exact ⟨ob, vs, by rw [upd_ne hne]; exact z, Paired.mapP q fun _ _ z => ⟨z.1, VR.remap (tups_unl hfz) (fz_unl hfz) (xd_unl hfz) z.2⟩⟩
            · exact h'.elim
      · exact h'.elim
    · exact h'.elim
/-! ### the keys, the pairs -/
def keyV : Key → W
  | .inl i => .int i
  | .inr x => .str x
theorem keyV_ok {K : PySem.W.Frag} {H : Hp} {ρ : List Addr} {k : Key} (h : kOk k = true) : VR K H ρ (keyV k) (kV k) := by
  cases k with
  | inl i => exact .int i
  | inr x => exact .str h
def dSrcK (d : DE) : DI := fun ε => d ε >>= fun w => fun S => match w with
  | .ref n => match S[n]? with
    | some (.fdct kvs) => if kvs.all (fun p => kOk p.1) = true then .ok ⟨kvs.map fun p => keyV p.1, fun _ => True⟩ S else .bad
    | _ => .bad
  | _ => .bad
theorem FR.get {κ : Type} {K : PySem.W.Frag} {H : Hp} {ρ : List Addr} : ∀ {kvs : List (κ × W)} {l : List (κ × V)} {i : Nat} {p : κ × W}, FR K H ρ kvs l → kvs[i]? = some p → ∃ q, l[i]? = some q ∧ p.1 = q.1 ∧ VR K H ρ p.2 q.2
  | _, _, i, p, .nil, e => by simp at e
  | a :: kvs, b :: l, 0, p, .cons h t, e => by
    simp only [List.getElem?_cons_zero, Option.some.injEq] at e
    subst e
    exact ⟨b, rfl, h⟩
  | a :: kvs, b :: l, i + 1, p, .cons h t, e => by
    rw [List.getElem?_cons_succ] at e
    obtain ⟨q, e1, e2⟩ := FR.get t e
    exact ⟨q, by rw [List.getElem?_cons_succ]; exact e1, e2⟩
theorem good_keys {H : Hp} {ρ : List Addr} {a : Addr} {o : Obj} {kvs : List (Key × W)} {l : List (Key × V)} (h : H a = some (.frz o (.dK l))) (fr : FR G.K H ρ kvs l) (hk : kvs.all (fun p => kOk p.1) = true) : Good G H ρ ⟨kvs.map fun p => keyV p.1, fun _ => True⟩ (Itk a o l) := fun H2 ρ2 S2 e sr _ => by
  have h2 := e.frzs _ _ _ h
  have hl := FR.length fr
  refine ⟨fun i w hi => ?_, ⟨h2, by show l.length ≤ (kvs.map _).length; rw [List.length_map, hl]; exact Nat.le_refl _⟩⟩
  have hi : (kvs.map fun p => keyV p.1)[i]? = some w := hi
  rw [List.getElem?_map, Option.map_eq_some_iff] at hi
  obtain ⟨p, ep, rfl⟩ := hi
  obtain ⟨q, eq, e1, e2⟩ := FR.get fr ep
  refine ⟨⟨h2, (List.getElem?_eq_some_iff.mp eq).1⟩, fun x H3 hy => ?_⟩
  obtain ⟨rfl, k', v', e3, rfl⟩ := hy
  rw [eq] at e3
  cases e3
  have := List.all_eq_true.mp hk p (List.mem_of_getElem? ep)
  exact ⟨Ext.refl, sr, by rw [e1] at this ⊢; exact keyV_ok this⟩
theorem good_items {H : Hp} {ρ : List Addr} {a : Addr} {o : Obj} {kvs : List (Key × W)} {l : List (Key × V)} (h : H a = some (.frz o (.dK l))) (fr : FR G.K H ρ kvs l) (hk : kvs.all (fun p => kOk p.1) = true) : Good G H ρ ⟨kvs.map fun p => .tup [keyV p.1, p.2], fun _ => True⟩ (Iti a o l) := fun H2 ρ2 S2 e sr _ => by
  have h2 := e.frzs _ _ _ h
  have hl := FR.length fr
  refine ⟨fun i w hi => ?_, ⟨h2, by show l.length ≤ (kvs.map _).length; rw [List.length_map, hl]; exact Nat.le_refl _⟩⟩
  have hi : (kvs.map fun p => W.tup [keyV p.1, p.2])[i]? = some w := hi
  rw [List.getElem?_map, Option.map_eq_some_iff] at hi
  obtain ⟨p, ep, rfl⟩ := hi
  obtain ⟨q, eq, e1, e2⟩ := FR.get fr ep
  refine ⟨⟨h2, (List.getElem?_eq_some_iff.mp eq).1⟩, fun x H3 hy => ?_⟩
  obtain ⟨T, k', v', e3, rfl, hT, rfl⟩ := hy
  rw [eq] at e3
  cases e3
  have := List.all_eq_true.mp hk p (List.mem_of_getElem? ep)
  have ex : Ext G.K H2 ρ2 (upd H2 T (.tup [kV k', v'])) ρ2 := Ext.fresh hT
  refine ⟨ex, sr.fresh hT, .tup (.inl (.inl upd_same)) (.cons ?_ (.cons ((e2.mono e).mono ex) .nil))⟩
  rw [e1] at this ⊢
  exact keyV_ok this
theorem i_keys {tg e : Expr} {d : DE} (he : EOk G c k e d) : IOk G c k tg e (dSrcK d) := fun X U F =>
  PI.imp (pi_keys (he X U F)) fun σ H Q ⟨ρ, ε, S, ev, sr, h⟩ => ⟨ρ, ε, S, ev, sr, (Rg.bind h).mono fun v H1 ⟨w, S1, ρ1, e1, s1, r1, h1⟩ => by
    split at h1
    · rename_i n
      split at h1
      · rename_i kvs eo
        split at h1
        · rename_i hk
          cases r1 with
          | ref hn =>
            obtain ⟨o, l, z, fr⟩ := s1.ob _ _ _ hn eo
            exact ⟨_, o, rfl, .inl ⟨l, z, h1 H1 ρ1 _ Ext.refl s1 (good_keys z fr hk)⟩⟩
        · exact h1.elim
      · exact h1.elim
    · exact h1.elim⟩
def dSrcI (d : DE) : DI := fun ε => d ε >>= fun w => fun S => match w with
  | .ref n => match S[n]? with
    | some (.fdct kvs) => if kvs.all (fun p => kOk p.1) = true then .ok ⟨kvs.map fun p => .tup [keyV p.1, p.2], fun _ => True⟩ S else .bad
    | _ => .bad
  | _ => .bad
theorem i_items {elts : List Expr} {kk : Nat} {tpos apos cpos : Pos} {e : Expr} {d : DE} (he : EOk G c k e d) (hbase : ∀ env, attributeBase e "items" env (eval e env) = eval e env := by intro _; rfl) (hline : (apos.endLine == cpos.line) = true := by rfl) : IOk G c k (.Tuple elts kk tpos) (.Call (.Attribute e "items" apos) [] [] cpos) (dSrcI d) := fun X U F =>
  PI.imp (pi_items (he X U F) (hbase _) hline) fun σ H Q ⟨ρ, ε, S, ev, sr, h⟩ => ⟨ρ, ε, S, ev, sr, (Rg.bind h).mono fun v H1 ⟨w, S1, ρ1, e1, s1, r1, h1⟩ => by
    split at h1
    · rename_i n
      split at h1
      · rename_i kvs eo
        split at h1
        · rename_i hk
          cases r1 with
          | ref hn =>
            obtain ⟨o, l, z, fr⟩ := s1.ob _ _ _ hn eo
            exact ⟨_, o, l, rfl, z, h1 H1 ρ1 _ Ext.refl s1 (good_items z fr hk)⟩
        · exact h1.elim
      · exact h1.elim
    · exact h1.elim⟩
/-! ### dict of pairs -/
def mergeW (acc more : List (Key × W)) : List (Key × W) := more.foldl (fun acc kv => putW acc kv.1 kv.2) acc
theorem mergeW_ok {K : PySem.W.Frag} {H : Hp} {ρ : List Addr} : ∀ {more : List (Key × W)} {m : List (Key × V)} {acc : List (Key × W)} {l : List (Key × V)}, FR K H ρ more m → FR K H ρ acc l → FR K H ρ (mergeW acc more) (mergeK l m)
  | _, _, acc, l, .nil, h => h
  | p :: more, q :: m, acc, l, .cons h t, ha => by
    have := putW_ok (k := p.1) ha h.2
    show FR K H ρ (mergeW (putW acc p.1 p.2) more) (mergeK (putK l q.1 q.2) m)
    rw [← h.1]
    exact mergeW_ok t this
def pairW : W → Option (Key × W)
  | .tup [a, b] => (keyW a).map fun k => (k, b)
  | _ => none
theorem pairs_rel {K : PySem.W.Frag} {H : Hp} {ρ : List Addr} : ∀ {ws : List W} {vs : List V} {kvs : List (Key × W)}, VRs K H ρ ws vs → mapO pairW ws = some kvs → ∃ (ps : List Addr) (l : List (Key × V)), vs = ps.map V.ref ∧ Paired (fun p kv => SqT K H p [kV kv.1, kv.2]) ps l ∧ FR K H ρ kvs l
  | [], _, kvs, .nil, e => by
    cases e
    exact ⟨[], [], rfl, .nil, .nil⟩
  | w :: ws, v :: vs, kvs, .cons r rs, e => by
    rw [mapO] at e
    cases e1 : pairW w with
    | none => rw [e1] at e; cases e
    | some p =>
      rw [e1] at e
      cases e2 : mapO pairW ws with
      | none => rw [e2] at e; cases e
      | some kvs2 =>
        rw [e2] at e
        cases e
        obtain ⟨ps, l, rfl, h1, h2⟩ := pairs_rel rs e2
        unfold pairW at e1
        split at e1
        · rename_i a b
          rw [Option.map_eq_some_iff] at e1
          obtain ⟨ky, ek, rfl⟩ := e1
          cases r with
          | @tup _ A us s t =>
            cases t with
            | @cons _ ua _ _ ra t => cases t with
              | @cons _ ub _ _ rb t =>
                cases t
                have := keyW_ok ra ek
                subst this
                exact ⟨A :: ps, (ky, ub) :: l, rfl, .cons s h1, .cons ⟨rfl, rb⟩ h2⟩
        · cases e1
def opDictP : OpA := fun ws S => match ws with
  | [.ref n] => match S[n]? with
    | some (.lst l) => (mapO pairW l).map fun kvs => (.ref S.length, S ++ [.dct (mergeW [] kvs)])
    | _ => none
  | _ => none
theorem o_dictP : OpAOk G (fun xs H Q => ∃ (a : Addr) (ps : List Addr) (kvs : List (Key × V)), xs = [.ref a] ∧ SqL G.K H a (ps.map V.ref) ∧ Paired (fun p kv => SqT G.K H p [kV kv.1, kv.2]) ps kvs ∧
    ∀ p, H p = none → Q (.ref p) (upd H p (.dK (mergeK [] kvs)))) opDictP := fun H ρ S ws vs w S' Q sr ra h q => by
  unfold opDictP at h
  split at h
  · rename_i n
    cases ra with
    | cons r rs =>
      cases rs
      cases r with
      | ref hn =>
        split at h
        · rename_i l eo
          rw [Option.map_eq_some_iff] at h
          obtain ⟨kvs, e1, h⟩ := h
          cases h
          obtain ⟨vs, z, t⟩ := sr.ob _ _ _ hn eo
          obtain ⟨ps, m, rfl, h1, h2⟩ := pairs_rel t e1
          refine ⟨_, ps, m, rfl, .of z, h1, fun p hp => ?_⟩
          have e : Ext G.K H ρ (upd H p (.dK (mergeK [] m))) (ρ ++ [p]) := Ext.snoc hp
          refine q _ _ _ e (sr.snoc hp ⟨_, upd_same, FR.mono e (mergeW_ok h2 .nil)⟩) (.ref ?_)
          rw [← sr.len, List.getElem?_append_right (Nat.le_refl _)]
          simp
        · cases h
  · cases h
theorem e_dictP {e : Expr} {d : DE} {p pos : Pos} (he : EOk G c k e d) (hm : G.mg "dict" = none) (hg : c.sc.names.lookup ("dict" : Str) = some .globalImplicit := by rfl) (hp : plainE e = true := by rfl) (hh : c.hot = none := by rfl) : EOk G c k (.Call (.Name "dict" p) [e] [] pos) (dFn opDictP (aCons d aNil)) :=
  e_ty (fun X U F => by rw [← F.K]; exact call_dictP (F.calm hh)) o_dictP hm (by decide +kernel) (a_cons he a_nil hp) hg (by decide) (by decide) (fun env => starEach_plain hp _ _)
/-! ### list of a dict -/
def opListD : OpA := fun ws S => match ws with
  | [.ref n] => match S[n]? with
    | some (.dct kvs) => if kvs.all (fun p => kOk p.1) = true then some (.ref S.length, S ++ [.lst (kvs.map fun p => keyV p.1)]) else none
    | _ => none
  | _ => none
theorem keys_rel {K : PySem.W.Frag} {H : Hp} {ρ : List Addr} : ∀ {kvs : List (Key × W)} {l : List (Key × V)}, FR K H ρ kvs l → kvs.all (fun p => kOk p.1) = true → VRs K H ρ (kvs.map fun p => keyV p.1) (l.map fun kv => kV kv.1)
  | _, _, .nil, _ => .nil
  | p :: kvs, q :: l, .cons h t, e => by
    rw [List.all_cons, Bool.and_eq_true] at e
    refine .cons ?_ (keys_rel t e.2)
    have := e.1
    show VR K H ρ (keyV p.1) (kV q.1)
    rw [h.1] at this ⊢
    exact keyV_ok this
theorem o_listD : OpAOk G (fun xs H Q => ∃ (a : Addr) (kvs : List (Key × V)), xs = [.ref a] ∧ Rd H a (.dK kvs) ∧ ∀ p, H p = none → Q (.ref p) (upd H p (.lst (kvs.map fun kv => kV kv.1)))) opListD := fun H ρ S ws vs w S' Q sr ra h q => by
  unfold opListD at h
  split at h
  · rename_i n
    cases ra with
    | cons r rs =>
      cases rs
      cases r with
      | ref hn =>
        split at h
        · rename_i kvs eo
          split at h
          · rename_i hk
            cases h
            obtain ⟨l, z, fr⟩ := sr.ob _ _ _ hn eo
            exact ⟨_, l, rfl, .inl z, fun p hp => q.list sr (keys_rel fr hk) hp⟩
          · cases h
        · cases h
  · cases h
theorem e_listD {e : Expr} {d : DE} {p pos : Pos} (he : EOk G c k e d) (hm : G.mg "list" = none) (hg : c.sc.names.lookup ("list" : Str) = some .globalImplicit := by rfl) (hp : plainE e = true := by rfl) (hh : c.hot = none := by rfl) : EOk G c k (.Call (.Name "list" p) [e] [] pos) (dFn opListD (aCons d aNil)) :=
  e_ty (fun X U F => call_listD (F.calm hh)) o_listD hm (by decide +kernel) (a_cons he a_nil hp) hg (by decide) (by decide) (fun env => starEach_plain hp _ _)
/-! ### {x: value} -/
def dDictV (x : Str) (d : DE) : DE := fun ε => d ε >>= fun w => alloc (.dct [(.inr x, w)])
theorem e_dictV {x : Str} {e : Expr} {d : DE} {j : Nat} {p pos : Pos} (he : EOk G c k e d) : EOk G c k (.Dict [some (.Constant (.str x) j p)] [e] pos) (dDictV x d) := fun X U F =>
  PE.imp (pe_disp (pps_cons pe_str (he X U F) pps_nil) rfl rfl (by simp) (by simp)) fun σ H Q ⟨ρ, ε, S, ev, sr, h⟩ q hq => by
    have e0 : Ext G.K H ρ (upd H q (.dK [])) ρ := Ext.fresh hq
    have nq : q ∉ ρ := sr.fresh_mem hq
    have h1 : Rg G U σ (VR G.K) (M.bind (d ε) (fun w => alloc (.dct [(.inr x, w)])) S) H ρ Q := h
    unfold M.bind at h1
    refine ⟨ρ, ε, S, ev.mono e0, sr.fresh hq, ?_⟩
    cases z : d ε S with
    | bad => rw [z] at h1; exact h1.elim
    | exc y S1 =>
      rw [z] at h1
      have h2 : ∀ H' ρ' cls dd, Ext G.K H ρ H' ρ' → SR G H' ρ' S1 → XR G H' ρ' y cls dd → U cls dd σ H' := h1
      exact fun H' ρ' cls dd e s r => h2 H' ρ' cls dd (e0.trans e) s r
    | ok w S1 =>
      rw [z] at h1
      have h2 : ∀ H' ρ' b, Ext G.K H ρ H' ρ' → SR G H' ρ' (S1 ++ [.dct [(.inr x, w)]]) → VR G.K H' ρ' (.ref S1.length) b → Q b H' := h1
      intro H2 ρ2 y e s r
      have hq2 : H2 q = some (.dK []) := e.keep q _ nq upd_same
      have nq2 : q ∉ ρ2 := fun z2 => (e.new q z2).elim nq fun z3 => by rw [upd_same] at z3; cases z3
      have m1 : Mut (some (HO.dK [])) := trivial
      refine ⟨hq2, [(.inr x, y)], rfl, by simp, ?_⟩
      have rm : ∀ {w v}, VR G.K H2 ρ2 w v → VR G.K (upd H2 q (.dK [(.inr x, y)])) (ρ2 ++ [q]) w v := fun {w v} r => VR.more (fun n a h => by rw [List.getElem?_append_left (List.getElem?_eq_some_iff.mp h).1]; exact h) (VR.remap (tups_upd hq2 m1) (frzs_upd hq2 m1) (xd_upd hq2 m1) r)
      refine h2 (upd H2 q (.dK [(.inr x, y)])) (ρ2 ++ [q]) (.ref q) ⟨fun n a hn => ?_, fun b o hb hx => ?_, fun b hb => ?_, fun b vs q2 => ?_, fun b o u hx => ?_, fun b l2 q2 => xd_upd hq2 m1 b l2 (e.xds b l2 (xd_new hq b l2 q2))⟩ ⟨by simp [s.len], ?_, fun n b o h3 h4 => ?_⟩ (.ref ?_)
      · rw [List.getElem?_append_left (List.getElem?_eq_some_iff.mp (e.pre n a hn)).1]
        exact e.pre n a hn
      · have hne : b ≠ q := ne_of_none hx hq
        rw [upd_ne hne]
        exact e.keep b o hb (by rw [upd_ne hne]; exact hx)
      · rcases List.mem_append.mp hb with hb | hb
        · refine (e.new b hb).elim .inl fun z3 => .inr ?_
          have hne : b ≠ q := fun z4 => by rw [z4, upd_same] at z3; cases z3
          rw [upd_ne hne] at z3
          exact z3
        · simp at hb
          subst hb
          exact .inr hq
      · exact tups_upd hq2 m1 b vs (e.tups b vs (tups_new hq b vs q2))
      · exact frz_upd hq2 m1 b o u (e.frzs b o u (frz_new hq b o u hx))
      · rw [List.nodup_append]
        exact ⟨s.nd, by simp, fun x hx y hy z => by simp at hy; subst hy; subst z; exact nq2 hx⟩
      · by_cases hl : n < ρ2.length
        · rw [List.getElem?_append_left hl] at h3
          rw [List.getElem?_append_left (by rw [← s.len]; exact hl)] at h4
          have hne : b ≠ q := fun z4 => nq2 (by rw [← z4]; exact List.mem_of_getElem? h3)
          have r2 := s.ob n b o h3 h4
          cases o with
          | lst ws => obtain ⟨vs, z, q⟩ := r2; exact ⟨vs, by rw [upd_ne hne]; exact z, VRs.more (fun n a h => by rw [List.getElem?_append_left (List.getElem?_eq_some_iff.mp h).1]; exact h) (VRs.remap (tups_upd hq2 m1) (frzs_upd hq2 m1) (xd_upd hq2 m1) q)⟩
          | dct kvs => obtain ⟨vs, z, q⟩ := r2; exact ⟨vs, by rw [upd_ne hne]; exact z, Paired.mapP q fun _ _ z => ⟨z.1, rm z.2⟩⟩
          | ins c fs => obtain ⟨dx, vs, z, q⟩ := r2; exact ⟨dx, vs, by rw [upd_ne hne]; exact z, Paired.mapP q fun _ _ z => ⟨z.1, rm z.2⟩⟩
          | fdct kvs => obtain ⟨ob, vs, z, q⟩ := r2; exact ⟨ob, vs, by rw [upd_ne hne]; exact z, Paired.mapP q fun _ _ z => ⟨z.1, rm z.2⟩⟩
        · have hl2 : ρ2.length ≤ n := Nat.le_of_not_lt hl
          rw [List.getElem?_append_right hl2] at h3
          rw [List.getElem?_append_right (by rw [← s.len]; exact hl2)] at h4
          have e9 : n - ρ2.length = 0 := by
            have := (List.getElem?_eq_some_iff.mp h3).1
            simp at this; omega
          rw [e9] at h3
          rw [← s.len, e9] at h4
          simp at h3 h4
          subst h3; subst h4
          exact ⟨_, upd_same, .cons ⟨rfl, rm r⟩ .nil⟩
      · rw [← s.len, List.getElem?_append_right (Nat.le_refl _)]
        simp
/-! ### reading a dict that is walked -/
def opIxF : Op2 := fun a i S => match a with
  | .ref n => match S[n]? with
    | some (.fdct kvs) => (keyW i).bind fun y => (getW kvs y).map fun w => (w, S)
    | _ => opIxD a i S
  | _ => opIxD a i S
theorem e_ixF {a i : Expr} {d e : DE} {pos : Pos} (ha : EOk G c k a d) (hi : EOk G c k i e) (h0 : EOk G c k (.Subscript a i pos) (dOp opIxD d e)) (hs : NoSl i := by intro _ _; rfl) : EOk G c k (.Subscript a i pos) (dOp opIxF d e) := fun X U F =>
  PE.imp (PE.or (h0 X U F) (pe_dget (by have := F.room.un; omega) (ha X U F) (hi X U F) hs)) fun σ H Q ⟨ρ, ε, S, ev, sr, h⟩ => by
    have h' : Rg G U σ (VR G.K) (M.bind (d ε) (fun x => M.bind (e ε) (fun y => lift (opIxF x y))) S) H ρ Q := h
    unfold M.bind at h'
    cases q : d ε S with
    | bad => rw [q] at h'; exact h'.elim
    | exc x S1 =>
      rw [q] at h'
      refine .inl ⟨ρ, ε, S, ev, sr, ?_⟩
      show Rg G U σ (VR G.K) (M.bind (d ε) (fun x => M.bind (e ε) (fun y => lift (opIxD x y))) S) H ρ Q
      unfold M.bind
      rw [q]
      exact h'
    | ok w S1 =>
      rw [q] at h'
      simp only at h'
      cases q2 : e ε S1 with
      | bad => rw [q2] at h'; exact h'.elim
      | exc x S2 =>
        rw [q2] at h'
        refine .inl ⟨ρ, ε, S, ev, sr, ?_⟩
        show Rg G U σ (VR G.K) (M.bind (d ε) (fun x => M.bind (e ε) (fun y => lift (opIxD x y))) S) H ρ Q
        unfold M.bind
        rw [q]
        simp only
        rw [q2]
        exact h'
      | ok b S2 =>
        rw [q2] at h'
        simp only at h'
        by_cases hd : ∃ n kvs, w = .ref n ∧ S2[n]? = some (.fdct kvs)
        · obtain ⟨n, kvs, rfl, eo⟩ := hd
          refine .inr ⟨ρ, ε, S, ev, sr, Rg.okD q fun H1 ρ1 x e1 s1 r1 => ⟨ρ1, ε, S1, ev.mono e1, s1, Rg.okD q2 fun H2 ρ2 y e2 s2 r2 => ?_⟩⟩
          have r1' := r1.mono e2
          cases r1' with
          | ref hn =>
            obtain ⟨o', l, z, fr⟩ := s2.ob _ _ _ hn eo
            have e3 : opIxF (.ref n) b S2 = (keyW b).bind fun y => (getW kvs y).map fun w => (w, S2) := by
              unfold opIxF
              simp only [eo]
            unfold lift at h'
            rw [e3] at h'
            cases ek : keyW b with
            | none => rw [ek] at h'; exact h'.elim
            | some ky =>
              rw [ek] at h'
              cases ew : getW kvs ky with
              | none => simp only [Option.bind_some, ew, Option.map_none] at h'; exact h'.elim
              | some w1 =>
                simp only [Option.bind_some, ew, Option.map_some] at h'
                obtain ⟨v1, ev1, rv1⟩ := getW_some fr ew
                have hk := keyW_ok r2 ek
                subst hk
                refine ⟨_, v1, rfl, .inl ⟨l, ky, .inr ⟨o', z⟩, rfl, ev1.symm⟩, ?_⟩
                have h2 : ∀ H' ρ' b, Ext G.K H ρ H' ρ' → SR G H' ρ' S2 → VR G.K H' ρ' w1 b → Q b H' := h'
                exact h2 _ _ _ (e1.trans e2) s2 rv1
        · have e3 : opIxF w b S2 = opIxD w b S2 := by
            unfold opIxF
            split
            · rename_i n
              split
              · rename_i kvs eo
                exact absurd ⟨n, kvs, rfl, eo⟩ hd
              · rfl
            · rfl
          refine .inl ⟨ρ, ε, S, ev, sr, ?_⟩
          show Rg G U σ (VR G.K) (M.bind (d ε) (fun x => M.bind (e ε) (fun y => lift (opIxD x y))) S) H ρ Q
          unfold M.bind
          rw [q]
          simp only
          rw [q2]
          simp only
          unfold lift at h' ⊢
          rw [e3] at h'
          exact h'
/-! ### in, not in, of a dict -/
def opInK : Op2 := fun a b S => match b with
  | .ref n => match S[n]? with
    | some (.dct kvs) => (keyW a).map fun y => (.bl (getW kvs y).isSome, S)
    | _ => none
  | _ => none
def opNotInK : Op2 := fun a b S => match b with
  | .ref n => match S[n]? with
    | some (.dct kvs) => (keyW a).map fun y => (.bl (!(getW kvs y).isSome), S)
    | _ => none
  | _ => none
theorem getW_isSome {K : PySem.W.Frag} {H : Hp} {ρ : List Addr} {kvs : List (Key × W)} {l : List (Key × V)} {k : Key} (h : FR K H ρ kvs l) : (getW kvs k).isSome = (valV l k).isSome := by
  have := getW_ok (k := k) h
  cases e : getW kvs k with
  | none => rw [e] at this; rw [this]; rfl
  | some w =>
    rw [e] at this
    obtain ⟨v, hv, _⟩ := this
    rw [hv]; rfl
theorem b_inK {a b : Expr} {d e : DE} {pos : Pos} (ha : EOk G c k a d) (hb : EOk G c k b e) (hm : behindInMarks .In b = false := by rfl) : BOk G c k (.Compare a [.In] [b] pos) (dBool (dOp opInK d e)) := fun X U F =>
  PT.imp (pt_cmp (pc_din (by have := F.room.un; omega) (ha X U F) (hb X U F)) hm) fun σ H Q q => by
    obtain ⟨ρ, ε, S, ev, sr, h⟩ := bool_imp q
    refine ⟨ρ, ε, S, ev, sr, (Rg.bind h).mono fun y H1 ⟨a, S1, ρ1, e1, s1, r1, h1⟩ => ⟨ρ1, ε, S1, ev.mono e1, s1, (Rg.bind h1).mono fun x H2 ⟨b, S2, ρ2, e2, s2, r2, h2⟩ => ?_⟩⟩
    obtain ⟨w, S3, hb, qq⟩ := Rg.lift h2
    unfold opInK at hb
    split at hb
    · split at hb
      · rename_i kvs eo
        rw [Option.map_eq_some_iff] at hb
        obtain ⟨ky, ek, hb⟩ := hb
        cases hb
        cases r2 with
        | ref hn =>
          obtain ⟨l, z, fr⟩ := s2.ob _ _ _ hn eo
          have hk := keyW_ok (r1.mono e2) ek
          subst hk
          refine ⟨_, _, rfl, DGet.k z, ?_⟩
          rw [← getW_isSome fr]
          exact qq H2 ρ2 _ Ext.refl s2 (.bl _)
      · cases hb
    · cases hb
theorem b_notInK {a b : Expr} {d e : DE} {pos : Pos} (ha : EOk G c k a d) (hb : EOk G c k b e) (hm : behindInMarks .NotIn b = false := by rfl) : BOk G c k (.Compare a [.NotIn] [b] pos) (dBool (dOp opNotInK d e)) := fun X U F =>
  PT.imp (pt_cmp (pc_dnotin (by have := F.room.un; omega) (ha X U F) (hb X U F)) hm) fun σ H Q q => by
    obtain ⟨ρ, ε, S, ev, sr, h⟩ := bool_imp q
    refine ⟨ρ, ε, S, ev, sr, (Rg.bind h).mono fun y H1 ⟨a, S1, ρ1, e1, s1, r1, h1⟩ => ⟨ρ1, ε, S1, ev.mono e1, s1, (Rg.bind h1).mono fun x H2 ⟨b, S2, ρ2, e2, s2, r2, h2⟩ => ?_⟩⟩
    obtain ⟨w, S3, hb, qq⟩ := Rg.lift h2
    unfold opNotInK at hb
    split at hb
    · split at hb
      · rename_i kvs eo
        rw [Option.map_eq_some_iff] at hb
        obtain ⟨ky, ek, hb⟩ := hb
        cases hb
        cases r2 with
        | ref hn =>
          obtain ⟨l, z, fr⟩ := s2.ob _ _ _ hn eo
          have hk := keyW_ok (r1.mono e2) ek
          subst hk
          refine ⟨_, _, rfl, DGet.k z, ?_⟩
          rw [← getW_isSome fr]
          exact qq H2 ρ2 _ Ext.refl s2 (.bl _)
      · cases hb
    · cases hb
end
end
end N
/-! OI: isinstance of an own class. -/
namespace N
open PySem PySem.Spec PyProof.Rows L2
noncomputable section
section
variable {G : Top} {c : Ctx} {k : Nat}
structure ClsI (G : Top) (x : Str) (ci : Nat) : Prop where
  mg : G.mg x = some (.ref (G.cl ci))
  ins : C8.InsC G.K (G.cl ci)
/-- whether the value is of the class: asked of its objects alone -/
def dIsC (ci : Nat) (d : DE) : DE := fun ε => d ε >>= fun w => lift fun S => match w with
  | .ref n => match S[n]? with
    | some (.ins c _) => if c = ci then some (.bl true, S) else none
    | _ => none
  | _ => none
theorem e_isC {ci : Nat} {x : Str} {e : Expr} {d : DE} {p p2 pos : Pos} (T : ClsI G x ci) (he : EOk G c k e d) (hm : G.mg "isinstance" = none) (hg : c.sc.names.lookup ("isinstance" : Str) = some .globalImplicit := by rfl) (hgx : c.sc.names.lookup x = some .globalImplicit := by rfl)
    (hp : plainE e = true := by rfl) (hd : (x == ("__debug__" : Str)) = false := by decide) : EOk G c k (.Call (.Name "isinstance" p) [e, .Name x p2] [] pos) (dIsC ci d) := fun X U F =>
  PE.imp (pe_callB (C8.call_isC (C := G.cl ci) (by rw [F.K]; exact T.ins)) (glob_of F hg) (by rw [F.mg]; exact hm) (by decide +kernel) (pa_cons (he X U F) (pa_cons (pe_glob (v := .ref (G.cl ci)) (glob_of F hgx) (by rw [F.mg]; exact T.mg) rfl hd) pa_nil) (starEach_plain hp _ _)) (by decide) (by decide) (starEach_plain hp _ _)) fun σ H Q ⟨ρ, ε, S, ev, sr, q⟩ => ⟨ρ, ε, S, ev, sr, (Rg.bind q).mono fun v H1 ⟨w, S1, ρ1, e1, s1, r1, q1⟩ => by
    obtain ⟨w', S2, hw, q2⟩ := Rg.lift q1
    split at hw
    · split at hw
      · rename_i n c' fs eo
        split at hw
        · rename_i hc
          subst hc
          cases hw
          cases r1 with
          | ref hn =>
            obtain ⟨dx, l, z, fr⟩ := s1.ob _ _ _ hn eo
            exact ⟨_, dx, l, rfl, z, q2 H1 ρ1 _ Ext.refl s1 (.bl _)⟩
        · cases hw
      · cases hw
    · cases hw⟩
end
end
end N
/-! OJ: a list taken apart; defs with a star parameter. -/
namespace N
open PySem PySem.Spec PyProof.Rows L2
noncomputable section
/-- a, b = a list -/
def tgLst (n : Nat) (ts : DTs) : DT := fun w ε S => match w with
  | .ref m => match S[m]? with
    | some (.lst ws) => if ws.length = n then ts ws ε S else none
    | _ => none
  | _ => none
theorem tgLst_ref {n m : Nat} {ts : DTs} {ε : Ev} {S : Store} {ws : List W} (h : S[m]? = some (.lst ws)) (hl : ws.length = n) : tgLst n ts (.ref m) ε S = ts ws ε S := by
  unfold tgLst
  simp only [h]
  rw [if_pos hl]
section
variable {G : Top} {c : Ctx} {k : Nat}
theorem g_lst {es : List Expr} {j : Nat} {ts : DTs} {n : Nat} {pos : Pos} (h : GsOk G c k es ts) (hn : ∀ env, (assignEach es env).length = n := by intro _; rfl) (hst : ∀ env, (assignEach es env).findIdx? (·.1) = none := by intro _; rfl) (hh : c.hot = none := by rfl) : GOk G c k (.Tuple es j pos) (tgLst n ts) := fun X U F =>
  PG.imp (pg_lst (F.calm hh) (h X U F) (hn _) (hst _)) fun v σ H Q ⟨w, ε, ρ, S, ε', r, ev, sr, q, h⟩ => by
    cases r with
    | @ref m a hm =>
      unfold tgLst at q
      simp only at q
      cases z : S[m]? with
      | none => rw [z] at q; cases q
      | some o =>
        rw [z] at q
        cases o with
        | lst ws =>
          simp only at q
          split at q
          · rename_i hl
            obtain ⟨vs, hv, t⟩ := sr.ob m a _ hm z
            exact ⟨a, vs, rfl, .inl (.inl hv), by rw [← t.length]; exact hl, ws, ε, ρ, S, ε', t, ev, sr, q, h⟩
          · cases q
        | dct _ => cases q
        | ins _ _ => cases q
        | fdct _ => cases q
    | bl b => cases q
    | non => cases q
    | int i => cases q
    | str x => cases q
    | tup _ _ => cases q
    | rl _ _ => cases q
    | exn0 => cases q
    | exnD _ _ _ _ => cases q
end
/-! ### def f(a, .., *v) -/
theorem cxUpN {P : Program} {w : World} : StX.CXUp (L2N.CX P w) := fun outer s H s2 H2 E e s' un kp ho ⟨a, B, H', cls, d, ea, fl, hok, ub, na, os, ag, he⟩ => by
  have gone : ∀ b o, s.heap.get? b = some o → H b = none → H2 b = none := fun b o q n => un.free b o q n (by simp)
  refine ⟨a, B, H', cls, d, ea, fl, hok, { keep := fun b o q n => ub.keep b o (kp b o q) (gone b o q n), slot := fun b o q => ub.slot b o (kp b o q), free := fun b o q n => ub.free b o (kp b o q) (gone b o q n), there := fun b o q => ub.there b o (kp b o q), tups := fun b xs q => ub.tups b xs (un.tups b xs q), frzs := fun b o xs q => ub.frzs b o xs (un.frzs b o xs q), tbls := fun b ps q => ?_ }, na, os.trans ho, ag, he⟩
  obtain ⟨m, e1⟩ := un.tbls b ps q
  obtain ⟨m', e2⟩ := ub.tbls b _ e1
  exact ⟨m ++ m', e2.trans (by rw [Array.append_assoc])⟩
/-- the parameters ahead, then the rest as one tuple -/
def starW (m : Nat) (d : List W → M W) (ws : List W) : M W := if m ≤ ws.length ∧ lenOk ws.length = true then d (ws.take m ++ [.tup (ws.drop m)]) else bad
structure DefS (G : Top) (k : Nat) (x : Str) (d : List W → M W) : Prop where
  ex : ∃ f, G.mg x = some (.ref f) ∧ PySem.W.keepIn G.K (.ref f) = true ∧
    ∀ (A : Around) (outer : List Env) (s : Shared) (H : Hp) (us : List Value) (vs : List V) (Q : VK) (E : XK), Room k A → A.guards = some [] → Env0 G.P G.w G.K G.mg G.base A outer s H → Vals vs us → spN G d vs H Q E →
      codeAny (model G.P G.w) A (.call (.ref f) ⟨us, []⟩) (CR (L2N.CX G.P G.w) outer G.P G.w H s Q E) s
theorem DefS.mono {G : Top} {j k : Nat} {x : Str} {d : List W → M W} (D : DefS G j x d) (h : j ≤ k) : DefS G k x d := by
  obtain ⟨f, a, b, c⟩ := D.ex
  exact ⟨f, a, b, fun A outer s H us vs Q E hr => c A outer s H us vs Q E (hr.mono h)⟩
section
variable {G : Top}
theorem defS_mk {x pv : Str} {st : Stmt} {N ps : List Str} {k n : Nat} {d : DS} (D : Mdef G x st) (S : FnScope N (ps ++ [pv]) (defScope st)) (hn : ps.length = n) (hb : SsOk G ⟨N, defScope st, fun _ => true, none, true⟩ k (defBody st) d)
    (bind : ∀ (kV doc pm : Value) (an : Option Addr) (cdv ct : Value) (us rest : List Value), us.length = ps.length → bindArgs (PySem.W.fnOf x x (defArgs st) (defBody st) (defScope st) .none kV doc pm an cdv ct) ⟨us ++ rest, []⟩ = (newTuple rest >>= fun t => pure (ps.zip us ++ [(pv, t)]))) : DefS G (k + 1) x (starW n (dfn N.length (n + 1) d)) := by
  obtain ⟨f, fd, h1, h2, F, hd⟩ := D.ex
  obtain ⟨oc, od, dV, kV, doc, pm, an, cdv, ct, osl, rfl, lk, hcd⟩ := F.ex
  obtain rfl : dV = .none := hd
  refine ⟨f, h1, h2, fun A outer s H us vs Q E hr hgd e0 r h => ?_⟩
  obtain ⟨ws, S0, ρ, rw0, sr, h⟩ := h
  unfold starW at h
  by_cases hc : n ≤ ws.length ∧ lenOk ws.length = true
  case neg => rw [if_neg hc] at h; exact h.elim
  rw [if_pos hc] at h
  obtain ⟨hc, hz⟩ := hc
  have hz : ws.length ≤ sizeLine := of_decide_eq_true hz
  have hlv : ws.length = vs.length := rw0.length
  have ev : vs = vs.take n ++ vs.drop n := (List.take_append_drop n vs).symm
  rw [ev] at r
  obtain ⟨u1, u2, eu, r1, r2⟩ := StX.vals_split r
  subst eu
  have hl : (vs.take n).length = ps.length := by rw [List.length_take, hn]; omega
  have hl1 : u1.length = ps.length := by rw [← r1.length]; exact hl
  have hl2' : (vs.drop n).length ≤ sizeLine := by rw [List.length_drop]; omega
  have hl2 : u2.length ≤ sizeLine := by rw [← r2.length]; exact hl2'
  have hnn : H s.heap.objs.size = Option.none := e0.hok.fresh (Nat.le_refl _)
  refine StX.run_bnd lk hcd S hr e0 (G := fun xs H2 => ∃ p, H p = Option.none ∧ xs = vs.take n ++ [V.ref p] ∧ H2 = L2.upd H p (.tup (vs.drop n))) (fun A' Ex Q' h => ?_) fun s2 H2 xs ⟨p, hp, ex, eH⟩ hr' => ?_
  · rw [bind kV doc pm an cdv ct u1 u2 hl1]
    refine wpAny_bind (wpAny_newTuple (wpAny_pure ?_) hl2)
    have new : ObjOk G.P G.w (L2.upd H s.heap.objs.size (.tup (vs.drop n))) (s.heap.push ({ cls := .type "tuple", data := .seq u2.toArray } : Obj)) s.heap.objs.size (.tup (vs.drop n)) := ⟨hl2', u2, r2, ⟨_, Heap.get?_push_size _ rfl, rfl, _, rfl⟩⟩
    have un := StX.un_laid (fs := frs outer) (s := s) (o := ({ cls := .type "tuple", data := .seq u2.toArray } : Obj)) (u := .tup (vs.drop n)) hnn
    have z := h _ _ (vs.take n ++ [V.ref s.heap.objs.size]) (u1 ++ [Value.ref s.heap.objs.size]) (StX.env0_laid e0 new) un rfl (fun e s' => cxUpN outer s H _ _ E e s' un (fun b o q => Heap.get?_push_of_some _ q) rfl) (r1.append (.cons rfl .nil))
      (by rw [List.length_append, List.length_append, hl] <;> rfl) ⟨_, hnn, rfl, rfl⟩
    rw [List.zip_append hl1.symm] at z
    exact z
  · subst ex eH
    have fit : Fit G ⟨N, defScope st, fun _ => true, none, true⟩ k (cxOf (L2N.CX G.P G.w) G.P G.w G.K G.mg G.base N x (defScope st) f cdv A outer s2 (L2.upd H p (.tup (vs.drop n))) E) (fun cls d _ H => E cls d H) := {
      P := rfl, w := rfl, K := rfl, mg := rfl, base := rfl, N := rfl, sc := rfl, nd := S.nd, calm := fun _ => rfl, hotp := fun _ _ _ e => (nomatch e), fr := fun _ => ⟨rfl, rfl⟩, room := L2H.roomH_of hr', gd := hgd, tk := L2N.takes_of rfl rfl rfl rfl, pass := passes_of rfl, fn := fun _ _ => rfl }
    refine ⟨_, hb _ _ fit, ?_⟩
    have ex : Ext G.K H ρ (L2.upd H p (.tup (vs.drop n))) ρ := Ext.fresh hp
    have sq : SqT G.K (L2.upd H p (.tup (vs.drop n))) p (vs.drop n) := .inl (.inl upd_same)
    have rr : VRs G.K (L2.upd H p (.tup (vs.drop n))) ρ (ws.take n ++ [.tup (ws.drop n)]) (vs.take n ++ [V.ref p]) := ((rw0.take n).mono ex).append (.cons (.tup sq ((rw0.drop n).mono ex)) .nil)
    generalize hW : ws.take n ++ [W.tup (ws.drop n)] = ws2 at h rr
    have hw : ws2.length = n + 1 := by rw [← hW, List.length_append, List.length_take]; simp; omega
    generalize vs.take n ++ [V.ref p] = vs2 at rr ⊢
    have hv2 : vs2.length = n + 1 := by rw [← rr.length]; exact hw
    unfold dfn at h
    rw [if_pos hw] at h
    refine ⟨ρ, ws2.map some ++ List.replicate (N.length - (n + 1)) none, S0, ⟨?_, fun i w hi => ?_⟩, sr.fresh hp, ?_⟩
    · unfold L2.start
      simp [hw, hv2]
    · by_cases hlt : i < ws2.length
      · rw [List.getElem?_append_left (by simpa using hlt), List.getElem?_map] at hi
        cases e : ws2[i]? with
        | none => rw [e] at hi; cases hi
        | some w' =>
          rw [e] at hi
          cases hi
          obtain ⟨v, hv, rv⟩ := rr.get e
          refine ⟨v, ?_, rv⟩
          unfold L2.start
          rw [List.getElem?_append_left (by rw [List.length_map, ← rr.length]; exact hlt), List.getElem?_map, hv]
          rfl
      · rw [List.getElem?_append_right (by simpa using hlt), List.getElem?_replicate] at hi
        split at hi <;> cases hi
    · cases q : d (ws2.map some ++ List.replicate (N.length - (n + 1)) none) S0 with
      | nx ε S' => rw [q] at h; exact fun H' ρ' σ' e s v => h H' ρ' .non (ex.trans e) s .non
      | rt w S' => rw [q] at h; exact fun H' ρ' v e s r => h H' ρ' v (ex.trans e) s r
      | exc x ε S' => rw [q] at h; exact fun H' ρ' σ' cls dd e s v xr => h H' ρ' cls dd (ex.trans e) s xr
      | bk ε S' => rw [q] at h; exact h.elim
      | ct ε S' => rw [q] at h; exact h.elim
      | bad => rw [q] at h; exact h.elim
variable {c : Ctx} {k : Nat}
theorem e_callS {j : Nat} {x : Str} {d : List W → M W} {e : Expr} {es : List Expr} {a : DA} {p pos : Pos} (D : DefS G j x d) (hj : j ≤ k) (ha : AOk G c k (e :: es) a) (hg : c.sc.names.lookup x = some .globalImplicit := by rfl)
    (hdb : (x == ("__debug__" : Str)) = false := by decide) (he : ∀ env, starEach (e :: es) env = (false, eval e env) :: starEach es env := by intro _; rfl) (hpl : ∀ env, (backTo pos (starEach es env)).any (·.1) = false := by intro _; rfl) (hh : c.hot = none := by rfl) : EOk G c k (.Call (.Name x p) (e :: es) [] pos) (dCall d a) := fun X U F => by
  obtain ⟨f, hm, hk, hf⟩ := D.ex
  refine ⟨fun pins s σ H Q I h => ?_⟩
  obtain ⟨ρ, ε, S, ev, sr, h⟩ := h
  refine wpAny_Call_Name_kw (ld_glob I (glob_of F hg) (by rw [F.mg]; exact hm) ?_ hdb)
  refine PySem.W.callWith_K (h₀ := X.base) I.ok.mod.kin (by rw [F.K]; exact hk) (thn ((ha X U F).run pos pins s σ H _ I ⟨ρ, ε, S, ev, sr, Rg.bind h⟩) fun us s1 ⟨vs, H1, I1, r, ws, S1, ρ1, e1, s1', r1, h1⟩ => ⟨I1.kIn, ?_⟩) (he _) (hpl _)
  have sp := call_sp h1 s1' r1
  have e0 := I1.env0
  rw [F.P, F.w, F.K, F.mg, F.base] at e0
  have z := hf X.A X.stack s1 H1 us vs Q (fun cls dd H' => U cls dd σ H') ((F.rm hh I1).mono hj) F.gd e0 r sp
  rw [← F.P, ← F.w] at z
  refine wpAny_call (codeAny_mono z fun r s' hq => ?_)
  cases r with
  | error e => exact L2N.passAt F.tk σ pins H1 s1 e s' I1 hq
  | ok fl =>
    cases fl with
    | ret u => exact I1.after hq
    | next => exact False.elim hq
    | brk => exact False.elim hq
    | cont => exact False.elim hq
/-- one parameter, the star one -/
theorem bind_star0 {B : List Value → Sem (List (Str × Value))} {pv : Str} (h0 : B [] = (newTuple [] >>= fun t => pure [(pv, t)])) (h1 : ∀ r rs, B (r :: rs) = (newTuple (r :: rs) >>= fun t => pure [(pv, t)])) :
    ∀ us rest : List Value, us.length = ([] : List Str).length → B (us ++ rest) = (newTuple rest >>= fun t => pure (([] : List Str).zip us ++ [(pv, t)]))
  | [], [], _ => h0
  | [], r :: rs, _ => h1 r rs
  | _ :: _, _, h => by simp at h
end
end
end N
/-! OK: a list written with two fors. -/
namespace N
open PySem PySem.Spec PyProof.Rows L2
noncomputable section
/-- an item put behind a list -/
def push (n : Nat) (w : W) : M Unit := fun S => match S[n]? with
  | some (.lst l) => if l.length < sizeLine then .ok () (S.set n (.lst (l ++ [w]))) else .bad
  | _ => .bad
def lcA1 (t1 : DT) (cnd1 : DB) (el : DE) (g1 : Store → Prop) (ε0 : Ev) (n : Nat) : List W → M Unit
  | [] => grd g1
  | x :: xs => grd g1 >>= fun _ => tgt t1 x ε0 >>= fun ε1 => noX (cnd1 ε1) >>= fun b => if b = true then noX (el ε1) >>= fun w => push n w >>= fun _ => lcA1 t1 cnd1 el g1 ε0 n xs else lcA1 t1 cnd1 el g1 ε0 n xs
def lcA (t : DT) (cnd : DB) (d1 : DI) (t1 : DT) (cnd1 : DB) (el : DE) (g : Store → Prop) (ε0 : Ev) (vs1 : List Nat) (n : Nat) : List W → M Unit
  | [] => grd g
  | x :: xs => grd g >>= fun _ => tgt t x ε0 >>= fun ε1 => noX (cnd ε1) >>= fun b => if b = true then noX (d1 ε1) >>= fun p1 => lcA1 t1 cnd1 el p1.g (wipeE ε1 vs1) n p1.items >>= fun _ => lcA t cnd d1 t1 cnd1 el g ε0 vs1 n xs else lcA t cnd d1 t1 cnd1 el g ε0 vs1 n xs
def dLc2 (d : DI) (t : DT) (cnd : DB) (d1 : DI) (t1 : DT) (cnd1 : DB) (el : DE) (vs vs1 : List Nat) : DE := fun ε => d ε >>= fun p => fun S => (lcA t cnd d1 t1 cnd1 el p.g (wipeE ε vs) vs1 S.length p.items >>= fun _ => M.ret (.ref S.length)) (S ++ [.lst []])
theorem grd_bad {α : Type} {g : Store → Prop} {S : Store} (h : ¬ g S) (f : Unit → M α) : (grd g >>= f) S = .bad := by
  show M.bind (grd g) f S = _
  unfold M.bind grd
  rw [if_neg h]
theorem grd_go {α : Type} {g : Store → Prop} {S : Store} (h : g S) (f : Unit → M α) : (grd g >>= f) S = f () S := by
  show M.bind (grd g) f S = _
  unfold M.bind
  rw [grd_ok h]
theorem tgt_go {α : Type} {t : DT} {w : W} {ε ε1 : Ev} {S : Store} (h : t w ε S = some ε1) (f : Ev → M α) : (tgt t w ε >>= f) S = f ε1 S := by
  show M.bind (tgt t w ε) f S = _
  unfold M.bind tgt
  rw [h]
theorem tgt_bad {α : Type} {t : DT} {w : W} {ε : Ev} {S : Store} (h : t w ε S = none) (f : Ev → M α) : (tgt t w ε >>= f) S = .bad := by
  show M.bind (tgt t w ε) f S = _
  unfold M.bind tgt
  rw [h]
section
variable {G : Top} {c : Ctx} {k : Nat}
theorem push_bind {α : Type} {n : Nat} {w : W} {S : Store} {f : Unit → M α} : (push n w >>= f) S = (match S[n]? with
  | some (.lst l) => if l.length < sizeLine then f () (S.set n (.lst (l ++ [w]))) else .bad
  | _ => .bad) := by
  show M.bind (push n w) f S = _
  unfold M.bind push
  cases S[n]? with
  | none => rfl
  | some o =>
    cases o with
    | lst l =>
      by_cases hz : l.length < sizeLine
      · simp only [if_pos hz]
      · simp only [if_neg hz]
    | dct _ => rfl
    | ins _ _ => rfl
    | fdct _ => rfl
theorem lc2_imp {U : WX} {d d1 : DI} {t t1 : DT} {cnd cnd1 : DB} {el : DE} {vs vs1 : List Nat} {σ : L2.St} {H : Hp} {Q : VK} (h : tN G U (dLc2 d t cnd d1 t1 cnd1 el vs vs1) σ H Q) :
    tLc2 (tI G U d) (gW G vs t) (tB G U0 cnd) (tI G U0 d1) (gW G vs1 t1) (tB G U0 cnd1) (tN G U0 el) vs vs1 σ H Q := by
  obtain ⟨ρ, ε, S, ev, sr, h⟩ := h
  refine ⟨ρ, ε, S, ev, sr, (Rg.bind h).mono fun J H1 ⟨p, S1, ρ1, e1, s1, r1, h1⟩ D hD => ?_⟩
  have ev1 : EvR G.K H1 ρ1 ε σ := ev.mono e1
  have eD : Ext G.K H1 ρ1 (L2.upd H1 D (.lst [])) (ρ1 ++ [D]) := Ext.snoc hD
  have sD : SR G (L2.upd H1 D (.lst [])) (ρ1 ++ [D]) (S1 ++ [.lst []]) := s1.snoc hD ⟨[], upd_same, .nil⟩
  have hn : (ρ1 ++ [D])[S1.length]? = some D := by
    rw [← s1.len, List.getElem?_append_right (Nat.le_refl _)]
    simp
  have h1 : Rg G U σ (VR G.K) ((lcA t cnd d1 t1 cnd1 el p.g (wipeE ε vs) vs1 S1.length p.items >>= fun _ => M.ret (.ref S1.length)) (S1 ++ [.lst []])) H1 ρ1 Q := h1
  generalize S1.length = n at hn h1
  refine ⟨fun i m H => ∃ ρ S, Ext G.K H1 ρ1 H ρ ∧ SR G H ρ S ∧ ρ[n]? = some D ∧ m = p.items.length - i ∧ i ≤ p.items.length ∧
    Rg G U σ (VR G.K) ((lcA t cnd d1 t1 cnd1 el p.g (wipeE ε vs) vs1 n (p.items.drop i) >>= fun _ => M.ret (.ref n)) S) H1 ρ1 Q,
    ⟨p.items.length, ρ1 ++ [D], S1 ++ [O.lst []], eD, sD, hn, rfl, Nat.zero_le _, by rw [List.drop_zero]; exact h1⟩, ?_⟩
  rintro i m H2 ⟨ρ2, S2, e2, s2, n2, rfl, hi, h2⟩
  by_cases hlt : i < p.items.length
  · rw [List.drop_eq_getElem_cons hlt] at h2
    unfold lcA at h2
    rw [M.assoc] at h2
    by_cases hg : p.g S2
    case neg => rw [grd_bad hg] at h2; exact h2.elim
    rw [grd_go hg, M.assoc] at h2
    obtain ⟨hgo, _⟩ := r1 H2 ρ2 S2 e2 s2 hg
    obtain ⟨go, yl⟩ := hgo i p.items[i] (List.getElem?_eq_getElem hlt)
    refine .inr ⟨go, _, fun H' hN => hN, fun x H3 hy => ?_⟩
    obtain ⟨e3, s3, vr⟩ := yl x H3 hy
    cases ht : t p.items[i] (wipeE ε vs) S2 with
    | none => rw [tgt_bad ht] at h2; exact h2.elim
    | some ε1 =>
      rw [tgt_go ht, M.assoc] at h2
      have e23 := e2.trans e3
      refine ⟨_, wipeE ε vs, ρ2, S2, ε1, vr, ((ev1.mono e23).wipe vs), s3, ht, fun σ4 ev4 l4 a4 => ⟨wipe_congr (by rw [l4]) (fun j hj => (a4 j hj)) |>.trans (wipe_wipe σ vs), ρ2, ε1, S2, ev4, s3, ?_⟩⟩
      refine (Rg.bindAt e23 h2).mono fun b' H4 ⟨b, S4, ρ4, e4, s4, r4, h5⟩ => ?_
      obtain rfl : b = b' := r4
      cases b with
      | false =>
        rw [if_neg Bool.false_ne_true] at h5 ⊢
        exact ⟨_, by omega, ρ4, S4, e23.trans e4, s4, e4.pre _ _ n2, rfl, hlt, h5⟩
      | true =>
        rw [if_pos rfl] at h5 ⊢
        rw [M.assoc] at h5
        refine ⟨ρ4, ε1, S4, ev4.mono e4, s4, (Rg.bindAt (e23.trans e4) h5).mono fun J1 H5 ⟨p1, S5, ρ5, e5, s5, good1, h6⟩ => ?_⟩
        rw [M.assoc] at h6
        have e15 : Ext G.K H1 ρ1 H5 ρ5 := (e23.trans e4).trans e5
        have ev5 : EvR G.K H5 ρ5 ε1 σ4 := (ev4.mono e4).mono e5
        have n5 : ρ5[n]? = some D := e5.pre _ _ (e4.pre _ _ n2)
        refine ⟨fun j m H => ∃ ρ S, Ext G.K H1 ρ1 H ρ ∧ Ext G.K H5 ρ5 H ρ ∧ SR G H ρ S ∧ ρ[n]? = some D ∧ m = p1.items.length - j ∧ j ≤ p1.items.length ∧
          Rg G U σ (VR G.K) ((lcA1 t1 cnd1 el p1.g (wipeE ε1 vs1) n (p1.items.drop j) >>= fun _ => lcA t cnd d1 t1 cnd1 el p.g (wipeE ε vs) vs1 n (p.items.drop (i + 1)) >>= fun _ => (M.ret (W.ref n) : M W)) S) H1 ρ1 Q,
          ⟨p1.items.length, ρ5, S5, e15, Ext.refl, s5, n5, rfl, Nat.zero_le _, by rw [List.drop_zero]; exact h6⟩, ?_⟩
        rintro j k' H6 ⟨ρ6, S6, e16, e56, s6, n6, rfl, hj, h7⟩
        by_cases hlj : j < p1.items.length
        · rw [List.drop_eq_getElem_cons hlj] at h7
          unfold lcA1 at h7
          rw [M.assoc] at h7
          by_cases hg1 : p1.g S6
          case neg => rw [grd_bad hg1] at h7; exact h7.elim
          rw [grd_go hg1, M.assoc] at h7
          obtain ⟨hgo1, _⟩ := good1 H6 ρ6 S6 e56 s6 hg1
          obtain ⟨go1, yl1⟩ := hgo1 j p1.items[j] (List.getElem?_eq_getElem hlj)
          refine .inr ⟨go1, _, fun H' hN => hN, fun y H7 hy1 => ?_⟩
          obtain ⟨e7, s7, vr1⟩ := yl1 y H7 hy1
          cases ht1 : t1 p1.items[j] (wipeE ε1 vs1) S6 with
          | none => rw [tgt_bad ht1] at h7; exact h7.elim
          | some ε2 =>
            rw [tgt_go ht1, M.assoc] at h7
            have e17 := e16.trans e7
            have e57 := e56.trans e7
            refine ⟨_, wipeE ε1 vs1, ρ6, S6, ε2, vr1, ((ev5.mono e57).wipe vs1), s7, ht1, fun σ8 ev8 l8 a8 => ⟨wipe_congr (by rw [l8]) (fun j hj => (a8 j hj)) |>.trans (wipe_wipe σ4 vs1), ρ6, ε2, S6, ev8, s7, ?_⟩⟩
            refine (Rg.bindAt e17 h7).mono fun b' H8 ⟨b, S8, ρ8, e8, s8, r8, h8⟩ => ?_
            obtain rfl : b = b' := r8
            have n8 := e8.pre _ _ n6
            cases b with
            | false =>
              rw [if_neg Bool.false_ne_true] at h8 ⊢
              exact ⟨_, by omega, ρ8, S8, e17.trans e8, e57.trans e8, s8, n8, rfl, hlj, h8⟩
            | true =>
              rw [if_pos rfl] at h8 ⊢
              rw [M.assoc] at h8
              refine ⟨ρ8, ε2, S8, ev8.mono e8, s8, (Rg.bindAt (e17.trans e8) h8).mono fun z H9 ⟨w, S9, ρ9, e9, s9, r9, h9⟩ => ?_⟩
              have n9 := e9.pre _ _ n8
              rw [M.assoc, push_bind] at h9
              cases hq : S9[n]? with
              | none => rw [hq] at h9; exact h9.elim
              | some o =>
                rw [hq] at h9
                cases o with
                | lst l =>
                  simp only at h9
                  split at h9
                  · rename_i hz
                    obtain ⟨acc, ha, ra⟩ := s9.ob n D _ n9 hq
                    have eU : Ext G.K H9 ρ9 (L2.upd H9 D (.lst (acc ++ [z]))) ρ9 := Ext.upd n9 ha trivial
                    refine ⟨acc, ha, by rw [← ra.length]; exact hz, _, by omega, ρ9, S9.set n (.lst (l ++ [w])), ((e17.trans e8).trans e9).trans eU, ((e57.trans e8).trans e9).trans eU, s9.upd n9 ha trivial ⟨_, upd_same, (ra.append (.cons r9 .nil)).mono eU⟩, n9, rfl, hlj, h9⟩
                  · exact h9.elim
                | dct _ => exact h9.elim
                | ins _ _ => exact h9.elim
                | fdct _ => exact h9.elim
        · obtain rfl : j = p1.items.length := by omega
          rw [List.drop_length] at h7
          unfold lcA1 at h7
          by_cases hg1 : p1.g S6
          case neg => rw [grd_bad hg1] at h7; exact h7.elim
          rw [grd_go hg1] at h7
          exact .inl ⟨(good1 H6 ρ6 S6 e56 s6 hg1).2, _, by omega, ρ6, S6, e16, s6, n6, rfl, hlt, h7⟩
  · obtain rfl : i = p.items.length := by omega
    rw [List.drop_length] at h2
    unfold lcA at h2
    by_cases hg : p.g S2
    case neg => rw [grd_bad hg] at h2; exact h2.elim
    rw [grd_go hg] at h2
    exact .inl ⟨(r1 H2 ρ2 S2 e2 s2 hg).2, h2 H2 ρ2 (.ref D) e2 s2 (.ref n2)⟩
theorem e_lc2 {elt tg iter tg1 iter1 : Expr} {ifs ifs1 : List Expr} {scope : Scope} (own : List (Str × Nat)) (vs1 : List Nat) {pos : Pos} {d d1 : DI} {t t1 : DT} {cnd cnd1 : DB} {el : DE} (hi : IOk G c k tg iter d) (hg : GWk G (blkCtx c scope) k (own.map (·.2)) tg t) (hc : CsOk G (blkCtx c scope) k ifs cnd)
    (hi1 : IOk G (blkCtx c scope) k tg1 iter1 d1) (hg1 : GWk G (blkCtx c scope) k vs1 tg1 t1) (hc1 : CsOk G (blkCtx c scope) k ifs1 cnd1) (he : EOk G (blkCtx c scope) k elt el)
    (ok : blkC c.N c.sc scope own = true := by decide +kernel) (hv : ∀ i ∈ vs1, i ∈ own.map (·.2) := by decide) (hs : ∀ env x, foldedSetIterable iter env x = pure x := by intro _ _; rfl) (hs1 : ∀ env x, foldedSetIterable iter1 env x = pure x := by intro _ _; rfl) (hh : c.hot = none := by rfl) : EOk G c k (.ListComp elt [⟨tg, iter, ifs, 0⟩, ⟨tg1, iter1, ifs1, 0⟩] scope pos) (dLc2 d t cnd d1 t1 cnd1 el (own.map (·.2)) vs1) := fun X U F =>
  PE.imp (pe_lc2 (F.calm hh) F.nd (hi X U F) (by rw [F.N, F.sc]; exact blkOk_by ok) hv (fun s H C cl fp => hg _ _ (F.blk hh scope s H C cl fp)) (fun s H C cl fp => hc _ _ (F.blk hh scope s H C cl fp)) (fun s H C cl fp => hi1 _ _ (F.blk hh scope s H C cl fp)) (fun s H C cl fp => hg1 _ _ (F.blk hh scope s H C cl fp)) (fun s H C cl fp => hc1 _ _ (F.blk hh scope s H C cl fp)) (fun s H C cl fp => he _ _ (F.blk hh scope s H C cl fp)) (hs _) hs1) fun σ H Q h => lc2_imp h
end
end
end N
/-! OL: is not, of bools. -/
namespace N
open PySem PySem.Spec PyProof.Rows L2
noncomputable section
section
variable {G : Top} {c : Ctx} {k : Nat}
def opIsNB : Op2
  | .bl a, .bl b, S => some (.bl (!(a == b)), S)
  | _, _, _ => none
theorem r_isNB : ∀ X W, Fit G c k X W → OpR X (compareOp .IsNot) rNotB := fun X W F => op_notBl
theorem o_isNB : Op2Ok G rNotB opIsNB := fun H ρ S a b x y w S' Q sr ra rb h q => by
  unfold opIsNB at h
  split at h
  · cases h
    cases ra; cases rb
    refine ⟨_, _, rfl, rfl, ?_⟩
    have e : ∀ a b : Bool, (!decide (a = b)) = (!(a == b)) := by decide
    rw [e]
    exact q.flat sr (.bl _)
  · cases h
end
theorem opIsNB_bl {a b : Bool} {S : Store} : opIsNB (.bl a) (.bl b) S = some (.bl (!(a == b)), S) := rfl
end
end N
/-! RW: a set made of a list, by any account of its members; sorted of a set. -/
namespace N
open PySem PySem.Spec PyProof.Rows L2
section
variable {P : Program} {w : World} {A : Around} {E : Value → Shared → Prop} {s : Shared}
/-- how the members are counted: J i, behind the first i items; what the add of an item does -/
structure Count (P : Program) (w : World) (A : Around) (S : Addr) (vs : List Value) (J : Nat → Heap → Prop) : Prop where
  keep : ∀ i h h', J i h → (∀ o, h.get? S = some o → h'.get? S = some o) → J i h'
  step : ∀ (i : Nat) (v : Value) (s : Shared) (Q : Shared → Prop) (E : Value → Shared → Prop), vs[i]? = some v → J i s.heap →
    (∀ h' tk, Heap.SameBut S s.heap h' → J (i + 1) h' → s.toks ≤ tk → Q { s with heap := h', toks := tk }) → wpAny (model P w) A (setAdd S v) (fun _ s' => Q s') E s
theorem set_loop {I : Addr} {fp wr : List Addr} {G : Array GenState → Array GenState → Prop} {n : Nat} {Pv : Nat → Value → Prop} {St : Nat → Shared → Prop} {R : Result → Shared → Prop} {vs : List Value} {J : Nat → Heap → Prop}
    (W : WalksS P w A.in1 I fp wr G n Pv St) (S : Addr) (hSf : S ∉ fp) (hv : ∀ i v, Pv i v → vs[i]? = some v) (C : Count P w A.in1 S vs J) :
    ∀ (k i : Nat) (s : Shared), n - i = k → i ≤ n → St i s → J i s.heap → (∀ s', Moved (S :: wr) G s s' → J n s'.heap → R (.ok (.ret .none)) s') →
      codeAny (model P w) A (.builtin "set.update.loop" ⟨[.ref S, .ref I], []⟩) R s := by
  have hSw : S ∉ wr := fun h => hSf (W.sub _ h)
  have hsub : ∀ b ∈ wr, b ∈ S :: wr := fun b hb => List.mem_cons_of_mem _ hb
  intro k
  induction k with
  | zero =>
    intro i s hk hi hst hJ hR
    obtain rfl : i = n := by omega
    refine codeAny_builtin PyProof.Rows.F.entry_set_update_loop ?_
    rw [Around.under_plainId PyProof.Rows.F.plain_set_update_loop _]
    show wpAny _ A.in1 (pyNext (.ref I) >>= _) _ _ s
    refine wpAny_bind (W.done s _ _ hst fun s' hm => ?_)
    show wpAny _ A.in1 (ret Value.none) _ _ s'
    exact wpAny_pure (hR s' (hm.mono hsub) (C.keep _ _ _ hJ fun o e => hm.heap S o hSw e))
  | succ k ih =>
    intro i s hk hi hst hJ hR
    have hlt : i < n := by omega
    refine codeAny_builtin PyProof.Rows.F.entry_set_update_loop ?_
    rw [Around.under_plainId PyProof.Rows.F.plain_set_update_loop _]
    show wpAny _ A.in1 (pyNext (.ref I) >>= _) _ _ s
    refine wpAny_bind (W.item i s _ _ hlt hst fun v s' hP hst' hm => ?_)
    show wpAny _ A.in1 (holding [v] (setAdd S v) >>= _) _ _ s'
    refine wpAny_bind (wpAny_holding ?_)
    refine C.step i v s' _ _ (hv i v hP) (C.keep _ _ _ hJ fun o e => hm.heap S o hSw e) fun h' tk sb hJ' htk => ?_
    refine wpAny_pure ⟨plainId_quiet PyProof.Rows.F.plain_set_update_loop _, ih (i + 1) _ (by omega) hlt (W.frame _ s' _ _ hst' htk fun b hb o e => ?_) hJ' fun s'' hm'' hJ'' => ?_⟩
    · rw [sb.2 b (fun h : b = S => hSf (by rw [← h]; exact hb))]; exact e
    · refine hR s'' (Moved.trans W.gtrans ((hm.mono hsub).then_heap htk fun b o hb e => ?_) hm'') hJ''
      rw [sb.2 b (fun h : b = S => hb (by rw [h]; exact List.mem_cons_self))]; exact e
/-- an empty set as it is made -/
def set0 (w : World) : Obj := { cls := .type "set", dict := none, data := .set #[] 0 (.fresh 0 0 (!w.params.followText "set-order")) }
/-- set(a list) -/
theorem set_of_list {l : Addr} {items : Array Value} {J : Nat → Heap → Prop} {Q : Value → Shared → Prop} (hh : A.handled = none) (hl : s.heap.IsList l items)
    (C : ∀ A', A'.handled = none → Count P w A' s.heap.objs.size items.toList J) (h0 : ∀ h', h'.get? s.heap.objs.size = some (set0 w) → J 0 h')
    (h : ∀ (h' : Heap) (tk : Nat), J items.size h' → (∀ b o, s.heap.get? b = some o → h'.get? b = some o) → Q (.ref s.heap.objs.size) { s with heap := h', toks := tk }) :
    wpAny (model P w) A (call (.type "set") [.ref l]) Q E s := by
  obtain ⟨c, tl, hmro⟩ := PySem.F.called_set.mro
  have hmade := PySem.F.called_set.made
  have hsub := PySem.F.called_set.sub
  refine wpAny_call (codeAny_of_tree ?_)
  show wpAny _ _ (callAny (.type "set") _) _ _ _
  refine wpAny_pure ⟨Code.quiet_builtin _ (by decide +kernel), codeAny_builtin PySem.F.entry_type_call ?_⟩
  rw [Around.under_plain (weight_type_call_type "set" [.ref l] []) rfl]
  have h1 := PySem.F.called_set.notType
  have h2 := PySem.F.called_set.canCreate
  have hct := PySem.F.typeCall_set_1 (.ref l)
  repeat (any_goals (first | assumption | wp_step))
  refine codeAny_mono (code_set_led1 (.ref l) (E := E) (Q₁ := fun obj s₁ => obj = .ref s.heap.objs.size ∧ s₁ = { s with heap := s.heap.push (set0 w) }) ⟨rfl, rfl⟩) fun r s₁ hr => ?_
  cases r with
  | error e => exact hr
  | ok fl =>
    cases fl with
    | ret obj =>
      obtain ⟨rfl, rfl⟩ := hr
      have hS : (s.heap.push (set0 w)).get? s.heap.objs.size = some (set0 w) := Heap.get?_push_size _ rfl
      have hT : Shared.TypeIs { s with heap := s.heap.push (set0 w) } (.ref s.heap.objs.size) "set" := ⟨_, hS, rfl⟩
      have hli := PySem.F.called_set.init.lookup
      have hbi := PySem.F.called_set.init.bind (.ref s.heap.objs.size)
      repeat (any_goals (first | assumption | wp_step))
      refine codeAny_mono (codeAny_call_builtin (R := wants (fun r s₂ => r = .none ∧ ∃ h' tk, s₂ = { s with heap := h', toks := tk } ∧ J items.size h' ∧ (∀ b o, s.heap.get? b = some o → h'.get? b = some o)) E) PySem.F.called_set.init.plain PySem.F.entry_set_init (check_set_init_1 hT ?_)) fun r₂ s₂ hr₂ => ?_
      · obtain ⟨ol, hol, hcl, nl, hdl⟩ := hl
        obtain ⟨ocls, odict, odata, oslots⟩ := ol
        simp only at hcl hdl
        subst hcl; subst hdl
        have hol' : (s.heap.push (set0 w)).get? l = some { cls := .type "list", dict := odict, data := .seq items nl, slots := oslots } := Heap.get?_push_of_some _ hol
        have hsls := PySem.F.sub_list_set
        have hslf := PySem.F.sub_list_frozenset
        have hne : (Value.type "list" == Value.type "dict") = false := by decide
        have hl1 : (s.heap.push (set0 w)).IsList l items := ⟨_, hol', rfl, nl, rfl⟩
        unfold Builtin.«set.__init__» noKeywords Builtin.Frozenset.updateFrom
        generalize hPI : pyIter = PI
        wp_walk
        subst hPI
        refine wpAny_pyIter_list hl1 ?_
        refine wpAny_bind (wpAny_runValue ?_)
        have hlS : l < s.heap.objs.size := Heap.lt_size hol
        have hh3 : A.in1.in1.in1.handled = none := by simp [hh]
        have hz1 : (s.heap.push (set0 w)).objs.size = s.heap.objs.size + 1 := Heap.size_push ..
        have hneI : l ≠ (s.heap.push (set0 w)).objs.size := by
          rw [hz1]; exact Nat.ne_of_lt (Nat.lt_succ_of_lt hlS)
        have hSf : s.heap.objs.size ∉ [(s.heap.push (set0 w)).objs.size, l] := by
          rw [hz1]
          simp only [List.mem_cons, List.not_mem_nil, or_false, not_or]
          exact ⟨Nat.ne_of_lt (Nat.lt_succ_self _), Nat.ne_of_gt hlS⟩
        refine set_loop ((Walks.list hh3 _ l hneI items).toS) s.heap.objs.size hSf (fun i v hv => by rw [Array.getElem?_toList]; exact hv) (C _ hh3) (items.size - 0) 0 _ (by omega) (Nat.zero_le _)
          ⟨⟨_, Heap.get?_push_size _ rfl, rfl, rfl⟩, (hl1.push _)⟩ (h0 _ (Heap.get?_push_of_some _ hS)) ?hR
        case hR =>
          intro s' hm hJ
          obtain ⟨h', g2, d', tk', os'⟩ := s'
          have eg : g2 = s.gens := hm.gens
          have ed : d' = s.drawn := hm.drawn
          have eo : os' = s.os := hm.os
          subst eg; subst ed; subst eo
          show wpAny _ _ _ _ _ _
          refine wpAny_pure ?_
          show wpAny _ _ (ret Value.none) _ _ _
          refine wpAny_pure ⟨rfl, h', tk', rfl, hJ, fun b o e => hm.heap b o ?_ (Heap.get?_push_of_some _ (Heap.get?_push_of_some _ e))⟩
          have hlt := Heap.lt_size e
          intro hb
          simp only [List.mem_cons, List.not_mem_nil, or_false] at hb
          rcases hb with hb | hb
          · exact absurd hlt (by rw [hb]; exact Nat.lt_irrefl _)
          · exact absurd hlt (by rw [hb, hz1]; exact Nat.not_lt_of_le (Nat.le_succ _))
      · cases r₂ with
        | error e => exact hr₂
        | ok fl₂ =>
          cases fl₂ with
          | ret r =>
            obtain ⟨rfl, h', tk, rfl, hJ, hk'⟩ := hr₂
            repeat (any_goals (first | assumption | wp_step))
            exact h _ _ hJ hk'
          | _ => exact hr₂.elim
    | _ => exact hr.elim
end
end N
/-! RX: sorted(set(bools)). -/
namespace N
open PySem PySem.Spec PyProof.Rows L2
section
variable {P : Program} {w : World} {A : Around} {E : Value → Shared → Prop} {s : Shared}
theorem keyKind_flat {vs : List Value} {T : Value} (h0 : vs ≠ []) (h : ∀ v ∈ vs, firstOfTuple' v = pure none ∧ typeOf v = pure T) : keyKind' vs.toArray = pure oneType' := by
  have e1 : ∀ vs : List Value, (∀ v ∈ vs, firstOfTuple' v = pure none) → vs.mapM firstOfTuple' = pure (vs.map fun _ => none) := by
    intro vs
    induction vs with
    | nil => intro _; simp
    | cons v vs ih =>
      intro h
      rw [List.mapM_cons, h v List.mem_cons_self, ih fun u hu => h u (List.mem_cons_of_mem _ hu)]
      simp
  have e2 : ∀ vs : List Value, (∀ v ∈ vs, typeOf v = pure T) → vs.mapM typeOf = pure (vs.map fun _ => T) := by
    intro vs
    induction vs with
    | nil => intro _; simp
    | cons v vs ih =>
      intro h
      rw [List.mapM_cons, h v List.mem_cons_self, ih fun u hu => h u (List.mem_cons_of_mem _ hu)]
      simp
  obtain ⟨v, us, rfl⟩ : ∃ v us, vs = v :: us := by
    cases vs with
    | nil => exact absurd rfl h0
    | cons v us => exact ⟨v, us, rfl⟩
  rw [keyKind'_eq, List.mapM_toArray, e1 _ fun u hu => (h u hu).1]
  simp only [map_pure, pure_bind]
  rw [if_neg (by simp), if_neg (by simp)]
  rw [oneTypeOnly'_eq, List.mapM_toArray, e2 _ fun u hu => (h u hu).2]
  simp only [map_pure, pure_bind]
  have hall : ((List.map (fun _ => T) (v :: us)).toArray.all fun x => x == T) = true := by
    simp only [List.all_toArray, List.all_map, List.all_eq_true]
    intro _ _
    show (T == T) = true
    exact beq_self_eq_true T
  have h00 : (List.map (fun _ => T) (v :: us)).toArray[0]? = some T := by simp
  rw [h00]
  simp only [hall, if_true, pure_bind, Option.isSome_some]
/-- sorted(a set), by an order of its values -/
theorem sorted_of_set {a : Addr} {es : Array (Int × Value)} {ep : Nat} {t : SetTable} {ltv : Value → Value → Bool} {T : Value} {Q : Value → Shared → Prop} (O : SrtO.Swo ltv) (hh : A.handled = none) (ha : SetAt s.heap a es ep t) (hf : t.fits es.size = true) (hb : es.size < scanBound) (hr : Ris t.place.toList) (hl : w.params.followText "set-order" = true ∨ t.led = true)
    (hfl : ∀ v ∈ es.toList.map (·.2), firstOfTuple' v = pure none ∧ typeOf v = pure T)
    (hlt : ∀ v ∈ es.toList.map (·.2), ∀ u ∈ es.toList.map (·.2), ∀ (A : Around) (s : Shared) (Q : Bool → Shared → Prop) (E : Value → Shared → Prop), Q (ltv v u) s → wpAny (model P w) A (oneLt' true v u) Q E s)
    (hQ : ∀ s' p (out : List Value) (c : Nat), (∀ b o, s.heap.get? b = some o → s'.heap.get? b = some o) → s'.gens = s.gens → s'.os = s.os → s.heap.objs.size ≤ p → s'.heap.get? p = some (seqObj "list" out.toArray c) → SrtO.Srtd ltv out → out.Perm (es.toList.map (·.2)) → Q (.ref p) s') :
    wpAny (model P w) A (call (.builtin "sorted") [.ref a]) Q E s := by
  refine Calls.call_function_entry kind_sorted plain_sorted entry_sorted (args_sorted1 _) ?_
  unfold Builtin.«sorted»
  refine wpAny_bind (m := checkCount "sorted" 1 1 _) (wpAny_pure ?_)
  refine wpAny_bind (collect_set (A := A.in1) hh ha hf hb hr hl fun s1 vs k1 hz g1 o1 pm => ?_)
  have hvl : vs.length ≤ sizeLine := by
    rw [pm.length_eq, List.length_map, Array.length_toList]
    exact fits_of_scanBound hb
  refine wpAny_bind (wpAny_newList ?_ hvl)
  have hoL : (s1.heap.push (seqObj "list" vs.toArray 0)).get? s1.heap.objs.size = some (seqObj "list" vs.toArray 0) := Heap.get?_push_size _ rfl
  have mem : ∀ v ∈ vs, v ∈ es.toList.map (·.2) := fun v hv => pm.mem_iff.mp hv
  refine wpAny_bind (wpAny_holding (wpAny_call_entry slot_list_sort ⟨_, hoL, rfl⟩ entry_list_sort (SrtO.list_sort_ord O hoL hvl (fun h2 h' kp => ⟨oneType', fun Q' E' q => ?_, fun p q hp hq => ?_⟩) fun out hs hst => ⟨_, rfl, ?_⟩) (args_list_sort _)))
  · rw [keyKind_flat (by intro z; rw [z] at h2; simp at h2) fun v hv => hfl v (mem v hv)]
    exact wpAny_pure q
  · rw [keyLt'_oneType]
    exact hlt _ (mem _ hp) _ (mem _ hq) _ _ _ _ ⟨rfl, rfl⟩
  · obtain ⟨c, hc⟩ := sortedHeap_at (vs := vs) (out := out.toArray) hoL
    refine wpAny_pure ⟨_, rfl, hQ _ s1.heap.objs.size out c (fun b u e => ?_) g1 o1 hz hc hs (hst.perm.trans pm)⟩
    have q := k1 b u e
    have hlt' := Heap.lt_size q
    show (sortedHeap (s1.heap.push (seqObj "list" vs.toArray 0)) s1.heap.objs.size vs out.toArray).get? b = some u
    rw [sortedHeap_old (Nat.ne_of_lt hlt') (by rw [size_push']; exact Nat.lt_succ_of_lt hlt')]
    exact Heap.get?_push_of_some _ q
/-! ### bools -/
def keyOfB : Value → Bool
  | .bool b => b
  | _ => false
abbrev ltB (v u : Value) : Bool := !keyOfB v && keyOfB u
theorem swo_b : SrtO.Swo ltB := ⟨fun x y => by unfold ltB; cases keyOfB x <;> cases keyOfB y <;> simp, fun x y z => by unfold ltB; cases keyOfB x <;> cases keyOfB y <;> cases keyOfB z <;> simp⟩
/-- the bools of a list, each once, in order -/
def canB (bs : List Bool) : List Bool := (if false ∈ bs then [false] else []) ++ (if true ∈ bs then [true] else [])
theorem canB_out {bs ks : List Bool} {out : List Value} (hs : SrtO.Srtd ltB out) (hp : out.Perm (ks.map Value.bool)) (nd : ks.Nodup) (hm : ∀ k, k ∈ ks ↔ k ∈ bs) : out = (canB bs).map Value.bool := by
  have hl : ks.length ≤ 2 := by
    have : ∀ ks : List Bool, ks.Nodup → ks.length ≤ 2 := by
      intro ks nd
      match ks, nd with
      | [], _ => simp
      | [_], _ => simp
      | [_, _], _ => simp
      | a :: b :: c :: r, nd => exfalso; simp only [List.nodup_cons, List.mem_cons, not_or] at nd; revert nd; cases a <;> cases b <;> cases c <;> simp
    exact this ks nd
  have e : ∃ os : List Bool, out = os.map Value.bool ∧ os.Perm ks := by
    refine ⟨out.map keyOfB, ?_, ?_⟩
    · rw [List.map_map]
      conv => lhs; rw [← List.map_id out]
      refine List.map_congr_left fun v hv => ?_
      obtain ⟨b, _, rfl⟩ := List.mem_map.mp (hp.mem_iff.mp hv)
      rfl
    · have := hp.map keyOfB
      rw [List.map_map] at this
      have e2 : ks.map (keyOfB ∘ Value.bool) = ks := by
        conv => rhs; rw [← List.map_id ks]
        rfl
      rw [e2] at this
      exact this
  obtain ⟨os, rfl, po⟩ := e
  have hmo : ∀ k, k ∈ os ↔ k ∈ bs := fun k => po.mem_iff.trans (hm k)
  have ndo := po.nodup_iff.mpr nd
  have hlo : os.length ≤ 2 := by rw [po.length_eq]; exact hl
  congr 1
  unfold canB
  match os, ndo, hlo, hmo, hs with
  | [], _, _, hmo, _ =>
    rw [if_neg (fun z => by have := (hmo false).mpr z; simp at this), if_neg (fun z => by have := (hmo true).mpr z; simp at this)]; rfl
  | [true], _, _, hmo, _ =>
    rw [if_neg (fun z => by have := (hmo false).mpr z; simp at this), if_pos ((hmo true).mp (by simp))]; rfl
  | [false], _, _, hmo, _ =>
    rw [if_pos ((hmo false).mp (by simp)), if_neg (fun z => by have := (hmo true).mpr z; simp at this)]; rfl
  | [false, true], _, _, hmo, _ =>
    rw [if_pos ((hmo false).mp (by simp)), if_pos ((hmo true).mp (by simp))]; rfl
  | [true, false], _, _, hmo, hs =>
    exfalso
    revert hs
    unfold SrtO.Srtd
    simp [ltB, keyOfB]
  | [true, true], nd, _, _, _ => simp at nd
  | [false, false], nd, _, _, _ => simp at nd
end
end N
/-! RZ: sorted(set(texts)) as a rule. -/
namespace N
open PySem PySem.Spec PyProof.Rows L2 PySem.Froz
/-! ### the texts of a list, each once -/
def dd : List Str → List Str
  | [] => []
  | x :: xs => if x ∈ dd xs then dd xs else x :: dd xs
theorem mem_dd {x : Str} : ∀ {ss : List Str}, x ∈ dd ss ↔ x ∈ ss
  | [] => Iff.rfl
  | y :: ss => by
    have ih := mem_dd (x := x) (ss := ss)
    unfold dd
    split
    · rename_i h
      rw [ih, List.mem_cons]
      exact ⟨.inr, fun z => z.elim (fun e => by rw [e]; exact mem_dd.mp h) id⟩
    · rw [List.mem_cons, List.mem_cons, ih]
theorem nodup_dd : ∀ (ss : List Str), (dd ss).Nodup
  | [] => .nil
  | y :: ss => by
    unfold dd
    split
    · exact nodup_dd ss
    · rename_i h
      exact List.nodup_cons.mpr ⟨h, nodup_dd ss⟩
theorem len_dd : ∀ (ss : List Str), (dd ss).length ≤ ss.length
  | [] => Nat.le_refl _
  | y :: ss => by
    have := len_dd ss
    unfold dd
    split
    · rw [List.length_cons]; omega
    · rw [List.length_cons, List.length_cons]; omega
abbrev leT (a b : Str) : Prop := a.cps.toList ≤ b.cps.toList
theorem leT_iff {a b : Str} : leT a b ↔ PySem.Spec.ltCps b.cps.toList a.cps.toList = false := by
  rw [PyProof.Rows.ltCps_eq, decide_eq_false_iff_not]
  exact Iff.rfl
section
variable {P : Program} {w : World} {A : Around} {E : Value → Shared → Prop} {s : Shared}
theorem add_in {a : Addr} {T : String} {D : SD} {l : List Str} {k : Str} {u : Tok} {Q : Bool → Shared → Prop} (ho : s.heap.get? a = some (sObj T D)) (F : TxOk P w D l) (hk : k ∈ l) (hb : l.length < scanBound)
    (h : Q false s) : wpAny (model P w) A (setAddHashed a (.str k u) (hashStr w k)) Q E s := by
  obtain ⟨es, ep, t⟩ := D
  have hd : (sObj T (es, ep, t)).data = .set es ep t := rfl
  have hf : t.fits es.size = true := F.fit
  have hel : ElemsOf (strKind P w) es.toList := F.el
  have hsz : es.size = l.length := F.sz
  have hb0 : es.size < scanBound := by omega
  have hkey : (strKind P w).is k (.str k u) = true := is_str k u
  unfold setAddHashed setAddHashedIn
  refine wpAny_holding (wpAny_bind (wpAny_setState_of ho hd hf ?_))
  dsimp only
  rw [byScan_of rfl hb0 hel]
  simp only [↓reduceIte]
  unfold setAddByScan
  refine wpAny_bind ?_
  refine wpAny_bind (wpAny_rule ?_)
  refine wpAny_bind (wpAny_setScan_of (knd := strKind P w) (k := k) hkey ho hd hf hel ?_)
  cases hr : List.findIdx? (fun e => (strKind P w).is k e.2) es.toList with
  | none =>
    obtain ⟨e, he, q⟩ := (F.mem k).mp hk
    have c := List.findIdx?_eq_none_iff.mp hr e he
    rw [q] at c
    cases c
  | some j =>
    dsimp only
    exact wpAny_pure (wpAny_pure h)
theorem tail_ris {ep : Nat} {es1 : Array (Int × Value)} {t2 : SetTable} {wd : Bool} (r : Ris t2.place.toList) : Ris (tailTx ep es1 t2 wd).2.2.place.toList := by
  unfold tailTx
  split
  · exact relayAll_ris _ _ _
  · exact r
theorem tail_led {ep : Nat} {es1 : Array (Int × Value)} {t2 : SetTable} {wd : Bool} : (tailTx ep es1 t2 wd).2.2.led = t2.led := by
  unfold tailTx
  split
  · exact relayAll_led _ _ _
  · rfl
theorem addTx_ris {h : Int} {v : Value} {D : SD} (r : Ris D.2.2.place.toList) : Ris (addTx h v D).2.2.place.toList := by
  have r1 := layNew_ris D.2.2 D.1 h v r
  unfold addTx
  refine tail_ris ?_
  split
  · exact r1
  · exact r1
theorem addTx_led {h : Int} {v : Value} {D : SD} : (addTx h v D).2.2.led = D.2.2.led := by
  have r1 := layNew_led D.2.2 D.1 h v
  unfold addTx
  rw [tail_led]
  split
  · exact r1
  · exact r1
def KT (P : Program) (w : World) (S : Addr) (ss : List Str) (h : Heap) : Prop :=
  ∃ (D : SD) (l : List Str), h.get? S = some (sObj "set" D) ∧ TxOk P w D l ∧ l.Nodup ∧ (∀ k, k ∈ l ↔ k ∈ ss) ∧ l.length ≤ ss.length ∧ Ris D.2.2.place.toList ∧ (w.params.followText "set-order" = true ∨ D.2.2.led = true)
theorem vals_strT : ∀ {ss : List Str} {us : List Value}, Vals (ss.map V.str) us → ∀ (i : Nat) (v : Value), us[i]? = some v → ∃ (k : Str) (u : Tok), ss[i]? = some k ∧ v = Value.str k u
  | [], _, .nil, i, v, e => by simp at e
  | x :: ss, _, .cons r t, 0, v, e => by
    cases e
    obtain ⟨u, rfl⟩ := r
    exact ⟨x, u, rfl, rfl⟩
  | x :: ss, _, .cons r t, i + 1, v, e => vals_strT t i v e
theorem countT {S : Addr} {ss : List Str} {us : List Value} (hu : Vals (ss.map V.str) us) (hb : ss.length < 4000) : Count P w A S us (fun i h => KT P w S (ss.take i) h) where
  keep := fun i h h' ⟨D, l, ho, r⟩ k => ⟨D, l, k _ ho, r⟩
  step := fun i v s Q E e ⟨D, l, ho, F, nd, hm, hl, rs, ld⟩ hQ => by
    obtain ⟨k, u, ek, rfl⟩ := vals_strT hu i v e
    have hlt := (List.getElem?_eq_some_iff.mp ek).1
    have et : ss.take (i + 1) = ss.take i ++ [k] := by rw [List.take_add_one, ek]; rfl
    have lt : (ss.take i).length = i := by rw [List.length_take]; omega
    have hlb : l.length + 1 < scanBound := by
      unfold scanBound
      omega
    unfold setAdd
    refine wpAny_holding ?_
    refine wpAny_bind ((strKind P w).pyHash (is_str k u) ?_)
    by_cases hk : k ∈ l
    · refine add_in (s := { s with toks := s.toks + 1 }) ho F hk (by omega) ?_
      refine hQ s.heap (s.toks + 1) (Heap.SameBut.refl S s.heap) ⟨D, l, ho, F, nd, fun x => ?_, ?_, rs, ld⟩ (Nat.le_succ _)
      · rw [et, hm, List.mem_append, List.mem_singleton]
        exact ⟨.inl, fun z => z.elim id fun e => by rw [e]; exact (hm k).mp hk⟩
      · rw [et, List.length_append]; omega
    · refine add_x (s := { s with toks := s.toks + 1 }) ho F hk hlb ?_
      refine hQ _ (s.toks + 1) (Heap.SameBut.update s.heap S _) ⟨_, k :: l, get_upd _ ho rfl, add_ok u F, List.nodup_cons.mpr ⟨hk, nd⟩, fun x => ?_, ?_, addTx_ris rs, ld.imp id fun z => by rw [addTx_led]; exact z⟩ (Nat.le_succ _)
      · rw [et, List.mem_cons, hm, List.mem_append, List.mem_singleton]
        exact Or.comm
      · rw [et, List.length_append, List.length_cons]
        show l.length + 1 ≤ _ + 1
        omega
end
/-! ### the order -/
def keyT : Value → Str
  | .str x _ => x
  | _ => ""
def ltT (v u : Value) : Bool := decide ((keyT v).cps.toList < (keyT u).cps.toList)
theorem swo_t : SrtO.Swo ltT := ⟨fun x y h => by
    have h := of_decide_eq_true h
    exact decide_eq_false (List.lt_asymm h), fun x y z h1 h2 => by
    have h1 := List.not_lt.mp (of_decide_eq_false h1)
    have h2 := List.not_lt.mp (of_decide_eq_false h2)
    exact decide_eq_false (List.not_lt.mpr (List.le_trans h1 h2))⟩
theorem strT_ext {a b : Str} (h : a.cps.toList = b.cps.toList) : a = b := TL.ext_tl h
theorem rising_allT : ∀ {l : List Str} {p : Str}, PyProof.Rows.risingS p l = true → ∀ x ∈ l, leT p x
  | [], p, _, x, hx => by simp at hx
  | y :: l, p, h, x, hx => by
    have h' : (!PySem.Spec.ltCps y.cps.toList p.cps.toList && PyProof.Rows.risingS y l) = true := h
    rw [Bool.and_eq_true, Bool.not_eq_true'] at h'
    have h1 := leT_iff.mpr h'.1
    rcases List.mem_cons.mp hx with rfl | hx
    · exact h1
    · exact List.le_trans h1 (rising_allT h'.2 x hx)
theorem sortedT_pw : ∀ {l : List Str}, PyProof.Rows.sortedS l = true → l.Pairwise leT
  | [], _ => .nil
  | [x], _ => List.pairwise_singleton _ _
  | x :: y :: l, h => by
    have h' : (!PySem.Spec.ltCps y.cps.toList x.cps.toList && PyProof.Rows.risingS y l) = true := h
    rw [Bool.and_eq_true, Bool.not_eq_true'] at h'
    exact .cons (rising_allT h) (sortedT_pw (l := y :: l) h'.2)
theorem perm_uniqT : ∀ {l m : List Str}, l.Perm m → l.Pairwise leT → m.Pairwise leT → l = m
  | [], m, h, _, _ => h.nil_eq
  | a :: l, [], h, _, _ => by have := h.length_eq; simp at this
  | a :: l, b :: m, h, h1, h2 => by
    have ha : leT b a := by
      rcases List.mem_cons.mp (h.mem_iff.mp List.mem_cons_self) with e | e
      · rw [e]; exact List.le_refl _
      · exact (List.pairwise_cons.mp h2).1 a e
    have hb : leT a b := by
      rcases List.mem_cons.mp (h.mem_iff.mpr List.mem_cons_self) with e | e
      · rw [e]; exact List.le_refl _
      · exact (List.pairwise_cons.mp h1).1 b e
    have e : a = b := strT_ext (List.le_antisymm hb ha)
    subst e
    rw [perm_uniqT h.cons_inv (List.pairwise_cons.mp h1).2 (List.pairwise_cons.mp h2).2]
theorem sort_ex (ks : List Str) : ∃ ys, sortStrs ks = some ys ∧ ys.Perm ks := by
  have hp : (ks.mergeSort fun a b => decide (leT a b)).Pairwise leT := by
    have := List.pairwise_mergeSort (le := fun a b : Str => decide (leT a b)) (fun a b c h1 h2 => decide_eq_true (List.le_trans (of_decide_eq_true h1) (of_decide_eq_true h2))) (fun a b => by
      rcases List.le_total a.cps.toList b.cps.toList with h | h
      · rw [decide_eq_true (show leT a b from h)]; rfl
      · rw [decide_eq_true (show leT b a from h), Bool.or_true]) ks
    exact this.imp fun h => of_decide_eq_true h
  have hq := List.mergeSort_perm ks fun a b => decide (leT a b)
  refine ⟨_, sortStrs_of hq (PyProof.Rows.sortedS_of_pairwise _ (hp.imp fun h => leT_iff.mp h)) fun zs h1 h2 => ?_, hq⟩
  exact perm_uniqT (h1.trans hq.symm) (sortedT_pw h2) hp
theorem perm_of_sub : ∀ {ks ms : List Str}, ks.Nodup → (∀ k ∈ ks, k ∈ ms) → ms.length ≤ ks.length → ks.Perm ms
  | [], ms, _, _, hl => by
    have : ms = [] := List.eq_nil_of_length_eq_zero (Nat.le_zero.mp hl)
    rw [this]
  | k :: ks, ms, nd, hs, hl => by
    obtain ⟨h1, h2⟩ := List.nodup_cons.mp nd
    have hk := hs k List.mem_cons_self
    have p := List.perm_cons_erase hk
    refine List.Perm.trans (.cons k (perm_of_sub (ms := ms.erase k) h2 (fun x hx => ?_) ?_)) p.symm
    · have hne : x ≠ k := fun e => h1 (by rw [← e]; exact hx)
      exact (List.mem_erase_of_ne hne).mpr (hs x (List.mem_cons_of_mem _ hx))
    · have := p.length_eq
      rw [List.length_cons] at this
      rw [List.length_cons] at hl
      omega
theorem sort_dd {ss ks ys : List Str} (h1 : ks.Nodup) (h2 : ∀ k, k ∈ ks ↔ k ∈ ss) (h3 : ys.Perm ks) (h4 : PyProof.Rows.sortedS ys = true) : ∀ {zs : List Str}, sortStrs (dd ss) = some zs → ys = zs := fun e =>
  sortStrs_spec e (h3.trans ((List.perm_ext_iff_of_nodup h1 (nodup_dd ss)).mpr fun k => (h2 k).trans mem_dd.symm)) h4
theorem sortStrs_same {a b : List Str} (ha : a.Nodup) (hm : ∀ k, k ∈ a ↔ k ∈ b) {zs : List Str} (e : sortStrs a = some zs) : sortStrs (dd b) = some zs := by
  have p : a.Perm (dd b) := (List.perm_ext_iff_of_nodup ha (nodup_dd b)).mpr fun k => (hm k).trans mem_dd.symm
  have := sortStrs_perm e
  unfold sortStrs at e ⊢
  split at e
  · rename_i h
    have h' : ∃ ys : List Str, ys.Perm (dd b) ∧ PyProof.Rows.sortedS ys = true ∧ ∀ zs : List Str, zs.Perm (dd b) → PyProof.Rows.sortedS zs = true → zs = ys := by
      obtain ⟨ys, h1, h2, h3⟩ := h
      exact ⟨ys, h1.trans p, h2, fun zs q1 q2 => h3 zs (q1.trans p.symm) q2⟩
    rw [dif_pos h']
    cases e
    have q := h.choose_spec
    have q' := h'.choose_spec
    exact congrArg some (q.2.2 _ (q'.1.trans p.symm) q'.2.1)
  · cases e
section
variable {X : Cx}
def tSortSetT (K : PySem.W.Frag) (ta : TE) : TE := fun σ H Q => ta σ H fun x H1 => ∃ (l : Addr) (ss zs : List Str), x = V.ref l ∧ SqL K H1 l (ss.map V.str) ∧ ss.length < 4000 ∧ sortStrs (dd ss) = some zs ∧ ∀ p, H1 p = none → Q (.ref p) (L2.upd H1 p (.lst (zs.map V.str)))
theorem strs_vals : ∀ {us : List Value}, (∀ v ∈ us, ∃ k u, v = Value.str k u) → Vals ((us.map keyT).map V.str) us
  | [], _ => .nil
  | v :: us, h => by
    obtain ⟨k, u, rfl⟩ := h v List.mem_cons_self
    exact .cons ⟨u, rfl⟩ (strs_vals fun v hv => h v (List.mem_cons_of_mem _ hv))
theorem pe_sortSetT {a : Expr} {ta : TE} {p p2 q pos : Pos} (hc : X.calm = true) (hg : Gl X "sorted") (hm : X.mg "sorted" = none) (hg2 : Gl X "set") (hm2 : X.mg "set" = none) (ha : PE X a ta)
    (na : starEach [a] X.env = (false, eval a X.env) :: starEach [] X.env := by rfl) : PE X (.Call (.Name "sorted" p) [.Call (.Name "set" p2) [a] [] q] [] pos) (tSortSetT X.K ta) := by
  refine ⟨fun pins s σ H Q I h => ?_⟩
  refine Call_ (ld_blt I hg hm PyProof.Rows.boot_sorted ?_)
  refine PyProof.Rows.callWith_builtin1 (PyProof.Rows.args_cons ?_ rfl) rfl rfl
  refine Call_ (ld_blt I hg2 hm2 PyProof.Rows.boot_set ?_)
  refine PyProof.Rows.callWith_type1 (PyProof.Rows.args_cons (thn (ha.run pins s σ H _ I h) fun v s1 ⟨x, H1, I1, r1, q1⟩ => PyProof.Rows.args_nil ?_) na) na rfl
  obtain ⟨l, ss, zs, rfl, hq, hfew, hz, q1⟩ := q1
  cases r1
  obtain ⟨its, r, pl, hsl⟩ := I1.list hq
  have hlen : its.length = ss.length := by
    have := r.length
    rw [List.length_map] at this
    exact this.symm
  have hsz : its.toArray.size = ss.length := by rw [List.size_toArray]; exact hlen
  refine set_of_list (J := fun i h => KT X.prog X.w s1.heap.objs.size (ss.take i) h) (I1.ok.hd hc) pl.isList (fun A' _ => by
    show Count X.prog X.w A' s1.heap.objs.size its _
    exact countT r hfew) (fun h' e => ⟨(#[], 0, .fresh 0 0 (!X.w.params.followText "set-order")), [], e, TxOk.nil rfl, .nil, fun k => by simp, Nat.zero_le _, List.Pairwise.nil, by
      show _ ∨ (!X.w.params.followText "set-order") = true
      cases X.w.params.followText "set-order"
      · exact .inr rfl
      · exact .inl rfl⟩) fun h' tk R hk => ?_
  rw [hsz, List.take_length] at R
  refine PyProof.Rows.args_nil ?_
  have I2 : Inv X pins σ H1 { s1 with heap := h', toks := tk } := I1.kept fun b o e => hk b o e
  have hh2 : ({ s1 with heap := h', toks := tk } : Shared).heap = h' := rfl
  generalize ({ s1 with heap := h', toks := tk } : Shared) = s2 at I2 hh2 ⊢
  subst hh2
  obtain ⟨⟨es, ep, t⟩, ks, ho, F, nd, hms, hkl, hr, hl⟩ := R
  have shape : ∀ e ∈ es.toList, ∃ k u, e.2 = Value.str k u ∧ k ∈ ks := fun e he => by
    obtain ⟨⟨k, hk1, _⟩, _⟩ := F.el e he
    obtain ⟨u, e1⟩ := Value.isStrOf_shape hk1
    exact ⟨k, u, e1, (F.mem k).mpr ⟨e, he, hk1⟩⟩
  have vals : ∀ v ∈ es.toList.map (·.2), ∃ k u, v = Value.str k u := fun v hv => by
    obtain ⟨e, he, rfl⟩ := List.mem_map.mp hv
    obtain ⟨k, u, e1, _⟩ := shape e he
    exact ⟨k, u, e1⟩
  have hsz2 : es.size = ks.length := F.sz
  have hb : es.size < scanBound := by
    unfold scanBound
    omega
  -- the members, each once
  have sub : ∀ k ∈ ks, k ∈ (es.toList.map (·.2)).map keyT := fun k hk1 => by
    obtain ⟨e, he, q⟩ := (F.mem k).mp hk1
    obtain ⟨u, e1⟩ := Value.isStrOf_shape q
    exact List.mem_map.mpr ⟨e.2, List.mem_map.mpr ⟨e, he, rfl⟩, by rw [e1]; rfl⟩
  have pk : ((es.toList.map (·.2)).map keyT).Perm ks := by
    have hle : ((es.toList.map (·.2)).map keyT).length ≤ ks.length := by
      rw [List.length_map, List.length_map, Array.length_toList, hsz2]
      exact Nat.le_refl _
    exact (perm_of_sub nd sub hle).symm
  refine sorted_of_set (s := s2) (ltv := ltT) (T := .type "str") swo_t (I1.ok.hd hc) ⟨_, ho, rfl, rfl⟩ F.fit hb hr hl (fun v hv => ?_) (fun v hv u hu A s Q E q => ?_) fun s' p out c k g1 o1 hp hget hs hpm => ?_
  · obtain ⟨b, u, rfl⟩ := vals v hv
    exact ⟨rfl, rfl⟩
  · obtain ⟨b, t1, rfl⟩ := vals v hv
    obtain ⟨d, t2, rfl⟩ := vals u hu
    exact PyProof.Rows.oneLt_str q
  · have vo : ∀ v ∈ out, ∃ k u, v = Value.str k u := fun v hv => vals v (hpm.mem_iff.mp hv)
    have so : PyProof.Rows.sortedS (out.map keyT) = true := by
      refine PyProof.Rows.sortedS_of_pairwise _ ?_
      refine List.pairwise_map.mpr (hs.imp fun {a b} hab => ?_)
      rw [PyProof.Rows.ltCps_eq]
      exact hab
    have eo := sort_dd nd hms ((hpm.map keyT).trans pk) so hz
    subst eo
    have hnp : H1 p = none := I2.hok.fresh hp
    have hlz : ((out.map keyT).map V.str).length ≤ sizeLine := by
      rw [List.length_map, List.length_map, hpm.length_eq, List.length_map, Array.length_toList, sizeLine_eq]
      show es.size ≤ _
      omega
    have J : Inv X pins σ (L2.upd H1 p (.lst ((out.map keyT).map V.str))) { s2 with heap := s'.heap, gens := s'.gens, drawn := s'.drawn, toks := s'.toks } :=
      I2.call (ch := []) (Un.laid k hp hnp) (I2.hok.laid k hp ⟨hlz, out, c, strs_vals vo, hget⟩) (by rw [g1]; exact I2.bare) (fun _ z => nomatch z)
    have e : s' = { s2 with heap := s'.heap, gens := s'.gens, drawn := s'.drawn, toks := s'.toks } := by
      cases s'
      cases s2
      cases o1
      rfl
    rw [e]
    exact ⟨.ref p, _, J, rfl, q1 p hnp⟩
end
noncomputable section
section
variable {G : Top} {c : Ctx} {k : Nat}
def opSortSetT : W → Store → Option (W × Store) := fun w S => match w with
  | .ref n => match S[n]? with
    | some (.lst ws) => (strsOf ws).bind fun ss => if ss.length < 4000 then (sortStrs (dd ss)).map fun zs => (.ref S.length, S ++ [.lst (zs.map W.str)]) else none
    | _ => none
  | _ => none
def dSortSetT (d : DE) : DE := fun ε => d ε >>= fun w => lift (opSortSetT w)
theorem e_sortSetT {a : Expr} {d : DE} {p p2 q pos : Pos} (ha : EOk G c k a d) (hm : G.mg "sorted" = none) (hm2 : G.mg "set" = none) (hg : c.sc.names.lookup ("sorted" : Str) = some .globalImplicit := by rfl) (hg2 : c.sc.names.lookup ("set" : Str) = some .globalImplicit := by rfl)
    (hp : plainE a = true := by rfl) (hh : c.hot = none := by rfl) : EOk G c k (.Call (.Name "sorted" p) [.Call (.Name "set" p2) [a] [] q] [] pos) (dSortSetT d) := fun X U F =>
  PE.imp (pe_sortSetT (F.calm hh) (glob_of F hg) (by rw [F.mg]; exact hm) (glob_of F hg2) (by rw [F.mg]; exact hm2) (ha X U F) (starEach_plain hp _ _)) fun σ H Q ⟨ρ, ε, S, ev, sr, h⟩ => ⟨ρ, ε, S, ev, sr, (Rg.bind h).mono fun x H1 ⟨w, S1, ρ1, e1, s1, r1, h1⟩ => by
    cases r1 with
    | @ref n l hn =>
      have h2 : Rg G U σ (VR G.K) (lift (opSortSetT (.ref n)) S1) H1 ρ1 Q := h1
      unfold lift opSortSetT at h2
      cases e : S1[n]? with
      | none => simp only [e] at h2; exact h2.elim
      | some o =>
        cases o with
        | lst ws =>
          simp only [e] at h2
          cases eb : strsOf ws with
          | none => simp only [eb, Option.bind_none] at h2; exact h2.elim
          | some ss =>
            simp only [eb, Option.bind_some] at h2
            split at h2
            · rename_i hq
              split at hq
              · rename_i hlt
                cases ez : sortStrs (dd ss) with
                | none => rw [ez] at hq; cases hq
                | some zs =>
                  rw [ez] at hq
                  cases hq
                  obtain ⟨vs, hv, t⟩ := s1.ob n l _ hn e
                  obtain ⟨ev, hok⟩ := strsOf_ok t eb
                  subst ev
                  refine ⟨l, ss, zs, rfl, by rw [F.K]; exact .inl (.inl hv), hlt, ez, fun p hp => ?_⟩
                  exact Rg.list (G := G) h2 s1 (VRs.strs (List.all_eq_true.mpr fun x hx => hok x (mem_dd.mp ((sortStrs_perm ez).mem_iff.mp hx)))) hp
              · cases hq
            · exact h2.elim
        | dct _ => simp only [e] at h2; exact h2.elim
        | ins _ _ => simp only [e] at h2; exact h2.elim
        | fdct _ => simp only [e] at h2; exact h2.elim
    | _ => exact h1.elim⟩
/-- a def with a star parameter alone, called with nothing -/
theorem e_callS0 {j : Nat} {x : Str} {d : List W → M W} {p pos : Pos} (D : DefS G j x d) (hj : j ≤ k) (hg : c.sc.names.lookup x = some .globalImplicit := by rfl)
    (hdb : (x == ("__debug__" : Str)) = false := by decide) (hh : c.hot = none := by rfl) : EOk G c k (.Call (.Name x p) [] [] pos) (dCall d aNil) := fun X U F => by
  obtain ⟨f, hm, hk, hf⟩ := D.ex
  refine ⟨fun pins s σ H Q I h => ?_⟩
  obtain ⟨ρ, ε, S, ev, sr, h⟩ := h
  refine wpAny_Call_Name_kw (ld_glob I (glob_of F hg) (by rw [F.mg]; exact hm) ?_ hdb)
  have sp : spN G d [] H Q (fun cls dd H' => U cls dd σ H') := ⟨[], S, ρ, .nil, sr, h⟩
  refine PySem.W.callWith_K0 I.kIn (by rw [F.K]; exact hk) ?_
  have e0 := I.env0
  rw [F.P, F.w, F.K, F.mg, F.base] at e0
  have z := hf X.A X.stack s H [] [] Q (fun cls dd H' => U cls dd σ H') ((F.rm hh I).mono hj) F.gd e0 .nil sp
  rw [← F.P, ← F.w] at z
  refine wpAny_call (codeAny_mono z fun r s' hq => ?_)
  cases r with
  | error e => exact L2N.passAt F.tk σ pins H s e s' I hq
  | ok fl =>
    cases fl with
    | ret u => exact I.after hq
    | next => exact False.elim hq
    | brk => exact False.elim hq
    | cont => exact False.elim hq
end
end
end N
/-! SD: not in a dict as a value; isinstance of an own class, asked of texts too. -/
namespace N
open PySem PySem.Spec PyProof.Rows L2
noncomputable section
section
variable {G : Top} {c : Ctx} {k : Nat}
theorem e_notInK {a b : Expr} {d e : DE} {pos : Pos} (ha : EOk G c k a d) (hb : EOk G c k b e) (hm : behindInMarks .NotIn b = false := by rfl) : EOk G c k (.Compare a [.NotIn] [b] pos) (dOp opNotInK d e) := fun X U F =>
  PE.imp (pe_cmp (pc_dnotin (by have := F.room.un; omega) (ha X U F) (hb X U F)) hm) fun σ H Q q => by
    obtain ⟨ρ, ε, S, ev, sr, h⟩ := q
    refine ⟨ρ, ε, S, ev, sr, (Rg.bind h).mono fun y H1 ⟨a, S1, ρ1, e1, s1, r1, h1⟩ => ⟨ρ1, ε, S1, ev.mono e1, s1, (Rg.bind h1).mono fun x H2 ⟨b, S2, ρ2, e2, s2, r2, h2⟩ => ?_⟩⟩
    obtain ⟨w, S3, hb, qq⟩ := Rg.lift h2
    unfold opNotInK at hb
    split at hb
    · split at hb
      · rename_i kvs eo
        rw [Option.map_eq_some_iff] at hb
        obtain ⟨ky, ek, hb⟩ := hb
        cases hb
        cases r2 with
        | ref hn =>
          obtain ⟨l, z, fr⟩ := s2.ob _ _ _ hn eo
          have hk := keyW_ok (r1.mono e2) ek
          subst hk
          refine ⟨_, _, rfl, DGet.k z, ?_⟩
          rw [← getW_isSome fr]
          exact qq H2 ρ2 _ Ext.refl s2 (.bl _)
      · cases hb
    · cases hb
structure ClsJ (G : Top) (x : Str) (ci : Nat) : Prop where
  cl : ClsI G x ci
  st : PySem.W.kitOne G.K (.type "str") (.ref (G.cl ci)) = some false
theorem kitOne_str {K : PySem.W.Frag} {C : Addr} (hm : PySem.W.mroIn K C (.type "object") = some true) (ht : PySem.W.typeIn K (.ref C) = some (.type "type")) (hs : PySem.W.subIn K (.type "str") (.ref C) = some false) : PySem.W.kitOne K (.type "str") (.ref C) = some false := by
  have hc : (PySem.W.clsIn K C).isSome = true := by
    unfold PySem.W.mroIn at hm
    cases z : PySem.W.clsIn K C with
    | none => rw [z] at hm; cases hm
    | some c => rfl
  unfold PySem.W.kitOne PySem.W.kitCls
  have ne : (Value.type "str" == Value.ref C) = false := by first | rfl | exact beq_eq_false_iff_ne.mpr (fun e => by cases e)
  rw [if_neg (by rw [ne]; decide)]
  simp only [hc, ht, Bool.true_and]
  rw [if_pos (by exact beq_self_eq_true _)]
  exact hs
theorem call_isS {X : Cx} {C : Addr} (c : C8.InsC X.K C) (e : PySem.W.kitOne X.K (.type "str") (.ref C) = some false) : CallR X (.builtin "isinstance") (fun xs H Q => (∃ a dx fs, xs = [.ref a, .ref C] ∧ H a = some (.ins C dx fs) ∧ Q (.bl true) H) ∨ (∃ y, xs = [.str y, .ref C] ∧ Q (.bl false) H)) := by
  intro pins s σ H xs us Q I r h
  rcases h with h | ⟨y, rfl, q⟩
  · exact C8.call_isC c pins s σ H xs us Q I r h
  · obtain ⟨u, w', rfl, ru, rw'⟩ := vals2 r
    cases rw'
    exact isinst_ok I ru (TyOf.str y) e fun tk => ⟨.bl false, H, I.tok _, rfl, q⟩
/-- whether the value is of the class: asked of its objects and of texts -/
def dIsCS (ci : Nat) (d : DE) : DE := fun ε => d ε >>= fun w => lift fun S => match w with
  | .ref n => match S[n]? with
    | some (.ins c _) => if c = ci then some (.bl true, S) else none
    | _ => none
  | .str _ => some (.bl false, S)
  | _ => none
theorem e_isCS {ci : Nat} {x : Str} {e : Expr} {d : DE} {p p2 pos : Pos} (T : ClsJ G x ci) (he : EOk G c k e d) (hm : G.mg "isinstance" = none) (hg : c.sc.names.lookup ("isinstance" : Str) = some .globalImplicit := by rfl) (hgx : c.sc.names.lookup x = some .globalImplicit := by rfl)
    (hp : plainE e = true := by rfl) (hd : (x == ("__debug__" : Str)) = false := by decide) : EOk G c k (.Call (.Name "isinstance" p) [e, .Name x p2] [] pos) (dIsCS ci d) := fun X U F =>
  PE.imp (pe_callB (call_isS (C := G.cl ci) (by rw [F.K]; exact T.cl.ins) (by rw [F.K]; exact T.st)) (glob_of F hg) (by rw [F.mg]; exact hm) (by decide +kernel) (pa_cons (he X U F) (pa_cons (pe_glob (v := .ref (G.cl ci)) (glob_of F hgx) (by rw [F.mg]; exact T.cl.mg) rfl hd) pa_nil) (starEach_plain hp _ _)) (by decide) (by decide) (starEach_plain hp _ _)) fun σ H Q ⟨ρ, ε, S, ev, sr, h⟩ => ⟨ρ, ε, S, ev, sr, (Rg.bind h).mono fun x H1 ⟨w, S1, ρ1, e1, s1, r1, q1⟩ => by
    obtain ⟨w', S2, hw, q2⟩ := Rg.lift q1
    split at hw
    · split at hw
      · rename_i n c' fs eo
        split at hw
        · rename_i hc
          subst hc
          cases hw
          cases r1 with
          | ref hn =>
            obtain ⟨dx, l, z, fr⟩ := s1.ob _ _ _ hn eo
            exact .inl ⟨_, dx, l, rfl, z, q2 H1 ρ1 _ Ext.refl s1 (.bl _)⟩
        · cases hw
      · cases hw
    · cases hw
      cases r1 with
      | str _ => exact .inr ⟨_, rfl, q2 H1 ρ1 _ Ext.refl s1 (.bl _)⟩
    · cases hw⟩
end
end
end N
/-! SE: isinstance of any value: of an own class, and of a built-in type where objects of an own class are asked too. -/
namespace N
open PySem PySem.Spec PyProof.Rows L2
noncomputable section
section
variable {G : Top} {c : Ctx} {k : Nat}
def seTys : List String := ["NoneType", "bool", "int", "str", "tuple", "list", "dict"]
/-- what is known of a class -/
structure ClsK (G : Top) (x : Str) (ci : Nat) : Prop where
  cl : ClsI G x ci
  ty : ∀ T ∈ seTys, PySem.W.kitOne G.K (.type T) (.ref (G.cl ci)) = some false
  ins : ∀ T ∈ seTys, PySem.W.kitOne G.K (.ref (G.cl ci)) (.type T) = some false
/-- the class of an object -/
def insCi (w : W) (S : Store) : Option Nat := match w with
  | .ref n => match S[n]? with
    | some (.ins c _) => some c
    | _ => none
  | _ => none
def dIsCA (ci : Nat) (d : DE) : DE := fun ε => d ε >>= fun w => lift fun S => match insCi w S with
  | some c => if c = ci then some (.bl true, S) else none
  | none => (tyN w S).map fun _ => (.bl false, S)
def dIsiA (ci : Nat) (T : String) (d : DE) : DE := fun ε => d ε >>= fun w => lift fun S => match insCi w S with
  | some c => if c = ci then some (.bl false, S) else none
  | none => (tyN w S).map fun t => (.bl (isT t T), S)
theorem ins_ty {ci : Nat} {H : Hp} {ρ : List Addr} {S : Store} {w : W} {v : V} {x : Str} (T : ClsI G x ci) (sr : SR G H ρ S) (r : VR G.K H ρ w v) (h : insCi w S = some ci) : TyX G.K H v (.ref (G.cl ci)) := by
  unfold insCi at h
  split at h
  · split at h
    · rename_i n c' fs eo
      cases h
      cases r with
      | ref hn =>
        obtain ⟨dx, l, z, fr⟩ := sr.ob _ _ _ hn eo
        exact .base (.ins z T.ins.cl T.ins.ha T.ins.hn T.ins.htk T.ins.hm)
    · cases h
  · cases h
theorem e_isCA {ci : Nat} {x : Str} {e : Expr} {d : DE} {p p2 pos : Pos} (T : ClsK G x ci) (he : EOk G c k e d) (hm : G.mg "isinstance" = none) (hg : c.sc.names.lookup ("isinstance" : Str) = some .globalImplicit := by rfl) (hgx : c.sc.names.lookup x = some .globalImplicit := by rfl)
    (hp : plainE e = true := by rfl) (hd : (x == ("__debug__" : Str)) = false := by decide) : EOk G c k (.Call (.Name "isinstance" p) [e, .Name x p2] [] pos) (dIsCA ci d) := fun X U F =>
  PE.imp (pe_callB (call_isi) (glob_of F hg) (by rw [F.mg]; exact hm) (by decide +kernel) (pa_cons (he X U F) (pa_cons (pe_glob (v := .ref (G.cl ci)) (glob_of F hgx) (by rw [F.mg]; exact T.cl.mg) rfl hd) pa_nil) (starEach_plain hp _ _)) (by decide) (by decide) (starEach_plain hp _ _)) fun σ H Q ⟨ρ, ε, S, ev, sr, q⟩ => ⟨ρ, ε, S, ev, sr, (Rg.bind q).mono fun v H1 ⟨w, S1, ρ1, e1, s1, r1, q1⟩ => by
    obtain ⟨w', S2, hw, q2⟩ := Rg.lift q1
    cases ei : insCi w S1 with
    | some c' =>
      simp only [ei] at hw
      split at hw
      · rename_i hc
        subst hc
        cases hw
        refine ⟨v, .ref (G.cl c'), .ref (G.cl c'), .ref (G.cl c'), true, rfl, .own _, ?_, ?_, q2 H1 ρ1 _ Ext.refl s1 (.bl _)⟩
        · rw [F.K]; exact ins_ty T.cl s1 r1 ei
        · rw [F.K]; exact T.cl.ins.me
      · cases hw
    | none =>
      simp only [ei] at hw
      cases et : tyN w S1 with
      | none => rw [et] at hw; cases hw
      | some t =>
        rw [et] at hw
        cases hw
        refine ⟨v, .ref (G.cl ci), .type t, .ref (G.cl ci), false, rfl, .own _, ?_, ?_, q2 H1 ρ1 _ Ext.refl s1 (.bl _)⟩
        · rw [F.K]; exact tyN_ok s1 r1 et
        · rw [F.K]; exact T.ty t (tyN_mem et)⟩
theorem e_isiA {ci : Nat} {y : Str} (K : ClsK G y ci) (T : String) {x : Str} {e : Expr} {d : DE} {p p2 pos : Pos} (he : EOk G c k e d) (hm : G.mg "isinstance" = none) (hx : G.mg x = none) (hT : T ∈ seTys := by decide) (hb : bootBuiltins x = some (.type T) := by decide +kernel) (hk : kitOk T = true := by decide +kernel) (hg : c.sc.names.lookup ("isinstance" : Str) = some .globalImplicit := by rfl) (hgx : c.sc.names.lookup x = some .globalImplicit := by rfl)
    (hp : plainE e = true := by rfl) (hn : x ≠ "__name__" := by decide) (hd : (x == ("__debug__" : Str)) = false := by decide) : EOk G c k (.Call (.Name "isinstance" p) [e, .Name x p2] [] pos) (dIsiA ci T d) := fun X U F =>
  PE.imp (pe_callB (call_isi) (glob_of F hg) (by rw [F.mg]; exact hm) (by decide +kernel) (pa_cons (he X U F) (pa_cons (pe_bltn (v := .ty T) (glob_of F hgx) (by rw [F.mg]; exact hx) hb rfl hn hd) pa_nil) (starEach_plain hp _ _)) (by decide) (by decide) (starEach_plain hp _ _)) fun σ H Q ⟨ρ, ε, S, ev, sr, q⟩ => ⟨ρ, ε, S, ev, sr, (Rg.bind q).mono fun v H1 ⟨w, S1, ρ1, e1, s1, r1, q1⟩ => by
    obtain ⟨w', S2, hw, q2⟩ := Rg.lift q1
    cases ei : insCi w S1 with
    | some c' =>
      simp only [ei] at hw
      split at hw
      · rename_i hc
        subst hc
        cases hw
        refine ⟨v, .ty T, .ref (G.cl c'), .type T, false, rfl, .ty T, ?_, ?_, q2 H1 ρ1 _ Ext.refl s1 (.bl _)⟩
        · rw [F.K]; exact ins_ty K.cl s1 r1 ei
        · rw [F.K]; exact K.ins T hT
      · cases hw
    | none =>
      simp only [ei] at hw
      cases et : tyN w S1 with
      | none => rw [et] at hw; cases hw
      | some t =>
        rw [et] at hw
        cases hw
        have hk2 := of_decide_eq_true (List.all_eq_true.mp hk t (tyN_mem et))
        refine ⟨v, .ty T, .type t, .type T, isT t T, rfl, .ty T, ?_, ?_, q2 H1 ρ1 _ Ext.refl s1 (.bl _)⟩
        · rw [F.K]; exact tyN_ok s1 r1 et
        · rw [F.K]; exact kit_ty hk2⟩
end
/-! laws -/
section
variable {ε : Ev} {S : Store} {Q : W → Store → Prop} {E : Ex → Store → Prop}
theorem wp_dIsCA {ci : Nat} {d : DE} : wp (dIsCA ci d ε S) Q E = wp (d ε S) (fun w S1 => wO (match insCi w S1 with
  | some c => if c = ci then some (W.bl true, S1) else none
  | none => (tyN w S1).map fun _ => (W.bl false, S1)) fun p => Q p.1 p.2) E := by
  unfold dIsCA
  simp only [wp_bind, wp_lift]
theorem wp_dIsiA {ci : Nat} {T : String} {d : DE} : wp (dIsiA ci T d ε S) Q E = wp (d ε S) (fun w S1 => wO (match insCi w S1 with
  | some c => if c = ci then some (W.bl false, S1) else none
  | none => (tyN w S1).map fun t => (W.bl (isT t T), S1)) fun p => Q p.1 p.2) E := by
  unfold dIsiA
  simp only [wp_bind, wp_lift]
end
end
end N
/-! SF: a class's constant. -/
namespace N
open PySem PySem.Spec PyProof.Rows L2
section
variable {G : Top} {c : Ctx} {k : Nat}
structure CstI (G : Top) (x : Str) (f : Str) (i : Int) : Prop where
  ex : ∃ (C : Addr) (mc u : Value), G.mg x = some (.ref C) ∧ ClX.CRead G.K C mc ∧ ClX.CVal G.K C mc f (.int i) u
theorem e_cst {x f : Str} {i : Int} {p pos : Pos} (T : CstI G x f i) (hgx : c.sc.names.lookup x = some .globalImplicit := by rfl) (hd : (x == ("__debug__" : Str)) = false := by decide)
    (hb : ∀ env, attributeBase (.Name x p) f env (eval (.Name x p) env) = eval (.Name x p) env := by intro env; rfl) : EOk G c k (.Attribute (.Name x p) f pos) (dC (.int i)) := fun X W F => by
  obtain ⟨C, mc, u, mg, r, cv⟩ := T.ex
  exact PE.imp (ClX.pe_cval (pe_glob (v := .ref C) (glob_of F hgx) (by rw [F.mg]; exact mg) rfl hd) (hb _)) fun σ H Q h => ⟨C, mc, .int i, u, rfl, by rw [F.K]; exact r, by rw [F.K]; exact cv, tC_ok h fun _ => .int i⟩
end
end N
/-! SG: a static method called on its class (raw). -/
namespace ClX
open PySem PySem.Spec PyProof.Rows L2
/-- C.m is a staticmethod: its record at p, its def at g -/
structure SMet (K : PySem.W.Frag) (C : Addr) (mc : Value) (m : Str) (p g : Addr) : Prop where
  at_ : PySem.W.findCls K (.ref C) mc m = some (.get (.builtin "staticmethod.__get__") (.ref p) .none (.ref C))
  rc : ∃ rest, PySem.W.recIn K p "staticmethod" = some (.ref g :: rest)
/-- e.m(..), e the class at C, m a staticmethod -/
def tSMeth (C : Addr) (sp : Sp) (dvs : List V) (E : XK) (ta : TE) (t : TA) : TE := fun σ H Q => ta σ H fun x H1 => x = .ref C ∧ t σ H1 fun vs H2 => sp (vs ++ dvs) H2 Q E
section
variable {X : Cx} {pins : List (Addr × Obj)} {σ : L2.St} {H : Hp} {s : Shared} {C p g : Addr} {mc : Value} {m : Str} {A : Around} {E : Value → Shared → Prop}
theorem getmethsm_ok {pl : Sem Bool} {Q : Value × List Value → Shared → Prop} (I : Inv X pins σ H s) (r : CRead X.K C mc) (k : SMet X.K C mc m p g)
    (h : ∀ s', Inv X pins σ H s' → Q (.ref g, []) s') : wpAny (model X.prog X.w) A (getMethod (.ref C) m pl) Q E s := by
  obtain ⟨rest, hp⟩ := k.rc
  refine PySem.W.method_cls I.kIn r.ga ?_
  refine PySem.W.cls_bind I.kIn r.rd k.at_ ?_
  refine wpAny_call (PySem.W.sm_get (s := { s with toks := s.toks + 1 }) I.kIn hp (PySem.W.handed_on rfl ?_))
  exact h _ (I.tok _)
end
section
variable {X : Cx} {CX : CXT} {k : Nat} {C p g : Addr} {mc : Value} {sp : Sp} {E : XK} {o e : Expr} {es : List Expr} {m : Str} {pos apos : Pos} {ta : TE} {t : TA} {pl : Sem Bool} {fd : FuncData} {ps : List Str} {dvs : List V} {ds : List Value}
theorem pe_smeth (he : PE X o ta) (r : CRead X.K C mc) (c : SMet X.K C mc m p g) (F : FnOk X.prog X.w X.K X.mg X.base CX k g fd ps sp) (hr : Room k X.A) (hk : PySem.W.keepIn X.K (.ref g) = true) (hb : Binds X.K fd ps ds) (hd : Vals dvs ds) (hx : Passes CX X E) (ha : PA X (e :: es) t)
    (hst : starEach (e :: es) X.env = (false, eval e X.env) :: starEach es X.env := by rfl) (hpl : (backTo pos (starEach es X.env)).any (·.1) = false := by rfl)
    (ht : eval (.Call (.Attribute o m apos) (e :: es) [] pos) X.env = (do
      let ov ← eval o X.env
      standAt apos.atName
      let (f, first) ← holding [ov] (getMethod ov m pl)
      callWith pos f first (backTo pos (starEach (e :: es) X.env)) (backToKw pos (keywordEach [] X.env))) := by rfl) :
    PE X (.Call (.Attribute o m apos) (e :: es) [] pos) (tSMeth C sp dvs E ta t) := by
  refine ⟨fun pins s σ H Q I h => ?_⟩
  refine PySem.W.methodCall_KW (pl := pl) (thn (he.run pins s σ H _ I h) fun u s1 ⟨x, H1, I1, rx, ex, q⟩ => ?_) ht
  subst ex
  obtain rfl : u = Value.ref C := rx
  refine getmethsm_ok I1 r c fun s2 I2 => ?_
  refine PySem.W.callWith_K (h₀ := X.base) I2.ok.mod.kin hk (thn (ha.run pos pins s2 σ H1 _ I2 q) fun us s3 ⟨vs, H2, I3, rv, q2⟩ => ⟨I3.kIn, ?_⟩) hst hpl
  exact run_fn F hr hb hd hx I3 rv q2
end
end ClX
/-! SH: a static method called on its class. -/
namespace N
open PySem PySem.Spec PyProof.Rows L2
section
variable {G : Top} {c : Ctx} {k : Nat}
/-- a static method of a class -/
structure Smth (G : Top) (k : Nat) (x m : Str) (ps : List Str) (d : List W → M W) : Prop where
  ex : ∃ (C p f : Addr) (mc : Value) (fd : FuncData), G.mg x = some (.ref C) ∧ ClX.CRead G.K C mc ∧ ClX.SMet G.K C mc m p f ∧ PySem.W.keepIn G.K (.ref f) = true ∧ FnG G k f fd ps (spN G d) ∧ Binds G.K fd ps []
theorem e_smeth {j : Nat} {x m : Str} {ps : List Str} {d : List W → M W} {e : Expr} {es : List Expr} {a : DA} {p apos pos : Pos} {pl : Env → Sem Bool} (D : Smth G j x m ps d) (hj : j ≤ k) (ha : AOk G c k (e :: es) a) (hg : c.sc.names.lookup x = some .globalImplicit := by rfl)
    (hdb : (x == ("__debug__" : Str)) = false := by decide) (hst : ∀ env, starEach (e :: es) env = (false, eval e env) :: starEach es env := by intro _; rfl) (hpl : ∀ env, (backTo pos (starEach es env)).any (·.1) = false := by intro _; rfl)
    (ht : ∀ env, eval (.Call (.Attribute (.Name x p) m apos) (e :: es) [] pos) env = (do
      let ov ← eval (.Name x p) env
      standAt apos.atName
      let (f, first) ← holding [ov] (getMethod ov m (pl env))
      callWith pos f first (backTo pos (starEach (e :: es) env)) (backToKw pos (keywordEach [] env))) := by intro _; rfl) (hh : c.hot = none := by rfl) :
    EOk G c k (.Call (.Attribute (.Name x p) m apos) (e :: es) [] pos) (dCall d a) := fun X U F => by
  obtain ⟨C, q, f, mc, fd, mg, rd, sm, hk, hf, hb⟩ := D.ex
  refine ⟨fun pins s σ H Q I h => ?_⟩
  obtain ⟨ρ, ε, S, ev, sr, h⟩ := h
  refine PySem.W.methodCall_KW (pl := pl _) (thn ((pe_glob (v := .ref C) (glob_of F hg) (by rw [F.mg]; exact mg) rfl hdb).run pins s σ H (fun v H1 => v = .ref C ∧ H1 = H) I ⟨rfl, rfl⟩) fun u s1 ⟨x', H1, I1, rx, ex, eh⟩ => ?_) (ht _)
  subst ex
  subst eh
  obtain rfl : u = Value.ref C := rx
  refine ClX.getmethsm_ok I1 (by rw [F.K]; exact rd) (by rw [F.K]; exact sm) fun s2 I2 => ?_
  refine PySem.W.callWith_K (h₀ := X.base) I2.ok.mod.kin (by rw [F.K]; exact hk) (thn ((ha X U F).run pos pins s2 σ _ _ I2 ⟨ρ, ε, S, ev, sr, Rg.bind h⟩) fun us s3 ⟨vs, H2, I3, r, ws, S1, ρ1, e1, s1', r1, h1⟩ => ⟨I3.kIn, ?_⟩) (hst _) (hpl _)
  have sp := call_sp h1 s1' r1
  exact run_G F hh hf hj (args := ⟨us, []⟩) I3 (binds0 hb (by rw [← F.K]; exact I3.kIn) (by rw [← r.length]; exact hf.len _ _ _ _ sp)) r sp
/-- what the text gives of a static method -/
structure Msta (G : Top) (x m qual : Str) (st : Stmt) : Prop where
  ex : ∃ (C p f : Addr) (mc : Value) (fd : FuncData), G.mg x = some (.ref C) ∧ ClX.CRead G.K C mc ∧ ClX.SMet G.K C mc m p f ∧ PySem.W.keepIn G.K (.ref f) = true ∧ FunX G.K m qual st f fd ∧ fd.defaults = .none
theorem smth_mk {x m qual : Str} {st : Stmt} {N ps : List Str} {n : Nat} {d : DS} (D : Msta G x m qual st) (S : FnScope N ps (defScope st)) (hn : ps.length = n) (hb : SsOk G ⟨N, defScope st, fun _ => true, none, true⟩ k (defBody st) d)
    (bind : ∀ (kV doc pm : Value) (an : Option Addr) (cdv ct : Value) (us : List Value), us.length = ps.length → bindArgs (PySem.W.fnOf m qual (defArgs st) (defBody st) (defScope st) .none kV doc pm an cdv ct) ⟨us, []⟩ = pure (ps.zip us)) : Smth G (k + 1) x m ps (dfn N.length n d) := by
  obtain ⟨C, p, f, mc, fd, h0, h1, h2, hk, F, hd⟩ := D.ex
  have hf := fn_ok F S hn hb
  obtain ⟨oc, od, dV, kV, doc, pm, an, cdv, ct, osl, rfl, lk, hcd⟩ := F.ex
  obtain rfl : dV = .none := hd
  exact ⟨C, p, f, mc, _, h0, h1, h2, hk, hf, .all (bind kV doc pm an cdv ct)⟩
/-- a static method, called by names -/
structure SmthK (G : Top) (k : Nat) (x m : Str) (ps : List Str) (d : List W → M W) (ks : List Str) (na : Nat) (dW : List W) (perm : List Nat) : Prop where
  ex : ∃ (C p f : Addr) (mc : Value) (fd : FuncData), G.mg x = some (.ref C) ∧ ClX.CRead G.K C mc ∧ ClX.SMet G.K C mc m p f ∧ PySem.W.keepIn G.K (.ref f) = true ∧ FnG G k f fd ps (spN G d) ∧ KB G.K fd ps ks na dW perm
theorem e_smethK0 {j : Nat} {x m : Str} {ps ks : List Str} {dW : List W} {perm : List Nat} {d : List W → M W} {kws : List Keyword} {b : DA} {p apos pos : Pos} {pl : Env → Sem Bool} (D : SmthK G j x m ps d ks 0 dW perm) (hj : j ≤ k) (hkw : KOk G c k kws b) (hg : c.sc.names.lookup x = some .globalImplicit := by rfl)
    (hdb : (x == ("__debug__" : Str)) = false := by decide)
    (hall : ∀ env, (backToKw pos (keywordEach kws env)).all (·.1.isSome) = true := by intro _; rfl) (hks : ∀ env, (backToKw pos (keywordEach kws env)).filterMap (·.1) = ks := by intro _; rfl)
    (hpl : ∀ env, ((backTo pos (starEach [] env)).any (·.1) || (backToKw pos (keywordEach kws env)).any (·.1.isNone)) = false := by intro _; rfl)
    (ht : ∀ env, eval (.Call (.Attribute (.Name x p) m apos) [] kws pos) env = (do
      let ov ← eval (.Name x p) env
      standAt apos.atName
      let (f, first) ← holding [ov] (getMethod ov m (pl env))
      callWith pos f first (backTo pos (starEach [] env)) (backToKw pos (keywordEach kws env))) := by intro _; rfl) (hh : c.hot = none := by rfl) :
    EOk G c k (.Call (.Attribute (.Name x p) m apos) [] kws pos) (dCallK d 0 ks.length dW perm aNil b) := fun X U F => by
  obtain ⟨C, q, f, mc, fd, mg, rd, sm, hk, hf, hb⟩ := D.ex
  refine ⟨fun pins s σ H Q I h => ?_⟩
  obtain ⟨ρ, ε, S, ev, sr, h⟩ := h
  refine PySem.W.methodCall_KW (pl := pl _) (thn ((pe_glob (v := .ref C) (glob_of F hg) (by rw [F.mg]; exact mg) rfl hdb).run pins s σ H (fun v H1 => v = .ref C ∧ H1 = H) I ⟨rfl, rfl⟩) fun u s1 ⟨x', H1, I1, rx, ex, eh⟩ => ?_) (ht _)
  subst ex
  subst eh
  obtain rfl : u = Value.ref C := rx
  refine ClX.getmethsm_ok I1 (by rw [F.K]; exact rd) (by rw [F.K]; exact sm) fun s2 I2 => ?_
  refine PySem.W.callWith_KW0 (h₀ := X.base) I2.ok.mod.kin (by rw [F.K]; exact hk) (hall _) ?_ (hpl _)
  have h' : Rg G U σ (VR G.K) ((b ε >>= fun us => fun S => if ([] : List W).length = 0 ∧ us.length = ks.length then (match permW perm ([] ++ us ++ dW) with | some zs => d zs S | none => .bad) else .bad) S) _ ρ Q := h
  refine thn ((hkw X U F).run pos pins s2 σ _ _ I2 ⟨ρ, ε, S, ev, sr, Rg.bind h'⟩) fun uz s3 ⟨zs, H2, I3, rz, us', S2, ρ2, e2, s2', r2, q2⟩ => ⟨I3.kIn, ?_⟩
  rw [hks]
  exact run_K F hh hf hj hb I3 s2' .nil r2 (vs := []) (uv := []) .nil rz q2
theorem smthK_mk {x m qual : Str} {st : Stmt} {N ps ks : List Str} {n na : Nat} {perm : List Nat} {d : DS} (D : Msta G x m qual st) (S : FnScope N ps (defScope st)) (hn : ps.length = n) (hb : SsOk G ⟨N, defScope st, fun _ => true, none, true⟩ k (defBody st) d)
    (bind : ∀ (kV doc pm : Value) (an : Option Addr) (cdv ct : Value) (us ws zs : List Value), us.length = na → ws.length = ks.length → permW perm (us ++ ws ++ []) = some zs → bindArgs (PySem.W.fnOf m qual (defArgs st) (defBody st) (defScope st) .none kV doc pm an cdv ct) ⟨us, ks.zip ws⟩ = pure (ps.zip zs)) : SmthK G (k + 1) x m ps (dfn N.length n d) ks na [] perm := by
  obtain ⟨C, p, f, mc, fd, h0, h1, h2, hk, F, hd⟩ := D.ex
  have hf := fn_ok F S hn hb
  obtain ⟨oc, od, dV, kV, doc, pm, an, cdv, ct, osl, rfl, lk, hcd⟩ := F.ex
  obtain rfl : dV = .none := hd
  exact ⟨C, p, f, mc, _, h0, h1, h2, hk, hf, ⟨[], [], fun _ _ => .nil, .nil, fun s us ws zs _ l1 l2 e => .of_eq (bind kV doc pm an cdv ct us ws zs l1 l2 e)⟩⟩
end
end N
/-! HC: try, and what an except suite does with its exception. -/
namespace N
open PySem PySem.Spec PyProof.Rows L2 L2H
open PyProof.Rows (envOfC)
noncomputable section
abbrev HotI := Addr × Nat × Option Addr
/-! ### defs called within an except suite -/
structure FnGH (G : Top) (h : HotI) (k : Nat) (f : Addr) (fd : FuncData) (ps : List Str) (sp : Sp) : Prop where
  len : ∀ vs H Q E, sp vs H Q E → vs.length = ps.length
  run : ∀ (oe : Obj) (A : Around) (outer : List Env) (s : Shared) (H : Hp) (args : Args) (us : List Value) (vs : List V) (Q : VK) (E : XK), RoomH k A → A.guards = some [] → Hot1 A (h.1, oe) → L2N.Zn (.ref (G.cl h.2.1)) h.2.2 oe → PinOk outer H s (h.1, oe) →
    Env0 G.P G.w G.K G.mg G.base A outer s H → BindsTo s fd args (ps.zip us) → Vals vs us → sp vs H Q E → codeAny (model G.P G.w) A (.call (.ref f) args) (CR (L2N.CX G.P G.w) outer G.P G.w H s Q E) s
theorem fnGH_of {G : Top} {h : HotI} {x qual : Str} {st : Stmt} {f : Addr} {fd : FuncData} {N ps : List Str} {k : Nat} {sp : Sp} (F : FunX G.K x qual st f fd) (S : FnScope N ps (defScope st)) (len : ∀ vs H Q E, sp vs H Q E → vs.length = ps.length)
    (hb : ∀ (oe : Obj) (cdv : Value) (A : Around) (outer : List Env) (s : Shared) (H : Hp) (vs : List V) (Q : VK) (E : XK), RoomH k (A.deeper (envOfC qual (defScope st) s.heap.objs.size f cdv)) → A.guards = some [] → Hot1 A (h.1, oe) → L2N.Zn (.ref (G.cl h.2.1)) h.2.2 oe → sp vs H Q E →
      ∃ t, PSs (cxH (L2N.CX G.P G.w) G.P G.w G.K G.mg G.base N qual (defScope st) f cdv A outer s H E (h.1, oe)) (defBody st) t ∧ t { nx := fun _ H' => Q .non H', rt := Q } (L2.start N vs) H) : FnGH G h (k + 1) f fd ps sp := by
  obtain ⟨oc, od, dV, kV, doc, pm, an, cdv, ct, osl, rfl, lk, hcd⟩ := F.ex
  refine ⟨len, fun oe A outer s H args us vs Q E hr hgd hot hz pin e0 bd r hs => ?_⟩
  have inK : G.K.In s.heap := e0.mod.kin.keeps fun b o e => (e0.bs b o e).1
  have lim : s.heap.NoLimit := e0.mod.nolimit.keeps fun b o e => (e0.bs b o e).1
  have kinds : ∀ y ∈ ps.zip us, (defScope st).names.lookup y.1 = some .local ∨ ((defScope st).names.lookup y.1 = some .cell ∧ ((cellsFrom (s.heap.objs.size + 1) (defScope st).names []).lookup y.1).isSome = true) := fun y hy =>
    (S.par y.1 (List.of_mem_zip hy).1).imp id fun q => ⟨q, PySem.W.cellsFrom_some _ _ _ (.inl q)⟩
  refine codeAny_call_function hr.depth (inK _ _ lk) rfl S.co S.gen rfl (PySem.W.codeRec_of inK hcd) (bd _ _ _ _ ?_)
  refine wpAny_newFunctionEnv_cells S.kind kinds fun env he s1 x => ?_
  subst he
  refine ⟨lim.keeps x.toInCall.keep, codeAny_func ?_⟩
  obtain ⟨t, ht, hq⟩ := hb oe cdv A outer s H vs Q E (hr.deeper _) hgd hot hz hs
  refine wpAny_mono (ht.run [] s1 _ H _ (inv_startH S pin e0 (len _ _ _ _ hs) r x) hq) (fun fl s' hs => ?_) fun e s' hs => hs
  cases fl with
  | ret u => obtain ⟨v, σ', H', J, rv, q⟩ := hs; exact ⟨v, H', J.os, J.bare, J.base, J.hok, rv, q⟩
  | next => obtain ⟨σ', H', J, q⟩ := hs; exact ⟨.non, H', J.os, J.bare, J.base, J.hok, rfl, q⟩
  | brk => obtain ⟨_, _, _, q⟩ := hs; exact q.elim
  | cont => obtain ⟨_, _, _, q⟩ := hs; exact q.elim
theorem fn_okH {G : Top} {h : HotI} {x qual : Str} {st : Stmt} {f : Addr} {fd : FuncData} {N ps : List Str} {k n : Nat} {d : DS} (F : FunX G.K x qual st f fd) (S : FnScope N ps (defScope st)) (hn : ps.length = n) (hb : SsOk G ⟨N, defScope st, fun _ => true, some h, true⟩ k (defBody st) d) :
    FnGH G h (k + 1) f fd ps (spN G (dfn N.length n d)) := by
  have len : ∀ vs H Q E, spN G (dfn N.length n d) vs H Q E → vs.length = n := fun vs H Q E ⟨ws, S, ρ, r, sr, h⟩ => by
    unfold dfn at h
    by_cases hl : ws.length = n
    · rw [← r.length]; exact hl
    · rw [if_neg hl] at h
      exact h.elim
  refine fnGH_of F S (fun vs H Q E h => (len vs H Q E h).trans hn.symm) fun oe cdv A outer s H vs Q E hr hgd hot hz h0 => ?_
  have fit : Fit G ⟨N, defScope st, fun _ => true, some h, true⟩ k (cxH (L2N.CX G.P G.w) G.P G.w G.K G.mg G.base N qual (defScope st) f cdv A outer s H E (h.1, oe)) (fun cls d _ H => E cls d H) := {
    P := rfl, w := rfl, K := rfl, mg := rfl, base := rfl, N := rfl, sc := rfl, nd := S.nd, calm := fun z => (nomatch z), fr := fun _ => ⟨rfl, rfl⟩, room := hr, gd := hgd, tk := L2N.takes_of rfl rfl rfl rfl, pass := passes_of rfl, fn := fun _ _ => rfl,
    hotp := fun a cl d e => by
      cases e
      exact ⟨oe, List.mem_cons_self, hot, hz⟩ }
  refine ⟨_, hb _ _ fit, ?_⟩
  have hl := len _ _ _ _ h0
  obtain ⟨ws, S0, ρ, r, sr, h1⟩ := h0
  have hw : ws.length = n := r.length.trans hl
  unfold dfn at h1
  rw [if_pos hw] at h1
  refine ⟨ρ, ws.map some ++ List.replicate (N.length - n) none, S0, ⟨?_, fun i w hi => ?_⟩, sr, ?_⟩
  · unfold L2.start
    simp [r.length, hl]
  · by_cases hlt : i < ws.length
    · rw [List.getElem?_append_left (by simpa using hlt), List.getElem?_map] at hi
      cases e : ws[i]? with
      | none => rw [e] at hi; cases hi
      | some w' =>
        rw [e] at hi
        cases hi
        obtain ⟨v, hv, rv⟩ := r.get e
        refine ⟨v, ?_, rv⟩
        unfold L2.start
        rw [List.getElem?_append_left (by rw [List.length_map, ← r.length]; exact hlt), List.getElem?_map, hv]
        rfl
    · rw [List.getElem?_append_right (by simpa using hlt), List.getElem?_replicate] at hi
      split at hi <;> cases hi
  · cases q : d (ws.map some ++ List.replicate (N.length - n) none) S0 with
    | nx ε S' => rw [q] at h1; exact fun H' ρ' σ' e s v => h1 H' ρ' .non e s .non
    | rt w S' => rw [q] at h1; exact fun H' ρ' v e s r => h1 H' ρ' v e s r
    | exc x ε S' => rw [q] at h1; exact fun H' ρ' σ' cls dd e s v xr => h1 H' ρ' cls dd e s xr
    | bk ε S' => rw [q] at h1; exact h1.elim
    | ct ε S' => rw [q] at h1; exact h1.elim
    | bad => rw [q] at h1; exact h1.elim
structure DefH (G : Top) (h : HotI) (k : Nat) (x : Str) (ps : List Str) (d : List W → M W) : Prop where
  ex : ∃ f fd, G.mg x = some (.ref f) ∧ PySem.W.keepIn G.K (.ref f) = true ∧ FnGH G h k f fd ps (spN G d) ∧ Binds G.K fd ps []
theorem defH_mk {G : Top} {h : HotI} {x : Str} {st : Stmt} {N ps : List Str} {k n : Nat} {d : DS} (D : Mdef G x st) (S : FnScope N ps (defScope st)) (hn : ps.length = n) (hb : SsOk G ⟨N, defScope st, fun _ => true, some h, true⟩ k (defBody st) d)
    (bind : ∀ (kV doc pm : Value) (an : Option Addr) (cdv ct : Value) (us : List Value), us.length = ps.length → bindArgs (PySem.W.fnOf x x (defArgs st) (defBody st) (defScope st) .none kV doc pm an cdv ct) ⟨us, []⟩ = pure (ps.zip us)) : DefH G h (k + 1) x ps (dfn N.length n d) := by
  obtain ⟨f, fd, h1, h2, F, hd⟩ := D.ex
  have hf := fn_okH F S hn hb
  obtain ⟨oc, od, dV, kV, doc, pm, an, cdv, ct, osl, rfl, lk, hcd⟩ := F.ex
  obtain rfl : dV = .none := hd
  exact ⟨f, _, h1, h2, hf, .all (bind kV doc pm an cdv ct)⟩
section
variable {G : Top} {c : Ctx} {k : Nat}
theorem e_callH {h : HotI} {j : Nat} {x : Str} {ps : List Str} {d : List W → M W} {e : Expr} {es : List Expr} {a : DA} {p pos : Pos} (D : DefH G h j x ps d) (hj : j ≤ k) (ha : AOk G c k (e :: es) a) (hg : c.sc.names.lookup x = some .globalImplicit := by rfl)
    (hdb : (x == ("__debug__" : Str)) = false := by decide) (he : ∀ env, starEach (e :: es) env = (false, eval e env) :: starEach es env := by intro _; rfl) (hpl : ∀ env, (backTo pos (starEach es env)).any (·.1) = false := by intro _; rfl) (hh : c.hot = some h := by rfl) : EOk G c k (.Call (.Name x p) (e :: es) [] pos) (dCall d a) := fun X U F => by
  obtain ⟨f, fd, hm, hk, hf, hb⟩ := D.ex
  refine ⟨fun pins s σ H Q I hq => ?_⟩
  obtain ⟨ρ, ε, S, ev, sr, hq⟩ := hq
  obtain ⟨oe, mem, hot, hz⟩ := F.hotp h.1 h.2.1 h.2.2 hh
  refine wpAny_Call_Name_kw (ld_glob I (glob_of F hg) (by rw [F.mg]; exact hm) ?_ hdb)
  refine PySem.W.callWith_K (h₀ := X.base) I.ok.mod.kin (by rw [F.K]; exact hk) (thn ((ha X U F).run pos pins s σ H _ I ⟨ρ, ε, S, ev, sr, Rg.bind hq⟩) fun us s1 ⟨vs, H1, I1, r, ws, S1, ρ1, e1, s1', r1, h1⟩ => ⟨I1.kIn, ?_⟩) (he _) (hpl _)
  have sp := call_sp h1 s1' r1
  have e0 := I1.env0
  rw [F.P, F.w, F.K, F.mg, F.base] at e0
  have P1 := I1.pin (h.1, oe) (List.mem_append_left _ mem)
  have pk : PinOk X.stack H1 s1 (h.1, oe) := ⟨P1.1, P1.2.1, fun hm => (List.mem_cons.mp (I1.stkSub h.1 hm)).elim P1.2.2.1 P1.2.2.2.1, P1.2.2.2.2⟩
  have z := hf.run oe X.A X.stack s1 H1 ⟨us, []⟩ us vs Q (fun cls dd H' => U cls dd σ H') (F.room.mono hj) F.gd hot hz pk e0 (binds0 hb (by rw [← F.K]; exact I1.kIn) (by rw [← r.length]; exact hf.len _ _ _ _ sp)) r sp
  rw [← F.P, ← F.w] at z
  refine wpAny_call (codeAny_mono z fun r s' hq => ?_)
  cases r with
  | error e => exact L2N.passAt F.tk σ pins H1 s1 e s' I1 hq
  | ok fl =>
    cases fl with
    | ret u => exact I1.after hq
    | next => exact False.elim hq
    | brk => exact False.elim hq
    | cont => exact False.elim hq
/-! ### y = [..] within an except suite -/
theorem Fit.blkP {X : Cx} {U : WX} (F : Fit G c k X U) {h : HotI} (hh : c.hot = some h) {oe : Obj} (hot : Hot1 X.A (h.1, oe)) (hz : L2N.Zn (.ref (G.cl h.2.1)) h.2.2 oe) (scope : Scope) (s : Shared) (H : Hp) (C : Addr) (cl : List (Str × Addr)) (fp : List Addr) :
    Fit G (blkCtx c scope) k (N.blkP X (h.1, oe) s H scope (compEnvC scope cl C X.env) fp) (fun _ _ _ _ => False) where
  P := F.P
  w := F.w
  K := F.K
  mg := F.mg
  base := F.base
  N := F.N
  sc := by
    show relS scope X.env.scope = relS scope c.sc
    rw [F.sc]
  nd := F.nd
  calm := fun z => by
    have z : c.hot = none := z
    rw [hh] at z
    cases z
  hotp := fun a cl d e => by
    have e : c.hot = some (a, cl, d) := e
    rw [hh] at e
    cases e
    exact ⟨oe, List.mem_cons_self, hot, hz⟩
  fr := fun z => Bool.noConfusion (show false = true from z)
  room := F.room
  gd := F.gd
  tk := takesN0
  pass := PassesOwn.never
  fn := fun x h => h
/-- the walked list as a source -/
def dSrcL (d : DE) : DI := fun ε => d ε >>= fun w => fun S => match w with
  | .ref n => match S[n]? with
    | some (.lst ws) => .ok ⟨ws, fun S' => S'[n]? = some (.lst ws)⟩ S
    | _ => .bad
  | _ => .bad
theorem srcL_imp {U : WX} {d : DE} {σ : L2.St} {H : Hp} {R : It → Hp → Prop} (h : tI G U (dSrcL d) σ H R) : iList G.K (tN G U d) σ H R := by
  obtain ⟨ρ, ε, S, ev, sr, h⟩ := h
  refine ⟨ρ, ε, S, ev, sr, (Rg.bind h).mono fun v H1 ⟨w, S1, ρ1, e1, s1, r1, h1⟩ => ?_⟩
  cases r1 with
  | @ref n a hn =>
    simp only at h1
    cases e : S1[n]? with
    | none => rw [e] at h1; exact h1.elim
    | some o =>
      rw [e] at h1
      cases o with
      | lst ws =>
        obtain ⟨vs, z, t⟩ := s1.ob n a _ hn e
        exact ⟨a, rfl, ⟨vs, .of z⟩, h1 H1 ρ1 _ Ext.refl s1 (good_list hn)⟩
      | dct _ => exact h1.elim
      | ins _ _ => exact h1.elim
      | fdct _ => exact h1.elim
  | _ => exact h1.elim
theorem s_lcH {h : HotI} (i : Nat) {y : Str} {py : Pos} {elt tg iter : Expr} {ifs : List Expr} {scope : Scope} (own : List (Str × Nat)) {pos spos : Pos} {d : DE} {t : DT} {cnd : DB} {el : DE} (hi : EOk G c k iter d) (hg : GWk G (blkCtx c scope) k (own.map (·.2)) tg t) (hc : CsOk G (blkCtx c scope) k ifs cnd) (he : EOk G (blkCtx c scope) k elt el)
    (hy : c.N[i]? = some y := by rfl) (hyl : c.sc.names.lookup y = some .local := by rfl) (hk : c.sc.kind = .function := by rfl) (hl : (py.line == pos.line) = true := by decide) (ha : (scope.names.any fun (n, k) => n == y && (k == .local || k == .cell)) = false := by decide +kernel)
    (ok : blkC c.N c.sc scope own = true := by first | decide +kernel | (dsimp only; decide +kernel)) (hs : ∀ env x, foldedSetIterable iter env x = pure x := by intro _ _; rfl) (hh : c.hot = some h := by rfl) : SOk G c k (.Assign [.Name y py] (.ListComp elt [⟨tg, iter, ifs, 0⟩] scope pos) spos) (dSet i (dLc (dSrcL d) t cnd el (own.map (·.2)))) := fun X U F => by
  obtain ⟨oe, mem, hot, hz⟩ := F.hotp h.1 h.2.1 h.2.2 hh
  refine PS.imp (ps_setLcH (i := i) hot mem F.nd (by rw [F.N]; exact hy) (by rw [F.sc]; exact hyl) (sw_true (by rw [F.sc]; exact hk) (by rw [F.sc]; exact hyl) hl ha) (hi X U F) (by rw [F.N, F.sc]; exact blkOk_by ok)
    (fun s H C cl fp => hg _ _ (F.blkP hh hot hz scope s H C cl fp)) (fun s H C cl fp => hc _ _ (F.blkP hh hot hz scope s H C cl fp)) (fun s H C cl fp => he _ _ (F.blkP hh hot hz scope s H C cl fp)) (hs _)) fun D σ H ⟨ρ, ε, S, ev, sr, h1⟩ => ?_
  have z : tLc (tI G U (dSrcL d)) (gW G (own.map (·.2)) t) (tB G U0 cnd) (tN G U0 el) (own.map (·.2)) σ H (fun v H' => D.nx (σ.set i (some v)) H') := lc_imp ⟨ρ, ε, S, ev, sr, (Rg_sBind ev h1).mono fun v H' ⟨w, S', ρ', e', s', r', q⟩ => q H' ρ' _ Ext.refl s' ((ev.mono e').set i r')⟩
  have z2 := srcL_imp z
  rw [← F.K] at z2
  exact z2
end
end
end N
/-! HD: try with several clauses, named or not; isinstance and fields of the handled exception. -/
namespace N
open PySem PySem.Spec PyProof.Rows L2 L2H
open PyProof.Rows (envOfC)
noncomputable section
/-! ### the raw rule -/
abbrev Clause := Value × Option Nat × (Addr → Value → Option Addr → TS)
def gone (i : Option Nat) (σ : L2.St) : L2.St := match i with
  | some i => σ.set i none
  | none => σ
def bound (i : Option Nat) (a : Addr) (σ : L2.St) : L2.St := match i with
  | some i => σ.set i (some (.ref a))
  | none => σ
def wAll (K : PySem.W.Frag) (Wo : WX) (D : Ends) : List Clause → WX
  | [] => Wo
  | (c, i, ts) :: r => fun cls d σ H => ∃ b, PySem.W.exmOne K cls c = some b ∧ (b = true → ∀ a, H a = none → ts a cls d { nx := fun σ' H' => D.nx (gone i σ') H', rt := D.rt, bk := fun σ' H' => D.bk (gone i σ') H', ct := fun σ' H' => D.ct (gone i σ') H' } (bound i a σ) H) ∧
    (b = false → wAll K Wo D r cls d σ H)
inductive HdsA (X : Cx) : List ExceptHandler → List Clause → Prop
  | nil : HdsA X [] []
  | bare {x : Str} {c : Value} {ts : Addr → Value → Option Addr → TS} {s0 : Stmt} {ss : List Stmt} {np hp : Pos} {hds : List ExceptHandler} {l : List Clause} : Names X x c → (∀ a oe cls d pn, L2N.Zn cls d oe → (∃ vs, oe.data = .fields vs) → PSs (X.suite a ((a, oe) :: pn)) (s0 :: ss) (ts a cls d)) → HdsA X hds l →
      HdsA X (.ExceptHandler (some (.Name x np)) none (s0 :: ss) hp :: hds) ((c, none, ts) :: l)
  | as {x n : Str} {c : Value} {i : Nat} {ts : Addr → Value → Option Addr → TS} {s0 : Stmt} {ss : List Stmt} {np hp : Pos} {hds : List ExceptHandler} {l : List Clause} : X.N[i]? = some n → X.env.kindOf n = some .local → Names X x c →
      (∀ a oe cls d pn, L2N.Zn cls d oe → (∃ vs, oe.data = .fields vs) → PSs (X.suite a ((a, oe) :: pn)) (s0 :: ss) (ts a cls d)) → HdsA X hds l → HdsA X (.ExceptHandler (some (.Name x np)) (some n) (s0 :: ss) hp :: hds) ((c, some i, ts) :: l)
section
variable {X : Cx}
theorem names_ev {pins : List (Addr × Obj)} {σ : L2.St} {H : Hp} {s : Shared} {x : Str} {c : Value} {np : Pos} (hc : Names X x c) {Y : Cx} (ey : Y.env = X.env) (em : Y.mg = X.mg) (J : Inv Y pins σ H s) {Q : Value → Shared → Prop} {E : Value → Shared → Prop} (q : Q c s) : wpAny (model Y.prog Y.w) Y.A (eval (.Name x np) X.env) Q E s := by
  obtain ⟨hg, hd, hm⟩ := hc
  have hg' : Gl Y x := by
    show Y.env.scope.names.lookup x = _
    rw [ey]; exact hg
  rw [← ey]
  rcases hm with hm | ⟨hm, hv, hn⟩
  · exact ld_glob J hg' (by rw [em]; exact hm) q hd
  · exact ld_blt J hg' (by rw [em]; exact hm) hv q hn hd
theorem ps_tryA {body : List Stmt} {h0 : ExceptHandler} {hds : List ExceptHandler} {l : List Clause} {pos : Pos} {tb : WX → TS} {Wo : WX} (stk : X.stack = X.env :: X.outer) (frm : X.env.frame = some X.env.locals) (nd : X.N.Nodup) (tk : L2N.Takes X Wo)
    (hb : ∀ (W : WX) (pn : List (Addr × Obj)) (xe : Value → Shared → Prop), L2N.Takes (X.tr pn xe) W → PassesOwn (model X.prog X.w) X.A X.env xe → PSs (X.tr pn xe) body (tb W)) (hh : HdsA X (h0 :: hds) l) :
    PS X (.Try body (h0 :: hds) [] [] pos) (fun D σ H => tb (wAll X.K Wo D l) D σ H) := by
  refine ⟨fun pins s σ H D I wish => ?_⟩
  have okX := I.ok
  have fm : X.A.frames = some (X.env :: X.outer) := okX.frames.trans (by rw [stk])
  refine wpAny_Try_except (wpAny_mono ((hb (wAll X.K Wo D l) (X.pn ++ pins) (fun e s1 => wpAny (model X.prog X.w) X.A (noteFrame e X.env) (fun _ s2 => wpAny (model X.prog X.w) X.A (setFlight e none) (fun _ s3 =>
    wpAny (model X.prog X.w) X.A (handleBy e X.env (h0 :: hds)) (SP X pins D) X.xe s3) X.xe s2) X.xe s1) (fun u t air => ?_) PassesOwn.looking).run [] s σ H D (I.toTry _) wish) (fun fl t end1 => ?_) fun e t z => z)
  · obtain ⟨a, base, sI, pinsI, σa, Ha, cls, d, rfl, Ja, out, slots, sky, fresh, same, bare, due⟩ := air
    have J : Inv X pins σa Ha sI := Ja.ofTry okX
    rw [stk] at sky
    show wpAny _ X.A (noteFrame (.ref a) X.env) _ _ t
    refine L2N.Sky.land L2N.Zn.steady fm frm sky fun g3 fly up3 => ?_
    have J3 : Inv X pins σa Ha { t with heap := g3 } := J.landed out fly.1 (slots.trans up3) same bare
    obtain ⟨o3, f3, at3, z3, d3⟩ := fly.there
    have off : a ∉ frs (X.env :: X.outer) := fun hm => by
      obtain ⟨_, o', at', no⟩ := fly.2.2.1.mem hm
      rw [at3] at at'
      cases at'
      exact no _ d3
    have offL : a ≠ X.env.locals := fun z => off (List.mem_filterMap.mpr ⟨X.env, List.mem_cons_self, by rw [frm, z]⟩)
    have offF : a ∉ X.fs := fun hm => by
      obtain ⟨e, he, q⟩ := List.mem_filterMap.mp hm
      exact off (List.mem_filterMap.mpr ⟨e, List.mem_cons_of_mem _ he, q⟩)
    have S3 := J3.suite at3 d3 fresh offL offF
    have ty : PySem.W.Looks (model X.prog X.w) g3 (typeOf (.ref a)) cls := fun A Q E s1 keep q => wpAny_typeOf_ref (keep _ _ at3) (by rw [z3.1]; exact q)
    clear hb wish
    revert due
    generalize h0 :: hds = hs0 at hh
    induction hh with
    | nil =>
      intro due
      refine wpAny_handleBy_nil ?_
      obtain ⟨_, _, _, oe, vs, T, oT, tr, he, hz, hd, h1, hr⟩ := id fly
      unfold PySem.passOn
      refine wpAny_bind (wpAny_field he hd h1 ?_)
      rw [if_neg (fun z => by cases z)]
      have last : wpAny (model X.prog X.w) X.A (setFlight (.ref a) X.env.frame) (fun _ s4 => wpAny (model X.prog X.w) X.A (throw (.ref a) : Sem Flow) (SP X pins D) X.xe s4) X.xe { t with heap := g3 } := by
        rw [frm]
        exact HandSPX.setFlight_upZ fly fun g4 held up4 => wpAny_throw (tk _ _ ⟨a, base, sI, pins, σa, Ha, cls, d, rfl, J, out, (slots.trans up3).trans up4, .inr (.inr (by rw [stk]; exact held)), fresh, same, bare, due⟩)
      first
        | exact wpAny_bind (wpAny_pure (wpAny_bind last))
        | exact wpAny_bind last
    | @bare x c ts s0 ss np hp hds2 l2 hc hsu r ih =>
      rintro ⟨b, yes, run, next⟩
      refine wpAny_handleBy_cons (codeAny_handlers_test ?_) (by intro q; cases q)
      refine names_ev hc (Y := X.suite a ((a, o3) :: (X.pn ++ pins))) rfl rfl S3 ((PySem.W.exm_one J3.kIn ty yes).here ?_)
      cases b with
      | false => exact ih (next rfl)
      | true =>
        refine codeAny_handlers_suite (HandSPX.lands_againZ fly fun g4 fly4 up4 => ?_)
        have J4 : Inv X pins σa Ha { t with heap := g4 } := J.landed out fly4.1 ((slots.trans up3).trans up4) same bare
        obtain ⟨o4, f4, at4, z4, d4⟩ := fly4.there
        refine wpAny_mono ((hsu a o4 cls d (X.pn ++ pins) z4 ⟨_, d4⟩).run [] _ _ Ha _ (J4.suite at4 d4 fresh offL offF) (run rfl a fresh)) (fun fl s6 e6 => ?_) fun _ _ z => z.elim
        cases fl with
        | next => exact let ⟨σ6, H6, S6, q6⟩ := e6; ⟨_, _, S6.unsuite okX, q6⟩
        | brk => exact let ⟨σ6, H6, S6, q6⟩ := e6; ⟨_, _, S6.unsuite okX, q6⟩
        | cont => exact let ⟨σ6, H6, S6, q6⟩ := e6; ⟨_, _, S6.unsuite okX, q6⟩
        | ret u => exact let ⟨v6, σ6, H6, S6, r6, q6⟩ := e6; ⟨_, _, _, S6.unsuite okX, r6, q6⟩
    | @as x n c i ts s0 ss np hp hds2 l2 hi hln hc hsu r ih =>
      rintro ⟨b, yes, run, next⟩
      refine wpAny_handleBy_cons (codeAny_handlers_test ?_) (by intro q; cases q)
      refine names_ev hc (Y := X.suite a ((a, o3) :: (X.pn ++ pins))) rfl rfl S3 ((PySem.W.exm_one J3.kIn ty yes).here ?_)
      cases b with
      | false => exact ih (next rfl)
      | true =>
        refine codeAny_handlers_suite_as (HandSPX.lands_againZ fly fun g4 fly4 up4 => ?_)
        have J4 : Inv X pins σa Ha { t with heap := g4 } := J.landed out fly4.1 ((slots.trans up3).trans up4) same bare
        obtain ⟨o4, f4, at4, z4, d4⟩ := fly4.there
        refine store_ok (X := X.suite a ((a, o4) :: (X.pn ++ pins))) (v := .ref a) (J4.suite at4 d4 fresh offL offF) nd hi (.inl hln) rfl (fun s5 S5 => ?_) (.inr hln)
        refine wpAny_mono ((hsu a o4 cls d (X.pn ++ pins) z4 ⟨_, d4⟩).run [] s5 _ Ha _ S5 (run rfl a fresh)) (fun fl s6 e6 => ?_) fun _ _ z => z.elim
        have off6 : ∀ {σ6 : L2.St} {H6 : Hp} {Q : Shared → Prop}, Inv (X.suite a ((a, o4) :: (X.pn ++ pins))) [] σ6 H6 s6 → (∀ s7, Inv X pins (σ6.set i none) H6 s7 → Q s7) → wpAny (model X.prog X.w) X.A (do bindName X.env n .none; unbindBehindTheSuite X.env n hp) (fun _ s7 => Q s7) X.xe s6 :=
          fun S6 hq => gone_ok (S6.unsuite okX) nd hi hln hq
        cases fl with
        | next => exact let ⟨σ6, H6, S6, q6⟩ := e6; off6 S6 fun s7 J7 => ⟨_, _, J7, q6⟩
        | brk => exact let ⟨σ6, H6, S6, q6⟩ := e6; off6 S6 fun s7 J7 => ⟨_, _, J7, q6⟩
        | cont => exact let ⟨σ6, H6, S6, q6⟩ := e6; off6 S6 fun s7 J7 => ⟨_, _, J7, q6⟩
        | ret u => exact let ⟨v6, σ6, H6, S6, r6, q6⟩ := e6; off6 S6 fun s7 J7 => ⟨_, _, _, J7, r6, q6⟩
  · cases fl with
    | next => exact let ⟨σ1, H1, J1, q⟩ := end1; wpAny_execs_nil ⟨σ1, H1, J1.ofTry okX, q⟩
    | brk => exact let ⟨σ1, H1, J1, q⟩ := end1; ⟨σ1, H1, J1.ofTry okX, q⟩
    | cont => exact let ⟨σ1, H1, J1, q⟩ := end1; ⟨σ1, H1, J1.ofTry okX, q⟩
    | ret u => exact let ⟨v, σ1, H1, J1, r, q⟩ := end1; ⟨v, σ1, H1, J1.ofTry okX, r, q⟩
end
end
end N
/-! HE: try over the store; isinstance of the handled exception, its fields. -/
namespace N
open PySem PySem.Spec PyProof.Rows L2 L2H
noncomputable section
/-! ### try -/
def exnW (a d : Addr) (x : Ex) : W := match x.own with
  | none => .exn a none [] []
  | some fs => .exn a (some d) (fs.map (·.1)) (fs.map (·.2))
def hotI (a d : Addr) (x : Ex) : HotI := (a, x.cls, x.own.map fun _ => d)
structure NClause where
  tb : Nat → Option Bool
  slot : Option Nat
  run : HotI → DS
def boundE (i : Option Nat) (w : W) (ε : Ev) : Ev := match i with
  | some i => ε.set i (some w)
  | none => ε
def goneE (i : Option Nat) (ε : Ev) : Ev := match i with
  | some i => ε.set i none
  | none => ε
def unb (i : Option Nat) : RS → RS
  | .nx ε S => .nx (goneE i ε) S
  | .bk ε S => .bk (goneE i ε) S
  | .ct ε S => .ct (goneE i ε) S
  | .rt w S => .rt w S
  | .exc _ _ _ => .bad
  | .bad => .bad
open Classical in
/-- what does not lean on the places -/
def uni (f : Addr → Addr → RS) : RS := if ∀ a d, f a d = f 0 0 then f 0 0 else .bad
def catchN : List NClause → Ex → DS
  | [], x => fun ε S => .exc x ε S
  | c :: r, x => fun ε S => match c.tb x.cls with
    | some true => uni fun a d => unb c.slot (c.run (hotI a d x) (boundE c.slot (exnW a d x) ε) S)
    | some false => catchN r x ε S
    | none => .bad
def dTry (cs : List NClause) (body : DS) : DS := fun ε S => match body ε S with
  | .exc x ε' S' => catchN cs x ε' S'
  | r => r
structure Xnm (G : Top) (c : Ctx) (x : Str) (cv : Value) (tb : Nat → Option Bool) : Prop where
  g : c.sc.names.lookup x = some .globalImplicit
  d : (x == ("__debug__" : Str)) = false
  m : G.mg x = some cv ∨ (G.mg x = none ∧ bootBuiltins x = some cv ∧ x ≠ "__name__")
  em : ∀ n b, tb n = some b → PySem.W.exmOne G.K (.ref (G.cl n)) cv = some b
inductive ClOk (G : Top) (c : Ctx) (k : Nat) : List ExceptHandler → List NClause → Prop
  | nil : ClOk G c k [] []
  | bare {x : Str} {cv : Value} {tb : Nat → Option Bool} {run : HotI → DS} {s0 : Stmt} {ss : List Stmt} {np hp : Pos} {hds : List ExceptHandler} {l : List NClause} : Xnm G c x cv tb → (∀ h, SsOk G ⟨c.N, c.sc, c.fn, some h, c.top⟩ k (s0 :: ss) (run h)) → ClOk G c k hds l →
      ClOk G c k (.ExceptHandler (some (.Name x np)) none (s0 :: ss) hp :: hds) (⟨tb, none, run⟩ :: l)
  | as {x n : Str} {cv : Value} {i : Nat} {tb : Nat → Option Bool} {run : HotI → DS} {s0 : Stmt} {ss : List Stmt} {np hp : Pos} {hds : List ExceptHandler} {l : List NClause} : c.N[i]? = some n → c.sc.names.lookup n = some .local → Xnm G c x cv tb →
      (∀ h, SsOk G ⟨c.N, c.sc, c.fn, some h, c.top⟩ k (s0 :: ss) (run h)) → ClOk G c k hds l → ClOk G c k (.ExceptHandler (some (.Name x np)) (some n) (s0 :: ss) hp :: hds) (⟨tb, some i, run⟩ :: l)
section
variable {G : Top} {c : Ctx} {k : Nat}
theorem Fit.suite {X : Cx} {U : WX} (F : Fit G c k X U) {h : HotI} {oe : Obj} {pn : List (Addr × Obj)} (hz : L2N.Zn (.ref (G.cl h.2.1)) h.2.2 oe) (hv : ∃ vs, oe.data = .fields vs) : Fit G ⟨c.N, c.sc, c.fn, some h, c.top⟩ k (X.suite h.1 ((h.1, oe) :: pn)) U0 where
  P := F.P
  w := F.w
  K := F.K
  mg := F.mg
  base := F.base
  N := F.N
  sc := F.sc
  nd := F.nd
  calm := fun z => (nomatch z)
  hotp := fun a cl d e => by
    cases e
    obtain ⟨vs, hv⟩ := hv
    exact ⟨oe, List.mem_cons_self, ⟨rfl, vs, hv, hz.2.2 vs hv⟩, hz⟩
  fr := F.fr
  room := ⟨F.room.dp, F.room.un⟩
  gd := F.gd
  tk := takesN0
  pass := PassesOwn.never
  fn := F.fn
theorem Fit.try {X : Cx} {U : WX} (F : Fit G c k X U) (hh : c.hot = none) {W : WX} {pn : List (Addr × Obj)} {xe : Value → Shared → Prop} (tk : L2N.Takes (X.tr pn xe) W) (ps : PassesOwn (model X.prog X.w) X.A X.env xe) : Fit G c k (X.tr pn xe) W where
  P := F.P
  w := F.w
  K := F.K
  mg := F.mg
  base := F.base
  N := F.N
  sc := F.sc
  nd := F.nd
  calm := F.calm
  hotp := fun a cl d e => by
    rw [hh] at e
    cases e
  fr := F.fr
  room := F.room
  gd := F.gd
  tk := tk
  pass := ps
  fn := F.fn
/-- what a clause's suite wishes, at the raw level -/
def tsN (G : Top) (run : HotI → DS) (a : Addr) (cls : Value) (d : Option Addr) : TS := fun D σ H => ∃ h : HotI, h.1 = a ∧ cls = .ref (G.cl h.2.1) ∧ h.2.2 = d ∧ tS G U0 (run h) D σ H
theorem suite_ok {X : Cx} {U : WX} (F : Fit G c k X U) {st : List Stmt} {run : HotI → DS} (hs : ∀ h, SsOk G ⟨c.N, c.sc, c.fn, some h, c.top⟩ k st (run h)) {a : Addr} {oe : Obj} {cls : Value} {d : Option Addr} {pn : List (Addr × Obj)} (hz : L2N.Zn cls d oe) (hv : ∃ vs, oe.data = .fields vs) :
    PSs (X.suite a ((a, oe) :: pn)) st (tsN G run a cls d) := ⟨fun pins s σ H D I q => by
  obtain ⟨h, rfl, rfl, rfl, q⟩ := q
  exact (hs h _ _ (F.suite hz hv)).run pins s σ H D I q⟩
inductive RawOf (G : Top) : List NClause → List Clause → Prop
  | nil : RawOf G [] []
  | cons {cv : Value} {tb : Nat → Option Bool} {i : Option Nat} {run : HotI → DS} {l : List NClause} {r : List Clause} : (∀ n b, tb n = some b → PySem.W.exmOne G.K (.ref (G.cl n)) cv = some b) → RawOf G l r → RawOf G (⟨tb, i, run⟩ :: l) ((cv, i, tsN G run) :: r)
theorem raw_of {X : Cx} {U : WX} (F : Fit G c k X U) : ∀ {hds : List ExceptHandler} {l : List NClause}, ClOk G c k hds l → ∃ r, HdsA X hds r ∧ RawOf G l r
  | _, _, .nil => ⟨[], .nil, .nil⟩
  | _, _, .bare hx hs t => by
    obtain ⟨r, h1, h2⟩ := raw_of F t
    exact ⟨_, .bare ⟨glob_of F hx.g, hx.d, by rw [F.mg]; exact hx.m⟩ (fun a oe cls d pn hz hv => suite_ok F hs hz hv) h1, .cons hx.em h2⟩
  | _, _, .as hi hl hx hs t => by
    obtain ⟨r, h1, h2⟩ := raw_of F t
    refine ⟨_, .as (by rw [F.N]; exact hi) ?_ ⟨glob_of F hx.g, hx.d, by rw [F.mg]; exact hx.m⟩ (fun a oe cls d pn hz hv => suite_ok F hs hz hv) h1, .cons hx.em h2⟩
    show X.env.scope.names.lookup _ = _
    rw [F.sc]
    exact hl
theorem EvR.gone {K : PySem.W.Frag} {H : Hp} {ρ : List Addr} {ε : Ev} {σ : L2.St} (s : EvR K H ρ ε σ) (i : Option Nat) : EvR K H ρ (goneE i ε) (N.gone i σ) := by
  cases i with
  | none => exact s
  | some i =>
    refine ⟨by show (ε.set i none).length = (σ.set i none).length; simp [s.len], fun j w h => ?_⟩
    have h : (ε.set i none)[j]? = some (some w) := h
    by_cases hj : i = j
    · subst hj
      rw [List.getElem?_set] at h
      simp at h
    · rw [List.getElem?_set_ne hj] at h
      obtain ⟨v, h1, h2⟩ := s.at_ j w h
      refine ⟨v, ?_, h2⟩
      show (σ.set i none)[j]? = _
      rw [List.getElem?_set_ne hj]
      exact h1
theorem FR.snds {K : PySem.W.Frag} {H : Hp} {ρ : List Addr} : ∀ {fs : List (Str × W)} {l : List (Str × V)}, FR K H ρ fs l → l.map (·.1) = fs.map (·.1) ∧ VRs K H ρ (fs.map (·.2)) (l.map (·.2))
  | _, _, .nil => ⟨rfl, .nil⟩
  | _, _, .cons r t => by
    obtain ⟨h1, h2⟩ := FR.snds t
    exact ⟨by rw [List.map_cons, List.map_cons, h1, r.1], .cons r.2 h2⟩
theorem catch_ok {U : WX} {D : Ends} : ∀ {l : List NClause} {r : List Clause}, RawOf G l r → ∀ (x : Ex) (ε : Ev) (S : Store) (H H1 : Hp) (ρ ρ1 : List Addr) (σ : L2.St) (cls : Value) (dd : Option Addr), wpS (catchN l x ε S) (nE G U D H ρ) → Ext G.K H ρ H1 ρ1 → SR G H1 ρ1 S → EvR G.K H1 ρ1 ε σ → XR G H1 ρ1 x cls dd → wAll G.K U D r cls dd σ H1
  | _, _, .nil => fun _ _ _ _ _ _ _ _ _ _ h e s v xr => h _ _ _ _ _ e s v xr
  | _, _, .cons (tb := tb) (i := i) (run := run) em t => fun x ε S H H1 ρ ρ1 σ cls dd h e s v xr => by
    obtain ⟨rfl, own⟩ := xr
    unfold catchN at h
    simp only at h
    cases hb : tb x.cls with
    | none => rw [hb] at h; exact h.elim
    | some b =>
      refine ⟨b, em _ _ hb, fun e1 a ha => ?_, fun e1 => ?_⟩
      · subst e1
        rw [hb] at h
        simp only at h
        unfold uni at h
        split at h
        case isFalse => exact h.elim
        rename_i same
        have pick : ∃ d0 : Addr, x.own.map (fun _ => d0) = dd ∧ VR G.K H1 ρ1 (exnW a d0 x) (.ref a) := by
          unfold exnW
          cases ho : x.own with
          | none =>
            rw [ho] at own
            exact ⟨0, own.symm, .exn0⟩
          | some fs =>
            rw [ho] at own
            obtain ⟨d, l, rfl, hd, fr⟩ := own
            obtain ⟨f1, f2⟩ := FR.snds fr
            exact ⟨d, rfl, .exnD hd f1 rfl f2⟩
        obtain ⟨d0, hd0, vr⟩ := pick
        rw [← same a d0] at h
        have h : wpS (unb i (run (hotI a d0 x) (boundE i (exnW a d0 x) ε) S)) (nE G U D H ρ) := h
        refine ⟨hotI a d0 x, rfl, rfl, hd0, ρ1, boundE i (exnW a d0 x) ε, S, ?_, s, ?_⟩
        · cases i with
          | none => exact v
          | some i => exact v.set i vr
        · cases q : run (hotI a d0 x) (boundE i (exnW a d0 x) ε) S with
          | nx ε2 S2 => rw [q] at h; exact fun H2 ρ2 σ2 e2 s2 v2 => h H2 ρ2 _ (e.trans e2) s2 (v2.gone i)
          | bk ε2 S2 => rw [q] at h; exact fun H2 ρ2 σ2 e2 s2 v2 => h H2 ρ2 _ (e.trans e2) s2 (v2.gone i)
          | ct ε2 S2 => rw [q] at h; exact fun H2 ρ2 σ2 e2 s2 v2 => h H2 ρ2 _ (e.trans e2) s2 (v2.gone i)
          | rt w S2 => rw [q] at h; exact fun H2 ρ2 v2 e2 s2 r2 => h H2 ρ2 v2 (e.trans e2) s2 r2
          | exc x2 ε2 S2 => rw [q] at h; exact h.elim
          | bad => rw [q] at h; exact h.elim
      · subst e1
        rw [hb] at h
        exact catch_ok t _ _ _ _ _ _ _ _ _ _ h e s v ⟨rfl, own⟩
theorem s_try {body : List Stmt} {h0 : ExceptHandler} {hds : List ExceptHandler} {cs : List NClause} {d : DS} {pos : Pos} (hb : SsOk G c k body d) (hc : ClOk G c k (h0 :: hds) cs) (hh : c.hot = none := by rfl) (ht : c.top = true := by rfl) : SOk G c k (.Try body (h0 :: hds) [] [] pos) (dTry cs d) := fun X U F => by
  obtain ⟨r, h1, h2⟩ := raw_of F hc
  refine PS.imp (ps_tryA (tb := fun W => tS G W d) (F.fr ht).1 (F.fr ht).2 F.nd F.tk (fun W pn xe tk ps => hb _ _ (F.try hh tk ps)) h1) fun D σ H ⟨ρ, ε, S, ev, sr, h⟩ => ⟨ρ, ε, S, ev, sr, ?_⟩
  unfold dTry at h
  cases q : d ε S with
  | exc x ε2 S2 =>
    rw [q] at h
    intro H' ρ' σ' cls dd e s v xr
    rw [F.K]
    exact catch_ok h2 _ _ _ _ _ _ _ _ _ _ h e s v xr
  | nx ε2 S2 => rw [q] at h; exact h
  | bk ε2 S2 => rw [q] at h; exact h
  | ct ε2 S2 => rw [q] at h; exact h
  | rt w S2 => rw [q] at h; exact h
  | bad => rw [q] at h; exact h
/-! ### the handled exception's class and fields -/
structure XcI (G : Top) (n : Nat) : Prop where
  cl : (PySem.W.clsIn G.K (G.cl n)).isSome = true
  ga : PySem.W.findIn G.K (.ref (G.cl n)) "__getattribute__" = some (some (.builtin "BaseException.__getattribute__"))
  gt : PySem.W.findIn G.K (.ref (G.cl n)) "__getattr__" = some none
  sb : PySem.W.subIn G.K (.ref (G.cl n)) (.type "BaseException") = some true
  ha : PySem.W.findIn G.K (.ref (G.cl n)) "__class__" = some (some (.builtin "object.__class__"))
  hn : PySem.W.specialIn G.K (.builtin "object.__class__") "__get__" = some (some (.builtin "getset_descriptor.__get__"))
  tk : PySem.W.takesIn G.K (.builtin "object.__class__") = some true
  ob : PySem.W.mroIn G.K (G.cl n) (.type "object") = some true
  dc : PySem.W.hasDictIn G.K (G.cl n) = true
def XDict (H : Hp) : Option Addr → Prop
  | none => True
  | some d => ∃ l, H d = some (.xd l)
theorem inst_at {X : Cx} {pins : List (Addr × Obj)} {σ : L2.St} {H : Hp} {s : Shared} (I : Inv X pins σ H s) {h : HotI} {oe : Obj} (mem : (h.1, oe) ∈ X.pn) (hot : Hot1 X.A (h.1, oe)) (hz : L2N.Zn (.ref (G.cl h.2.1)) h.2.2 oe) (hd : XDict H h.2.2) : ∃ od, PySem.W.InstAt s.heap h.1 oe (G.cl h.2.1) od := by
  obtain ⟨_, vs, hv, _⟩ := hot
  have hv : oe.data = .fields vs := hv
  have at_ := (I.pin (h.1, oe) (List.mem_append_left _ mem)).1
  have nc : PySem.W.notCls oe = true := by
    unfold PySem.W.notCls
    rw [hv]
  cases q : h.2.2 with
  | none => exact ⟨none, at_, hz.1, nc, by rw [hz.2.1, q]; trivial⟩
  | some d =>
    rw [q] at hd
    obtain ⟨l, hl⟩ := hd
    have hx : ObjOk X.prog X.w H s.heap d (.xd l) := I.hok d _ hl
    obtain ⟨mA, hns, hr⟩ := hx
    obtain ⟨od, ho, _⟩ := lookIn_ns hns
    exact ⟨some od, at_, hz.1, nc, by rw [hz.2.1, q]; exact ho⟩
theorem kitx_of {n : Nat} (T : XcI G n) {x : Addr} {ox : Obj} {od : Option Obj} : PySem.W.KitX G.K (.ref x) (.ref (G.cl n)) (fun h => PySem.W.InstAt h x ox (G.cl n) od) := PySem.W.kitx_exc T.cl T.ga T.gt T.sb T.ha T.hn T.tk T.ob
/-- a class that isinstance is asked with -/
structure XcT (G : Top) (c : Ctx) (x : Str) (v : V) (cv : Value) (tb : Nat → Option Bool) : Prop where
  g : c.sc.names.lookup x = some .globalImplicit
  d : (x == ("__debug__" : Str)) = false
  m : G.mg x = some cv ∨ (G.mg x = none ∧ bootBuiltins x = some cv ∧ x ≠ "__name__")
  rel : RelV v cv
  un : ∀ u, RelV v u → u = cv
  is : ∀ n b, tb n = some b → XcI G n ∧ PySem.W.kitOne G.K (.ref (G.cl n)) cv = some b
theorem XcT.pe {x : Str} {v : V} {cv : Value} {tb : Nat → Option Bool} {p : Pos} (T : XcT G c x v cv tb) {X : Cx} {U : WX} (F : Fit G c k X U) : PE X (.Name x p) (tC v) := by
  rcases T.m with m | ⟨m, hv, hn⟩
  · exact pe_glob (glob_of F T.g) (by rw [F.mg]; exact m) T.rel T.d
  · exact pe_bltn (glob_of F T.g) (by rw [F.mg]; exact m) hv T.rel hn T.d
def opIsX (h : HotI) (tb : Nat → Option Bool) (w : W) (S : Store) : Option (W × Store) := match w with
  | .exn a dd _ _ => if a = h.1 ∧ dd = h.2.2 then (tb h.2.1).map fun b => (.bl b, S) else none
  | _ => none
def dIsX (h : HotI) (tb : Nat → Option Bool) (d : DE) : DE := fun ε => d ε >>= fun w => lift (opIsX h tb w)
theorem opIsX_inv {h : HotI} {tb : Nat → Option Bool} {w w' : W} {S S' : Store} {H : Hp} {ρ : List Addr} {v : V} (r : VR G.K H ρ w v) (e : opIsX h tb w S = some (w', S')) : v = .ref h.1 ∧ XDict H h.2.2 ∧ ∃ b, tb h.2.1 = some b ∧ w' = .bl b ∧ S' = S := by
  cases r with
  | @exn0 a =>
    unfold opIsX at e
    simp only at e
    split at e
    · rename_i z
      obtain ⟨rfl, z2⟩ := z
      rw [Option.map_eq_some_iff] at e
      obtain ⟨b, e1, e2⟩ := e
      cases e2
      exact ⟨rfl, by rw [← z2]; trivial, b, e1, rfl, rfl⟩
    · cases e
  | @exnD a d l ns ws vs h1 h2 h3 t =>
    unfold opIsX at e
    simp only at e
    split at e
    · rename_i z
      obtain ⟨rfl, z2⟩ := z
      rw [Option.map_eq_some_iff] at e
      obtain ⟨b, e1, e2⟩ := e
      cases e2
      exact ⟨rfl, by rw [← z2]; exact ⟨l, h1⟩, b, e1, rfl, rfl⟩
    · cases e
  | _ => cases e
theorem call_isX {X : Cx} {U : WX} (F : Fit G c k X U) {h : HotI} (hh : c.hot = some h) : CallR X (.builtin "isinstance") (fun xs H Q => (∃ v cv b, xs = [.ref h.1, v] ∧ XDict H h.2.2 ∧ (∀ u, RelV v u → u = cv) ∧ XcI G h.2.1 ∧ PySem.W.kitOne G.K (.ref (G.cl h.2.1)) cv = some b ∧ Q (.bl b) H) ∨
    (∃ p vs b, xs = [.ref h.1, .ref p] ∧ XDict H h.2.2 ∧ SqT X.K H p vs ∧ XcI G h.2.1 ∧ (∀ us, Vals vs us → PySem.W.kitAny G.K (.ref (G.cl h.2.1)) us = some b) ∧ Q (.bl b) H)) := by
  obtain ⟨oe, mem, hot, hz⟩ := F.hotp h.1 h.2.1 h.2.2 hh
  intro pins s σ H xs us Q I r hq
  have inK : G.K.In s.heap := by
    rw [← F.K]
    exact I.kIn
  rcases hq with ⟨v, cv, b, rfl, hd, un, T, e, q⟩ | ⟨p, vs, b, rfl, hd, sq, T, e, q⟩
  · obtain ⟨u1, u2, rfl, r1, r2⟩ := vals2 r
    obtain ⟨od, J⟩ := inst_at I mem hot hz hd
    cases r1
    rw [un _ r2]
    exact PySem.W.kia_one (kitx_of T) inK J e (fun z => nomatch z) fun tk => ⟨.bl b, H, I.tok _, rfl, q⟩
  · obtain ⟨u1, u2, rfl, r1, r2⟩ := vals2 r
    obtain ⟨od, J⟩ := inst_at I mem hot hz hd
    cases r1
    cases r2
    obtain ⟨its, rv, ⟨o, ho, hc, n, hdt⟩, hz⟩ := I.tuple sq
    obtain ⟨oc, odd, oda, osl⟩ := o
    dsimp only at hc hdt
    subst hc hdt
    exact PySem.W.kia_tup (kitx_of T) inK J ho (e _ rv) (fun z => nomatch z) fun tk => ⟨.bl b, H, I.tok _, rfl, q⟩
theorem e_isX {h : HotI} {x : Str} {v : V} {cv : Value} {tb : Nat → Option Bool} {e : Expr} {d : DE} {p p2 pos : Pos} (T : XcT G c x v cv tb) (he : EOk G c k e d) (hm : G.mg "isinstance" = none) (hg : c.sc.names.lookup ("isinstance" : Str) = some .globalImplicit := by rfl)
    (hp : plainE e = true := by rfl) (hh : c.hot = some h := by rfl) : EOk G c k (.Call (.Name "isinstance" p) [e, .Name x p2] [] pos) (dIsX h tb d) := fun X U F =>
  PE.imp (pe_callB (call_isX F hh) (glob_of F hg) (by rw [F.mg]; exact hm) (by decide +kernel) (pa_cons (he X U F) (pa_cons (T.pe F) pa_nil) (starEach_plain hp _ _)) (by decide) (by decide) (starEach_plain hp _ _)) fun σ H Q ⟨ρ, ε, S, ev, sr, q⟩ => ⟨ρ, ε, S, ev, sr, (Rg.bind q).mono fun v' H1 ⟨w, S1, ρ1, e1, s1, r1, q1⟩ => by
    obtain ⟨w', S2, hw, q2⟩ := Rg.lift q1
    obtain ⟨rfl, xd, b, hb, rfl, rfl⟩ := opIsX_inv r1 hw
    obtain ⟨t1, t2⟩ := T.is _ _ hb
    exact .inl ⟨_, cv, b, rfl, xd, T.un, t1, t2, q2 H1 ρ1 _ Ext.refl s1 (.bl _)⟩⟩
/-- a tuple of classes -/
inductive XcTs (G : Top) (c : Ctx) : List Expr → List V → List (Nat → Option Bool) → Prop
  | nil : XcTs G c [] [] []
  | cons {x : Str} {p : Pos} {v : V} {cv : Value} {tb : Nat → Option Bool} {es : List Expr} {vs : List V} {tbs : List (Nat → Option Bool)} : XcT G c x v cv tb → XcTs G c es vs tbs → XcTs G c (.Name x p :: es) (v :: vs) (tb :: tbs)
theorem XcTs.pa {X : Cx} {U : WX} (F : Fit G c k X U) : ∀ {es : List Expr} {vs : List V} {tbs : List (Nat → Option Bool)}, XcTs G c es vs tbs → PA X es (fun σ H Q => Q vs H)
  | _, _, _, .nil => pa_nil
  | _, _, _, .cons T t => PA.imp (pa_cons (T.pe F) (XcTs.pa F t) (starEach_plain rfl _ _)) fun σ H Q h => h
def anyTb : List (Nat → Option Bool) → Nat → Option Bool
  | [], _ => some false
  | t :: ts, n => match t n with
    | some true => some true
    | some false => anyTb ts n
    | none => none
theorem XcTs.any {n : Nat} {us : List Value} : ∀ {es : List Expr} {vs : List V} {tbs : List (Nat → Option Bool)} {us : List Value} {b : Bool}, XcTs G c es vs tbs → Vals vs us → anyTb tbs n = some b → PySem.W.kitAny G.K (.ref (G.cl n)) us = some b
  | _, _, _, _, b, .nil, r, e => by
    cases r
    exact e
  | _, _, _, _, b, .cons T t, r, e => by
    cases r with
    | cons r rs =>
      rw [T.un _ r]
      unfold anyTb at e
      split at e
      · rename_i z
        cases e
        unfold PySem.W.kitAny
        rw [(T.is _ _ z).2]
      · rename_i z
        unfold PySem.W.kitAny
        rw [(T.is _ _ z).2]
        exact XcTs.any (us := us) t rs e
      · cases e
theorem e_isXs {h : HotI} {es : List Expr} {vs : List V} {tbs : List (Nat → Option Bool)} {e : Expr} {d : DE} {p pt pos : Pos} {kt : Nat} (T : XcTs G c es vs tbs) (T1 : ∀ n b, anyTb tbs n = some b → XcI G n) (he : EOk G c k e d) (hm : G.mg "isinstance" = none) (hl : vs.length ≤ sizeLine := by first | decide | (simp only [List.length_cons, List.length_nil]; decide))
    (hg : c.sc.names.lookup ("isinstance" : Str) = some .globalImplicit := by rfl) (hp : plainE e = true := by rfl) (hh : c.hot = some h := by rfl) : EOk G c k (.Call (.Name "isinstance" p) [e, .Tuple es kt pt] [] pos) (dIsX h (anyTb tbs) d) := fun X U F =>
  PE.imp (pe_callB (call_isX F hh) (glob_of F hg) (by rw [F.mg]; exact hm) (by decide +kernel) (pa_cons (he X U F) (pa_cons (pe_tup (XcTs.pa F T)) pa_nil) (starEach_plain hp _ _)) (by decide) (by decide) (starEach_plain hp _ _)) fun σ H Q ⟨ρ, ε, S, ev, sr, q⟩ => ⟨ρ, ε, S, ev, sr, (Rg.bind q).mono fun v' H1 ⟨w, S1, ρ1, e1, s1, r1, q1⟩ => by
    obtain ⟨w', S2, hw, q2⟩ := Rg.lift q1
    obtain ⟨rfl, xd, b, hb, rfl, rfl⟩ := opIsX_inv r1 hw
    refine ⟨hl, fun q hq => .inr ⟨q, vs, b, rfl, ?_, .inl (.inl upd_same), T1 _ _ hb, fun us r => XcTs.any (us := us) T r hb, q2 _ ρ1 _ (Ext.fresh hq) (s1.fresh hq) (.bl _)⟩⟩
    cases z : h.2.2 with
    | none => trivial
    | some d0 =>
      rw [z] at xd
      obtain ⟨l, hl⟩ := xd
      exact ⟨l, by rw [upd_ne (ne_of_none hl hq)]; exact hl⟩⟩
/-- e.f -/
def opXf (h : HotI) (cs : List Nat) (f : Str) (w : W) (S : Store) : Option (W × Store) := match w with
  | .exn a (some dd) ns ws => if a = h.1 ∧ some dd = h.2.2 ∧ h.2.1 ∈ cs then ((ns.zip ws).lookup f).map fun w => (w, S) else none
  | _ => none
def dXf (h : HotI) (cs : List Nat) (f : Str) (d : DE) : DE := fun ε => d ε >>= fun w => lift (opXf h cs f w)
theorem zip_lookup {K : PySem.W.Frag} {H : Hp} {ρ : List Addr} {f : Str} : ∀ {l : List (Str × V)} {ws : List W} {w : W}, VRs K H ρ ws (l.map (·.2)) → ((l.map (·.1)).zip ws).lookup f = some w → ∃ v, l.lookup f = some v ∧ VR K H ρ w v
  | [], ws, w, r, e => by simp at e
  | (g, v) :: l, ws, w, r, e => by
    cases r with
    | @cons w1 _ ws1 _ r rs =>
      rw [List.map_cons, List.zip_cons_cons, List.lookup_cons] at e
      rw [List.lookup_cons]
      cases hfg : f == g with
      | true => rw [hfg] at e; cases e; exact ⟨v, rfl, r⟩
      | false => rw [hfg] at e; exact zip_lookup rs e
theorem e_xf {h : HotI} {cs : List Nat} {f : Str} {e : Expr} {d : DE} {pos : Pos} (he : EOk G c k e d) (T : ∀ n ∈ cs, XcI G n ∧ PySem.W.findIn G.K (.ref (G.cl n)) f = some none) (hb : ∀ env, attributeBase e f env (eval e env) = eval e env := by intro _; rfl) (hh : c.hot = some h := by rfl) : EOk G c k (.Attribute e f pos) (dXf h cs f d) := fun X U F => by
  obtain ⟨oe, mem, hot, hz⟩ := F.hotp h.1 h.2.1 h.2.2 hh
  refine ⟨fun pins s σ H Q I hq => ?_⟩
  obtain ⟨ρ, ε, S, ev, sr, hq⟩ := hq
  refine attr_of (hb _) (thn ((he X U F).run pins s σ H _ I ⟨ρ, ε, S, ev, sr, Rg.bind hq⟩) fun u s1 ⟨v, H1, I1, r1, w, S1, ρ1, e1, s1', vr, h1⟩ => ?_)
  obtain ⟨w', S2, hw, q2⟩ := Rg.lift h1
  cases vr with
  | @exnD a dd l ns ws vs x1 x2 x3 t =>
    unfold opXf at hw
    simp only at hw
    split at hw
    case isFalse => cases hw
    rename_i z
    obtain ⟨rfl, zd, zc⟩ := z
    rw [Option.map_eq_some_iff] at hw
    obtain ⟨w1, e2, e3⟩ := hw
    cases e3
    subst x2 x3
    obtain ⟨y, hy, ry⟩ := zip_lookup t e2
    obtain ⟨tx, hno⟩ := T _ zc
    obtain ⟨_, fs, hv, _⟩ := hot
    have hv : oe.data = .fields fs := hv
    have at_ := (I1.pin (h.1, oe) (List.mem_append_left _ mem)).1
    obtain rfl : u = Value.ref h.1 := r1
    have hx : ObjOk X.prog X.w H1 s1.heap dd (.xd l) := I1.hok dd _ x1
    obtain ⟨mA, hns, hr⟩ := hx
    obtain ⟨od, ho, hl⟩ := lookIn_ns hns
    obtain ⟨u, hu, ru⟩ := RelO.some_of (v := y) (o := mA f) (by rw [← hy]; exact hr f)
    have J : PySem.W.InstAt s1.heap h.1 oe (G.cl h.2.1) (some od) := ⟨at_, hz.1, by unfold PySem.W.notCls; rw [hv], by rw [hz.2.1, ← zd]; exact ho⟩
    exact HandSPX.exc_get (by rw [← F.K]; exact I1.kIn) J tx.ga tx.gt tx.sb (PySem.W.findObj_own tx.dc hno rfl (by rw [hl, hu])) (handed_of ru) ⟨y, H1, I1.tok _, ru, q2 H1 ρ1 y Ext.refl s1' ry⟩
  | exn0 => cases hw
  | _ => cases hw
end
end
end N
/-! HF: laws of try; classes that are asked for. -/
namespace N
open PySem PySem.Spec PyProof.Rows L2 L2H
noncomputable section
structure XcC (G : Top) (x : Str) (ci : Nat) (tb : Nat → Option Bool) : Prop where
  m : G.mg x = some (.ref (G.cl ci))
  em : ∀ n b, tb n = some b → PySem.W.exmOne G.K (.ref (G.cl n)) (.ref (G.cl ci)) = some b
  is : ∀ n b, tb n = some b → XcI G n ∧ PySem.W.kitOne G.K (.ref (G.cl n)) (.ref (G.cl ci)) = some b
structure XcV (G : Top) (tb : Nat → Option Bool) : Prop where
  m : G.mg "ValueError" = none
  is : ∀ n b, tb n = some b → XcI G n ∧ PySem.W.kitOne G.K (.ref (G.cl n)) (.type "ValueError") = some b
section
variable {G : Top} {c : Ctx}
theorem XcC.nm {x : Str} {ci : Nat} {tb : Nat → Option Bool} (T : XcC G x ci tb) (hg : c.sc.names.lookup x = some .globalImplicit := by rfl) (hd : (x == ("__debug__" : Str)) = false := by decide) : Xnm G c x (.ref (G.cl ci)) tb := ⟨hg, hd, .inl T.m, T.em⟩
theorem XcC.tt {x : Str} {ci : Nat} {tb : Nat → Option Bool} (T : XcC G x ci tb) (hg : c.sc.names.lookup x = some .globalImplicit := by rfl) (hd : (x == ("__debug__" : Str)) = false := by decide) : XcT G c x (.ref (G.cl ci)) (.ref (G.cl ci)) tb :=
  ⟨hg, hd, .inl T.m, rfl, fun _ h => h, T.is⟩
theorem XcV.tt {tb : Nat → Option Bool} (T : XcV G tb) (hg : c.sc.names.lookup ("ValueError" : Str) = some .globalImplicit := by rfl) : XcT G c "ValueError" (.ty "ValueError") (.type "ValueError") tb :=
  ⟨hg, by decide, .inr ⟨T.m, by decide +kernel, by decide⟩, rfl, fun _ h => h, T.is⟩
end
/-- a table of classes -/
def tbl (ys ns : List Nat) (n : Nat) : Option Bool := if n ∈ ys then some true else if n ∈ ns then some false else none
theorem tbl_all {ys ns : List Nat} {p : Nat → Bool → Prop} (hy : ∀ n ∈ ys, p n true) (hn : ∀ n ∈ ns, p n false) : ∀ n b, tbl ys ns n = some b → p n b := fun n b h => by
  unfold tbl at h
  split at h
  · cases h; exact hy _ (by assumption)
  · split at h
    · cases h; exact hn _ (by assumption)
    · cases h
theorem all_nil {p : Nat → Prop} : ∀ n ∈ ([] : List Nat), p n := fun _ h => nomatch h
theorem all_cons {p : Nat → Prop} {m : Nat} {l : List Nat} (h : p m) (t : ∀ n ∈ l, p n) : ∀ n ∈ m :: l, p n := fun n hn => by
  rcases List.mem_cons.mp hn with rfl | hn
  · exact h
  · exact t n hn
theorem anyTb_inv {q : Nat → Prop} : ∀ {l : List (Nat → Option Bool)} {n : Nat} {b : Bool}, l ≠ [] → (∀ t ∈ l, ∀ n b, t n = some b → q n) → anyTb l n = some b → q n
  | [], _, _, h, _, _ => absurd rfl h
  | t :: ts, n, b, _, h, e => by
    unfold anyTb at e
    split at e
    · rename_i z; exact h t List.mem_cons_self _ _ z
    · rename_i z; exact h t List.mem_cons_self _ _ z
    · cases e
theorem all_is {q : Nat → Prop} {t : Nat → Option Bool} {l : List (Nat → Option Bool)} (h : ∀ n b, t n = some b → q n) (r : ∀ t ∈ l, ∀ n b, t n = some b → q n) : ∀ t' ∈ t :: l, ∀ n b, t' n = some b → q n := fun t' ht => by
  rcases List.mem_cons.mp ht with rfl | ht
  · exact h
  · exact r _ ht
/-! ### laws -/
section
variable {S : Store} {ε : Ev} {Q : W → Store → Prop} {E : Ex → Store → Prop} {D : NEnds}
theorem wp_dIsX {h : HotI} {tb : Nat → Option Bool} {d : DE} : wp (dIsX h tb d ε S) Q E = wp (d ε S) (fun w S1 => wO (opIsX h tb w S1) fun p => Q p.1 p.2) E := by
  unfold dIsX
  simp only [wp_bind, wp_lift]
theorem opIsX_exn {a : Addr} {dd : Option Addr} {n : Nat} {ns : List Str} {ws : List W} {tb : Nat → Option Bool} : opIsX (a, n, dd) tb (.exn a dd ns ws) S = (tb n).map fun b => (.bl b, S) := by
  unfold opIsX
  exact if_pos ⟨rfl, rfl⟩
theorem wp_dXf {h : HotI} {cs : List Nat} {f : Str} {d : DE} : wp (dXf h cs f d ε S) Q E = wp (d ε S) (fun w S1 => wO (opXf h cs f w S1) fun p => Q p.1 p.2) E := by
  unfold dXf
  simp only [wp_bind, wp_lift]
theorem opXf_exn {cs : List Nat} {f : Str} {a dd : Addr} {n : Nat} {ns : List Str} {ws : List W} (hn : n ∈ cs) : opXf (a, n, some dd) cs f (.exn a (some dd) ns ws) S = ((ns.zip ws).lookup f).map fun w => (w, S) := by
  unfold opXf
  exact if_pos ⟨rfl, rfl, hn⟩
theorem wpS_dTry {cs : List NClause} {body : DS} : wpS (dTry cs body ε S) D = wpS (body ε S) { D with ex := fun x ε' S' => wpS (catchN cs x ε' S') D } := by
  unfold dTry
  cases body ε S <;> rfl
theorem wpS_catch0 {x : Ex} : wpS (catchN [] x ε S) D = D.ex x ε S := rfl
theorem wpS_catchY {c : NClause} {r : List NClause} {x : Ex} (h : c.tb x.cls = some true) : wpS (catchN (c :: r) x ε S) D = wpS (uni fun a d => unb c.slot (c.run (hotI a d x) (boundE c.slot (exnW a d x) ε) S)) D := by
  unfold catchN
  rw [h]
theorem wpS_catchF {c : NClause} {r : List NClause} {x : Ex} (h : c.tb x.cls = some false) : wpS (catchN (c :: r) x ε S) D = wpS (catchN r x ε S) D := by
  rw [catchN]
  simp only [h]
theorem wpS_unb {i : Option Nat} {r : RS} : wpS (unb i r) D = wpS r { nx := fun ε S => D.nx (goneE i ε) S, rt := D.rt, bk := fun ε S => D.bk (goneE i ε) S, ct := fun ε S => D.ct (goneE i ε) S, ex := fun _ _ _ => False } := by
  cases r <;> rfl
/-- it returns, just this -/
def rtE (w : W) (S0 : Store) : NEnds where
  nx := fun _ _ => False
  rt := fun w' S' => w' = w ∧ S' = S0
  bk := fun _ _ => False
  ct := fun _ _ => False
  ex := fun _ _ _ => False
def nxE (ε0 : Ev) (S0 : Store) : NEnds where
  nx := fun ε' S' => ε' = ε0 ∧ S' = S0
  rt := fun _ _ => False
  bk := fun _ _ => False
  ct := fun _ _ => False
  ex := fun _ _ _ => False
theorem rtE_eq {r : RS} {w : W} {S0 : Store} (h : wpS r (rtE w S0)) : r = .rt w S0 := by
  cases r with
  | rt w' S' => obtain ⟨rfl, rfl⟩ := h; rfl
  | nx _ _ => exact h.elim
  | bk _ _ => exact h.elim
  | ct _ _ => exact h.elim
  | exc _ _ _ => exact h.elim
  | bad => exact h.elim
theorem nxE_eq {r : RS} {ε0 : Ev} {S0 : Store} (h : wpS r (nxE ε0 S0)) : r = .nx ε0 S0 := by
  cases r with
  | nx w' S' => obtain ⟨rfl, rfl⟩ := h; rfl
  | rt _ _ => exact h.elim
  | bk _ _ => exact h.elim
  | ct _ _ => exact h.elim
  | exc _ _ _ => exact h.elim
  | bad => exact h.elim
theorem uni_eq {f : Addr → Addr → RS} {r : RS} (h : ∀ a d, f a d = r) : uni f = r := by
  unfold uni
  rw [if_pos (fun a d => (h a d).trans (h 0 0).symm)]
  exact h 0 0
theorem uni_rt {f : Addr → Addr → RS} {w : W} {S0 : Store} (h : ∀ a d, wpS (f a d) (rtE w S0)) (q : D.rt w S0) : wpS (uni f) D := by
  rw [uni_eq fun a d => rtE_eq (h a d)]
  exact q
theorem uni_nx {f : Addr → Addr → RS} {ε0 : Ev} {S0 : Store} (h : ∀ a d, wpS (f a d) (nxE ε0 S0)) (q : D.nx ε0 S0) : wpS (uni f) D := by
  rw [uni_eq fun a d => nxE_eq (h a d)]
  exact q
theorem wp_dSrcL {d : DE} {Q : Src → Store → Prop} : wp (dSrcL d ε S) Q E = wp (d ε S) (fun w S1 => match w with
    | .ref n => wO (lstAt S1 n) fun ws => Q ⟨ws, fun S' => S'[n]? = some (.lst ws)⟩ S1
    | _ => False) E := by
  unfold dSrcL
  refine wp_bind.trans (wp_congr fun w S1 => ?_)
  cases w with
  | ref n =>
    unfold lstAt
    simp only
    cases h : S1[n]? with
    | none => rfl
    | some o => cases o <;> rfl
  | _ => rfl
end
end
end N
/-! HG: raise of an own class whose __init__ keeps its arguments as fields. -/
namespace N
open PySem PySem.Spec PyProof.Rows L2 L2H
open PyProof.Rows (envOfC)
noncomputable section
/-- what such an __init__ promises -/
def spI (C : Addr) (fs : List Str) : Sp := fun vs H Q E => ∃ a ys, vs = .ref a :: ys ∧ ys.length = fs.length ∧ H a = some (exo a C none) ∧
  ∀ H' dx, H dx = none → dx ≠ a → H' a = some (exo a C (some dx)) → H' dx = some (exd dx (fs.zip ys).reverse) → (∀ b, b ≠ a → b ≠ dx → H' b = H b) → Q .non H'
section
variable {G : Top} {C : Addr}
theorem init1 {qual f1 p1 : Str} {st : Stmt} {fI : Addr} {fd : FuncData} {q1 q2 q3 q4 : Pos} (F : FunX G.K "__init__" qual st fI fd) (S : FnScope ["self", p1] ["self", p1] (defScope st)) (body : defBody st = [.Assign [.Attribute (.Name "self" q1) f1 q2] (.Name p1 q3) q4]) (T : OexC G.K C)
    (n1 : PySem.W.findIn G.K (.ref C) f1 = some none) (hd : (p1 == ("__debug__" : Str)) = false := by decide) (hc : (p1 == ("__classdict__" : Str)) = false := by decide) : FnG G 1 fI fd ["self", p1] (spI C [f1]) := by
  have len : ∀ vs H Q E, spI C [f1] vs H Q E → vs.length = 2 := fun vs H Q E ⟨a, ys, e, hl, _⟩ => by rw [e, List.length_cons, hl]; rfl
  refine fnG_of F S len fun cdv A outer s H vs Q E hr hgd h => ?_
  rw [body]
  refine ⟨_, pss_one (ps_ost (pe_var (i := 0) rfl ((S.par _ (by simp)).imp id .inl)) (pe_var (i := 1) rfl ((S.par _ (by simp)).imp id .inl) hd hc) rfl), ?_⟩
  obtain ⟨a, ys, rfl, hl, ha, k⟩ := h
  obtain ⟨y, rfl⟩ : ∃ y, ys = [y] := by
    match ys, hl with
    | [y], _ => exact ⟨y, rfl⟩
  refine ⟨y, rfl, .ref a, rfl, a, C, rfl, T, n1, .inl ⟨ha, fun dx h1 ne => k _ dx h1 ne upd_same ?_ fun b hb hx => ?_⟩⟩
  · rw [upd_ne ne, upd_same]
    rfl
  · rw [upd_ne hb, upd_ne hx]
theorem init2 {qual f1 p1 f2 p2 : Str} {st : Stmt} {fI : Addr} {fd : FuncData} {q1 q2 q3 q4 r1 r2 r3 r4 : Pos} (F : FunX G.K "__init__" qual st fI fd) (S : FnScope ["self", p1, p2] ["self", p1, p2] (defScope st))
    (body : defBody st = [.Assign [.Attribute (.Name "self" q1) f1 q2] (.Name p1 q3) q4, .Assign [.Attribute (.Name "self" r1) f2 r2] (.Name p2 r3) r4]) (T : OexC G.K C) (n1 : PySem.W.findIn G.K (.ref C) f1 = some none) (n2 : PySem.W.findIn G.K (.ref C) f2 = some none)
    (hd : (p1 == ("__debug__" : Str)) = false := by decide) (hc : (p1 == ("__classdict__" : Str)) = false := by decide) (hd2 : (p2 == ("__debug__" : Str)) = false := by decide) (hc2 : (p2 == ("__classdict__" : Str)) = false := by decide) : FnG G 1 fI fd ["self", p1, p2] (spI C [f1, f2]) := by
  have len : ∀ vs H Q E, spI C [f1, f2] vs H Q E → vs.length = 3 := fun vs H Q E ⟨a, ys, e, hl, _⟩ => by rw [e, List.length_cons, hl]; rfl
  refine fnG_of F S len fun cdv A outer s H vs Q E hr hgd h => ?_
  rw [body]
  refine ⟨_, pss_cons (ps_ost (pe_var (i := 0) rfl ((S.par _ (by simp)).imp id .inl)) (pe_var (i := 1) rfl ((S.par _ (by simp)).imp id .inl) hd hc) rfl) (pss_one (ps_ost (pe_var (i := 0) rfl ((S.par _ (by simp)).imp id .inl)) (pe_var (i := 2) rfl ((S.par _ (by simp)).imp id .inl) hd2 hc2) rfl)), ?_⟩
  obtain ⟨a, ys, rfl, hl, ha, k⟩ := h
  obtain ⟨y, z, rfl⟩ : ∃ y z, ys = [y, z] := by
    match ys, hl with
    | [y, z], _ => exact ⟨y, z, rfl⟩
  refine ⟨y, rfl, .ref a, rfl, a, C, rfl, T, n1, .inl ⟨ha, fun dx h1 ne => ?_⟩⟩
  refine ⟨z, rfl, .ref a, rfl, a, C, rfl, T, n2, .inr ⟨dx, [(f1, y)], upd_same, by rw [upd_ne ne, upd_same], by simp, ?_⟩⟩
  refine k _ dx h1 ne ?_ upd_same fun b hb hx => ?_
  · rw [upd_ne (fun e => ne e.symm), upd_same]
  · rw [upd_ne hx, upd_ne hb, upd_ne hx]
end
/-- such a class: the fields, how many arguments are given, the values of the rest -/
structure Xin (G : Top) (x : Str) (ci : Nat) (fs : List Str) (n : Nat) (dW : List W) : Prop where
  ex : ∃ (fI : Addr) (fd : FuncData) (ps : List Str) (ds : List Value) (dV : List V), G.mg x = some (.ref (G.cl ci)) ∧ OexC G.K (G.cl ci) ∧ PySem.W.findIn G.K (.ref (G.cl ci)) "__init__" = some (some (.ref fI)) ∧ PySem.W.typeIn G.K (.ref fI) = some (.type "function") ∧
    FnG G 1 fI fd ps (spI (G.cl ci) fs) ∧ (∀ H ρ, VRs G.K H ρ dW dV) ∧ Vals dV ds ∧ n + dW.length = fs.length ∧ fs.length ≤ 900 ∧ ∀ (s : Shared) (self : Value) (us : List Value), G.K.In s.heap → us.length = n → BindsTo s fd ⟨self :: us, []⟩ (ps.zip (self :: (us ++ ds)))
def rsX (ci : Nat) (fs : List Str) (n : Nat) (dW : List W) (ws : List W) : DS := fun ε S => if ws.length = n then .exc ⟨ci, some (fs.zip (ws ++ dW)).reverse⟩ ε S else .bad
def dRaiseX (ci : Nat) (fs : List Str) (n : Nat) (dW : List W) (a : DA) : DS := fun ε S => sBind (a ε) ε S fun ws S' => rsX ci fs n dW ws ε S'
section
variable {G : Top} {c : Ctx} {k : Nat}
/-- the class called -/
theorem make_x {X : Cx} {U : WX} (F : Fit G c k X U) (hh : c.hot = none) (hk : 2 ≤ k) {fI : Addr} {fd : FuncData} {ps fs : List Str} {ci : Nat} {ds : List Value} {dV : List V} (T : OexC G.K (G.cl ci)) (iC : PySem.W.findIn G.K (.ref (G.cl ci)) "__init__" = some (some (.ref fI)))
    (tI : PySem.W.typeIn G.K (.ref fI) = some (.type "function")) (hf : FnG G 1 fI fd ps (spI (G.cl ci) fs)) {pins : List (Addr × Obj)} {σ : L2.St} {H : Hp} {s : Shared} {vs : List V} {us : List Value} {Q : XK} (I : Inv X pins σ H s) (r : Vals vs us) (vd : Vals dV ds) (hl : (vs ++ dV).length = fs.length) (h9 : fs.length ≤ 900)
    (bt : ∀ self s', G.K.In s'.heap → BindsTo s' fd ⟨self :: us, []⟩ (ps.zip (self :: (us ++ ds)))) (q : ∀ d, H d = none → Q (.ref (G.cl ci)) (some d) (upd H d (.xd (fs.zip (vs ++ dV)).reverse))) : wpAny (model X.prog X.w) X.A (call (.ref (G.cl ci)) us) (L2N.MkP X pins σ Q) X.xe s := by
  obtain ⟨nm, qn, N, bs, bm, sn, sub, ab, col, dd, k0, k1, k2, k3, k5, hC, hbm⟩ := T.cls
  rw [← F.K] at hC iC tI
  obtain ⟨hp, g, dr, tk, os⟩ := s
  have big : hp.objs.size ≤ hp.objs.size + 1 := Nat.le_succ _
  have kk : ∀ b o, hp.get? b = some o → ((hp.push (PySem.W.kdv_tup us)).push (PySem.HandSPX.excO (G.cl ci) hp.objs.size)).get? b = some o := fun b o e => Heap.get?_push_of_some _ (Heap.get?_push_of_some _ e)
  have new : ((hp.push (PySem.W.kdv_tup us)).push (PySem.HandSPX.excO (G.cl ci) hp.objs.size)).get? (hp.objs.size + 1) = some (PySem.HandSPX.excO (G.cl ci) hp.objs.size) := by heap_get
  have I2 : Inv X pins σ (upd H (hp.objs.size + 1) (exo (hp.objs.size + 1) (G.cl ci) none)) ⟨(hp.push (PySem.W.kdv_tup us)).push (PySem.HandSPX.excO (G.cl ci) hp.objs.size), g, dr, tk, os⟩ :=
    I.laid (t' := tk) (h' := (hp.push (PySem.W.kdv_tup us)).push (PySem.HandSPX.excO (G.cl ci) hp.objs.size)) kk big (exo_ok new)
  have hus : us.length ≤ sizeLine := by
    have := r.length
    have z := hl
    rw [List.length_append] at z
    rw [sizeLine_eq]
    omega
  have e0 := I2.env0.make (G.cl ci) us []
  rw [F.P, F.w, F.K, F.mg, F.base] at e0
  have rm : Room (1 + 1) X.A := (F.rm hh I).mono hk
  have b2 := bt (.ref (hp.objs.size + 1)) ⟨(hp.push (PySem.W.kdv_tup us)).push (PySem.HandSPX.excO (G.cl ci) hp.objs.size), g, dr, tk, os⟩ (by rw [← F.K]; exact I2.kIn)
  have z0 := hf.run _ X.stack _ _ ⟨.ref (hp.objs.size + 1) :: us, []⟩ (.ref (hp.objs.size + 1) :: (us ++ ds)) (.ref (hp.objs.size + 1) :: (vs ++ dV)) (fun v H2 => v = .non ∧ ∃ d, H2 (hp.objs.size + 1) = some (exo (hp.objs.size + 1) (G.cl ci) (some d)) ∧ H2 d = some (exd d (fs.zip (vs ++ dV)).reverse) ∧ H d = none ∧ d ≠ hp.objs.size + 1 ∧ ∀ b, b ≠ hp.objs.size + 1 → b ≠ d → H2 b = H b)
    (fun _ _ _ => False) (rm.make (G.cl ci) us []) F.gd e0 b2 (.cons rfl (r.append vd)) ⟨_, _, rfl, hl, upd_same, fun H' dx h1 ne h2 h3 h4 => ⟨rfl, dx, h2, h3, by rw [upd_ne ne] at h1; exact h1, ne, fun b hb hx => by rw [h4 b hb hx, upd_ne hb]⟩⟩
  rw [← F.P, ← F.w] at z0
  refine wpAny_call (PySem.HandSPX.call_own PySem.F.excBase_ValueError (fun Y => PySem.HandSPX.refsVE_contains Y bm hbm) (I.kIn _ _ hC) (PySem.W.looks_findIn I.kIn iC) (fun self => PySem.W.bind_fn I.kIn self tI) hus (codeAny_mono z0 fun r s' hq => ?_))
  cases r with
  | error e =>
    obtain ⟨_, _, _, _, _, _, _, _, _, _, _, _, z⟩ := hq
    exact z.elim
  | ok fl =>
    cases fl with
    | next => exact hq.elim
    | brk => exact hq.elim
    | cont => exact hq.elim
    | ret u =>
      obtain ⟨v, H2, os2, bare2, un2, hok2, rv, rfl, d, ea, ed, hd1, ne, rest⟩ := hq
      obtain ⟨h2, g2, d2, t2, os'⟩ := s'
      obtain ⟨t0, Gh, J, kG, ge, hoe, na⟩ := mk_end0 (d2 := d2) (t2 := t2) I big kk un2 hok2 os2 bare2 ea ed hd1
      have eH : upd (del H2 (hp.objs.size + 1)) d (.xd (fs.zip (vs ++ dV)).reverse) = upd H d (.xd (fs.zip (vs ++ dV)).reverse) := by
        funext b
        by_cases hb : b = d
        · rw [hb, upd_same, upd_same]
        · rw [upd_ne hb, upd_ne hb]
          by_cases ha : b = hp.objs.size + 1
          · rw [ha, del_same]
            exact (I.hok.fresh big).symm
          · rw [del_ne ha, rest b ha hb]
      refine ⟨rv, hp.objs.size + 1, _, _, ⟨Gh, g2, d2, t2, os'⟩, _, .ref (G.cl ci), some d, rfl, J, kG, ge, hoe, ⟨rfl, rfl, fun vs hv => ?_⟩, rfl, rfl, na, rfl, bare2, raises_own (by rw [F.K]; exact T.exC) (by rw [F.K]; exact T.tyC), by rw [eH]; exact q d hd1⟩
      cases hv
      rfl
theorem VRs.zipF {K : PySem.W.Frag} {H : Hp} {ρ : List Addr} : ∀ {xs : List W} {ys : List V}, VRs K H ρ xs ys → ∀ fs : List Str, FR K H ρ (fs.zip xs) (fs.zip ys)
  | _, _, .nil, [] => .nil
  | _, _, .nil, _ :: _ => .nil
  | _, _, .cons _ _, [] => .nil
  | _, _, .cons r t, _ :: fs => .cons ⟨rfl, r⟩ (VRs.zipF t fs)
theorem paired_appH {α β : Type} {P : α → β → Prop} : ∀ {a : List α} {b : List β} {a' : List α} {b' : List β}, Paired P a b → Paired P a' b' → Paired P (a ++ a') (b ++ b')
  | _, _, _, _, .nil, s => s
  | _, _, _, _, .cons r t, s => .cons r (paired_appH t s)
theorem rsX_wish {U : WX} {D : Ends} {σ : L2.St} {H : Hp} {ρ : List Addr} {ε : Ev} {S : Store} {ws dW : List W} {vs dV : List V} {fs : List Str} {ci n : Nat} (h : wpS (rsX ci fs n dW ws ε S) (nE G U D H ρ)) (ev : EvR G.K H ρ ε σ) (sr : SR G H ρ S) (r : VRs G.K H ρ ws vs) (rd : ∀ H ρ, VRs G.K H ρ dW dV) :
    ws.length = n ∧ ∀ d, H d = none → U (.ref (G.cl ci)) (some d) σ (upd H d (.xd (fs.zip (vs ++ dV)).reverse)) := by
  unfold rsX at h
  split at h
  case isFalse => exact h.elim
  rename_i hl
  refine ⟨hl, fun d hd => ?_⟩
  have rev : ∀ {l : List (Str × W)} {l' : List (Str × V)}, FR G.K H ρ l l' → FR G.K H ρ l.reverse l'.reverse := by
    intro l
    induction l with
    | nil => intro l' t; cases t; exact .nil
    | cons p l ih =>
      intro l' t
      cases t with
      | cons r t =>
        rw [List.reverse_cons, List.reverse_cons]
        exact paired_appH (ih t) (.cons r .nil)
  have e : Ext G.K H ρ (upd H d (.xd (fs.zip (vs ++ dV)).reverse)) ρ := Ext.fresh hd
  exact h _ ρ σ _ _ e (sr.fresh hd) (ev.mono e) ⟨rfl, d, _, rfl, upd_same, FR.mono e (rev (VRs.zipF (r.append (rd H ρ)) fs))⟩
theorem s_raiseX {x : Str} {ci n : Nat} {fs : List Str} {dW : List W} {e : Expr} {es : List Expr} {a : DA} {p pos pos2 : Pos} (T : Xin G x ci fs n dW) (hk : 2 ≤ k) (ha : AOk G c k (e :: es) a) (hg : c.sc.names.lookup x = some .globalImplicit := by rfl) (hdb : (x == ("__debug__" : Str)) = false := by decide)
    (he : ∀ env, starEach (e :: es) env = (false, eval e env) :: starEach es env := by intro _; rfl) (hpl : ∀ env, (backTo pos (starEach es env)).any (·.1) = false := by intro _; rfl) (hh : c.hot = none := by rfl) : SOk G c k (.Raise (some (.Call (.Name x p) (e :: es) [] pos)) none pos2) (dRaiseX ci fs n dW a) := fun X U F => by
  obtain ⟨fI, fd, ps, ds, dV, hm, T1, iC, tI, hf, rd, vd, hn, h9, bt⟩ := T.ex
  refine PS.imp (L2N.ps_raise (F.calm hh) F.tk (t := fun σ H Q => ∃ ρ ε S, EvR G.K H ρ ε σ ∧ SR G H ρ S ∧ Rg G U σ (VRs G.K) (a ε S) H ρ (fun vs H' => vs.length = n ∧ ∀ d, H' d = none → Q (.ref (G.cl ci)) (some d) (upd H' d (.xd (fs.zip (vs ++ dV)).reverse)))) (fun pins s σ H Q I h => ?_)) fun D σ H ⟨ρ, ε, S, ev, sr, h⟩ => ⟨ρ, ε, S, ev, sr, ?_⟩
  · refine wpAny_Call_Name_kw (ld_glob I (glob_of F hg) (by rw [F.mg]; exact hm) ?_ hdb)
    refine PySem.W.callWith_K (h₀ := X.base) I.ok.mod.kin (by rw [F.K]; exact T1.kC) (thn ((ha X U F).run pos pins s σ H _ I h) fun us s1 ⟨vs, H1, I1, r, hv, q⟩ => ⟨I1.kIn, ?_⟩) (he _) (hpl _)
    have l1 : us.length = n := by rw [← r.length]; exact hv
    have l2 : dV.length = dW.length := ((rd H1 []).length).symm
    exact make_x F hh hk T1 iC tI hf I1 r vd (by rw [List.length_append, hv, l2]; exact hn) h9 (fun self s' inK => bt s' self us inK l1) q
  · refine (Rg_sBind (rel := VRs G.K) ev h).mono fun vs H1 ⟨ws, S1, ρ1, e1, s1, r1, q1⟩ => ?_
    obtain ⟨hl, z⟩ := rsX_wish q1 (ev.mono e1) s1 r1 rd
    exact ⟨by rw [← r1.length]; exact hl, z⟩
/-- no argument is given -/
theorem s_raiseX0 {x : Str} {ci : Nat} {fs : List Str} {dW : List W} {p pos pos2 : Pos} (T : Xin G x ci fs 0 dW) (hk : 2 ≤ k) (hg : c.sc.names.lookup x = some .globalImplicit := by rfl) (hdb : (x == ("__debug__" : Str)) = false := by decide) (hh : c.hot = none := by rfl) : SOk G c k (.Raise (some (.Call (.Name x p) [] [] pos)) none pos2) (dRaiseX ci fs 0 dW aNil) := fun X U F => by
  obtain ⟨fI, fd, ps, ds, dV, hm, T1, iC, tI, hf, rd, vd, hn, h9, bt⟩ := T.ex
  refine PS.imp (L2N.ps_raise (F.calm hh) F.tk (t := fun σ H Q => ∀ d, H d = none → Q (.ref (G.cl ci)) (some d) (upd H d (.xd (fs.zip ([] ++ dV)).reverse))) (fun pins s σ H Q I h => ?_)) fun D σ H ⟨ρ, ε, S, ev, sr, h⟩ => ?_
  · refine wpAny_Call_Name_kw (ld_glob I (glob_of F hg) (by rw [F.mg]; exact hm) ?_ hdb)
    have l2 : dV.length = dW.length := ((rd H []).length).symm
    exact PySem.W.callWith_K0 I.kIn (by rw [F.K]; exact T1.kC) (make_x (vs := []) F hh hk T1 iC tI hf I .nil vd (by rw [List.nil_append, l2]; omega) h9 (fun self s' inK => bt s' self [] inK rfl) h)
  · have h2 : wpS (rsX ci fs 0 dW [] ε S) (nE G U D H ρ) := h
    exact (rsX_wish h2 ev sr .nil rd).2
end
end
end N
/-! HH: classes with such an __init__, from the text; the law of their raise. -/
namespace N
open PySem PySem.Spec PyProof.Rows L2 L2H
noncomputable section
structure MinX (G : Top) (x : Str) (ci : Nat) (qual : Str) (st : Stmt) : Prop where
  ex : ∃ f fd, G.mg x = some (.ref (G.cl ci)) ∧ OexC G.K (G.cl ci) ∧ PySem.W.findIn G.K (.ref (G.cl ci)) "__init__" = some (some (.ref f)) ∧ PySem.W.typeIn G.K (.ref f) = some (.type "function") ∧ FunX G.K "__init__" qual st f fd ∧ fd.defaults = .none
structure MinXD (G : Top) (x : Str) (ci : Nat) (qual : Str) (st : Stmt) (its : List Value) : Prop where
  ex : ∃ f fd T o n, G.mg x = some (.ref (G.cl ci)) ∧ OexC G.K (G.cl ci) ∧ PySem.W.findIn G.K (.ref (G.cl ci)) "__init__" = some (some (.ref f)) ∧ PySem.W.typeIn G.K (.ref f) = some (.type "function") ∧ FunX G.K "__init__" qual st f fd ∧ fd.defaults = .ref T ∧ G.K.lookup T = some o ∧ o.data = .seq its.toArray n
section
variable {G : Top}
theorem xin1 {x qual f1 p1 : Str} {ci : Nat} {st : Stmt} {q1 q2 q3 q4 : Pos} (M : MinX G x ci qual st) (n1 : PySem.W.findIn G.K (.ref (G.cl ci)) f1 = some none) (S : FnScope ["self", p1] ["self", p1] (defScope st)) (body : defBody st = [.Assign [.Attribute (.Name "self" q1) f1 q2] (.Name p1 q3) q4])
    (bind : ∀ (kV doc pm : Value) (an : Option Addr) (cdv ct : Value) (us : List Value), us.length = 2 → bindArgs (PySem.W.fnOf "__init__" qual (defArgs st) (defBody st) (defScope st) .none kV doc pm an cdv ct) ⟨us, []⟩ = pure ((["self", p1] : List Str).zip us))
    (hd : (p1 == ("__debug__" : Str)) = false := by decide) (hc : (p1 == ("__classdict__" : Str)) = false := by decide) : Xin G x ci [f1] 1 [] := by
  obtain ⟨f, fd, h1, h2, h3, h4, F, hdf⟩ := M.ex
  have hf := init1 F S body h2 n1 hd hc
  obtain ⟨oc, od, dV, kV, doc, pm, an, cdv, ct, osl, rfl, lk, hcd⟩ := F.ex
  obtain rfl : dV = .none := hdf
  refine ⟨f, _, _, [], [], h1, h2, h3, h4, hf, fun _ _ => .nil, .nil, rfl, by simp, fun s self us inK hl => ?_⟩
  rw [List.append_nil]
  exact .of_eq (bind kV doc pm an cdv ct (self :: us) (by rw [List.length_cons, hl]))
theorem xin2 {x qual f1 p1 f2 p2 : Str} {ci : Nat} {st : Stmt} {q1 q2 q3 q4 r1 r2 r3 r4 : Pos} (M : MinX G x ci qual st) (n1 : PySem.W.findIn G.K (.ref (G.cl ci)) f1 = some none) (n2 : PySem.W.findIn G.K (.ref (G.cl ci)) f2 = some none) (S : FnScope ["self", p1, p2] ["self", p1, p2] (defScope st))
    (body : defBody st = [.Assign [.Attribute (.Name "self" q1) f1 q2] (.Name p1 q3) q4, .Assign [.Attribute (.Name "self" r1) f2 r2] (.Name p2 r3) r4])
    (bind : ∀ (kV doc pm : Value) (an : Option Addr) (cdv ct : Value) (us : List Value), us.length = 3 → bindArgs (PySem.W.fnOf "__init__" qual (defArgs st) (defBody st) (defScope st) .none kV doc pm an cdv ct) ⟨us, []⟩ = pure ((["self", p1, p2] : List Str).zip us))
    (hd : (p1 == ("__debug__" : Str)) = false := by decide) (hc : (p1 == ("__classdict__" : Str)) = false := by decide) (hd2 : (p2 == ("__debug__" : Str)) = false := by decide) (hc2 : (p2 == ("__classdict__" : Str)) = false := by decide) : Xin G x ci [f1, f2] 2 [] := by
  obtain ⟨f, fd, h1, h2, h3, h4, F, hdf⟩ := M.ex
  have hf := init2 F S body h2 n1 n2 hd hc hd2 hc2
  obtain ⟨oc, od, dV, kV, doc, pm, an, cdv, ct, osl, rfl, lk, hcd⟩ := F.ex
  obtain rfl : dV = .none := hdf
  refine ⟨f, _, _, [], [], h1, h2, h3, h4, hf, fun _ _ => .nil, .nil, rfl, by simp, fun s self us inK hl => ?_⟩
  rw [List.append_nil]
  exact .of_eq (bind kV doc pm an cdv ct (self :: us) (by rw [List.length_cons, hl]))
/-- one parameter with the default None: given -/
theorem xin1D {x qual f1 p1 : Str} {ci : Nat} {st : Stmt} {q1 q2 q3 q4 : Pos} (M : MinXD G x ci qual st [.none]) (n1 : PySem.W.findIn G.K (.ref (G.cl ci)) f1 = some none) (S : FnScope ["self", p1] ["self", p1] (defScope st)) (body : defBody st = [.Assign [.Attribute (.Name "self" q1) f1 q2] (.Name p1 q3) q4])
    (bind : ∀ (T : Addr) (kV doc pm : Value) (an : Option Addr) (cdv ct : Value) (us : List Value), us.length = 2 → ∃ k, bindArgs (PySem.W.fnOf "__init__" qual (defArgs st) (defBody st) (defScope st) (.ref T) kV doc pm an cdv ct) ⟨us, []⟩ = seqItems? (.ref T) >>= k ∧ k (some #[.none]) = pure ((["self", p1] : List Str).zip us))
    (hd : (p1 == ("__debug__" : Str)) = false := by decide) (hc : (p1 == ("__classdict__" : Str)) = false := by decide) : Xin G x ci [f1] 1 [] := by
  obtain ⟨f, fd, T, o, m, h1, h2, h3, h4, F, hdf, lT, oT⟩ := M.ex
  have hf := init1 F S body h2 n1 hd hc
  obtain ⟨oc, od, dV, kV, doc, pm, an, cdv, ct, osl, rfl, lk, hcd⟩ := F.ex
  obtain rfl : dV = .ref T := hdf
  refine ⟨f, _, _, [], [], h1, h2, h3, h4, hf, fun _ _ => .nil, .nil, rfl, by simp, fun s self us inK hl => ?_⟩
  rw [List.append_nil]
  obtain ⟨k, e1, e2⟩ := bind T kV doc pm an cdv ct (self :: us) (by rw [List.length_cons, hl])
  refine BindsTo.of_looks fun M => ?_
  rw [e1]
  exact looks_items inK lT oT (.of_pure e2)
/-- .. left out -/
theorem xin0D {x qual f1 p1 : Str} {ci : Nat} {st : Stmt} {q1 q2 q3 q4 : Pos} (M : MinXD G x ci qual st [.none]) (n1 : PySem.W.findIn G.K (.ref (G.cl ci)) f1 = some none) (S : FnScope ["self", p1] ["self", p1] (defScope st)) (body : defBody st = [.Assign [.Attribute (.Name "self" q1) f1 q2] (.Name p1 q3) q4])
    (bind : ∀ (T : Addr) (kV doc pm : Value) (an : Option Addr) (cdv ct : Value) (u : Value), ∃ k, bindArgs (PySem.W.fnOf "__init__" qual (defArgs st) (defBody st) (defScope st) (.ref T) kV doc pm an cdv ct) ⟨[u], []⟩ = seqItems? (.ref T) >>= k ∧ k (some #[.none]) = pure ((["self", p1] : List Str).zip [u, .none]))
    (hd : (p1 == ("__debug__" : Str)) = false := by decide) (hc : (p1 == ("__classdict__" : Str)) = false := by decide) : Xin G x ci [f1] 0 [.non] := by
  obtain ⟨f, fd, T, o, m, h1, h2, h3, h4, F, hdf, lT, oT⟩ := M.ex
  have hf := init1 F S body h2 n1 hd hc
  obtain ⟨oc, od, dV, kV, doc, pm, an, cdv, ct, osl, rfl, lk, hcd⟩ := F.ex
  obtain rfl : dV = .ref T := hdf
  refine ⟨f, _, _, [.none], [.non], h1, h2, h3, h4, hf, fun _ _ => .cons .non .nil, .cons rfl .nil, rfl, by simp, fun s self us inK hl => ?_⟩
  obtain rfl : us = [] := List.length_eq_zero_iff.mp hl
  obtain ⟨k, e1, e2⟩ := bind T kV doc pm an cdv ct self
  refine BindsTo.of_looks fun M => ?_
  rw [e1]
  exact looks_items inK lT oT (.of_pure e2)
end
theorem wpS_dRaiseX {ci n : Nat} {fs : List Str} {dW : List W} {a : DA} {ε : Ev} {S : Store} {D : NEnds} : wpS (dRaiseX ci fs n dW a ε S) D = wp (a ε S) (fun ws S1 => ws.length = n ∧ D.ex ⟨ci, some (fs.zip (ws ++ dW)).reverse⟩ ε S1) (fun x S1 => D.ex x ε S1) := by
  unfold dRaiseX sBind rsX
  cases a ε S with
  | ok ws S1 =>
    by_cases h : ws.length = n
    · simp only [h, if_true, true_and, wp_ok]; rfl
    · simp only [h, if_false, false_and, wp_ok]; rfl
  | exc x S1 => rfl
  | bad => rfl
/-- the written part says that the class is an exception's -/
def oexIn (K : PySem.W.Frag) (C : Addr) : Bool := match K.lookup C with
  | some ⟨.type "type", _, .cls cd, sl⟩ => (match cd.mro, sl.toList with
    | .ref C' :: bm, [_, _, _, _, some (.builtin n), _] => C' == C && n == "ValueError.__new__" && !cd.hasDel && cd.hasDict && PySem.HandSPX.refsVE bm
    | _, _ => false)
  | _ => false
theorem oexC_mk {K : PySem.W.Frag} {C : Addr} (q : oexIn K C = true) (sa : PySem.W.findIn K (.ref C) "__setattr__" = some (some (.builtin "object.__setattr__"))) (ex : PySem.W.subIn K (.ref C) (.type "BaseException") = some true) (ty : PySem.W.typeIn K (.ref C) = some (.type "type")) (kp : PySem.W.keepIn K (.ref C) = true) : OexC K C := by
  refine ⟨?_, sa, ex, ty, kp⟩
  unfold oexIn at q
  split at q
  · rename_i dd cd sl ho
    split at q
    · rename_i C' bm k0 k1 k2 k3 n k5 hm hs
      simp only [Bool.and_eq_true, beq_iff_eq, Bool.not_eq_true'] at q
      obtain ⟨⟨⟨⟨rfl, rfl⟩, hdel⟩, hdi⟩, hv⟩ := q
      obtain ⟨nm, bs, mro, ns, qn, hd, sn, sub, ab, col, del⟩ := cd
      dsimp only at hm hdel hdi
      subst hm hdel hdi
      obtain ⟨l⟩ := sl
      dsimp only at hs
      subst hs
      exact ⟨nm, qn, ns, bs, bm, sn, sub, ab, col, _, k0, k1, k2, k3, k5, ho, hv⟩
    · cases q
  · cases q
end
end N
namespace K01
open PySem L2 N
def top (i : Nat) : Stmt := PySem.Challenge.pw_daychains_k01_patterns_judged.main.body.getD i (.Pass ⟨0, 0, 0, 0⟩)
noncomputable section
def tb_InvalidPattern : Nat → Option Bool := tbl [1] [2]
theorem tbs_1 : tb_InvalidPattern 1 = some true := by refine ?_ <;> decide
theorem tbs_2 : tb_InvalidPattern 2 = some false := by refine ?_ <;> decide
def d_is_integer : DS :=
  dSeq (dIf (dOr (dNot (dTru (dIsi "int" (dVar 0)))) (dTru (dIsi "bool" (dVar 0)))) (dRet (dC (.bl false))) (dNx))
  (dRet (dAndV (dOrV (dOp opIsN (dVar 1) (dC .non)) (dOp opLe (dVar 1) (dVar 0))) (dOrV (dOp opIsN (dVar 2) (dC .non)) (dOp opLe (dVar 0) (dVar 2)))))
def n_is_integer : List W → M W := dfn 3 3 d_is_integer
def d_is_stretch : DS :=
  dSeq (dIf (dOr (dNot (dTru (dIsi "tuple" (dVar 0)))) (dBool (dOp opNe (dFn opLen (aCons (dVar 0) aNil)) (dC (.int 2))))) (dRet (dC (.bl false))) (dNx))
  (dRet (dAndV (dCallK n_is_integer 1 0 [.non, .non] [0, 1, 2] (aCons (dOp opIx (dVar 0) (dC (.int 0))) (aNil)) (aNil)) (dCallK n_is_integer 2 0 [.non, .non] [0, 1, 3] (aCons (dOp opIx (dVar 0) (dC (.int 1))) (aCons (dOp opIx (dVar 0) (dC (.int 0))) (aNil))) (aNil))))
def n_is_stretch : List W → M W := dfn 1 1 d_is_stretch
def d_require_stretches : DS :=
  dIf (dOr (dNot (dTru (dIsi2 "list" "tuple" (dVar 0)))) (dNot (dTru (dFn opAll (aCons (dLc (dSrc (dVar 0)) (tgN 1) (dYes) (dCall n_is_stretch (aCons (dVar 1) (aNil))) [1]) aNil))))) (dRaise 2) (dNx)
def n_require_stretches : List W → M W := dfn 2 1 d_require_stretches
def d_joined_stretches : DS :=
  dSeq (dSet 1 (dLst (aNil)))
  (dSeq (dFor (dSrc (dFn opSortR (aCons (dVar 0) aNil))) (tgTup 2 (tgCons (tgN 2) (tgCons (tgN 3) (tgNil)))) (dIf (dAnd (dBool (dOp opNe (dVar 1) (dLst (aNil)))) (dBool (dOp opLe (dVar 2) (dOp opAdd (dOp opIx (dOp opIx (dVar 1) (dUn opNeg (dC (.int 1)))) (dC (.int 1))) (dC (.int 1)))))) (dPut (dTup (aCons (dOp opIx (dOp opIx (dVar 1) (dUn opNeg (dC (.int 1)))) (dC (.int 0))) (aCons (dFn opMax2 (aCons (dOp opIx (dOp opIx (dVar 1) (dUn opNeg (dC (.int 1)))) (dC (.int 1))) (aCons (dVar 3) aNil))) (aNil)))) (dVar 1) (dUn opNeg (dC (.int 1)))) (dDrop (dMt "list" mAppend (dVar 1) (aCons (dTup (aCons (dVar 2) (aCons (dVar 3) (aNil)))) aNil)))))
  (dRet (dVar 1)))
def n_joined_stretches : List W → M W := dfn 4 1 d_joined_stretches
def d_without_stretches : DS :=
  dSeq (dSet 2 (dLst (aNil)))
  (dSeq (dFor (dSrc (dVar 0)) (tgTup 2 (tgCons (tgN 3) (tgCons (tgN 4) (tgNil)))) (dSeq (dFor (dSrc (dVar 1)) (tgTup 2 (tgCons (tgN 5) (tgCons (tgN 6) (tgNil)))) (dSeq (dIf (dOr (dBool (dOp opLt (dVar 6) (dVar 3))) (dBool (dOp opLt (dVar 4) (dVar 5)))) (dCt) (dNx))
  (dSeq (dIf (dBool (dOp opLt (dVar 3) (dVar 5))) (dDrop (dMt "list" mAppend (dVar 2) (aCons (dTup (aCons (dVar 3) (aCons (dOp opSub (dVar 5) (dC (.int 1))) (aNil)))) aNil))) (dNx))
  (dSet 3 (dOp opAdd (dVar 6) (dC (.int 1)))))))
  (dIf (dBool (dOp opLe (dVar 3) (dVar 4))) (dDrop (dMt "list" mAppend (dVar 2) (aCons (dTup (aCons (dVar 3) (aCons (dVar 4) (aNil)))) aNil))) (dNx))))
  (dRet (dVar 2)))
def n_without_stretches : List W → M W := dfn 7 2 d_without_stretches
def d_law_bag : DS :=
  dSeq (dSet 2 (dIfE (dBool (dOp opLt (dVar 1) (dFn opLen (aCons (dVar 0) aNil)))) (dOp opIx (dVar 0) (dVar 1)) (dC (.int 0))))
  (dRet (dLst (aCons (dFn opMax2 (aCons (dC (.int 0)) (aCons (dOp opSub (dFn opAbs (aCons (dVar 2) aNil)) (dOp opPow (dC (.int 10)) (dC (.int 18)))) aNil))) (aCons (dOp opMod (dOp opAdd (dOp opAdd (dOp opMul (dVar 2) (dC (.int 67))) (dOp opMul (dC (.int 23)) (dVar 1))) (dC (.int 11))) (dOp opAdd (dOp opPow (dC (.int 10)) (dC (.int 37))) (dC (.int 43)))) (aCons (dC (.int 0)) (aNil))))))
def n_law_bag : List W → M W := dfn 3 2 d_law_bag
def d_law_take : DS :=
  dSeq (dIf (dBool (dOp opGt (dOp opIx (dVar 0) (dC (.int 0))) (dC (.int 0)))) (dSeq (dSet 3 (dOp opMod (dOp opIx (dVar 0) (dC (.int 0))) (dVar 1)))
  (dSeq (dPut (dOp opFdiv (dOp opIx (dVar 0) (dC (.int 0))) (dVar 1)) (dVar 0) (dC (.int 0)))
  (dRet (dVar 3)))) (dNx))
  (dSeq (dPut (dOp opAdd (dOp opIx (dVar 0) (dC (.int 2))) (dC (.int 1))) (dVar 0) (dC (.int 2)))
  (dSeq (dSet 2 (dOp opMod (dOp opPow (dOp opAdd (dOp opIx (dVar 0) (dC (.int 1))) (dOp opMul (dC (.int 32452843)) (dOp opIx (dVar 0) (dC (.int 2))))) (dC (.int 3))) (dOp opAdd (dOp opPow (dC (.int 10)) (dC (.int 40))) (dC (.int 121)))))
  (dSeq (dSet 2 (dOp opMod (dOp opPow (dOp opAdd (dVar 2) (dOp opMul (dC (.int 15485863)) (dOp opIx (dVar 0) (dC (.int 2))))) (dC (.int 2))) (dOp opAdd (dOp opPow (dC (.int 10)) (dC (.int 39))) (dC (.int 3)))))
  (dRet (dOp opMod (dOp opFdiv (dVar 2) (dOp opPow (dC (.int 10)) (dC (.int 5)))) (dVar 1))))))
def n_law_take : List W → M W := dfn 4 2 d_law_take
def d_law_due : DS :=
  dSeq (dIf (dOr (dNot (dTru (dIsi "str" (dVar 0)))) (dNot (dBool (dChain opLe opLe (dC (.int 1)) (dFn opLen (aCons (dVar 0) aNil)) (dC (.int 8)))))) (dRet (dC (.bl false))) (dNx))
  (dRet (dAndV (dOp opIn (dC (.str "o")) (dVar 0)) (dOp opEqE (dLc (dSrc (dVar 0)) (tgN 1) (dBool (dOp opNotIn (dVar 1) (dLst (aCons (dC (.str "o")) (aCons (dC (.str "-")) (aNil)))))) (dVar 1) [1]) (dLst (aNil)))))
def n_law_due : List W → M W := dfn 2 1 d_law_due
def d_Calendar_pattern : DS :=
  dRet (dFld [5] "signs" (dVar 0))
def n_Calendar_pattern : List W → M W := dfn 1 1 d_Calendar_pattern
def d_is_pattern_reading : DS :=
  dSeq (dIf (dOr (dNot (dTru (dIsi "str" (dVar 0)))) (dOr (dNot (dBool (dChain opLe opLe (dC (.int 1)) (dFn opLen (aCons (dVar 0) aNil)) (dC (.int 8))))) (dBool (dOp opNotIn (dC (.str "o")) (dVar 0))))) (dRet (dC (.bl false))) (dNx))
  (dRet (dFn opAll (aCons (dLc (dSrc (dVar 0)) (tgN 1) (dYes) (dOp opInT (dVar 1) (dTup (aCons (dC (.str "o")) (aCons (dC (.str "-")) (aNil))))) [1]) aNil)))
def n_is_pattern_reading : List W → M W := dfn 2 1 d_is_pattern_reading
def d_Calendar_init : DS :=
  dSeq (dIf (dNot (dTru (dCall n_is_pattern_reading (aCons (dVar 1) (aNil))))) (dRaise 1) (dNx))
  (dSeq (dDrop (dCall n_require_stretches (aCons (dVar 2) (aNil))))
  (dSeq (dDrop (dCall n_require_stretches (aCons (dVar 3) (aNil))))
  (dSeq (dSetF [5] "signs" (dVar 0) (dVar 1))
  (dSeq (dSetF [5] "open_signs" (dVar 0) (dLc (dEnumS (aCons (dVar 1) aNil)) (tgTup 2 (tgCons (tgN 7) (tgCons (tgN 8) (tgNil)))) (dBool (dOp opEq (dVar 8) (dC (.str "o")))) (dVar 7) [7, 8]))
  (dSeq (dSet 4 (dCall n_joined_stretches (aCons (dVar 2) (aNil))))
  (dSeq (dSet 5 (dCall n_without_stretches (aCons (dCall n_joined_stretches (aCons (dVar 3) (aNil))) (aCons (dVar 4) (aNil)))))
  (dSeq (dSet 6 (dLc (dSrc (dVar 4)) (tgTup 2 (tgCons (tgN 9) (tgCons (tgN 10) (tgNil)))) (dYes) (dTup (aCons (dVar 9) (aCons (dVar 10) (aCons (dC (.bl false)) (aNil))))) [9, 10]))
  (dSetF [5] "parts" (dVar 0) (dFn opSortR (aCons (dOp opAdd (dVar 6) (dLc (dSrc (dVar 5)) (tgTup 2 (tgCons (tgN 9) (tgCons (tgN 10) (tgNil)))) (dYes) (dTup (aCons (dVar 9) (aCons (dVar 10) (aCons (dC (.bl true)) (aNil))))) [9, 10])) aNil))))))))))
def n_Calendar_init : List W → M W := dfn 11 4 d_Calendar_init
def d_law_taken : DS :=
  dTry (⟨tb_InvalidPattern, none, fun h => dRet (dC .non)⟩ :: []) (dRet (dProp [5] n_Calendar_pattern (dMake 5 n_Calendar_init 1 0 [.tup [], .tup []] [0, 1, 2, 3] (aCons (dVar 0) (aNil)) (aNil))))
def n_law_taken : List W → M W := dfn 1 1 d_law_taken
def d_Calendar_is_pattern : DS :=
  dRet (dCall n_is_pattern_reading (aCons (dVar 0) (aNil)))
def n_Calendar_is_pattern : List W → M W := dfn 1 1 d_Calendar_is_pattern
def d_law_right : DS :=
  dSeq (dSet 1 (dCall n_law_due (aCons (dVar 0) (aNil))))
  (dSeq (dIf (dBool (dOp opNe (dFn opReprD (aCons (dLst (aCons (dCall n_Calendar_is_pattern (aCons (dVar 0) (aNil))) (aCons (dCallK n_Calendar_is_pattern 0 1 [] [0] aNil (aCons (dVar 0) (aNil))) (aNil)))) aNil)) (dFn opReprD (aCons (dLst (aCons (dVar 1) (aCons (dVar 1) (aNil)))) aNil)))) (dRet (dC (.bl false))) (dNx))
  (dRet (dOp opEq (dFn opReprD (aCons (dCall n_law_taken (aCons (dVar 0) (aNil))) aNil)) (dFn opReprD (aCons (dIfE (dTru (dVar 1)) (dVar 0) (dC .non)) aNil)))))
def n_law_right : List W → M W := dfn 2 1 d_law_right
def d_law_b1 : DS :=
  dDrop (dMt "list" mExtend (dVar 4) (aCons (dLc (dSrc (dVar 1)) (tgN 9) (dBool (dOp opEq (dFn opLen (aCons (dVar 9) aNil)) (dVar 2))) (dOp opAdd (dVar 9) (dVar 5)) [9]) (aNil)))
def d_law_b2 : DS :=
  dSeq (dSet 4 (dLst (aNil)))
  (dSeq (dFor (dSrc (dC (.str "o-x"))) (tgN 5) (d_law_b1))
  (dSet 1 (dOp opAdd (dVar 1) (dVar 4))))
def d_law_b3 : DS :=
  dSeq (dSet 8 (dSl (dLst (aCons (dC (.str "o")) (aCons (dC (.str "-")) (aCons (dC (.str "o")) (aCons (dC (.str "-")) (aCons (dC (.str "o")) (aCons (dC (.str "-")) (aCons (dC (.str "O")) (aCons (dC (.str " ")) (aCons (dC (.str "0")) (aCons (dC (.str "_")) (aNil)))))))))))) (oN) (oS (dOp opIxD (dLst (aCons (dC (.int 4)) (aCons (dC (.int 4)) (aCons (dC (.int 4)) (aCons (dC (.int 10)) (aNil)))))) (dCall n_law_take (aCons (dVar 6) (aCons (dC (.int 4)) (aNil))))))))
  (dSeq (dSet 9 (dMt "str" mJoin (dC (.str "")) (aCons (dLc (dRng1 (aCons (dCall n_law_take (aCons (dVar 6) (aCons (dC (.int 11)) (aNil)))) aNil)) (tgN 5) (dYes) (dOp opIxD (dVar 8) (dCall n_law_take (aCons (dVar 6) (aCons (dFn opLen (aCons (dVar 8) aNil)) (aNil))))) [5]) (aNil))))
  (dSeq (dSet 10 (dLst (aCons (dC .non) (aCons (dC (.int 0)) (aCons (dC (.int 1)) (aCons (dC (.bl true)) (aCons (dLst (aCons (dC (.str "o")) (aNil))) (aCons (dTup (aCons (dC (.str "o")) (aCons (dC (.str "-")) (aNil)))) (aCons (dDict0) (aCons (dDict1 "o" 1) (aCons (dLst (aNil)) (aCons (dLst (aCons (dC (.str "o")) (aCons (dC (.str "-")) (aNil)))) (aCons (dLst (aCons (dVar 9) (aNil))) (aCons (dTup (aCons (dVar 9) (aNil))) (aNil)))))))))))))))
  (dIf (dOr (dNot (dTru (dCall n_law_right (aCons (dVar 9) (aNil))))) (dNot (dTru (dCall n_law_right (aCons (dOp opIxD (dVar 10) (dCall n_law_take (aCons (dVar 6) (aCons (dFn opLen (aCons (dVar 10) aNil)) (aNil))))) (aNil)))))) (dRet (dC (.bl false))) (dNx))))
def d_law_b4 : DS :=
  dSeq (dSet 6 (dCall n_law_bag (aCons (dVar 0) (aCons (dVar 3) (aNil)))))
  (dFor (dRng1 (aCons (dC (.int 20)) aNil)) (tgN 7) (d_law_b3))
def d_law : DS :=
  dSeq (dSet 1 (dLst (aCons (dC (.str "")) (aNil))))
  (dSeq (dFor (dRng1 (aCons (dC (.int 4)) aNil)) (tgN 2) (d_law_b2))
  (dSeq (dIf (dBool (dOp opNe (dLc (dSrc (dVar 1)) (tgN 9) (dNot (dTru (dCall n_law_right (aCons (dVar 9) (aNil))))) (dVar 9) [9]) (dLst (aNil)))) (dRet (dC (.bl false))) (dNx))
  (dSeq (dFor (dRng1 (aCons (dFn opMax2 (aCons (dC (.int 1)) (aCons (dFn opMin2 (aCons (dC (.int 8)) (aCons (dFn opLen (aCons (dVar 0) aNil)) aNil))) aNil))) aNil)) (tgN 3) (d_law_b4))
  (dRet (dAndV (dOp opEq (dC (.int 8)) (dC (.int 8))) (dAndV (dCall n_law_right (aCons (dOp opMulS (dC (.str "o")) (dC (.int 8))) (aNil))) (dAndV (dCall n_law_right (aCons (dOp opMulS (dC (.str "o")) (dC (.int 9))) (aNil))) (dCall n_law_right (aCons (dOp opMulS (dC (.str "-")) (dC (.int 8))) (aNil))))))))))
def n_law : List W → M W := dfn 11 1 d_law
/-- what the text gives -/
structure Txt (G : Top) : Prop where
  b_abs : G.mg "abs" = none
  b_all : G.mg "all" = none
  b_bool : G.mg "bool" = none
  b_enumerate : G.mg "enumerate" = none
  b_int : G.mg "int" = none
  b_isinstance : G.mg "isinstance" = none
  b_len : G.mg "len" = none
  b_list : G.mg "list" = none
  b_max : G.mg "max" = none
  b_min : G.mg "min" = none
  b_range : G.mg "range" = none
  b_repr : G.mg "repr" = none
  b_sorted : G.mg "sorted" = none
  b_str : G.mg "str" = none
  b_tuple : G.mg "tuple" = none
  c_CLOSED_SIGN : ∃ t, G.mg "CLOSED_SIGN" = some (.str "-" t)
  c_LONGEST_PATTERN : ∃ t, G.mg "LONGEST_PATTERN" = some (.int (8) t)
  c_OPEN_SIGN : ∃ t, G.mg "OPEN_SIGN" = some (.str "o" t)
  x_InvalidPattern : ExcC G "InvalidPattern" 1
  x_InvalidStretches : ExcC G "InvalidStretches" 2
  y_InvalidPattern : XcC G "InvalidPattern" 1 tb_InvalidPattern
  f_is_integer : MdefD G "is_integer" (top 20) [.none, .none]
  f_is_stretch : Mdef G "is_stretch" (top 23)
  f_require_stretches : Mdef G "require_stretches" (top 24)
  f_joined_stretches : Mdef G "joined_stretches" (top 25)
  f_without_stretches : Mdef G "without_stretches" (top 26)
  f_law_bag : Mdef G "_law_bag" (top 29)
  f_law_take : Mdef G "_law_take" (top 30)
  f_law_due : Mdef G "_law_due" (top 31)
  f_Calendar_pattern : Mprp G [5] "pattern" "pattern" "Calendar.pattern" (inClass (top 27) 4)
  f_is_pattern_reading : MdefA G "is_pattern_reading" "is_pattern" (top 14)
  f_Calendar_init : Minit G "Calendar" 5 "Calendar.__init__" (inClass (top 27) 1) [("closed", .tup []), ("opened", .tup [])]
  f_law_taken : Mdef G "_law_taken" (top 32)
  f_Calendar_is_pattern : Msta G "Calendar" "is_pattern" "Calendar.is_pattern" (inClass (top 27) 2)
  f_law_right : Mdef G "_law_right" (top 33)
  f_law : Mdef G "law" (top 34)
  a_open_signs : FldC G [5] "open_signs"
  a_parts : FldC G [5] "parts"
  a_signs : FldC G [5] "signs"
  k_Calendar_LONGEST : CstI G "Calendar" "LONGEST" 8
section
variable {G : Top}
theorem sc_is_integer : FnScope ["value", "low", "high"] ["value", "low", "high"] (defScope (top 20)) := ⟨rfl, rfl, rfl, by decide +kernel, rfl, by decide +kernel, by decide +kernel⟩
theorem bd_is_integer (T : Txt G) : SsOk G ⟨["value", "low", "high"], defScope (top 20), fun _ => true, none, true⟩ 0 (defBody (top 20)) d_is_integer :=
  ss_cons (s_if (bw_pt (bw_or (b_not (b_val (e_isi "int" (e_var 0) T.b_isinstance T.b_int))) (bw_or1 (b_val (e_isi "bool" (e_var 0) T.b_isinstance T.b_bool))))) (ss_one (s_ret (e_bl))) (ss_nil))
  (ss_one (s_ret (e_and (e_or (e_cmp r_isN o_isN (e_var 1) (e_non)) (e_one (e_cmp r_le o_le (e_var 1) (e_var 0)))) (e_one (e_or (e_cmp r_isN o_isN (e_var 2) (e_non)) (e_one (e_cmp r_le o_le (e_var 0) (e_var 2))))))))
theorem ok_is_integer_1_ (T : Txt G) : DefK G 1 "is_integer" ["value", "low", "high"] n_is_integer [] 1 [.non, .non] [0, 1, 2] := defD_mk (dV := [.non, .non]) T.f_is_integer sc_is_integer rfl (bd_is_integer T) (fun _ _ => VRs.cons .non (VRs.cons .non (VRs.nil))) (Paired.cons rfl (Paired.cons rfl (Paired.nil))) (fun _ _ _ _ _ _ _ us ws zs h1 h2 h3 => match us, ws, h1, h2, h3 with | [_], [], _, _, h3 => by cases h3; exact ⟨_, rfl, rfl⟩)
theorem ok_is_integer_2_ (T : Txt G) : DefK G 1 "is_integer" ["value", "low", "high"] n_is_integer [] 2 [.non, .non] [0, 1, 3] := defD_mk (dV := [.non, .non]) T.f_is_integer sc_is_integer rfl (bd_is_integer T) (fun _ _ => VRs.cons .non (VRs.cons .non (VRs.nil))) (Paired.cons rfl (Paired.cons rfl (Paired.nil))) (fun _ _ _ _ _ _ _ us ws zs h1 h2 h3 => match us, ws, h1, h2, h3 with | [_, _], [], _, _, h3 => by cases h3; exact ⟨_, rfl, rfl⟩)
theorem sc_is_stretch : FnScope ["value"] ["value"] (defScope (top 23)) := ⟨rfl, rfl, rfl, by decide +kernel, rfl, by decide +kernel, by decide +kernel⟩
theorem bd_is_stretch (T : Txt G) : SsOk G ⟨["value"], defScope (top 23), fun _ => true, none, true⟩ 1 (defBody (top 23)) d_is_stretch :=
  ss_cons (s_if (bw_pt (bw_or (b_not (b_val (e_isi "tuple" (e_var 0) T.b_isinstance T.b_tuple))) (bw_or1 (b_cmp r_ne o_ne (e_len (e_var 0) T.b_len) (e_int))))) (ss_one (s_ret (e_bl))) (ss_nil))
  (ss_one (s_ret (e_and (e_callK (ok_is_integer_1_ T) (by decide) (a_cons (e_ix (e_var 0) (e_int)) (a_nil)) (k_nil)) (e_one (e_callK (ok_is_integer_2_ T) (by decide) (a_cons (e_ix (e_var 0) (e_int)) (a_cons (e_ix (e_var 0) (e_int)) (a_nil))) (k_nil))))))
theorem ok_is_stretch (T : Txt G) : Def G 2 "is_stretch" ["value"] n_is_stretch := def_mk T.f_is_stretch sc_is_stretch rfl (bd_is_stretch T) (fun _ _ _ _ _ _ us hl => match us, hl with | [_], _ => rfl)
theorem sc_require_stretches : FnScope ["value", "stretch"] ["value"] (defScope (top 24)) := ⟨rfl, rfl, rfl, by decide +kernel, rfl, by decide +kernel, by decide +kernel⟩
theorem bd_require_stretches (T : Txt G) : SsOk G ⟨["value", "stretch"], defScope (top 24), fun _ => true, none, true⟩ 2 (defBody (top 24)) d_require_stretches :=
  ss_one (s_if (bw_pt (bw_or (b_not (b_val (e_isi2 "list" "tuple" (e_var 0) T.b_isinstance T.b_list T.b_tuple))) (bw_or1 (b_not (b_val (e_all (e_lc [("stretch", 1)] (i_seq (e_var 0)) (gw_name 1) (cs_nil) (e_call (ok_is_stretch T) (by decide) (a_cons (e_var 1) (a_nil)))) T.b_all)))))) (ss_one (s_raise T.x_InvalidStretches)) (ss_nil))
theorem ok_require_stretches (T : Txt G) : Def G 3 "require_stretches" ["value"] n_require_stretches := def_mk T.f_require_stretches sc_require_stretches rfl (bd_require_stretches T) (fun _ _ _ _ _ _ us hl => match us, hl with | [_], _ => rfl)
theorem sc_joined_stretches : FnScope ["stretches", "found", "first", "last"] ["stretches"] (defScope (top 25)) := ⟨rfl, rfl, rfl, by decide +kernel, rfl, by decide +kernel, by decide +kernel⟩
theorem bd_joined_stretches (T : Txt G) : SsOk G ⟨["stretches", "found", "first", "last"], defScope (top 25), fun _ => true, none, true⟩ 0 (defBody (top 25)) d_joined_stretches :=
  ss_cons (s_set 1 (e_lst (a_nil)))
  (ss_cons (s_for (i_seq (e_sortR (e_var 0) T.b_sorted)) (g_tup (gs_cons (g_name 2) (gs_cons (g_name 3) (gs_nil)))) (ss_one (s_if (bw_pt (bw_and (b_cmp r_ne o_ne (e_var 1) (e_lst (a_nil))) (bw_and1 (b_cmp r_le o_le (e_var 2) (e_add (e_ix (e_ix (e_var 1) (e_neg (e_int))) (e_int)) (e_int)))))) (ss_one (s_put (e_tup (a_cons (e_ix (e_ix (e_var 1) (e_neg (e_int))) (e_int)) (a_cons (e_max2 (e_ix (e_ix (e_var 1) (e_neg (e_int))) (e_int)) (e_var 3) T.b_max) (a_nil)))) (e_var 1) (e_neg (e_int)))) (ss_one (s_expr (e_append (e_var 1) (e_tup (a_cons (e_var 2) (a_cons (e_var 3) (a_nil))))))))))
  (ss_one (s_ret (e_var 1))))
theorem ok_joined_stretches (T : Txt G) : Def G 1 "joined_stretches" ["stretches"] n_joined_stretches := def_mk T.f_joined_stretches sc_joined_stretches rfl (bd_joined_stretches T) (fun _ _ _ _ _ _ us hl => match us, hl with | [_], _ => rfl)
theorem sc_without_stretches : FnScope ["stretches", "others", "found", "first", "last", "other_first", "other_last"] ["stretches", "others"] (defScope (top 26)) := ⟨rfl, rfl, rfl, by decide +kernel, rfl, by decide +kernel, by decide +kernel⟩
theorem bd_without_stretches (T : Txt G) : SsOk G ⟨["stretches", "others", "found", "first", "last", "other_first", "other_last"], defScope (top 26), fun _ => true, none, true⟩ 0 (defBody (top 26)) d_without_stretches :=
  ss_cons (s_set 2 (e_lst (a_nil)))
  (ss_cons (s_for (i_seq (e_var 0)) (g_tup (gs_cons (g_name 3) (gs_cons (g_name 4) (gs_nil)))) (ss_cons (s_for (i_seq (e_var 1)) (g_tup (gs_cons (g_name 5) (gs_cons (g_name 6) (gs_nil)))) (ss_cons (s_if (bw_pt (bw_or (b_cmp r_lt o_lt (e_var 6) (e_var 3)) (bw_or1 (b_cmp r_lt o_lt (e_var 4) (e_var 5))))) (ss_one (s_cont)) (ss_nil))
  (ss_cons (s_if (b_cmp r_lt o_lt (e_var 3) (e_var 5)) (ss_one (s_expr (e_append (e_var 2) (e_tup (a_cons (e_var 3) (a_cons (e_sub (e_var 5) (e_int)) (a_nil))))))) (ss_nil))
  (ss_one (s_set 3 (e_add (e_var 6) (e_int)))))))
  (ss_one (s_if (b_cmp r_le o_le (e_var 3) (e_var 4)) (ss_one (s_expr (e_append (e_var 2) (e_tup (a_cons (e_var 3) (a_cons (e_var 4) (a_nil))))))) (ss_nil)))))
  (ss_one (s_ret (e_var 2))))
theorem ok_without_stretches (T : Txt G) : Def G 1 "without_stretches" ["stretches", "others"] n_without_stretches := def_mk T.f_without_stretches sc_without_stretches rfl (bd_without_stretches T) (fun _ _ _ _ _ _ us hl => match us, hl with | [_, _], _ => rfl)
theorem sc_law_bag : FnScope ["script", "k", "cell"] ["script", "k"] (defScope (top 29)) := ⟨rfl, rfl, rfl, by decide +kernel, rfl, by decide +kernel, by decide +kernel⟩
theorem bd_law_bag (T : Txt G) : SsOk G ⟨["script", "k", "cell"], defScope (top 29), fun _ => true, none, true⟩ 0 (defBody (top 29)) d_law_bag :=
  ss_cons (s_set 2 (e_if (b_cmp r_lt o_lt (e_var 1) (e_len (e_var 0) T.b_len)) (e_ix (e_var 0) (e_var 1)) (e_int)))
  (ss_one (s_ret (e_lst (a_cons (e_max2 (e_int) (e_sub (e_abs (e_var 2) T.b_abs) (e_pow (e_int) (e_int))) T.b_max) (a_cons (e_mod (e_add (e_add (e_mul (e_var 2) (e_int)) (e_mul (e_int) (e_var 1))) (e_int)) (e_add (e_pow (e_int) (e_int)) (e_int))) (a_cons (e_int) (a_nil)))))))
theorem ok_law_bag (T : Txt G) : Def G 1 "_law_bag" ["script", "k"] n_law_bag := def_mk T.f_law_bag sc_law_bag rfl (bd_law_bag T) (fun _ _ _ _ _ _ us hl => match us, hl with | [_, _], _ => rfl)
theorem sc_law_take : FnScope ["bag", "many", "mixed", "digit"] ["bag", "many"] (defScope (top 30)) := ⟨rfl, rfl, rfl, by decide +kernel, rfl, by decide +kernel, by decide +kernel⟩
theorem bd_law_take (T : Txt G) : SsOk G ⟨["bag", "many", "mixed", "digit"], defScope (top 30), fun _ => true, none, true⟩ 0 (defBody (top 30)) d_law_take :=
  ss_cons (s_if (b_cmp r_gt o_gt (e_ix (e_var 0) (e_int)) (e_int)) (ss_cons (s_set 3 (e_mod (e_ix (e_var 0) (e_int)) (e_var 1)))
  (ss_cons (s_put (e_fdiv (e_ix (e_var 0) (e_int)) (e_var 1)) (e_var 0) (e_int))
  (ss_one (s_ret (e_var 3))))) (ss_nil))
  (ss_cons (s_put (e_add (e_ix (e_var 0) (e_int)) (e_int)) (e_var 0) (e_int))
  (ss_cons (s_set 2 (e_mod (e_pow (e_add (e_ix (e_var 0) (e_int)) (e_mul (e_int) (e_ix (e_var 0) (e_int)))) (e_int)) (e_add (e_pow (e_int) (e_int)) (e_int))))
  (ss_cons (s_set 2 (e_mod (e_pow (e_add (e_var 2) (e_mul (e_int) (e_ix (e_var 0) (e_int)))) (e_int)) (e_add (e_pow (e_int) (e_int)) (e_int))))
  (ss_one (s_ret (e_mod (e_fdiv (e_var 2) (e_pow (e_int) (e_int))) (e_var 1)))))))
theorem ok_law_take (T : Txt G) : Def G 1 "_law_take" ["bag", "many"] n_law_take := def_mk T.f_law_take sc_law_take rfl (bd_law_take T) (fun _ _ _ _ _ _ us hl => match us, hl with | [_, _], _ => rfl)
theorem sc_law_due : FnScope ["thing", "sign"] ["thing"] (defScope (top 31)) := ⟨rfl, rfl, rfl, by decide +kernel, rfl, by decide +kernel, by decide +kernel⟩
theorem bd_law_due (T : Txt G) : SsOk G ⟨["thing", "sign"], defScope (top 31), fun _ => true, none, true⟩ 0 (defBody (top 31)) d_law_due :=
  ss_cons (s_if (bw_pt (bw_or (b_not (b_val (e_isi "str" (e_var 0) T.b_isinstance T.b_str))) (bw_or1 (b_not (b_chain r_le r_le o_le o_le (e_int) (e_len (e_var 0) T.b_len) (e_int)))))) (ss_one (s_ret (e_bl))) (ss_nil))
  (ss_one (s_ret (e_and (e_cmp r_in o_in (e_str) (e_var 0)) (e_one (e_cmp r_eqE o_eqE (e_lc [("sign", 1)] (i_seq (e_var 0)) (gw_name 1) (cs_one (b_cmp r_notIn o_notIn (e_var 1) (e_lst (a_cons (e_str) (a_cons (e_str) (a_nil)))))) (e_var 1)) (e_lst (a_nil)))))))
theorem ok_law_due (T : Txt G) : Def G 1 "_law_due" ["thing"] n_law_due := def_mk T.f_law_due sc_law_due rfl (bd_law_due T) (fun _ _ _ _ _ _ us hl => match us, hl with | [_], _ => rfl)
theorem sc_Calendar_pattern : FnScope ["self"] ["self"] (defScope (inClass (top 27) 4)) := ⟨rfl, rfl, rfl, by decide +kernel, rfl, by decide +kernel, by decide +kernel⟩
theorem bd_Calendar_pattern (T : Txt G) : SsOk G ⟨["self"], defScope (inClass (top 27) 4), fun _ => true, none, true⟩ 0 (defBody (inClass (top 27) 4)) d_Calendar_pattern :=
  ss_one (s_ret (e_fld T.a_signs (e_var 0)))
theorem ok_Calendar_pattern (T : Txt G) : Prp G 1 [5] "pattern" n_Calendar_pattern := prp_mk T.f_Calendar_pattern sc_Calendar_pattern (bd_Calendar_pattern T) (fun _ _ _ _ _ _ us hl => match us, hl with | [_], _ => rfl)
theorem sc_is_pattern_reading : FnScope ["value", "sign"] ["value"] (defScope (top 14)) := ⟨rfl, rfl, rfl, by decide +kernel, rfl, by decide +kernel, by decide +kernel⟩
theorem bd_is_pattern_reading (T : Txt G) : SsOk G ⟨["value", "sign"], defScope (top 14), fun _ => true, none, true⟩ 0 (defBody (top 14)) d_is_pattern_reading :=
  ss_cons (s_if (bw_pt (bw_or (b_not (b_val (e_isi "str" (e_var 0) T.b_isinstance T.b_str))) (bw_or (b_not (b_chain r_le r_le o_le o_le (e_int) (e_len (e_var 0) T.b_len) (e_globI T.c_LONGEST_PATTERN))) (bw_or1 (b_cmp r_notIn o_notIn (e_globS T.c_OPEN_SIGN) (e_var 0)))))) (ss_one (s_ret (e_bl))) (ss_nil))
  (ss_one (s_ret (e_all (e_lc [("sign", 1)] (i_seq (e_var 0)) (gw_name 1) (cs_nil) (e_cmp r_inT o_inT (e_var 1) (e_tup (a_cons (e_globS T.c_OPEN_SIGN) (a_cons (e_globS T.c_CLOSED_SIGN) (a_nil)))))) T.b_all)))
theorem ok_is_pattern_reading (T : Txt G) : Def G 1 "is_pattern_reading" ["value"] n_is_pattern_reading := def_mkA T.f_is_pattern_reading sc_is_pattern_reading rfl (bd_is_pattern_reading T) (fun _ _ _ _ _ _ us hl => match us, hl with | [_], _ => rfl)
theorem sc_Calendar_init : FnScope ["self", "pattern", "closed", "opened", "closed_days", "opened_days", "parts", "index", "sign", "first", "last"] ["self", "pattern", "closed", "opened"] (defScope (inClass (top 27) 1)) := ⟨rfl, rfl, rfl, by decide +kernel, rfl, by decide +kernel, by decide +kernel⟩
theorem bd_Calendar_init (T : Txt G) : SsOk G ⟨["self", "pattern", "closed", "opened", "closed_days", "opened_days", "parts", "index", "sign", "first", "last"], defScope (inClass (top 27) 1), fun _ => true, none, true⟩ 3 (defBody (inClass (top 27) 1)) d_Calendar_init :=
  ss_cons (s_if (b_not (b_val (e_call (ok_is_pattern_reading T) (by decide) (a_cons (e_var 1) (a_nil))))) (ss_one (s_raise T.x_InvalidPattern)) (ss_nil))
  (ss_cons (s_expr (e_call (ok_require_stretches T) (by decide) (a_cons (e_var 2) (a_nil))))
  (ss_cons (s_expr (e_call (ok_require_stretches T) (by decide) (a_cons (e_var 3) (a_nil))))
  (ss_cons (s_fld T.a_signs (e_var 0) (e_var 1))
  (ss_cons (s_fld T.a_open_signs (e_var 0) (e_lc [("index", 7), ("sign", 8)] (i_enumS (e_var 1) T.b_enumerate) (gw_tup (gsw_cons (gw_name 7) (gsw_cons (gw_name 8) (gsw_nil)))) (cs_one (b_cmp r_eq o_eq (e_var 8) (e_globS T.c_OPEN_SIGN))) (e_var 7)))
  (ss_cons (s_set 4 (e_call (ok_joined_stretches T) (by decide) (a_cons (e_var 2) (a_nil))))
  (ss_cons (s_set 5 (e_call (ok_without_stretches T) (by decide) (a_cons (e_call (ok_joined_stretches T) (by decide) (a_cons (e_var 3) (a_nil))) (a_cons (e_var 4) (a_nil)))))
  (ss_cons (s_lc 6 [("first", 9), ("last", 10)] (i_seq (e_var 4)) (gw_tup (gsw_cons (gw_name 9) (gsw_cons (gw_name 10) (gsw_nil)))) (cs_nil) (e_tup (a_cons (e_var 9) (a_cons (e_var 10) (a_cons (e_bl) (a_nil))))))
  (ss_one (s_fld T.a_parts (e_var 0) (e_sortR (e_add (e_var 6) (e_lc [("first", 9), ("last", 10)] (i_seq (e_var 5)) (gw_tup (gsw_cons (gw_name 9) (gsw_cons (gw_name 10) (gsw_nil)))) (cs_nil) (e_tup (a_cons (e_var 9) (a_cons (e_var 10) (a_cons (e_bl) (a_nil))))))) T.b_sorted))))))))))
theorem mk_Calendar_1_ (T : Txt G) : MakC G 4 "Calendar" 5 ["self", "pattern", "closed", "opened"] n_Calendar_init [] 1 [.tup [], .tup []] [0, 1, 2, 3] := mak_mk T.f_Calendar_init sc_Calendar_init rfl (bd_Calendar_init T) (fun _ _ _ _ _ _ us ws mv zs h1 h2 h4 h3 => match us, ws, mv, h1, h2, h4, h3 with | [_, _], [], [z0, z1], _, _, _, h3 => by cases h3; exact ⟨[("closed", z0), ("opened", z1)], by simp, ⟨_, _, _, _, _, _, rfl, rfl, ⟨_, _, _, _, _, _, rfl, rfl, rfl⟩⟩⟩)
theorem sc_law_taken : FnScope ["thing"] ["thing"] (defScope (top 32)) := ⟨rfl, rfl, rfl, by decide +kernel, rfl, by decide +kernel, by decide +kernel⟩
theorem bd_law_taken (T : Txt G) : SsOk G ⟨["thing"], defScope (top 32), fun _ => true, none, true⟩ 5 (defBody (top 32)) d_law_taken :=
  ss_one (s_try (ss_one (s_ret (e_prop (ok_Calendar_pattern T) (by decide) (e_make (mk_Calendar_1_ T) (by decide) (a_cons (e_var 0) (a_nil)))))) (.bare T.y_InvalidPattern.nm (fun h => ss_one (s_ret (e_non))) (.nil)))
theorem ok_law_taken (T : Txt G) : Def G 6 "_law_taken" ["thing"] n_law_taken := def_mk T.f_law_taken sc_law_taken rfl (bd_law_taken T) (fun _ _ _ _ _ _ us hl => match us, hl with | [_], _ => rfl)
theorem sc_Calendar_is_pattern : FnScope ["value"] ["value"] (defScope (inClass (top 27) 2)) := ⟨rfl, rfl, rfl, by decide +kernel, rfl, by decide +kernel, by decide +kernel⟩
theorem bd_Calendar_is_pattern (T : Txt G) : SsOk G ⟨["value"], defScope (inClass (top 27) 2), fun _ => true, none, true⟩ 1 (defBody (inClass (top 27) 2)) d_Calendar_is_pattern :=
  ss_one (s_ret (e_call (ok_is_pattern_reading T) (by decide) (a_cons (e_var 0) (a_nil))))
theorem ok_Calendar_is_pattern (T : Txt G) : Smth G 2 "Calendar" "is_pattern" ["value"] n_Calendar_is_pattern := smth_mk T.f_Calendar_is_pattern sc_Calendar_is_pattern rfl (bd_Calendar_is_pattern T) (fun _ _ _ _ _ _ us hl => match us, hl with | [_], _ => rfl)
theorem ok_Calendar_is_pattern_0_value (T : Txt G) : SmthK G 2 "Calendar" "is_pattern" ["value"] n_Calendar_is_pattern ["value"] 0 [] [0] := smthK_mk T.f_Calendar_is_pattern sc_Calendar_is_pattern rfl (bd_Calendar_is_pattern T) (fun _ _ _ _ _ _ us ws zs h1 h2 h3 => match us, ws, h1, h2, h3 with | [], [_], _, _, h3 => by cases h3; rfl)
theorem sc_law_right : FnScope ["thing", "due"] ["thing"] (defScope (top 33)) := ⟨rfl, rfl, rfl, by decide +kernel, rfl, by decide +kernel, by decide +kernel⟩
theorem bd_law_right (T : Txt G) : SsOk G ⟨["thing", "due"], defScope (top 33), fun _ => true, none, true⟩ 6 (defBody (top 33)) d_law_right :=
  ss_cons (s_set 1 (e_call (ok_law_due T) (by decide) (a_cons (e_var 0) (a_nil))))
  (ss_cons (s_if (b_cmp r_ne o_ne (e_reprD (e_lst (a_cons (e_smeth (ok_Calendar_is_pattern T) (by decide) (a_cons (e_var 0) (a_nil))) (a_cons (e_smethK0 (ok_Calendar_is_pattern_0_value T) (by decide) (k_cons (e_var 0) (k_nil))) (a_nil)))) T.b_repr) (e_reprD (e_lst (a_cons (e_var 1) (a_cons (e_var 1) (a_nil)))) T.b_repr)) (ss_one (s_ret (e_bl))) (ss_nil))
  (ss_one (s_ret (e_cmp r_eq o_eq (e_reprD (e_call (ok_law_taken T) (by decide) (a_cons (e_var 0) (a_nil))) T.b_repr) (e_reprD (e_if (b_val (e_var 1)) (e_var 0) (e_non)) T.b_repr)))))
theorem ok_law_right (T : Txt G) : Def G 7 "_law_right" ["thing"] n_law_right := def_mk T.f_law_right sc_law_right rfl (bd_law_right T) (fun _ _ _ _ _ _ us hl => match us, hl with | [_], _ => rfl)
theorem sc_law : FnScope ["script", "words", "size", "k", "longer", "sign", "bag", "turn", "signs", "word", "others"] ["script"] (defScope (top 34)) := ⟨rfl, rfl, rfl, by decide +kernel, rfl, by decide +kernel, by decide +kernel⟩
theorem bd_law (T : Txt G) : SsOk G ⟨["script", "words", "size", "k", "longer", "sign", "bag", "turn", "signs", "word", "others"], defScope (top 34), fun _ => true, none, true⟩ 7 (defBody (top 34)) d_law :=
  ss_cons (s_set 1 (e_lst (a_cons (e_str) (a_nil))))
  (ss_cons (s_for (i_rng1 (e_int) T.b_range) (g_name 2) (ss_cons (s_set 4 (e_lst (a_nil)))
  (ss_cons (s_for (i_seq (e_str)) (g_name 5) (ss_one (s_expr (e_extend (e_var 4) (e_lc [("word", 9)] (i_seq (e_var 1)) (gw_name 9) (cs_one (b_cmp r_eq o_eq (e_len (e_var 9) T.b_len) (e_var 2))) (e_add (e_var 9) (e_var 5)))))))
  (ss_one (s_set 1 (e_add (e_var 1) (e_var 4)))))))
  (ss_cons (s_if (b_cmp r_ne o_ne (e_lc [("word", 9)] (i_seq (e_var 1)) (gw_name 9) (cs_one (b_not (b_val (e_call (ok_law_right T) (by decide) (a_cons (e_var 9) (a_nil)))))) (e_var 9)) (e_lst (a_nil))) (ss_one (s_ret (e_bl))) (ss_nil))
  (ss_cons (s_for (i_rng1 (e_max2 (e_int) (e_min2 (e_int) (e_len (e_var 0) T.b_len) T.b_min) T.b_max) T.b_range) (g_name 3) (ss_cons (s_set 6 (e_call (ok_law_bag T) (by decide) (a_cons (e_var 0) (a_cons (e_var 3) (a_nil)))))
  (ss_one (s_for (i_rng1 (e_int) T.b_range) (g_name 7) (ss_cons (s_set 8 (e_sl (e_lst (a_cons (e_str) (a_cons (e_str) (a_cons (e_str) (a_cons (e_str) (a_cons (e_str) (a_cons (e_str) (a_cons (e_str) (a_cons (e_str) (a_cons (e_str) (a_cons (e_str) (a_nil)))))))))))) (o_none) (o_some (e_ixD (e_lst (a_cons (e_int) (a_cons (e_int) (a_cons (e_int) (a_cons (e_int) (a_nil)))))) (e_call (ok_law_take T) (by decide) (a_cons (e_var 6) (a_cons (e_int) (a_nil)))) (e_ix (e_lst (a_cons (e_int) (a_cons (e_int) (a_cons (e_int) (a_cons (e_int) (a_nil)))))) (e_call (ok_law_take T) (by decide) (a_cons (e_var 6) (a_cons (e_int) (a_nil)))))))))
  (ss_cons (s_set 9 (e_join (e_str) (e_lc [("sign", 5)] (i_rng1 (e_call (ok_law_take T) (by decide) (a_cons (e_var 6) (a_cons (e_int) (a_nil)))) T.b_range) (gw_name 5) (cs_nil) (e_ixD (e_var 8) (e_call (ok_law_take T) (by decide) (a_cons (e_var 6) (a_cons (e_len (e_var 8) T.b_len) (a_nil)))) (e_ix (e_var 8) (e_call (ok_law_take T) (by decide) (a_cons (e_var 6) (a_cons (e_len (e_var 8) T.b_len) (a_nil)))))))))
  (ss_cons (s_set 10 (e_lst (a_cons (e_non) (a_cons (e_int) (a_cons (e_int) (a_cons (e_bl) (a_cons (e_lst (a_cons (e_str) (a_nil))) (a_cons (e_tup (a_cons (e_str) (a_cons (e_str) (a_nil)))) (a_cons (e_dict0) (a_cons (e_dict1) (a_cons (e_lst (a_nil)) (a_cons (e_lst (a_cons (e_str) (a_cons (e_str) (a_nil)))) (a_cons (e_lst (a_cons (e_var 9) (a_nil))) (a_cons (e_tup (a_cons (e_var 9) (a_nil))) (a_nil)))))))))))))))
  (ss_one (s_if (bw_pt (bw_or (b_not (b_val (e_call (ok_law_right T) (by decide) (a_cons (e_var 9) (a_nil))))) (bw_or1 (b_not (b_val (e_call (ok_law_right T) (by decide) (a_cons (e_ixD (e_var 10) (e_call (ok_law_take T) (by decide) (a_cons (e_var 6) (a_cons (e_len (e_var 10) T.b_len) (a_nil)))) (e_ix (e_var 10) (e_call (ok_law_take T) (by decide) (a_cons (e_var 6) (a_cons (e_len (e_var 10) T.b_len) (a_nil)))))) (a_nil)))))))) (ss_one (s_ret (e_bl))) (ss_nil))))))))))
  (ss_one (s_ret (e_and (e_cmp r_eq o_eq (e_cst T.k_Calendar_LONGEST) (e_int)) (e_and (e_call (ok_law_right T) (by decide) (a_cons (e_mulS (e_str) (e_int)) (a_nil))) (e_and (e_call (ok_law_right T) (by decide) (a_cons (e_mulS (e_str) (e_int)) (a_nil))) (e_one (e_call (ok_law_right T) (by decide) (a_cons (e_mulS (e_str) (e_int)) (a_nil))))))))))))
end
end
end K01
namespace N
open PySem L2
noncomputable section
def d_law_bag : DS :=
  dSeq (dSet 2 (dIfE (dBool (dOp opLt (dVar 1) (dFn opLen (aCons (dVar 0) aNil)))) (dOp opIx (dVar 0) (dVar 1)) (dC (.int 0))))
  (dRet (dLst (aCons (dFn opMax2 (aCons (dC (.int 0)) (aCons (dOp opSub (dFn opAbs (aCons (dVar 2) aNil)) (dOp opPow (dC (.int 10)) (dC (.int 18)))) aNil))) (aCons (dOp opMod (dOp opAdd (dOp opAdd (dOp opMul (dVar 2) (dC (.int 67))) (dOp opMul (dC (.int 23)) (dVar 1))) (dC (.int 11))) (dOp opAdd (dOp opPow (dC (.int 10)) (dC (.int 37))) (dC (.int 43)))) (aCons (dC (.int 0)) (aNil))))))
def n_law_bag : List W → M W := dfn 3 2 d_law_bag
def d_law_take : DS :=
  dSeq (dIf (dBool (dOp opGt (dOp opIx (dVar 0) (dC (.int 0))) (dC (.int 0)))) (dSeq (dSet 3 (dOp opMod (dOp opIx (dVar 0) (dC (.int 0))) (dVar 1)))
  (dSeq (dPut (dOp opFdiv (dOp opIx (dVar 0) (dC (.int 0))) (dVar 1)) (dVar 0) (dC (.int 0)))
  (dRet (dVar 3)))) (dNx))
  (dSeq (dPut (dOp opAdd (dOp opIx (dVar 0) (dC (.int 2))) (dC (.int 1))) (dVar 0) (dC (.int 2)))
  (dSeq (dSet 2 (dOp opMod (dOp opPow (dOp opAdd (dOp opIx (dVar 0) (dC (.int 1))) (dOp opMul (dC (.int 32452843)) (dOp opIx (dVar 0) (dC (.int 2))))) (dC (.int 3))) (dOp opAdd (dOp opPow (dC (.int 10)) (dC (.int 40))) (dC (.int 121)))))
  (dSeq (dSet 2 (dOp opMod (dOp opPow (dOp opAdd (dVar 2) (dOp opMul (dC (.int 15485863)) (dOp opIx (dVar 0) (dC (.int 2))))) (dC (.int 2))) (dOp opAdd (dOp opPow (dC (.int 10)) (dC (.int 39))) (dC (.int 3)))))
  (dRet (dOp opMod (dOp opFdiv (dVar 2) (dOp opPow (dC (.int 10)) (dC (.int 5)))) (dVar 1))))))
def n_law_take : List W → M W := dfn 4 2 d_law_take
def d_law_purse : DS :=
  dSeq (dSet 2 (dIfE (dBool (dOp opLt (dVar 1) (dFn opLen (aCons (dVar 0) aNil)))) (dOp opIx (dVar 0) (dVar 1)) (dC (.int 0))))
  (dRet (dLst (aCons (dFn opMax2 (aCons (dC (.int 0)) (aCons (dOp opSub (dFn opAbs (aCons (dVar 2) aNil)) (dOp opPow (dC (.int 10)) (dC (.int 18)))) aNil))) (aCons (dOp opAdd (dOp opAdd (dOp opMul (dOp opMod (dVar 2) (dOp opAdd (dOp opPow (dC (.int 10)) (dC (.int 35))) (dC (.int 69)))) (dC (.int 5))) (dOp opMul (dC (.int 10039)) (dVar 1))) (dC (.int 1))) (aCons (dC (.int 0)) (aNil))))))
def n_law_purse : List W → M W := dfn 3 2 d_law_purse
def d_law_coin : DS :=
  dSeq (dIf (dBool (dOp opGt (dOp opIx (dVar 0) (dC (.int 0))) (dC (.int 0)))) (dSeq (dSet 3 (dOp opMod (dOp opIx (dVar 0) (dC (.int 0))) (dVar 1)))
  (dSeq (dPut (dOp opFdiv (dOp opIx (dVar 0) (dC (.int 0))) (dVar 1)) (dVar 0) (dC (.int 0)))
  (dRet (dVar 3)))) (dNx))
  (dSeq (dPut (dOp opAdd (dOp opIx (dVar 0) (dC (.int 2))) (dC (.int 1))) (dVar 0) (dC (.int 2)))
  (dSeq (dSet 2 (dOp opMod (dOp opPow (dOp opAdd (dOp opIx (dVar 0) (dC (.int 1))) (dOp opMul (dC (.int 67867979)) (dOp opIx (dVar 0) (dC (.int 2))))) (dC (.int 3))) (dOp opAdd (dOp opPow (dC (.int 10)) (dC (.int 39))) (dC (.int 3)))))
  (dSeq (dSet 2 (dOp opMod (dOp opPow (dOp opAdd (dVar 2) (dOp opMul (dC (.int 32416190071)) (dOp opIx (dVar 0) (dC (.int 2))))) (dC (.int 3))) (dOp opAdd (dOp opPow (dC (.int 10)) (dC (.int 38))) (dC (.int 133)))))
  (dRet (dOp opMod (dOp opFdiv (dVar 2) (dC (.int 90001))) (dVar 1))))))
def n_law_coin : List W → M W := dfn 4 2 d_law_coin
end
/-- three numbers in a list of their own -/
structure Purse (B n p : Nat) (S : Store) : Prop where
  bl : B ≤ S.length
  lt : p < B
  ex : ∃ a b t : Int, S[p]? = some (.lst [.int a, .int b, .int t]) ∧ b.natAbs < 2 ^ 150 ∧ 0 ≤ t ∧ t ≤ n
theorem Purse.mono {B n p m : Nat} {S S' : Store} (D : Purse B n p S) (h : n ≤ m) (f : Fr 0 S S') : Purse B m p S' := by
  obtain ⟨a, b, t, e, hb, t0, t1⟩ := D.ex
  exact ⟨Nat.le_trans D.bl f.len, D.lt, a, b, t, f.g0 e, hb, t0, by omega⟩
theorem Purse.setB {B n p m k : Nat} {o : O} {S : Store} (D : Purse B n p S) (h : n ≤ m) (hk : B ≤ k) : Purse B m p (S.set k o) := by
  obtain ⟨a, b, t, e, hb, t0, t1⟩ := D.ex
  have := D.lt
  exact ⟨by rw [List.length_set]; exact D.bl, D.lt, a, b, t, by rw [List.getElem?_set_ne (by omega)]; exact e, hb, t0, by omega⟩
/-- a purse over everything that stands -/
theorem Purse.all {B n p : Nat} {S : Store} (D : Purse B n p S) : Purse S.length n p S := ⟨Nat.le_refl _, Nat.lt_of_lt_of_le D.lt D.bl, D.ex⟩
theorem b3 (x y : Int) (h : 0 < y) (h2 : y < 2 ^ 150) : (x % y).natAbs < 2 ^ 150 := by
  have := Int.emod_nonneg x (show y ≠ 0 by omega)
  have := Int.emod_lt_of_pos x h
  omega
theorem b4 (x c t : Int) (hx : x.natAbs < 2 ^ 150) (h : 0 < c) (h2 : c < 2 ^ 40) (t0 : 0 ≤ t) (t1 : t ≤ 2 ^ 101) : (x + c * t).natAbs < 2 ^ 1000 := by
  have h4 : (c * t).natAbs ≤ 2 ^ 40 * 2 ^ 101 := by
    rw [Int.natAbs_mul]
    exact Nat.mul_le_mul (by omega) (by omega)
  have h5 : (x + c * t).natAbs ≤ x.natAbs + (c * t).natAbs := Int.natAbs_add_le _ _
  have h6 : (x + c * t).natAbs < 2 ^ 151 := by omega
  exact Nat.lt_of_lt_of_le h6 (Nat.pow_le_pow_right (by decide) (by decide))
theorem b5 (c t : Int) (h : 0 < c) (h2 : c < 2 ^ 40) (t0 : 0 ≤ t) (t1 : t ≤ 2 ^ 101) : mulOk c t = true := by
  refine mulOk_of ?_ ?_
  · exact Nat.lt_of_lt_of_le (by omega : c.natAbs < 2 ^ 40) (Nat.pow_le_pow_right (by decide) (by decide))
  · exact Nat.lt_of_lt_of_le (by omega : t.natAbs < 2 ^ 102) (Nat.pow_le_pow_right (by decide) (by decide))
section
variable {B n p : Nat} {S : Store} {m : Int} {E : Ex → Store → Prop}
theorem coin_spec (D : Purse B n p S) (hn : n < 2 ^ 100) (h0 : 0 < m) (h1 : m < 2 ^ 900) :
    wp (n_law_coin [.ref p, .int m] S) (fun r S' => ∃ k : Int, r = .int k ∧ 0 ≤ k ∧ k < m ∧ Purse B (n + 1) p S' ∧ Fr B S S' ∧ S'.length = S.length) E := by
  obtain ⟨a, b, t, e, hb, t0, t1⟩ := D.ex
  have i30 : ixN 3 0 = some 0 := rfl
  have i32 : ixN 3 2 = some 2 := rfl
  have mod_lt : ∀ x : Int, 0 ≤ x % m ∧ x % m < m := fun x => ⟨Int.emod_nonneg _ (by omega), Int.emod_lt_of_pos _ h0⟩
  have mabs : m.natAbs < 2 ^ 1000 := Nat.lt_of_lt_of_le (by omega : m.natAbs < 2 ^ 900) (Nat.pow_le_pow_right (by decide) (by decide))
  have fin : ∀ (a' t' : Int), 0 ≤ t' → t' ≤ n + 1 → Purse B (n + 1) p (List.set S p (.lst [.int a', .int b, .int t'])) ∧ Fr B S (List.set S p (.lst [.int a', .int b, .int t'])) ∧ (List.set S p (.lst [.int a', .int b, .int t'])).length = S.length := fun a' t' q0 q1 =>
    ⟨⟨by rw [List.length_set]; exact D.bl, D.lt, a', b, t', get_set e, hb, q0, by omega⟩, Fr.refl.setB D.lt, by simp⟩
  unfold n_law_coin d_law_coin
  simp only [WPA, Nat.reduceSub, Nat.reduceAdd, tgN, tgNil, tgCons, tgTup, wipeE, isT, String.reduceBEq, reduceIte, lstAt_of e, Option.bind_some, Option.map_some, h0, divOk_of h0 mabs, setIx_ref e, i30, i32]
  by_cases ha : 0 < a
  · rw [if_pos (decide_eq_true ha)]
    exact ⟨_, rfl, (mod_lt a).1, (mod_lt a).2, fin _ _ t0 (by omega)⟩
  · rw [if_neg (by simpa using ha)]
    obtain ⟨f1, f2, f3⟩ := fin a (t + 1) (by omega) (by omega)
    have e5 : (List.set S p (O.lst [W.int a, W.int b, W.int (t + 1)]))[p]? = some (.lst [.int a, .int b, .int (t + 1)]) := get_set e
    generalize List.set S p (O.lst [W.int a, W.int b, W.int (t + 1)]) = S2 at e5 f1 f2 f3 ⊢
    have z1 : powOk 10 39 = true := by decide +kernel
    have z2 : powOk 10 38 = true := by decide +kernel
    have v1 : (10 : Int) ^ Int.toNat 39 + 3 = 1000000000000000000000000000000000000003 := by decide +kernel
    have v2 : (10 : Int) ^ Int.toNat 38 + 133 = 100000000000000000000000000000000000133 := by decide +kernel
    simp only [WPA, Nat.reduceSub, Nat.reduceAdd, tgN, tgNil, tgCons, tgTup, wipeE, isT, String.reduceBEq, reduceIte, lstAt_of e5, Option.bind_some, Option.map_some, b5 67867979 (t + 1) (by decide) (by decide) (by omega) (by omega), b5 32416190071 (t + 1) (by decide) (by decide) (by omega) (by omega),
      pow3Ok (b4 b 67867979 (t + 1) hb (by decide) (by decide) (by omega) (by omega)), z1, z2, v1, v2]
    have c1 : (0 : Int) < 1000000000000000000000000000000000000003 := by decide
    have c2 : (0 : Int) < 100000000000000000000000000000000000133 := by decide
    simp only [c1, c2, if_true, wO_some, opAdd_int, opPow_int, opMod_pos]
    have k4 := fun x => pow3Ok (b4 (x % 1000000000000000000000000000000000000003) 32416190071 (t + 1) (b3 _ _ c1 (by decide)) (by decide) (by decide) (by omega) (by omega))
    simp only [k4, c1, c2, if_true, wO_some, opFdiv_int, opMod_pos]
    have k5 : ∀ x, divOk x 90001 = true := fun x => divOk_of (by decide) (by decide)
    simp only [k5, h0, if_true, wO_some, opMod_pos]
    exact ⟨_, rfl, (mod_lt _).1, (mod_lt _).2, f1, f2, f3⟩
theorem take_spec (D : Purse B n p S) (hn : n < 2 ^ 100) (h0 : 0 < m) (h1 : m < 2 ^ 900) :
    wp (n_law_take [.ref p, .int m] S) (fun r S' => ∃ k : Int, r = .int k ∧ 0 ≤ k ∧ k < m ∧ Purse B (n + 1) p S' ∧ Fr B S S' ∧ S'.length = S.length) E := by
  obtain ⟨a, b, t, e, hb, t0, t1⟩ := D.ex
  have i30 : ixN 3 0 = some 0 := rfl
  have i32 : ixN 3 2 = some 2 := rfl
  have mod_lt : ∀ x : Int, 0 ≤ x % m ∧ x % m < m := fun x => ⟨Int.emod_nonneg _ (by omega), Int.emod_lt_of_pos _ h0⟩
  have mabs : m.natAbs < 2 ^ 1000 := Nat.lt_of_lt_of_le (by omega : m.natAbs < 2 ^ 900) (Nat.pow_le_pow_right (by decide) (by decide))
  have fin : ∀ (a' t' : Int), 0 ≤ t' → t' ≤ n + 1 → Purse B (n + 1) p (List.set S p (.lst [.int a', .int b, .int t'])) ∧ Fr B S (List.set S p (.lst [.int a', .int b, .int t'])) ∧ (List.set S p (.lst [.int a', .int b, .int t'])).length = S.length := fun a' t' q0 q1 =>
    ⟨⟨by rw [List.length_set]; exact D.bl, D.lt, a', b, t', get_set e, hb, q0, by omega⟩, Fr.refl.setB D.lt, by simp⟩
  unfold n_law_take d_law_take
  simp only [WPA, Nat.reduceSub, Nat.reduceAdd, tgN, tgNil, tgCons, tgTup, wipeE, isT, String.reduceBEq, reduceIte, lstAt_of e, Option.bind_some, Option.map_some, h0, divOk_of h0 mabs, setIx_ref e, i30, i32]
  by_cases ha : 0 < a
  · rw [if_pos (decide_eq_true ha)]
    exact ⟨_, rfl, (mod_lt a).1, (mod_lt a).2, fin _ _ t0 (by omega)⟩
  · rw [if_neg (by simpa using ha)]
    obtain ⟨f1, f2, f3⟩ := fin a (t + 1) (by omega) (by omega)
    have e5 : (List.set S p (O.lst [W.int a, W.int b, W.int (t + 1)]))[p]? = some (.lst [.int a, .int b, .int (t + 1)]) := get_set e
    generalize List.set S p (O.lst [W.int a, W.int b, W.int (t + 1)]) = S2 at e5 f1 f2 f3 ⊢
    have z1 : powOk 10 40 = true := by decide +kernel
    have z2 : powOk 10 39 = true := by decide +kernel
    have z3 : powOk 10 5 = true := by decide +kernel
    have v1 : (10 : Int) ^ Int.toNat 40 + 121 = 10000000000000000000000000000000000000121 := by decide +kernel
    have v2 : (10 : Int) ^ Int.toNat 39 + 3 = 1000000000000000000000000000000000000003 := by decide +kernel
    have v3 : (10 : Int) ^ Int.toNat 5 = 100000 := by decide +kernel
    simp only [WPA, Nat.reduceSub, Nat.reduceAdd, tgN, tgNil, tgCons, tgTup, wipeE, isT, String.reduceBEq, reduceIte, lstAt_of e5, Option.bind_some, Option.map_some, b5 32452843 (t + 1) (by decide) (by decide) (by omega) (by omega), b5 15485863 (t + 1) (by decide) (by decide) (by omega) (by omega),
      pow3Ok (b4 b 32452843 (t + 1) hb (by decide) (by decide) (by omega) (by omega)), z1, z2, z3, v1, v2, v3]
    have c1 : (0 : Int) < 10000000000000000000000000000000000000121 := by decide
    have c2 : (0 : Int) < 1000000000000000000000000000000000000003 := by decide
    simp only [c1, c2, if_true, wO_some, opAdd_int, opPow_int, opMod_pos]
    have k4 := fun x => pow2Ok (b4 (x % 10000000000000000000000000000000000000121) 15485863 (t + 1) (b3 _ _ c1 (by decide)) (by decide) (by decide) (by omega) (by omega))
    simp only [k4, c1, c2, if_true, wO_some, opFdiv_int, opMod_pos]
    have k5 : ∀ x, divOk x 100000 = true := fun x => divOk_of (by decide) (by decide)
    simp only [k5, h0, if_true, wO_some, opMod_pos]
    exact ⟨_, rfl, (mod_lt _).1, (mod_lt _).2, f1, f2, f3⟩
end
theorem purse_spec {ns : List Int} {k : Nat} {S : Store} {E : Ex → Store → Prop} (hk : k ≤ 1000) : wp (n_law_purse [.rl (ns.map W.int), .int k] S) (fun r S' => ∃ a b : Int, r = .ref S.length ∧ S' = S ++ [.lst [.int a, .int b, .int 0]] ∧ Purse (S.length + 1) 0 S.length S') E := by
  have z1 : powOk 10 18 = true := by decide +kernel
  have z2 : powOk 10 35 = true := by decide +kernel
  have v2 : (10 : Int) ^ Int.toNat 35 + 69 = 100000000000000000000000000000000069 := by decide +kernel
  have c1 : (0 : Int) < 100000000000000000000000000000000069 := by decide
  have fin : ∀ (c i : Int), mulOk (c % 100000000000000000000000000000000069) 5 = true ∧ (0 ≤ i → i ≤ 1000 → mulOk 10039 i = true ∧ (c % 100000000000000000000000000000000069 * 5 + 10039 * i + 1).natAbs < 2 ^ 150) := fun c i => by
    have h1 := Int.emod_nonneg c (show (100000000000000000000000000000000069 : Int) ≠ 0 by decide)
    have h2 := Int.emod_lt_of_pos c c1
    refine ⟨mulOk_of (Nat.lt_of_lt_of_le (by omega : _ < 2 ^ 150) (Nat.pow_le_pow_right (by decide) (by decide))) (Nat.lt_of_lt_of_le (by decide : _ < 2 ^ 150) (Nat.pow_le_pow_right (by decide) (by decide))), fun h3 h4 => ⟨mulOk_of (Nat.lt_of_lt_of_le (by decide : _ < 2 ^ 150) (Nat.pow_le_pow_right (by decide) (by decide))) (Nat.lt_of_lt_of_le (by omega : _ < 2 ^ 150) (Nat.pow_le_pow_right (by decide) (by decide))), by omega⟩⟩
  have out : ∀ c : Int, wpS ((dRet (dLst (aCons (dFn opMax2 (aCons (dC (.int 0)) (aCons (dOp opSub (dFn opAbs (aCons (dVar 2) aNil)) (dOp opPow (dC (.int 10)) (dC (.int 18)))) aNil))) (aCons (dOp opAdd (dOp opAdd (dOp opMul (dOp opMod (dVar 2) (dOp opAdd (dOp opPow (dC (.int 10)) (dC (.int 35))) (dC (.int 69)))) (dC (.int 5))) (dOp opMul (dC (.int 10039)) (dVar 1))) (dC (.int 1))) (aCons (dC (.int 0)) (aNil)))))) [some (.rl (ns.map W.int)), some (.int k), some (.int c)] S)
      ⟨fun _ _ => False, fun r S' => ∃ a b : Int, r = .ref S.length ∧ S' = S ++ [.lst [.int a, .int b, .int 0]] ∧ Purse (S.length + 1) 0 S.length S', fun _ _ => False, fun _ _ => False, fun _ _ _ => False⟩ := fun c => by
    obtain ⟨m1, m2⟩ := fin c k
    obtain ⟨m2, m3⟩ := m2 (by omega) (by omega)
    simp only [WPA, Nat.reduceSub, Nat.reduceAdd, tgN, tgNil, tgCons, tgTup, wipeE, isT, String.reduceBEq, reduceIte, opAbs, z1, z2, v2, c1, m1, m2, lenOk_of (show 3 ≤ 1000000 by decide)]
    exact ⟨_, _, rfl, ⟨by simp, by omega, _, _, 0, get_new, m3, Int.le_refl _, by omega⟩⟩
  unfold n_law_purse d_law_purse
  simp only [wp_dfn, wpS_dSeq, wpS_dSet, wp_dIfE, EVA, Nat.reduceSub, Nat.reduceAdd, tgN, tgNil, tgCons, tgTup, wipeE, isT, String.reduceBEq, reduceIte, wp_dBool, wp_dOp, wp_dVar, wO_some, wp_dFn, wp_aCons, wp_aNil, opLen_rl, opLt_int, wB_bl, List.length_map, opIx_rl, wp_dC]
  split
  · rename_i h
    have hk2 : k < ns.length := by simpa using h
    rw [atI_n, List.getElem?_map, List.getElem?_eq_getElem hk2]
    simp only [Option.map_some, wO_some]
    exact wpS_mono (out _) (fun _ _ h => h.elim) (fun _ _ h => h) (fun _ _ h => h.elim) (fun _ _ h => h.elim) (fun _ _ _ h => h.elim)
  · exact wpS_mono (out _) (fun _ _ h => h.elim) (fun _ _ h => h) (fun _ _ h => h.elim) (fun _ _ h => h.elim) (fun _ _ _ h => h.elim)
end N
namespace N
open PySem L2
noncomputable section
def d_spelled_at : DS :=
  dSeq (dSet 2 (dLst (aNil)))
  (dSeq (dFor (dEnum (aCons (dVar 1) aNil)) (tgTup 2 (tgCons (tgN 3) (tgCons (tgN 4) (tgNil)))) (dIf (dAnd (dBool (dOp opLt (dFn opLen (aCons (dVar 2) aNil)) (dFn opLen (aCons (dVar 0) aNil)))) (dBool (dOp opEq (dOp opIx (dVar 0) (dFn opLen (aCons (dVar 2) aNil))) (dVar 4)))) (dDrop (dMt "list" mAppend (dVar 2) (aCons (dVar 3) aNil))) (dNx)))
  (dRet (dIfE (dBool (dOp opEq (dFn opLen (aCons (dVar 2) aNil)) (dFn opLen (aCons (dVar 0) aNil)))) (dVar 2) (dC .non))))
def n_spelled_at : List W → M W := dfn 5 2 d_spelled_at
def d_is_office : DS :=
  dSeq (dIf (dOr (dNot (dTru (dIsi "str" (dVar 0)))) (dNot (dBool (dChain opLe opLe (dC (.int 1)) (dFn opLen (aCons (dVar 0) aNil)) (dC (.int 8)))))) (dRet (dC (.bl false))) (dNx))
  (dRet (dFn opAll (aCons (dLc (dSrc (dVar 0)) (tgN 1) (dYes) (dChain opLe opLe (dC (.str "a")) (dVar 1) (dC (.str "z"))) [1]) aNil)))
def n_is_office : List W → M W := dfn 2 1 d_is_office
def d_is_letter : DS :=
  dRet (dOrV (dCall n_is_office (aCons (dVar 0) (aNil))) (dAndV (dIsi "str" (dVar 0)) (dOp opEq (dVar 0) (dC (.str "+")))))
def n_is_letter : List W → M W := dfn 1 1 d_is_letter
def d_is_rule : DS :=
  dRet (dAndV (dIsi "list" (dVar 0)) (dFn opAll (aCons (dLc (dSrc (dVar 0)) (tgN 1) (dYes) (dCall n_is_letter (aCons (dVar 1) (aNil))) [1]) aNil)))
def n_is_rule : List W → M W := dfn 2 1 d_is_rule
def d_require_rule (x : Nat) : DS :=
  dIf (dNot (dTru (dCall n_is_rule (aCons (dVar 0) (aNil))))) (dRaise x) (dNx)
def n_require_rule (x : Nat) : List W → M W := dfn 1 1 (d_require_rule x)
def d_reduced_of : DS :=
  dSeq (dSet 1 (dLst (aNil)))
  (dSeq (dFor (dSrc (dVar 0)) (tgN 2) (dIf (dOr (dBool (dOp opEq (dVar 1) (dLst (aNil)))) (dOr (dBool (dOp opEq (dVar 2) (dC (.str "+")))) (dBool (dOp opNe (dVar 2) (dOp opIx (dVar 1) (dUn opNeg (dC (.int 1)))))))) (dDrop (dMt "list" mAppend (dVar 1) (aCons (dVar 2) aNil))) (dNx)))
  (dRet (dVar 1)))
def n_reduced_of : List W → M W := dfn 3 1 d_reduced_of
def d_law_names : DS :=
  dSeq (dSet 2 (dLst (aCons (dC (.str "a")) (aCons (dC (.str "b")) (aCons (dC (.str "ny")) (aCons (dC (.str "ldn")) (aCons (dC (.str "zz")) (aCons (dC (.str "tokyoabc")) (aCons (dC (.str "closed")) (aCons (dC (.str "o")) (aCons (dC (.str "day")) (aCons (dC (.str "opened")) (aNil)))))))))))))
  (dRet (dLc (dRng1 (aCons (dOp opAdd (dC (.int 1)) (dCall n_law_coin (aCons (dVar 0) (aCons (dVar 1) (aNil))))) aNil)) (tgN 3) (dYes) (dMt "list" mPop (dVar 2) (aCons (dCall n_law_coin (aCons (dVar 0) (aCons (dFn opLen (aCons (dVar 2) aNil)) (aNil)))) (aNil))) [3]))
def n_law_names : List W → M W := dfn 4 2 d_law_names
def d_law_letters : DS :=
  dSeq (dPar3 4 5 6 (aCons (dCall n_law_coin (aCons (dVar 0) (aCons (dOp opAdd (dVar 2) (dC (.int 1))) (aNil)))) (aCons (dCall n_law_coin (aCons (dVar 0) (aCons (dC (.int 4)) (aNil)))) (aCons (dLst (aNil)) (aNil)))))
  (dSeq (dFor (dRng1 (aCons (dVar 4) aNil)) (tgN 3) (dSeq (dSet 7 (dOp opIx (dOp opAdd (dVar 1) (dLst (aCons (dC (.str "+")) (aNil)))) (dCall n_law_coin (aCons (dVar 0) (aCons (dOp opAdd (dFn opLen (aCons (dVar 1) aNil)) (dC (.int 1))) (aNil))))))
  (dSeq (dIf (dAnd (dBool (dOp opEq (dVar 5) (dC (.int 1)))) (dBool (dOp opGt (dCall n_law_coin (aCons (dVar 0) (aCons (dC (.int 3)) (aNil)))) (dC (.int 0))))) (dSet 7 (dC (.str "+"))) (dNx))
  (dSeq (dIf (dBool (dOp opEq (dVar 5) (dC (.int 2)))) (dSet 7 (dOp opIx (dVar 1) (dOp opMod (dVar 3) (dFn opLen (aCons (dVar 1) aNil))))) (dNx))
  (dSeq (dIf (dBool (dOp opEq (dVar 5) (dC (.int 3)))) (dSet 7 (dOp opIx (dLst (aCons (dOp opIx (dVar 1) (dC (.int 0))) (aCons (dC (.str "+")) (aNil)))) (dOp opMod (dVar 3) (dC (.int 2))))) (dNx))
  (dDrop (dMt "list" mAppend (dVar 6) (aCons (dVar 7) aNil))))))))
  (dRet (dVar 6)))
def n_law_letters : List W → M W := dfn 8 3 d_law_letters
def d_law_changed : DS :=
  dSeq (dSet 3 (dFn opList (aCons (dVar 1) aNil)))
  (dSeq (dFor (dRng1 (aCons (dOp opAdd (dC (.int 1)) (dCall n_law_coin (aCons (dVar 0) (aCons (dC (.int 3)) (aNil))))) aNil)) (tgN 4) (dSeq (dPar 7 8 (aCons (dCall n_law_coin (aCons (dVar 0) (aCons (dOp opAdd (dFn opLen (aCons (dVar 3) aNil)) (dC (.int 1))) (aNil)))) (aCons (dCall n_law_coin (aCons (dVar 0) (aCons (dC (.int 5)) (aNil)))) (aNil))))
  (dSeq (dSet 5 (dOp opIx (dOp opAdd (dVar 2) (dLst (aCons (dC (.str "+")) (aNil)))) (dCall n_law_coin (aCons (dVar 0) (aCons (dOp opAdd (dFn opLen (aCons (dVar 2) aNil)) (dC (.int 1))) (aNil))))))
  (dSeq (dSet 6 (dOp opIx (dLst (aCons (dLst (aCons (dVar 5) (aNil))) (aCons (dLst (aNil)) (aCons (dLst (aCons (dVar 5) (aNil))) (aCons (dOp opMul (dSl (dVar 3) (oS (dVar 7)) (oS (dOp opAdd (dVar 7) (dC (.int 1))))) (dC (.int 2))) (aCons (dUn opRevL (dSl (dVar 3) (oS (dVar 7)) (oS (dOp opAdd (dVar 7) (dC (.int 2)))))) (aNil))))))) (dVar 8)))
  (dSet 3 (dOp opAdd (dOp opAdd (dSl (dVar 3) (oN) (oS (dVar 7))) (dVar 6)) (dSl (dVar 3) (oS (dOp opAdd (dVar 7) (dOp opIx (dLst (aCons (dC (.int 0)) (aCons (dC (.int 1)) (aCons (dC (.int 1)) (aCons (dC (.int 1)) (aCons (dC (.int 2)) (aNil))))))) (dVar 8)))) (oN))))))))
  (dRet (dSl (dVar 3) (oN) (oS (dC (.int 200))))))
def n_law_changed : List W → M W := dfn 9 3 d_law_changed
def d_law_longer : DS :=
  dSeq (dSet 4 (dFn opList (aCons (dVar 1) aNil)))
  (dSeq (dFor (dRng1 (aCons (dCall n_law_coin (aCons (dVar 0) (aCons (dOp opAdd (dVar 3) (dC (.int 1))) (aNil)))) aNil)) (tgN 5) (dSeq (dSet 6 (dCall n_law_coin (aCons (dVar 0) (aCons (dOp opAdd (dFn opLen (aCons (dVar 4) aNil)) (dC (.int 1))) (aNil)))))
  (dDrop (dMt "list" mInsert (dVar 4) (aCons (dVar 6) (aCons (dOp opIx (dOp opAdd (dVar 2) (dLst (aCons (dC (.str "+")) (aNil)))) (dCall n_law_coin (aCons (dVar 0) (aCons (dOp opAdd (dFn opLen (aCons (dVar 2) aNil)) (dC (.int 1))) (aNil))))) (aNil)))))))
  (dRet (dVar 4)))
def n_law_longer : List W → M W := dfn 7 4 d_law_longer
def d_law_reduced : DS :=
  dSeq (dSet 1 (dLst (aNil)))
  (dSeq (dFor (dSrc (dVar 0)) (tgN 2) (dIf (dOr (dBool (dOp opEq (dVar 2) (dC (.str "+")))) (dBool (dOp opNe (dSl (dVar 1) (oS (dUn opNeg (dC (.int 1)))) (oN)) (dLst (aCons (dVar 2) (aNil)))))) (dDrop (dMt "list" mAppend (dVar 1) (aCons (dVar 2) aNil))) (dNx)))
  (dRet (dVar 1)))
def n_law_reduced : List W → M W := dfn 3 1 d_law_reduced
def d_law_spelled : DS :=
  dSeq (dPar 3 4 (aCons (dLst (aNil)) (aCons (dC (.int 0)) (aNil))))
  (dSeq (dFor (dSrc (dCall n_law_reduced (aCons (dVar 0) (aNil)))) (tgN 2) (dSeq (dIf (dBool (dOp opNotIn (dVar 2) (dSl (dVar 1) (oS (dVar 4)) (oN)))) (dRet (dC .non)) (dNx))
  (dSeq (dSet 4 (dOp opAdd (dOp opAdd (dVar 4) (dMt "list" mIndex (dSl (dVar 1) (oS (dVar 4)) (oN)) (aCons (dVar 2) (aNil)))) (dC (.int 1))))
  (dDrop (dMt "list" mAppend (dVar 3) (aCons (dOp opSub (dVar 4) (dC (.int 1))) aNil))))))
  (dRet (dVar 3)))
def n_law_spelled : List W → M W := dfn 5 2 d_law_spelled

end
/-- a name of an office -/
structure Name (x : Str) : Prop where
  len : 1 ≤ x.length ∧ x.length ≤ 8
  low : ∀ c ∈ x.cps.toList, 97 ≤ c ∧ c ≤ 122
theorem letter {c : Nat} (h : 97 ≤ c ∧ c ≤ 122) : (!decide ((⟨#[c]⟩ : Str).cps.toList < ("a" : Str).cps.toList)) = true ∧ (!decide (("z" : Str).cps.toList < (⟨#[c]⟩ : Str).cps.toList)) = true := by
  have e1 : ("a" : Str).cps.toList = [97] := by decide
  have e2 : ("z" : Str).cps.toList = [122] := by decide
  rw [e1, e2]
  have lt1 : ∀ a b : Nat, ([a] < [b]) ↔ a < b := fun a b => by
    rw [List.cons_lt_cons_iff]
    constructor
    · rintro (h | ⟨_, h⟩)
      · exact h
      · exact absurd h (List.not_lt_nil _)
    · exact .inl
  constructor
  · rw [Bool.not_eq_true', decide_eq_false_iff_not]
    exact fun q => absurd ((lt1 _ _).mp q) (by omega)
  · rw [Bool.not_eq_true', decide_eq_false_iff_not]
    exact fun q => absurd ((lt1 _ _).mp q) (by omega)
theorem is_office_spec {x : Str} {S : Store} {E : Ex → Store → Prop} (h : Name x) : wp (n_is_office [.str x] S) (fun r S' => r = .bl true ∧ Fr 0 S S') E := by
  unfold n_is_office d_is_office
  have h1 : x.length ≤ sizeLine := by rw [sizeLine_eq]; have := h.len.2; omega
  have h2 : (1 : Int) ≤ x.length := by have := h.len.1; omega
  have h3 : (x.length : Int) ≤ 8 := by have := h.len.2; omega
  have hl : x.cps.toList.length ≤ 8 := h.len.2
  simp only [WPA, Nat.reduceSub, Nat.reduceAdd, tgN, tgNil, tgCons, tgTup, wipeE, isT, String.reduceBEq, reduceIte, h1, decide_eq_true h2, decide_eq_true h3, srcW, List.length_map, lenOk_of (show x.cps.toList.length ≤ 1000000 by omega)]
  refine wp_mono (wp_lcF (f := fun _ => W.bl true) (fun S' => Fr 0 S S') Fr.refl (fun _ _ => trivial) ?_) ?_ (fun _ _ q => q)
  · intro i c S' e f
    have hc := letter (h.low c (List.mem_of_getElem? e))
    simp only [WPA, Nat.reduceSub, Nat.reduceAdd, tgN, tgNil, tgCons, tgTup, wipeE, isT, String.reduceBEq, reduceIte, hc.1, hc.2]
    exact f
  · rintro ws S' ⟨rfl, f⟩
    have e : (S' ++ [O.lst (x.cps.toList.map fun _ => W.bl true)])[S'.length]? = some (.lst ((x.cps.toList.map fun _ => true).map W.bl)) := by
      rw [List.map_map]; exact get_new
    rw [opAll_ref e, wO_some, map_true fun _ _ => rfl]
    exact ⟨rfl, f.snoc⟩
/-- a letter of a rule -/
def Letter (x : Str) : Prop := Name x ∨ x = "+"
theorem plus_not_name : ¬ Name "+" := fun h => by
  have := h.low 43 (by decide)
  omega
theorem is_office_plus {S : Store} {E : Ex → Store → Prop} : wp (n_is_office [.str "+"] S) (fun r S' => r = .bl false ∧ Fr 0 S S') E := by
  unfold n_is_office d_is_office
  have e0 : ("+" : Str).length = 1 := by decide
  have e1 : ("+" : Str).cps.toList = [43] := by decide
  have h1 : ("+" : Str).length ≤ sizeLine := by rw [sizeLine_eq, e0]; omega
  simp only [WPA, Nat.reduceSub, Nat.reduceAdd, tgN, tgNil, tgCons, tgTup, wipeE, isT, String.reduceBEq, reduceIte, e0, show (1 : Nat) ≤ sizeLine by rw [sizeLine_eq]; omega, srcW, e1, lenOk_of (show 1 ≤ 1000000 by omega)]
  have d1 : decide ((1 : Int) ≤ ((1 : Nat) : Int)) = true := by decide
  have d2 : decide (((1 : Nat) : Int) ≤ 8) = true := by decide
  simp only [d1, d2, EVA, Nat.reduceSub, Nat.reduceAdd, tgN, tgNil, tgCons, tgTup, wipeE, isT, String.reduceBEq, reduceIte]
  refine wp_mono (wp_lcF (xs := [43]) (c := fun c => W.str ⟨#[c]⟩) (f := fun _ => W.bl false) (fun S' => Fr 0 S S') Fr.refl (fun _ _ => trivial) ?_) ?_ (fun _ _ q => q)
  · intro i c S' e f
    have hc : c = 43 := by
      have := List.mem_of_getElem? e
      simpa using this
    subst hc
    have k1 : (!decide ((⟨#[43]⟩ : Str).cps.toList < ("a" : Str).cps.toList)) = false := by decide
    simp only [WPA, Nat.reduceSub, Nat.reduceAdd, tgN, tgNil, tgCons, tgTup, wipeE, isT, String.reduceBEq, reduceIte, k1]
    exact f
  · rintro ws S' ⟨rfl, f⟩
    have e : (S' ++ [O.lst ([43].map fun _ => W.bl false)])[S'.length]? = some (.lst (([43].map fun _ => false).map W.bl)) := get_new
    rw [opAll_ref e, wO_some]
    exact ⟨rfl, f.snoc⟩
theorem is_letter_spec {x : Str} {S : Store} {E : Ex → Store → Prop} (h : Letter x) : wp (n_is_letter [.str x] S) (fun r S' => r = .bl true ∧ Fr 0 S S') E := by
  unfold n_is_letter d_is_letter
  simp only [WPA, Nat.reduceSub, Nat.reduceAdd, tgN, tgNil, tgCons, tgTup, wipeE, isT, String.reduceBEq, reduceIte]
  rcases h with h | rfl
  · refine wp_mono (is_office_spec h) ?_ (fun _ _ q => q)
    rintro r S' ⟨rfl, f⟩
    simp only [WPA, Nat.reduceSub, Nat.reduceAdd, tgN, tgNil, tgCons, tgTup, wipeE, isT, String.reduceBEq, reduceIte]
    exact f
  · refine wp_mono is_office_plus ?_ (fun _ _ q => q)
    rintro r S' ⟨rfl, f⟩
    simp only [WPA, Nat.reduceSub, Nat.reduceAdd, tgN, tgNil, tgCons, tgTup, wipeE, isT, String.reduceBEq, reduceIte, beq_self_eq_true]
    exact f
theorem is_rule_spec {n : Nat} {xs : List Str} {S : Store} {E : Ex → Store → Prop} (g : S[n]? = some (.lst (xs.map W.str))) (hl : xs.length ≤ 10000) (h : ∀ x ∈ xs, Letter x) : wp (n_is_rule [.ref n] S) (fun r S' => r = .bl true ∧ Fr 0 S S') E := by
  unfold n_is_rule d_is_rule
  simp only [WPA, Nat.reduceSub, Nat.reduceAdd, tgN, tgNil, tgCons, tgTup, wipeE, isT, String.reduceBEq, reduceIte, tyN_ref g, srcW_ref g, List.length_map, lenOk_of (show xs.length ≤ 1000000 by omega)]
  refine wp_mono (wp_lcF (f := fun _ => W.bl true) (fun S' => Fr 0 S S') Fr.refl (fun S' f => f.g0 g) ?_) ?_ (fun _ _ q => q)
  · intro i c S' e f
    simp only [WPA, Nat.reduceSub, Nat.reduceAdd, tgN, tgNil, tgCons, tgTup, wipeE, isT, String.reduceBEq, reduceIte]
    refine wp_mono (is_letter_spec (h c (List.mem_of_getElem? e))) ?_ (fun _ _ q => q)
    rintro r S2 ⟨rfl, f2⟩
    exact ⟨rfl, f.trans f2⟩
  · rintro ws S' ⟨rfl, f⟩
    have e : (S' ++ [O.lst (xs.map fun _ => W.bl true)])[S'.length]? = some (.lst ((xs.map fun _ => true).map W.bl)) := by
      rw [List.map_map]; exact get_new
    rw [opAll_ref e, wO_some, map_true fun _ _ => rfl]
    exact ⟨rfl, f.snoc⟩
theorem require_rule_spec {i n : Nat} {xs : List Str} {S : Store} {E : Ex → Store → Prop} (g : S[n]? = some (.lst (xs.map W.str))) (hl : xs.length ≤ 10000) (h : ∀ x ∈ xs, Letter x) : wp (n_require_rule i [.ref n] S) (fun r S' => Fr 0 S S') E := by
  unfold n_require_rule d_require_rule
  simp only [WPA, Nat.reduceSub, Nat.reduceAdd, tgN, tgNil, tgCons, tgTup, wipeE, isT, String.reduceBEq, reduceIte]
  refine wp_mono (is_rule_spec g hl h) ?_ (fun _ _ q => q)
  rintro r S' ⟨rfl, f⟩
  simp only [WPA, Nat.reduceSub, Nat.reduceAdd, tgN, tgNil, tgCons, tgTup, wipeE, isT, String.reduceBEq, reduceIte]
  exact f
/-! ### reduced -/
def redS (acc : List Str) (x : Str) : List Str := if x = "+" ∨ acc.getLast? ≠ some x then acc ++ [x] else acc
def red (xs : List Str) : List Str := xs.foldl redS []
theorem red_len (xs : List Str) : (red xs).length ≤ xs.length := by
  have : ∀ (xs acc : List Str), (xs.foldl redS acc).length ≤ acc.length + xs.length := fun xs => by
    induction xs with
    | nil => intro acc; simp
    | cons x xs ih =>
      intro acc
      have := ih (redS acc x)
      have h2 : (redS acc x).length ≤ acc.length + 1 := by
        unfold redS
        split <;> simp
      simp only [List.foldl_cons, List.length_cons]
      omega
  simpa [red] using this xs []
theorem red_mem {xs : List Str} {x : Str} (h : x ∈ red xs) : x ∈ xs := by
  have : ∀ (xs acc : List Str), x ∈ xs.foldl redS acc → x ∈ acc ∨ x ∈ xs := fun xs => by
    induction xs with
    | nil => intro acc h; exact .inl h
    | cons y xs ih =>
      intro acc h
      rcases ih _ h with h | h
      · unfold redS at h
        split at h
        · rcases List.mem_append.mp h with h | h
          · exact .inl h
          · exact .inr (by rw [List.mem_singleton.mp h]; exact List.mem_cons_self ..)
        · exact .inl h
      · exact .inr (List.mem_cons_of_mem _ h)
  rcases this xs [] h with h | h
  · cases h
  · exact h
theorem red_take {xs : List Str} {i : Nat} {x : Str} (e : xs[i]? = some x) : red (xs.take (i + 1)) = redS (red (xs.take i)) x := by
  unfold red
  rw [List.take_succ, e, List.foldl_append]
  rfl
theorem toD_strs {S : Store} {k : Nat} (xs : List Str) : mapO (toD S (k + 1)) (xs.map W.str) = some (xs.map PyData.str) := mapO_map fun _ _ => rfl
theorem eqvAll_strs : ∀ {xs ys : List Str}, PyData.eqvAll (xs.map PyData.str) (ys.map PyData.str) = decide (xs = ys)
  | [], [] => by simp [PyData.eqvAll]
  | [], y :: ys => by simp [PyData.eqvAll]
  | x :: xs, [] => by simp [PyData.eqvAll]
  | x :: xs, y :: ys => by
    simp only [List.map_cons, PyData.eqvAll, PyData.eqv, eqvAll_strs]
    by_cases h : x = y
    · subst h; simp
    · have : (x == y) = false := by simpa using h
      simp [this, h]
theorem opEq_strs {n m : Nat} {xs ys : List Str} {S : Store} (h1 : S[n]? = some (.lst (xs.map W.str))) (h2 : S[m]? = some (.lst (ys.map W.str))) : opEq (.ref n) (.ref m) S = some (.bl (decide (xs = ys)), S) := by
  unfold opEq
  rw [toD_lst h1, toD_lst h2, toD_strs, toD_strs]
  show some (W.bl (PyData.eqv (.list _) (.list _)), S) = _
  simp only [PyData.eqv, eqvAll_strs]
theorem opNe_strs {n m : Nat} {xs ys : List Str} {S : Store} (h1 : S[n]? = some (.lst (xs.map W.str))) (h2 : S[m]? = some (.lst (ys.map W.str))) : opNe (.ref n) (.ref m) S = some (.bl (!decide (xs = ys)), S) := by
  unfold opNe
  rw [toD_lst h1, toD_lst h2, toD_strs, toD_strs]
  show some (W.bl (!PyData.eqv (.list _) (.list _)), S) = _
  simp only [PyData.eqv, eqvAll_strs]
theorem opNeg_int {i : Int} {S : Store} : opNeg (.int i) S = some (.int (-i), S) := rfl
theorem atI_last {α : Type} {xs : List α} : atI xs (-1) = xs.getLast? := by
  unfold atI ixN
  rw [if_neg (by decide), List.getLast?_eq_getElem?]
  by_cases h : xs.length = 0
  · rw [if_neg (by omega), List.length_eq_zero_iff.mp h]; rfl
  · rw [if_pos (by omega)]
    show xs[(-1 + (xs.length : Int)).toNat]? = _
    congr 1; omega
theorem reduced_of_spec {n : Nat} {xs : List Str} {S : Store} {E : Ex → Store → Prop} (g : S[n]? = some (.lst (xs.map W.str))) (hl : xs.length ≤ 10000) :
    wp (n_reduced_of [.ref n] S) (fun r S' => r = .ref S.length ∧ S'[S.length]? = some (.lst ((red xs).map W.str)) ∧ Fr 0 S S') E := by
  unfold n_reduced_of d_reduced_of
  have g1 : (S ++ [O.lst []])[n]? = some (.lst (xs.map W.str)) := Fr.app.g0 g
  simp only [WPA, Nat.reduceSub, Nat.reduceAdd, tgN, tgNil, tgCons, tgTup, wipeE, isT, String.reduceBEq, reduceIte, lenOk_of (show 0 ≤ 1000000 by decide), srcW_ref g1]
  refine wpS_forL (fun i ε S' => ∃ x2, ε = [some (.ref n), some (.ref S.length), x2] ∧ S'[S.length]? = some (.lst ((red (xs.take i)).map W.str)) ∧ Fr 0 S S') ⟨_, rfl, get_new, Fr.app⟩ (fun _ _ S' _ ⟨_, _, _, f⟩ => f.g0 g) ?_ ?_
  · rintro i w ε S' e ⟨x2, rfl, gr, f⟩
    rw [List.getElem?_map, Option.map_eq_some_iff] at e
    obtain ⟨x, e, rfl⟩ := e
    have hz : (red (xs.take i)).length < 1000000 := by
      have h1 := red_len (xs.take i)
      have h2 : (xs.take i).length ≤ xs.length := by rw [List.length_take]; omega
      omega
    have gr2 : (S' ++ [O.lst []])[S.length]? = some (.lst ((red (xs.take i)).map W.str)) := Fr.app.g0 gr
    have em : opEq (.ref S.length) (.ref S'.length) (S' ++ [O.lst []]) = some (.bl (decide (red (xs.take i) = [])), S' ++ [O.lst []]) := opEq_strs (ys := []) gr2 get_new
    simp only [WPA, Nat.reduceSub, Nat.reduceAdd, tgN, tgNil, tgCons, tgTup, wipeE, isT, String.reduceBEq, reduceIte, lenOk_of (show 0 ≤ 1000000 by decide), em, tyM_ref gr2, lstAt_of gr2, opNeg_int, atI_last, List.getLast?_map, List.length_map]
    rw [red_take e]
    have app : wO (mAppend (.ref S.length) [.str x] (S' ++ [O.lst []])) fun p => ∃ x2,
        [some (W.ref n), some (W.ref S.length), some (W.str x)] = [some (W.ref n), some (W.ref S.length), x2] ∧ p.snd[S.length]? = some (O.lst ((red (xs.take i) ++ [x]).map W.str)) ∧ Fr 0 S p.snd := by
      rw [mAppend_ref gr2, if_pos (by rw [sizeLine_eq, List.length_map]; omega), wO_some]
      refine ⟨_, rfl, ?_, f.snoc.setN (Nat.le_refl _)⟩
      rw [List.map_append]; exact get_set gr2
    by_cases h0 : red (xs.take i) = []
    · rw [if_pos (decide_eq_true h0)]
      have : redS (red (xs.take i)) x = red (xs.take i) ++ [x] := if_pos (.inr (by rw [h0]; simp))
      rw [this]
      exact app
    · rw [if_neg (by simpa using h0)]
      by_cases h1 : x = "+"
      · rw [if_pos (by rw [h1]; exact beq_self_eq_true _)]
        have : redS (red (xs.take i)) x = red (xs.take i) ++ [x] := if_pos (.inl h1)
        rw [this]
        exact app
      · rw [if_neg (by simpa using h1)]
        obtain ⟨y, hy⟩ : ∃ y, (red (xs.take i)).getLast? = some y := by
          cases z : (red (xs.take i)).getLast? with
          | none => exact absurd (List.getLast?_eq_none_iff.mp z) h0
          | some y => exact ⟨y, rfl⟩
        rw [hy]
        simp only [Option.map_some, wO_some, opNe_str, wB_bl]
        by_cases h2 : x = y
        · rw [if_neg (by simp [h2])]
          have : redS (red (xs.take i)) x = red (xs.take i) := if_neg (by rw [hy, h2]; rw [h2] at h1; simp [h1])
          rw [this]
          exact ⟨_, rfl, gr2, f.snoc⟩
        · rw [if_pos (by simp [h2])]
          have : redS (red (xs.take i)) x = red (xs.take i) ++ [x] := if_pos (.inr (by rw [hy]; simpa using fun e => h2 e.symm))
          rw [this]
          exact app
  · rintro ε S' ⟨x2, rfl, gr, f⟩
    rw [List.length_map, List.take_length] at gr
    simp only [WPA, Nat.reduceSub, Nat.reduceAdd, tgN, tgNil, tgCons, tgTup, wipeE, isT, String.reduceBEq, reduceIte]
    exact ⟨gr, f⟩
theorem cut_last {α : Type} {xs : List α} : cutL xs (some (-1)) none = xs.getLast?.toList := by
  unfold cutL
  have e1 : HT.sIx xs.length 0 (some (-1)) = (-1 + (xs.length : Int)).toNat := by
    unfold HT.sIx
    exact if_pos (by decide)
  rw [e1, HT.sIx_none]
  rcases List.eq_nil_or_concat xs with rfl | ⟨ys, y, rfl⟩
  · rfl
  · simp
    have : (-1 + ((ys.length : Int) + 1)).toNat = ys.length := by omega
    rw [this]
    simp
theorem law_reduced_spec {n : Nat} {xs : List Str} {S : Store} {E : Ex → Store → Prop} (g : S[n]? = some (.lst (xs.map W.str))) (hl : xs.length ≤ 10000) :
    wp (n_law_reduced [.ref n] S) (fun r S' => r = .ref S.length ∧ S'[S.length]? = some (.lst ((red xs).map W.str)) ∧ Fr 0 S S') E := by
  unfold n_law_reduced d_law_reduced
  have g1 : (S ++ [O.lst []])[n]? = some (.lst (xs.map W.str)) := Fr.app.g0 g
  simp only [WPA, Nat.reduceSub, Nat.reduceAdd, tgN, tgNil, tgCons, tgTup, wipeE, isT, String.reduceBEq, reduceIte, lenOk_of (show 0 ≤ 1000000 by decide), srcW_ref g1]
  refine wpS_forL (fun i ε S' => ∃ x2, ε = [some (.ref n), some (.ref S.length), x2] ∧ S'[S.length]? = some (.lst ((red (xs.take i)).map W.str)) ∧ Fr 0 S S') ⟨_, rfl, get_new, Fr.app⟩ (fun _ _ S' _ ⟨_, _, _, f⟩ => f.g0 g) ?_ ?_
  · rintro i w ε S' e ⟨x2, rfl, gr, f⟩
    rw [List.getElem?_map, Option.map_eq_some_iff] at e
    obtain ⟨x, e, rfl⟩ := e
    have hz : (red (xs.take i)).length < 1000000 := by
      have h1 := red_len (xs.take i)
      have h2 : (xs.take i).length ≤ xs.length := by rw [List.length_take]; omega
      omega
    rw [red_take e]
    have app : ∀ S2, S2[S.length]? = some (.lst ((red (xs.take i)).map W.str)) → Fr 0 S S2 → wO (mAppend (.ref S.length) [.str x] S2) fun p => ∃ x2,
        [some (W.ref n), some (W.ref S.length), some (W.str x)] = [some (W.ref n), some (W.ref S.length), x2] ∧ p.snd[S.length]? = some (O.lst ((red (xs.take i) ++ [x]).map W.str)) ∧ Fr 0 S p.snd := fun S2 g2 f2 => by
      rw [mAppend_ref g2, if_pos (by rw [sizeLine_eq, List.length_map]; omega), wO_some]
      refine ⟨_, rfl, ?_, f2.setN (Nat.le_refl _)⟩
      rw [List.map_append]; exact get_set g2
    have c1 : (((red (xs.take i)).map W.str).getLast?).toList = ((red (xs.take i)).getLast?.toList).map W.str := by
      rw [List.getLast?_map]
      cases (red (xs.take i)).getLast? <;> rfl
    have gr3 : (S' ++ [O.lst (((red (xs.take i)).getLast?.toList).map W.str)] ++ [O.lst [W.str x]])[S.length]? = some (.lst ((red (xs.take i)).map W.str)) := Fr.app.g0 (Fr.app.g0 gr)
    have em : opNe (.ref S'.length) (.ref (S' ++ [O.lst (((red (xs.take i)).getLast?.toList).map W.str)]).length) (S' ++ [O.lst (((red (xs.take i)).getLast?.toList).map W.str)] ++ [O.lst [W.str x]]) = some (.bl (!decide ((red (xs.take i)).getLast?.toList = [x])), S' ++ [O.lst (((red (xs.take i)).getLast?.toList).map W.str)] ++ [O.lst [W.str x]]) := opNe_strs (ys := [x]) (Fr.app.g0 get_new) get_new
    simp only [WPA, Nat.reduceSub, Nat.reduceAdd, tgN, tgNil, tgCons, tgTup, wipeE, isT, String.reduceBEq, reduceIte, lenOk_of (show 0 ≤ 1000000 by decide), lenOk_of (show 1 ≤ 1000000 by decide), opNeg_int, opSl_ref gr, cut_last, c1, em, tyM_ref gr, tyM_ref gr3]
    by_cases h1 : x = "+"
    · rw [if_pos (by rw [h1]; exact beq_self_eq_true _)]
      have : redS (red (xs.take i)) x = red (xs.take i) ++ [x] := if_pos (.inl h1)
      rw [this]
      exact app _ gr f
    · rw [if_neg (by simpa using h1)]
      by_cases h2 : (red (xs.take i)).getLast? = some x
      · rw [if_neg (by rw [h2]; simp)]
        have : redS (red (xs.take i)) x = red (xs.take i) := if_neg (by rw [h2]; simp [h1])
        rw [this]
        exact ⟨_, rfl, gr3, f.snoc.snoc⟩
      · rw [if_pos (by
          cases z : (red (xs.take i)).getLast? with
          | none => simp
          | some y =>
            rw [z] at h2
            have : y ≠ x := fun e => h2 (by rw [e])
            simpa using this)]
        have : redS (red (xs.take i)) x = red (xs.take i) ++ [x] := if_pos (.inr h2)
        rw [this]
        exact app _ gr3 f.snoc.snoc
  · rintro ε S' ⟨x2, rfl, gr, f⟩
    rw [List.length_map, List.take_length] at gr
    simp only [WPA, Nat.reduceSub, Nat.reduceAdd, tgN, tgNil, tgCons, tgTup, wipeE, isT, String.reduceBEq, reduceIte]
    exact ⟨gr, f⟩
/-! ### drawn rules -/
theorem eraseIdx_mapW {α β : Type} {f : α → β} : ∀ {xs : List α} {i : Nat}, (xs.map f).eraseIdx i = (xs.eraseIdx i).map f
  | [], _ => rfl
  | x :: xs, 0 => rfl
  | x :: xs, i + 1 => by
    have ih := eraseIdx_mapW (f := f) (xs := xs) (i := i)
    simp only [List.map_cons, List.eraseIdx_cons_succ, ih]
theorem pick_perm {α : Type} : ∀ {xs : List α} {i : Nat} {x : α}, xs[i]? = some x → (x :: xs.eraseIdx i).Perm xs
  | [], _, _, h => by simp at h
  | y :: xs, 0, x, h => by simp at h; subst h; exact List.Perm.refl _
  | y :: xs, i + 1, x, h => by
    have ih := pick_perm (xs := xs) (i := i) (x := x) (by simpa using h)
    rw [List.eraseIdx_cons_succ]
    exact (List.Perm.swap y x _).trans (ih.cons y)
def tenNames : List Str := ["a", "b", "ny", "ldn", "zz", "tokyoabc", "closed", "o", "day", "opened"]
theorem ten_ok : ∀ x ∈ tenNames, Name x ∧ okS x = true ∧ x.cps.size ≤ 8 := by
  intro x hx
  simp only [tenNames, List.mem_cons, List.mem_nil_iff, or_false] at hx
  rcases hx with rfl | rfl | rfl | rfl | rfl | rfl | rfl | rfl | rfl | rfl <;> exact ⟨⟨by decide, by decide⟩, by decide, by decide⟩
theorem bnd_of {i : Int} (h0 : 0 ≤ i) (h1 : i ≤ 2 ^ 60) : bnd i = true := by
  unfold bnd
  exact decide_eq_true (by omega)
theorem mPop_at {n j : Nat} {i : Int} {l : List W} {w : W} {S : Store} (e : S[n]? = some (.lst l)) (hi : i = (j : Int)) (hj : l[j]? = some w) (hl : l.length < 2 ^ 60) : mPop (.ref n) [.int i] S = some (w, S.set n (.lst (l.eraseIdx j))) := by
  have lt := (List.getElem?_eq_some_iff.mp hj).1
  unfold mPop
  simp only [e]
  rw [if_pos (by omega), ixN_pos (by omega) (by omega), hi]
  simp only [Int.toNat_natCast, Option.bind_some, hj, Option.map_some]
theorem names_spec {B n p : Nat} {S : Store} {most : Nat} {E : Ex → Store → Prop} (D : Purse B n p S) (hn : n < 2 ^ 90) (h0 : 0 < most) (h1 : most ≤ 9) :
    wp (n_law_names [.ref p, .int most] S) (fun r S' => ∃ (q : Nat) (ns : List Str), r = .ref q ∧ S.length ≤ q ∧ S'[q]? = some (.lst (ns.map W.str)) ∧ 1 ≤ ns.length ∧ ns.length ≤ most ∧ (∃ left, (ns ++ left).Perm tenNames) ∧ Purse B (n + 20) p S' ∧ Fr B S S') E := by
  unfold n_law_names d_law_names
  simp only [WPA, Nat.reduceSub, Nat.reduceAdd, tgN, tgNil, tgCons, tgTup, wipeE, isT, String.reduceBEq, reduceIte, lenOk_of (show 10 ≤ 1000000 by decide)]
  have hb := D.bl
  refine wp_mono (coin_spec (D.mono (Nat.le_refl _) Fr.app) (by omega) (by omega) (by omega)) ?_ (fun _ _ q => q)
  rintro r S1 ⟨k, rfl, k0, k1, D1, f1, l1⟩
  have g1 : S1[S.length]? = some (.lst (tenNames.map W.str)) := f1.get _ _ hb get_new
  obtain ⟨m, hm, hm1, hm2⟩ : ∃ m : Nat, 1 + k = (m : Int) ∧ 1 ≤ m ∧ m ≤ most := ⟨(1 + k).toNat, by omega, by omega, by omega⟩
  simp only [WPA, Nat.reduceSub, Nat.reduceAdd, tgN, tgNil, tgCons, tgTup, wipeE, isT, String.reduceBEq, reduceIte, hm]
  refine ⟨bnd_of (by omega) (by omega), ?_, ?_⟩
  · rw [rngW_len]; exact lenOk_of (by omega)
  refine wp_mono (wp_lcL (acc := []) (fun i acc S' => ∃ ns left : List Str, acc = ns.map W.str ∧ ns.length = i ∧ S'[S.length]? = some (.lst (left.map W.str)) ∧ (ns ++ left).Perm tenNames ∧ Purse B (n + 1 + i) p S' ∧ Fr B S S' ∧ i ≤ m) ⟨[], tenNames, rfl, rfl, g1, List.Perm.refl _, D1, Fr.app.trans f1, Nat.zero_le _⟩ (fun _ _ _ _ _ => trivial) ?_) ?_ (fun _ _ q => q)
  · rintro i x acc S' e ⟨ns, left, rfl, hl, g, hp, D', f, hi⟩
    obtain ⟨hi, rfl⟩ := rngW_get e
    have hi : i < m := by simpa using hi
    have hlen : left.length = 10 - i := by
      have := hp.length_eq
      rw [List.length_append, hl] at this
      have h10 : tenNames.length = 10 := rfl
      omega
    simp only [WPA, Nat.reduceSub, Nat.reduceAdd, tgN, tgNil, tgCons, tgTup, wipeE, isT, String.reduceBEq, reduceIte, tyM_ref g, opLen_ref g, List.length_map]
    refine wp_mono (coin_spec D' (by omega) (by omega) (by omega)) ?_ (fun _ _ q => q)
    rintro r S2 ⟨j, rfl, j0, j1, D2, f2, l2⟩
    have g2 := f2.get _ _ hb g
    have hj : j.toNat < left.length := by omega
    have e2 : mPop (.ref S.length) [.int j] S2 = some (.str left[j.toNat], S2.set S.length (.lst ((left.eraseIdx j.toNat).map W.str))) := by
      rw [mPop_at (j := j.toNat) (w := .str left[j.toNat]) g2 (by omega) (by rw [List.getElem?_map, List.getElem?_eq_getElem hj]; rfl) (by rw [List.length_map]; omega), eraseIdx_mapW]
    simp only [WPA, Nat.reduceSub, Nat.reduceAdd, tgN, tgNil, tgCons, tgTup, wipeE, isT, String.reduceBEq, reduceIte, e2]
    refine ⟨ns ++ [left[j.toNat]], left.eraseIdx j.toNat, by simp, by simp [hl], get_set g2, ?_, D2.setB (by omega) hb, (f.trans f2).setN (Nat.le_refl _), hi⟩
    rw [List.append_assoc]
    exact ((pick_perm (List.getElem?_eq_getElem hj)).append_left ns).trans hp
  · rintro ws S' ⟨ns, left, e, hl, g, hp, D', f, hi⟩
    simp only [List.nil_append] at e
    subst e
    rw [rngW_len] at hl D' hi
    refine ⟨S'.length, ns, rfl, f.len, get_new, by omega, by omega, ⟨left, hp⟩, D'.mono (by omega) Fr.app, f.snoc⟩
section
variable {B n p nr : Nat} {S : Store} {E : Ex → Store → Prop} {ns : List Str} {P : Str → Prop}
theorem pick_at {ns : List Str} {k : Int} {P : Str → Prop} (k0 : 0 ≤ k) (k1 : k < (ns.length : Int) + 1) (hP : ∀ x ∈ ns, P x) (hp : P "+") : ∃ x, (ns.map W.str ++ [W.str "+"])[k.toNat]? = some (.str x) ∧ P x := by
  by_cases h : k.toNat < ns.length
  · exact ⟨ns[k.toNat], by rw [List.getElem?_append_left (by simpa using h), List.getElem?_map, List.getElem?_eq_getElem h]; rfl, hP _ (List.getElem_mem h)⟩
  · have : k.toNat = (ns.map W.str).length := by rw [List.length_map]; omega
    exact ⟨"+", by rw [this]; simp, hp⟩
theorem letters_spec {most : Nat} (D : Purse B n p S) (hn : n < 2 ^ 90) (g : S[nr]? = some (.lst (ns.map W.str))) (hr : B ≤ nr) (h0 : ns ≠ []) (hns : ns.length ≤ 100) (hP : ∀ x ∈ ns, P x) (hp : P "+") (hm : most ≤ 10000) :
    wp (n_law_letters [.ref p, .ref nr, .int most] S) (fun r S' => ∃ (q : Nat) (xs : List Str), r = .ref q ∧ S.length ≤ q ∧ S'[q]? = some (.lst (xs.map W.str)) ∧ xs.length ≤ most ∧ (∀ x ∈ xs, P x) ∧ Purse B (n + 2 + 2 * most) p S' ∧ Fr B S S') E := by
  have hb := D.bl
  have hpos : 0 < ns.length := List.length_pos_iff.mpr h0
  unfold n_law_letters d_law_letters
  simp only [wp_dfn, EVA, Nat.reduceSub, Nat.reduceAdd, tgN, tgNil, tgCons, tgTup, wipeE, isT, String.reduceBEq, reduceIte]
  rw [wpS_dSeq]
  simp only [WPA, Nat.reduceSub, Nat.reduceAdd, tgN, tgNil, tgCons, tgTup, wipeE, isT, String.reduceBEq, reduceIte]
  refine wp_mono (coin_spec D (by omega) (by omega) (by omega)) ?_ (fun _ _ q => q)
  rintro r S1 ⟨k, rfl, k0, k1, D1, f1, l1⟩
  simp only [WPA, Nat.reduceSub, Nat.reduceAdd, tgN, tgNil, tgCons, tgTup, wipeE, isT, String.reduceBEq, reduceIte]
  refine wp_mono (coin_spec D1 (by omega) (by decide) (by decide)) ?_ (fun _ _ q => q)
  rintro r S2 ⟨style, rfl, s0, s1, D2, f2, l2⟩
  simp only [WPA, Nat.reduceSub, Nat.reduceAdd, tgN, tgNil, tgCons, tgTup, wipeE, isT, String.reduceBEq, reduceIte, lenOk_of (show 0 ≤ 1000000 by decide)]
  obtain ⟨size, rfl, hsz⟩ : ∃ size : Nat, k = (size : Int) ∧ size ≤ most := ⟨k.toNat, by omega, by omega⟩
  refine ⟨bnd_of (by omega) (by omega), ?_⟩
  have f02 := f1.trans f2
  have g2 := f02.get _ _ hr g
  have b2 := D2.bl
  refine wpS_forL (fun i ε S' => ∃ (xs : List Str) (x3 x7 : Option W), ε = [some (.ref p), some (.ref nr), some (.int most), x3, some (.int size), some (.int style), some (.ref S2.length), x7] ∧
    S'[S2.length]? = some (.lst (xs.map W.str)) ∧ xs.length = i ∧ (∀ x ∈ xs, P x) ∧ Purse B (n + 2 + 2 * i) p S' ∧ Fr B S2 S') ⟨[], _, _, rfl, get_new, rfl, fun _ h => (by simp at h), D2.mono (Nat.le_refl _) Fr.app, Fr.app⟩ (fun _ _ _ _ _ => trivial) ?_ ?_
  · rintro i x ε S' e ⟨xs, x3, x7, rfl, gx, hl, hx, D3, f3⟩
    obtain ⟨hi, rfl⟩ := rngW_get e
    have hi : i < size := by simpa using hi
    have g3 := f3.get _ _ hr g2
    have D4 := D3.mono (Nat.le_refl _) (Fr.app (B := 0) (S := S') (T := [O.lst [W.str "+"]]))
    have ga := opAdd_ref (S := S' ++ [O.lst [W.str "+"]]) (n := nr) (m := S'.length) (a := ns.map W.str) (b := [W.str "+"]) (Fr.app.g0 g3) get_new (by simp; omega)
    have D5 := D4.mono (Nat.le_refl _) (Fr.app (B := 0) (S := S' ++ [O.lst [W.str "+"]]) (T := [O.lst (ns.map W.str ++ [W.str "+"])]))
    have f5 : Fr B S' (S' ++ [O.lst [W.str "+"]] ++ [O.lst (ns.map W.str ++ [W.str "+"])]) := Fr.app.snoc
    have gs : (S' ++ [O.lst [W.str "+"]] ++ [O.lst (ns.map W.str ++ [W.str "+"])])[(S' ++ [O.lst [W.str "+"]]).length]? = some (.lst (ns.map W.str ++ [W.str "+"])) := get_new
    have gn5 := f5.get _ _ hr g3
    have b4 : B ≤ (S' ++ [O.lst [W.str "+"]]).length := D4.bl
    simp only [EVA, Nat.reduceSub, Nat.reduceAdd, tgN, tgNil, tgCons, tgTup, wipeE, isT, String.reduceBEq, reduceIte, wO_some]
    rw [wpS_dSeq]
    refine wpS_join (fun ε' S6 => ∃ (y : Str), ε' = [some (.ref p), some (.ref nr), some (.int most), some (.int (0 + i)), some (.int size), some (.int style), some (.ref S2.length), some (.str y)] ∧ P y ∧ Purse B (n + 2 + 2 * i + 1) p S6 ∧ Fr B S' S6) ?_ ?_
    · simp only [WPA, Nat.reduceSub, Nat.reduceAdd, tgN, tgNil, tgCons, tgTup, wipeE, isT, String.reduceBEq, reduceIte, lenOk_of (show 1 ≤ 1000000 by decide), ga, opLen_ref gn5, List.length_map]
      refine wp_mono (coin_spec D5 (by omega) (by omega) (by omega)) ?_ (fun _ _ q => q)
      rintro r S6 ⟨j, rfl, j0, j1, D6, f6, l6⟩
      obtain ⟨y, hy, py⟩ := pick_at j0 j1 hP hp
      simp only [WPA, Nat.reduceSub, Nat.reduceAdd, tgN, tgNil, tgCons, tgTup, wipeE, isT, String.reduceBEq, reduceIte, lstAt_of (f6.get _ _ b4 gs), atI_nn j0, hy]
      exact ⟨y, rfl, py, D6, f5.trans f6⟩
    rintro ε' S6 ⟨y, rfl, py, D6, f6⟩
    dsimp only
    rw [wpS_dSeq]
    have gn6 := f6.get _ _ hr g3
    refine wpS_join (fun ε' S7 => ∃ (y : Str), ε' = [some (.ref p), some (.ref nr), some (.int most), some (.int (0 + i)), some (.int size), some (.int style), some (.ref S2.length), some (.str y)] ∧ P y ∧ Purse B (n + 2 + 2 * i + 2) p S7 ∧ Fr B S' S7) ?_ ?_
    · simp only [WPA, Nat.reduceSub, Nat.reduceAdd, tgN, tgNil, tgCons, tgTup, wipeE, isT, String.reduceBEq, reduceIte]
      by_cases hs : (style == 1) = true
      · rw [if_pos hs]
        refine wp_mono (coin_spec D6 (by omega) (by decide) (by decide)) ?_ (fun _ _ q => q)
        rintro r S7 ⟨j, rfl, j0, j1, D7, f7, l7⟩
        simp only [WPA, Nat.reduceSub, Nat.reduceAdd, tgN, tgNil, tgCons, tgTup, wipeE, isT, String.reduceBEq, reduceIte]
        split
        · exact ⟨"+", rfl, hp, D7, f6.trans f7⟩
        · exact ⟨y, rfl, py, D7, f6.trans f7⟩
      · rw [if_neg hs]
        exact ⟨y, rfl, py, D6.mono (by omega) Fr.refl, f6⟩
    rintro ε' S7 ⟨y, rfl, py, D7, f7⟩
    dsimp only
    rw [wpS_dSeq]
    have gn7 := f7.get _ _ hr g3
    refine wpS_join (fun ε' S8 => S8 = S7 ∧ ∃ (y : Str), ε' = [some (.ref p), some (.ref nr), some (.int most), some (.int (0 + i)), some (.int size), some (.int style), some (.ref S2.length), some (.str y)] ∧ P y) ?_ ?_
    · simp only [WPA, Nat.reduceSub, Nat.reduceAdd, tgN, tgNil, tgCons, tgTup, wipeE, isT, String.reduceBEq, reduceIte]
      split
      · have m0 : 0 ≤ (0 + (i : Int)) % (ns.length : Int) := Int.emod_nonneg _ (by omega)
        have m1 : (0 + (i : Int)) % (ns.length : Int) < ns.length := Int.emod_lt_of_pos _ (by omega)
        have hh : ((0 + (i : Int)) % (ns.length : Int)).toNat < ns.length := by omega
        have hz : (0 : Int) < (ns.length : Int) := by omega
        simp only [WPA, Nat.reduceSub, Nat.reduceAdd, tgN, tgNil, tgCons, tgTup, wipeE, isT, String.reduceBEq, reduceIte, opLen_ref gn7, List.length_map, hz, lstAt_of gn7, atI_nn m0, List.getElem?_map, List.getElem?_eq_getElem hh, Option.map_some]
        exact ⟨_, rfl, hP _ (List.getElem_mem hh)⟩
      · exact ⟨y, rfl, py⟩
    rintro ε' S8 ⟨rfl, y, rfl, py⟩
    dsimp only
    rw [wpS_dSeq]
    refine wpS_join (fun ε' S9 => Fr 0 S8 S9 ∧ ∃ (y : Str), ε' = [some (.ref p), some (.ref nr), some (.int most), some (.int (0 + i)), some (.int size), some (.int style), some (.ref S2.length), some (.str y)] ∧ P y) ?_ ?_
    · simp only [WPA, Nat.reduceSub, Nat.reduceAdd, tgN, tgNil, tgCons, tgTup, wipeE, isT, String.reduceBEq, reduceIte, lenOk_of (show 2 ≤ 1000000 by decide)]
      split
      · have m0 : 0 ≤ (0 + (i : Int)) % 2 := Int.emod_nonneg _ (by omega)
        have m1 : (0 + (i : Int)) % 2 < 2 := Int.emod_lt_of_pos _ (by omega)
        obtain ⟨x0, hx0⟩ : ∃ x0, ns[0]? = some x0 := ⟨_, List.getElem?_eq_getElem hpos⟩
        simp only [WPA, Nat.reduceSub, Nat.reduceAdd, tgN, tgNil, tgCons, tgTup, wipeE, isT, String.reduceBEq, reduceIte, lstAt_of gn7, List.getElem?_map, hx0, Option.map_some, lenOk_of (show 2 ≤ 1000000 by decide), lstAt_of get_new, atI_nn m0, show (0 : Int) < 2 by decide]
        rcases (show ((0 + (i : Int)) % 2).toNat = 0 ∨ ((0 + (i : Int)) % 2).toNat = 1 by omega) with z | z
        · rw [z]
          exact ⟨Fr.app, x0, rfl, hP _ (List.mem_of_getElem? hx0)⟩
        · rw [z]
          exact ⟨Fr.app, "+", rfl, hp⟩
      · exact ⟨Fr.refl, y, rfl, py⟩
    rintro ε' S9 ⟨f9, y, rfl, py⟩
    have ff := f7.trans (f9.up (Nat.zero_le _))
    have gx9 := ff.get _ _ b2 gx
    simp only [WPA, Nat.reduceSub, Nat.reduceAdd, tgN, tgNil, tgCons, tgTup, wipeE, isT, String.reduceBEq, reduceIte, tyM_ref gx9, mAppend_ref gx9, List.length_map]
    rw [if_pos (by rw [sizeLine_eq]; omega)]
    refine ⟨xs ++ [y], _, _, rfl, ?_, by simp [hl], fun z hz => ?_, (D7.mono (Nat.le_refl _) f9).setB (by omega) b2, (f3.trans ff).setN (Nat.le_refl _)⟩
    · rw [List.map_append]; exact get_set gx9
    · rcases List.mem_append.mp hz with h | h
      · exact hx z h
      · rw [List.mem_singleton.mp h]; exact py
  · rintro ε S' ⟨xs, x3, x7, rfl, gx, hl, hx, D3, f3⟩
    rw [rngW_len] at hl D3
    have hl : xs.length = size := by simpa using hl
    simp only [WPA, Nat.reduceSub, Nat.reduceAdd, tgN, tgNil, tgCons, tgTup, wipeE, isT, String.reduceBEq, reduceIte]
    exact ⟨S2.length, xs, rfl, f02.len, gx, by omega, hx, D3.mono (by simp; omega) Fr.refl, f02.trans f3⟩
theorem mInsert_at {l : List W} {q : Nat} {i : Int} {w : W} {S : Store} (e : S[q]? = some (.lst l)) (h0 : 0 ≤ i) (h1 : i < 2 ^ 60) (hl : l.length ≤ 1000000) : mInsert (.ref q) [.int i, w] S = some (.non, S.set q (.lst (l.take i.toNat ++ [w] ++ l.drop i.toNat))) := by
  unfold mInsert
  simp only [e]
  rw [if_pos ⟨by rw [sizeLine_eq]; omega, h0, by omega⟩]
theorem opList_ref {q : Nat} {l : List W} {S : Store} (e : S[q]? = some (.lst l)) : opList [.ref q] S = some (.ref S.length, S ++ [.lst l]) := by
  unfold opList
  have : seqW (.ref q) S = some l := by
    unfold seqW
    simp only [e]
  simp only [this, Option.map_some]
theorem longer_spec {most rl : Nat} {xs : List Str} (D : Purse B n p S) (hn : n < 2 ^ 90) (g : S[nr]? = some (.lst (ns.map W.str))) (hr : B ≤ nr) (gl : S[rl]? = some (.lst (xs.map W.str))) (hns : ns.length ≤ 100) (hxs : xs.length ≤ 10000) (hP : ∀ x ∈ ns, P x) (hp : P "+") (hx : ∀ x ∈ xs, P x) (hm : most ≤ 10000) :
    wp (n_law_longer [.ref p, .ref rl, .ref nr, .int most] S) (fun r S' => ∃ (q : Nat) (ys : List Str), r = .ref q ∧ S.length ≤ q ∧ S'[q]? = some (.lst (ys.map W.str)) ∧ ys.length ≤ xs.length + most ∧ (∀ x ∈ ys, P x) ∧ Purse B (n + 1 + 2 * most) p S' ∧ Fr B S S') E := by
  have hb := D.bl
  unfold n_law_longer d_law_longer
  simp only [WPA, Nat.reduceSub, Nat.reduceAdd, tgN, tgNil, tgCons, tgTup, wipeE, isT, String.reduceBEq, reduceIte, opList_ref gl]
  refine wp_mono (coin_spec (D.mono (Nat.le_refl _) Fr.app) (by omega) (by omega) (by omega)) ?_ (fun _ _ q => q)
  rintro r S1 ⟨k, rfl, k0, k1, D1, f1, l1⟩
  obtain ⟨size, rfl, hsz⟩ : ∃ size : Nat, k = (size : Int) ∧ size ≤ most := ⟨k.toNat, by omega, by omega⟩
  simp only [WPA, Nat.reduceSub, Nat.reduceAdd, tgN, tgNil, tgCons, tgTup, wipeE, isT, String.reduceBEq, reduceIte]
  refine ⟨bnd_of (by omega) (by omega), ?_⟩
  refine wpS_forL (fun i ε S' => ∃ (ys : List Str) (x5 x6 : Option W), ε = [some (.ref p), some (.ref rl), some (.ref nr), some (.int most), some (.ref S.length), x5, x6] ∧
    S'[S.length]? = some (.lst (ys.map W.str)) ∧ ys.length = xs.length + i ∧ (∀ x ∈ ys, P x) ∧ Purse B (n + 1 + 2 * i) p S' ∧ Fr B S S' ∧ i ≤ size) ⟨xs, _, _, rfl, f1.get _ _ hb get_new, rfl, hx, D1, Fr.app.trans f1, Nat.zero_le _⟩ (fun _ _ _ _ _ => trivial) ?_ ?_
  · rintro i x ε S' e ⟨ys, x5, x6, rfl, gy, hl, hy, D3, f3, hi⟩
    obtain ⟨hi, rfl⟩ := rngW_get e
    have hi : i < size := by simpa using hi
    simp only [WPA, Nat.reduceSub, Nat.reduceAdd, tgN, tgNil, tgCons, tgTup, wipeE, isT, String.reduceBEq, reduceIte, opLen_ref gy, List.length_map]
    refine wp_mono (coin_spec D3 (by omega) (by omega) (by omega)) ?_ (fun _ _ q => q)
    rintro r S4 ⟨pos, rfl, p0, p1, D4, f4, l4⟩
    have gy4 := f4.get _ _ hb gy
    have gn4 := (f3.trans f4).get _ _ hr g
    have D5 := D4.mono (Nat.le_refl _) (Fr.app (B := 0) (S := S4) (T := [O.lst [W.str "+"]]))
    have ga := opAdd_ref (S := S4 ++ [O.lst [W.str "+"]]) (n := nr) (m := S4.length) (a := ns.map W.str) (b := [W.str "+"]) (Fr.app.g0 gn4) get_new (by simp; omega)
    have D6 := D5.mono (Nat.le_refl _) (Fr.app (B := 0) (S := S4 ++ [O.lst [W.str "+"]]) (T := [O.lst (ns.map W.str ++ [W.str "+"])]))
    have f5 : Fr B S4 (S4 ++ [O.lst [W.str "+"]] ++ [O.lst (ns.map W.str ++ [W.str "+"])]) := Fr.app.snoc
    have gs : (S4 ++ [O.lst [W.str "+"]] ++ [O.lst (ns.map W.str ++ [W.str "+"])])[(S4 ++ [O.lst [W.str "+"]]).length]? = some (.lst (ns.map W.str ++ [W.str "+"])) := get_new
    have gn5 := f5.get _ _ hr gn4
    have b4 : B ≤ (S4 ++ [O.lst [W.str "+"]]).length := D5.bl
    simp only [WPA, Nat.reduceSub, Nat.reduceAdd, tgN, tgNil, tgCons, tgTup, wipeE, isT, String.reduceBEq, reduceIte, tyM_ref gy4, lenOk_of (show 1 ≤ 1000000 by decide), ga, opLen_ref gn5, List.length_map]
    refine wp_mono (coin_spec D6 (by omega) (by omega) (by omega)) ?_ (fun _ _ q => q)
    rintro r S6 ⟨j, rfl, j0, j1, D7, f6, l6⟩
    obtain ⟨y, hy2, py⟩ := pick_at j0 j1 hP hp
    have gy6 := (f5.trans f6).get _ _ hb gy4
    have hins := mInsert_at (w := .str y) gy6 p0 (by omega) (by rw [List.length_map]; omega)
    simp only [WPA, Nat.reduceSub, Nat.reduceAdd, tgN, tgNil, tgCons, tgTup, wipeE, isT, String.reduceBEq, reduceIte, lstAt_of (f6.get _ _ b4 gs), atI_nn j0, hy2, hins]
    refine ⟨ys.take pos.toNat ++ [y] ++ ys.drop pos.toNat, _, _, rfl, ?_, ?_, fun z hz => ?_, D7.setB (by omega) hb, (f3.trans (f4.trans (f5.trans f6))).setN (Nat.le_refl _), hi⟩
    · rw [get_set gy6, List.map_append, List.map_append, List.map_take, List.map_drop]; rfl
    · simp only [List.length_append, List.length_take, List.length_drop, List.length_cons, List.length_nil]
      omega
    · rcases List.mem_append.mp hz with h | h
      · rcases List.mem_append.mp h with h | h
        · exact hy z (List.mem_of_mem_take h)
        · rw [List.mem_singleton.mp h]; exact py
      · exact hy z (List.mem_of_mem_drop h)
  · rintro ε S' ⟨ys, x5, x6, rfl, gy, hl, hy, D3, f3, hi⟩
    rw [rngW_len] at hl D3 hi
    simp only [WPA, Nat.reduceSub, Nat.reduceAdd, tgN, tgNil, tgCons, tgTup, wipeE, isT, String.reduceBEq, reduceIte]
    exact ⟨S.length, ys, rfl, Nat.le_refl _, gy, by omega, hy, D3.mono (by omega) Fr.refl, f3⟩
theorem cut_mem {xs : List Str} {lo hi : Option Int} {x : Str} (h : x ∈ cutL xs lo hi) : x ∈ xs := List.mem_of_mem_drop (List.mem_of_mem_take h)
theorem cut_len {xs : List Str} {lo hi : Option Int} : (cutL xs lo hi).length ≤ xs.length := by
  unfold cutL
  rw [List.length_take, List.length_drop]
  omega
theorem cut_mapW {α β : Type} {f : α → β} {xs : List α} {lo hi : Option Int} : cutL (xs.map f) lo hi = (cutL xs lo hi).map f := by
  unfold cutL
  rw [List.length_map, List.map_take, List.map_drop]
theorem opRevL_ref {q : Nat} {l : List W} {S : Store} (e : S[q]? = some (.lst l)) : opRevL (.ref q) S = some (.ref S.length, S ++ [.lst l.reverse]) := by
  unfold opRevL
  rw [listW_ref e]
  rfl
theorem opMul_ref2 {q : Nat} {l : List W} {S : Store} (e : S[q]? = some (.lst l)) (hl : l.length ≤ 100000) : opMul (.ref q) (.int 2) S = some (.ref S.length, S ++ [.lst (l ++ l)]) := by
  unfold opMul
  simp only [e]
  rw [if_pos ⟨by decide, by decide, by rw [sizeLine_eq]; show l.length * 2 ≤ _; omega⟩]
  have : (List.replicate (Int.toNat 2) l).flatten = l ++ l := by simp [List.replicate]
  rw [this]
/-- a list of texts as an answer -/
def LV (P : Str → Prop) (N : Nat) (S : Store) (w : W) (S' : Store) : Prop := ∃ (q : Nat) (l : List Str), w = .ref q ∧ S'[q]? = some (.lst (l.map W.str)) ∧ l.length ≤ N ∧ (∀ x ∈ l, P x) ∧ Fr 0 S S'
theorem changed_spec {rl : Nat} {xs : List Str} (D : Purse B n p S) (hn : n < 2 ^ 90) (g : S[nr]? = some (.lst (ns.map W.str))) (hr : B ≤ nr) (gl : S[rl]? = some (.lst (xs.map W.str))) (hns : ns.length ≤ 100) (hxs : xs.length ≤ 10000) (hP : ∀ x ∈ ns, P x) (hp : P "+") (hx : ∀ x ∈ xs, P x) :
    wp (n_law_changed [.ref p, .ref rl, .ref nr] S) (fun r S' => ∃ (q : Nat) (ys : List Str), r = .ref q ∧ S.length ≤ q ∧ S'[q]? = some (.lst (ys.map W.str)) ∧ ys.length ≤ 200 ∧ (∀ x ∈ ys, P x) ∧ Purse B (n + 10) p S' ∧ Fr B S S') E := by
  have hb := D.bl
  unfold n_law_changed d_law_changed
  simp only [WPA, Nat.reduceSub, Nat.reduceAdd, tgN, tgNil, tgCons, tgTup, wipeE, isT, String.reduceBEq, reduceIte, opList_ref gl]
  refine wp_mono (coin_spec (D.mono (Nat.le_refl _) Fr.app) (by omega) (by omega) (by omega)) ?_ (fun _ _ q => q)
  rintro r S1 ⟨k, rfl, k0, k1, D1, f1, l1⟩
  obtain ⟨size, hsz, hsz2⟩ : ∃ size : Nat, 1 + k = (size : Int) ∧ size ≤ 3 := ⟨(1 + k).toNat, by omega, by omega⟩
  simp only [WPA, Nat.reduceSub, Nat.reduceAdd, tgN, tgNil, tgCons, tgTup, wipeE, isT, String.reduceBEq, reduceIte, hsz]
  refine ⟨bnd_of (by omega) (by omega), ?_⟩
  refine wpS_forL (fun i ε S' => ∃ (q : Nat) (ys : List Str) (x4 x5 x6 x7 x8 : Option W), ε = [some (.ref p), some (.ref rl), some (.ref nr), some (.ref q), x4, x5, x6, x7, x8] ∧
    S.length ≤ q ∧ S'[q]? = some (.lst (ys.map W.str)) ∧ ys.length ≤ xs.length + 20000 * i ∧ (∀ x ∈ ys, P x) ∧ Purse B (n + 1 + 3 * i) p S' ∧ Fr B S S' ∧ i ≤ size) ⟨S.length, xs, _, _, _, _, _, rfl, Nat.le_refl _, f1.get _ _ hb get_new, by omega, hx, D1, Fr.app.trans f1, Nat.zero_le _⟩ (fun _ _ _ _ _ => trivial) ?_ ?_
  · rintro i x ε S' e ⟨q, ys, x4, x5, x6, x7, x8, rfl, hq, gy, hl, hy, D3, f3, hi⟩
    obtain ⟨hi, rfl⟩ := rngW_get e
    have hi : i < size := by simpa using hi
    have hq' : B ≤ q := Nat.le_trans hb hq
    simp only [EVA, Nat.reduceSub, Nat.reduceAdd, tgN, tgNil, tgCons, tgTup, wipeE, isT, String.reduceBEq, reduceIte, wO_some]
    rw [wpS_dSeq]
    refine wpS_join (fun ε' S5 => ∃ (pos way : Int), ε' = [some (.ref p), some (.ref rl), some (.ref nr), some (.ref q), some (.int (0 + i)), x5, x6, some (.int pos), some (.int way)] ∧ 0 ≤ pos ∧ pos < (ys.length : Int) + 1 ∧ 0 ≤ way ∧ way < 5 ∧ Purse B (n + 1 + 3 * i + 2) p S5 ∧ Fr B S' S5) ?_ ?_
    · simp only [WPA, Nat.reduceSub, Nat.reduceAdd, tgN, tgNil, tgCons, tgTup, wipeE, isT, String.reduceBEq, reduceIte, opLen_ref gy, List.length_map]
      refine wp_mono (coin_spec D3 (by omega) (by omega) (by omega)) ?_ (fun _ _ q => q)
      rintro r S4 ⟨pos, rfl, p0, p1, D4, f4, l4⟩
      refine wp_mono (coin_spec D4 (by omega) (by decide) (by decide)) ?_ (fun _ _ q => q)
      rintro r S5 ⟨way, rfl, w0, w1, D5, f5, l5⟩
      exact ⟨pos, way, rfl, p0, p1, w0, w1, D5, f4.trans f5⟩
    rintro ε' S5 ⟨pos, way, rfl, p0, p1, w0, w1, D5, f45⟩
    dsimp only
    have gy5 := f45.get _ _ hq' gy
    have gn5 := (f3.trans f45).get _ _ hr g
    have D6 := D5.mono (Nat.le_refl _) (Fr.app (B := 0) (S := S5) (T := [O.lst [W.str "+"]]))
    have ga := opAdd_ref (S := S5 ++ [O.lst [W.str "+"]]) (n := nr) (m := S5.length) (a := ns.map W.str) (b := [W.str "+"]) (Fr.app.g0 gn5) get_new (by simp; omega)
    have D7 := D6.mono (Nat.le_refl _) (Fr.app (B := 0) (S := S5 ++ [O.lst [W.str "+"]]) (T := [O.lst (ns.map W.str ++ [W.str "+"])]))
    have f6 : Fr B S5 (S5 ++ [O.lst [W.str "+"]] ++ [O.lst (ns.map W.str ++ [W.str "+"])]) := Fr.app.snoc
    have gs : (S5 ++ [O.lst [W.str "+"]] ++ [O.lst (ns.map W.str ++ [W.str "+"])])[(S5 ++ [O.lst [W.str "+"]]).length]? = some (.lst (ns.map W.str ++ [W.str "+"])) := get_new
    have gn6 := f6.get _ _ hr gn5
    have b4 : B ≤ (S5 ++ [O.lst [W.str "+"]]).length := D6.bl
    rw [wpS_dSeq]
    refine wpS_join (fun ε' S6 => ∃ (y : Str), ε' = [some (.ref p), some (.ref rl), some (.ref nr), some (.ref q), some (.int (0 + i)), some (.str y), x6, some (.int pos), some (.int way)] ∧ P y ∧ Purse B (n + 1 + 3 * i + 3) p S6 ∧ Fr B S5 S6) ?_ ?_
    · simp only [WPA, Nat.reduceSub, Nat.reduceAdd, tgN, tgNil, tgCons, tgTup, wipeE, isT, String.reduceBEq, reduceIte, lenOk_of (show 1 ≤ 1000000 by decide), ga, opLen_ref gn6, List.length_map]
      refine wp_mono (coin_spec D7 (by omega) (by omega) (by omega)) ?_ (fun _ _ q => q)
      rintro r S6 ⟨j, rfl, j0, j1, D8, f8, l8⟩
      obtain ⟨y, hy2, py⟩ := pick_at j0 j1 hP hp
      simp only [WPA, Nat.reduceSub, Nat.reduceAdd, tgN, tgNil, tgCons, tgTup, wipeE, isT, String.reduceBEq, reduceIte, lstAt_of (f8.get _ _ b4 gs), atI_nn j0, hy2]
      exact ⟨y, rfl, py, D8, f6.trans f8⟩
    rintro ε' S6 ⟨y, rfl, py, D8, f8⟩
    dsimp only
    have gy6 := f8.get _ _ hq' gy5
    have hyl : ys.length ≤ 70000 := by omega
    rw [wpS_dSeq]
    have a1 : ∀ T, Fr 0 S6 T → wp (dLst (aCons (dVar 5) aNil) [some (.ref p), some (.ref rl), some (.ref nr), some (.ref q), some (.int (0 + i)), some (.str y), x6, some (.int pos), some (.int way)] T) (LV P 20000 T) (fun _ _ => False) := fun T _ => by
      simp only [WPA, Nat.reduceSub, Nat.reduceAdd, tgN, tgNil, tgCons, tgTup, wipeE, isT, String.reduceBEq, reduceIte, lenOk_of (show 1 ≤ 1000000 by decide)]
      exact ⟨T.length, [y], rfl, get_new, by simp, fun x hx => by rw [List.mem_singleton.mp hx]; exact py, Fr.app⟩
    have a2 : ∀ T, Fr 0 S6 T → wp (dLst aNil [some (.ref p), some (.ref rl), some (.ref nr), some (.ref q), some (.int (0 + i)), some (.str y), x6, some (.int pos), some (.int way)] T) (LV P 20000 T) (fun _ _ => False) := fun T _ => by
      simp only [WPA, Nat.reduceSub, Nat.reduceAdd, tgN, tgNil, tgCons, tgTup, wipeE, isT, String.reduceBEq, reduceIte, lenOk_of (show 0 ≤ 1000000 by decide)]
      exact ⟨T.length, [], rfl, get_new, by simp, fun x hx => (by simp at hx), Fr.app⟩
    have c2 : ∀ d : Nat, d ≤ 10 → (cutL ys (some pos) (some (pos + d))).length ≤ 10 := fun d hd => by
      obtain ⟨m, rfl⟩ : ∃ m : Nat, pos = (m : Int) := ⟨pos.toNat, by omega⟩
      unfold cutL
      rw [show ((m : Int) + (d : Int)) = ((m + d : Nat) : Int) by omega, HT.sIx_nat, HT.sIx_nat, List.length_take]
      omega
    have a4 : ∀ T, Fr 0 S6 T → wp (dOp opMul (dSl (dVar 3) (oS (dVar 7)) (oS (dOp opAdd (dVar 7) (dC (.int 1))))) (dC (.int 2)) [some (.ref p), some (.ref rl), some (.ref nr), some (.ref q), some (.int (0 + i)), some (.str y), x6, some (.int pos), some (.int way)] T) (LV P 20000 T) (fun _ _ => False) := fun T f => by
      have c3 := c2 1 (by decide)
      have eq2 := opMul_ref2 (S := T ++ [O.lst ((cutL ys (some pos) (some (pos + 1))).map W.str)]) (q := T.length) get_new (by rw [List.length_map]; simp only [Int.natCast_one] at c3; omega)
      simp only [WPA, Nat.reduceSub, Nat.reduceAdd, tgN, tgNil, tgCons, tgTup, wipeE, isT, String.reduceBEq, reduceIte, opSl_ref (f.g0 gy6), cut_mapW, eq2]
      refine ⟨_, cutL ys (some pos) (some (pos + 1)) ++ cutL ys (some pos) (some (pos + 1)), rfl, by rw [List.map_append]; exact get_new, by simp only [Int.natCast_one] at c3; rw [List.length_append]; omega, fun x hx => ?_, Fr.app.snoc⟩
      rcases List.mem_append.mp hx with h | h <;> exact hy x (cut_mem h)
    have a5 : ∀ T, Fr 0 S6 T → wp (dUn opRevL (dSl (dVar 3) (oS (dVar 7)) (oS (dOp opAdd (dVar 7) (dC (.int 2))))) [some (.ref p), some (.ref rl), some (.ref nr), some (.ref q), some (.int (0 + i)), some (.str y), x6, some (.int pos), some (.int way)] T) (LV P 20000 T) (fun _ _ => False) := fun T f => by
      have c3 := c2 2 (by decide)
      have eq2 := opRevL_ref (S := T ++ [O.lst ((cutL ys (some pos) (some (pos + 2))).map W.str)]) (q := T.length) get_new
      simp only [WPA, Nat.reduceSub, Nat.reduceAdd, tgN, tgNil, tgCons, tgTup, wipeE, isT, String.reduceBEq, reduceIte, opSl_ref (f.g0 gy6), cut_mapW, eq2]
      exact ⟨_, (cutL ys (some pos) (some (pos + 2))).reverse, rfl, by rw [← List.map_reverse]; exact get_new, by rw [List.length_reverse]; have : ((2 : Nat) : Int) = 2 := rfl; rw [this] at c3; omega, fun x hx => hy x (cut_mem (List.mem_reverse.mp hx)), Fr.app.snoc⟩
    refine wpS_join (fun ε' S9 => ∃ (r6 : Nat) (part : List Str), ε' = [some (.ref p), some (.ref rl), some (.ref nr), some (.ref q), some (.int (0 + i)), some (.str y), some (.ref r6), some (.int pos), some (.int way)] ∧ S9[r6]? = some (.lst (part.map W.str)) ∧ part.length ≤ 20000 ∧ (∀ x ∈ part, P x) ∧ Fr 0 S6 S9) ?_ ?_
    · rw [wpS_dSet, wp_dOp, wp_dLst, wp_aCons]
      refine wp_mono (a1 S6 Fr.refl) ?_ (fun _ _ q => q.elim)
      rintro w1' T1 ⟨q1, t1, rfl, h1, m1, b1, e1⟩
      rw [wp_aCons]
      refine wp_mono (a2 T1 e1) ?_ (fun _ _ q => q.elim)
      rintro w2' T2 ⟨q2, t2, rfl, h2, m2, b2, e2⟩
      rw [wp_aCons]
      refine wp_mono (a1 T2 (e1.trans e2)) ?_ (fun _ _ q => q.elim)
      rintro w3' T3 ⟨q3, t3, rfl, h3, m3, b3, e3⟩
      rw [wp_aCons]
      refine wp_mono (a4 T3 (e1.trans (e2.trans e3))) ?_ (fun _ _ q => q.elim)
      rintro w4' T4 ⟨q4, t4, rfl, h4, m4, b4', e4⟩
      rw [wp_aCons]
      refine wp_mono (a5 T4 (e1.trans (e2.trans (e3.trans e4)))) ?_ (fun _ _ q => q.elim)
      rintro w5' T5 ⟨q5, t5, rfl, h5, m5, b5', e5⟩
      have eT := e1.trans (e2.trans (e3.trans (e4.trans e5)))
      simp only [WPA, Nat.reduceSub, Nat.reduceAdd, tgN, tgNil, tgCons, tgTup, wipeE, isT, String.reduceBEq, reduceIte, lenOk_of (show 5 ≤ 1000000 by decide), lstAt_of get_new, atI_nn w0]
      have out : ∀ (qq : Nat) (t : List Str), T5[qq]? = some (.lst (t.map W.str)) → t.length ≤ 20000 → (∀ x ∈ t, P x) → ∃ (r6 : Nat) (part : List Str), [some (W.ref p), some (W.ref rl), some (W.ref nr), some (W.ref q), some (W.int (0 + ↑i)), some (W.str y), some (W.ref qq), some (W.int pos), some (W.int way)] = [some (W.ref p), some (W.ref rl), some (W.ref nr), some (W.ref q), some (W.int (0 + ↑i)), some (W.str y), some (W.ref r6), some (W.int pos), some (W.int way)] ∧
          (T5 ++ [O.lst [W.ref q1, W.ref q2, W.ref q3, W.ref q4, W.ref q5]])[r6]? = some (.lst (part.map W.str)) ∧ part.length ≤ 20000 ∧ (∀ x ∈ part, P x) ∧ Fr 0 S6 (T5 ++ [O.lst [W.ref q1, W.ref q2, W.ref q3, W.ref q4, W.ref q5]]) := fun qq t h m b => ⟨qq, t, rfl, Fr.app.g0 h, m, b, eT.snoc⟩
      rcases (show way.toNat = 0 ∨ way.toNat = 1 ∨ way.toNat = 2 ∨ way.toNat = 3 ∨ way.toNat = 4 by omega) with z | z | z | z | z <;> rw [z]
      · exact out q1 t1 (e5.g0 (e4.g0 (e3.g0 (e2.g0 h1)))) m1 b1
      · exact out q2 t2 (e5.g0 (e4.g0 (e3.g0 h2))) m2 b2
      · exact out q3 t3 (e5.g0 (e4.g0 h3)) m3 b3
      · exact out q4 t4 (e5.g0 h4) m4 b4'
      · exact out q5 t5 h5 m5 b5'
    rintro ε' S9 ⟨r6, part, rfl, g6, lp, hpart, f9⟩
    dsimp only
    have gy9 := f9.g0 gy6
    have D9 := D8.mono (Nat.le_refl _) f9
    have f09 := f8.trans (f9.up (Nat.zero_le _))
    have A1 := opAdd_ref (S := S9 ++ [O.lst ((cutL ys none (some pos)).map W.str)]) (n := S9.length) (m := r6) get_new (Fr.app.g0 g6) (by have := cut_len (xs := ys) (lo := none) (hi := some pos); rw [List.length_map, List.length_map]; omega)
    have gw : ∃ d : Int, (([W.int 0, W.int 1, W.int 1, W.int 1, W.int 2] : List W)[way.toNat]?) = some (.int d) ∧ 0 ≤ d ∧ d ≤ 2 := by
      rcases (show way.toNat = 0 ∨ way.toNat = 1 ∨ way.toNat = 2 ∨ way.toNat = 3 ∨ way.toNat = 4 by omega) with z | z | z | z | z <;> rw [z]
      · exact ⟨0, rfl, by decide, by decide⟩
      · exact ⟨1, rfl, by decide, by decide⟩
      · exact ⟨1, rfl, by decide, by decide⟩
      · exact ⟨1, rfl, by decide, by decide⟩
      · exact ⟨2, rfl, by decide, by decide⟩
    obtain ⟨d, hd, d0, d1⟩ := gw
    simp only [WPA, Nat.reduceSub, Nat.reduceAdd, tgN, tgNil, tgCons, tgTup, wipeE, isT, String.reduceBEq, reduceIte, opSl_ref gy9, cut_mapW, A1, lenOk_of (show 5 ≤ 1000000 by decide), lstAt_of get_new, atI_nn w0, hd]
    generalize hU : S9 ++ [O.lst ((cutL ys none (some pos)).map W.str)] = U at A1 ⊢
    have fU : Fr 0 S9 U := by rw [← hU]; exact Fr.app
    have gyU : (U ++ [O.lst ((cutL ys none (some pos)).map W.str ++ part.map W.str)] ++ [O.lst [W.int 0, W.int 1, W.int 1, W.int 1, W.int 2]])[q]? = some (.lst (ys.map W.str)) := Fr.app.g0 (Fr.app.g0 (fU.g0 gy9))
    have gA : (U ++ [O.lst ((cutL ys none (some pos)).map W.str ++ part.map W.str)] ++ [O.lst [W.int 0, W.int 1, W.int 1, W.int 1, W.int 2]])[U.length]? = some (.lst ((cutL ys none (some pos)).map W.str ++ part.map W.str)) := Fr.app.g0 get_new
    have fV : Fr 0 S9 (U ++ [O.lst ((cutL ys none (some pos)).map W.str ++ part.map W.str)] ++ [O.lst [W.int 0, W.int 1, W.int 1, W.int 1, W.int 2]]) := fU.snoc.snoc
    generalize U ++ [O.lst ((cutL ys none (some pos)).map W.str ++ part.map W.str)] ++ [O.lst [W.int 0, W.int 1, W.int 1, W.int 1, W.int 2]] = V at gyU gA fV ⊢
    have A2 := opAdd_ref (S := V ++ [O.lst ((cutL ys (some (pos + d)) none).map W.str)]) (n := U.length) (m := V.length) (Fr.app.g0 gA) get_new (by have := cut_len (xs := ys) (lo := none) (hi := some pos); have := cut_len (xs := ys) (lo := some (pos + d)) (hi := none); simp only [List.length_append, List.length_map]; omega)
    simp only [WPA, Nat.reduceSub, Nat.reduceAdd, tgN, tgNil, tgCons, tgTup, wipeE, isT, String.reduceBEq, reduceIte, opSl_ref gyU, cut_mapW, A2]
    have c1 : (cutL ys none (some pos)).length + (cutL ys (some (pos + d)) none).length ≤ ys.length := by
      obtain ⟨m, rfl⟩ : ∃ m : Nat, pos = (m : Int) := ⟨pos.toNat, by omega⟩
      obtain ⟨dd, rfl⟩ : ∃ dd : Nat, d = (dd : Int) := ⟨d.toNat, by omega⟩
      unfold cutL
      rw [show ((m : Int) + (dd : Int)) = ((m + dd : Nat) : Int) by omega]
      simp only [HT.sIx_none, HT.sIx_nat, List.length_take, List.length_drop]
      omega
    refine ⟨_, cutL ys none (some pos) ++ part ++ cutL ys (some (pos + d)) none, _, _, _, _, _, rfl, ?_, ?_, ?_, ?_, D9.mono (by omega) (fV.snoc.snoc), f3.trans (f45.trans (f09.trans ((fV.up (Nat.zero_le _)).snoc.snoc))), hi⟩
    · have := f3.len
      have := f45.len
      have := f09.len
      have := fV.len
      simp only [List.length_append]
      omega
    · rw [List.map_append, List.map_append]; exact get_new
    · simp only [List.length_append]
      omega
    · intro z hz
      rcases List.mem_append.mp hz with h | h
      · rcases List.mem_append.mp h with h | h
        · exact hy z (cut_mem h)
        · exact hpart z h
      · exact hy z (cut_mem h)
  · rintro ε S' ⟨q, ys, x4, x5, x6, x7, x8, rfl, hq, gy, hl, hy, D3, f3, hi⟩
    simp only [WPA, Nat.reduceSub, Nat.reduceAdd, tgN, tgNil, tgCons, tgTup, wipeE, isT, String.reduceBEq, reduceIte, opSl_ref gy, cut_mapW]
    have c : cutL ys none (some 200) = ys.take 200 := by
      unfold cutL
      rw [HT.sIx_none, show (200 : Int) = ((200 : Nat) : Int) from rfl, HT.sIx_nat, List.drop_zero, Nat.sub_zero]
      rw [← List.take_eq_take_min]
    rw [rngW_len] at D3 hi
    rw [c]
    exact ⟨S'.length, ys.take 200, rfl, f3.len, get_new, by rw [List.length_take]; omega, fun z hz => hy z (List.mem_of_mem_take hz), D3.mono (by omega) Fr.app, f3.snoc⟩
end
/-! ### spelled -/
def pg : List Str → List Str → Nat → List Nat
  | [], _, _ => []
  | _ :: _, [], _ => []
  | l :: ls, m :: ms, i => if l = m then i :: pg ls ms (i + 1) else pg (l :: ls) ms (i + 1)
theorem pg_nil {ms : List Str} {i : Nat} : pg [] ms i = [] := by cases ms <;> rfl
theorem pg_nil2 {ls : List Str} {i : Nat} : pg ls [] i = [] := by cases ls <;> rfl
theorem pg_cons {l m : Str} {ls ms : List Str} {i : Nat} : pg (l :: ls) (m :: ms) i = if l = m then i :: pg ls ms (i + 1) else pg (l :: ls) ms (i + 1) := by rw [pg]
theorem pg_snoc {m : Str} : ∀ {ms ls : List Str} {i : Nat}, pg ls (ms ++ [m]) i = pg ls ms i ++ (if ls[(pg ls ms i).length]? = some m then [i + ms.length] else [])
  | [], [], i => by simp [pg_nil]
  | [], l :: ls, i => by
    rw [List.nil_append, pg_cons, pg_nil2, pg_nil2, pg_nil2]
    by_cases h : l = m <;> simp [h]
  | a :: ms, [], i => by simp [pg_nil]
  | a :: ms, l :: ls, i => by
    rw [List.cons_append, pg_cons, pg_cons]
    by_cases h : l = a
    · rw [if_pos h, if_pos h, pg_snoc (ms := ms) (ls := ls) (i := i + 1)]
      simp only [List.length_cons, List.getElem?_cons_succ, List.cons_append]
      rw [show i + 1 + ms.length = i + (ms.length + 1) by omega]
    · rw [if_neg h, if_neg h, pg_snoc (ms := ms) (ls := l :: ls) (i := i + 1)]
      simp only [List.length_cons]
      rw [show i + 1 + ms.length = i + (ms.length + 1) by omega]
theorem pg_len : ∀ {ms ls : List Str} {i : Nat}, (pg ls ms i).length ≤ ls.length
  | ms, [], i => by rw [pg_nil]; simp
  | [], l :: ls, i => by rw [pg_nil2]; simp
  | m :: ms, l :: ls, i => by
    rw [pg_cons]
    split
    · have := pg_len (ms := ms) (ls := ls) (i := i + 1)
      simp only [List.length_cons]; omega
    · exact pg_len
theorem pg_none {l : Str} : ∀ {ms ls : List Str} {i : Nat}, l ∉ ms → pg (l :: ls) ms i = []
  | [], ls, i, _ => pg_nil2
  | m :: ms, ls, i, h => by
    rw [pg_cons, if_neg (fun e => h (by rw [e]; exact List.mem_cons_self ..))]
    exact pg_none fun q => h (List.mem_cons_of_mem _ q)
theorem pg_find {l : Str} : ∀ {ms ls : List Str} {i t : Nat}, ms[t]? = some l → (∀ s x, s < t → ms[s]? = some x → x ≠ l) → pg (l :: ls) ms i = (i + t) :: pg ls (ms.drop (t + 1)) (i + t + 1)
  | [], ls, i, t, h, _ => by simp at h
  | m :: ms, ls, i, 0, h, _ => by
    have h : m = l := by simpa using h
    rw [pg_cons, if_pos h.symm]
    simp
  | m :: ms, ls, i, t + 1, h, hn => by
    have h0 : m ≠ l := hn 0 m (by omega) rfl
    rw [pg_cons, if_neg (fun e => h0 e.symm), pg_find (t := t) (by simpa using h) (fun s x hs e => hn (s + 1) x (by omega) (by simpa using e))]
    rw [show i + 1 + t = i + (t + 1) by omega]
    rfl
def spell (ls ms : List Str) : Option (List Nat) := if (pg ls ms 0).length = ls.length then some (pg ls ms 0) else none
def natsW (f : List Nat) : List W := f.map fun i => .int (i : Nat)
/-- indices, or None, as an answer -/
def SpW (sp : Option (List Nat)) (S : Store) (r : W) (S' : Store) : Prop := match sp with
  | none => r = .non
  | some f => ∃ q : Nat, r = .ref q ∧ S.length ≤ q ∧ S'[q]? = some (.lst (natsW f))
theorem spelled_at_spec {a b : Nat} {ls ms : List Str} {S : Store} {E : Ex → Store → Prop} (ga : S[a]? = some (.lst (ls.map W.str))) (gb : S[b]? = some (.lst (ms.map W.str))) (hl : ls.length ≤ 10000) (hm : ms.length ≤ 10000) :
    wp (n_spelled_at [.ref a, .ref b] S) (fun r S' => SpW (spell ls ms) S r S' ∧ Fr 0 S S') E := by
  unfold n_spelled_at d_spelled_at
  have gb1 : (S ++ [O.lst []])[b]? = some (.lst (ms.map W.str)) := Fr.app.g0 gb
  simp only [WPA, Nat.reduceSub, Nat.reduceAdd, tgN, tgNil, tgCons, tgTup, wipeE, isT, String.reduceBEq, reduceIte, lenOk_of (show 0 ≤ 1000000 by decide)]
  refine ⟨b, ms.map W.str, rfl, gb1, ?_⟩
  refine wpS_forL (fun i ε S' => ∃ x3 x4, ε = [some (.ref a), some (.ref b), some (.ref S.length), x3, x4] ∧ S'[S.length]? = some (.lst (natsW (pg ls (ms.take i) 0))) ∧ Fr 0 S S') ⟨_, _, rfl, by rw [List.take_zero, pg_nil2]; exact get_new, Fr.app⟩ (fun _ _ S' _ ⟨_, _, _, _, f⟩ => f.g0 gb) ?_ ?_
  · rintro i w ε S' e ⟨x3, x4, rfl, g, f⟩
    have e0 : ∃ u, (ms.map W.str)[i]? = some u ∧ w = .tup [.int i, u] := by
      unfold enumL at e
      rw [List.getElem?_zipWith] at e
      cases z : (ms.map W.str)[i]? with
      | none => rw [z] at e; simp at e
      | some u =>
        have lt := (List.getElem?_eq_some_iff.mp z).1
        rw [z, List.getElem?_range lt] at e
        simp at e
        exact ⟨u, rfl, e.symm⟩
    obtain ⟨u, e1, rfl⟩ := e0
    rw [List.getElem?_map, Option.map_eq_some_iff] at e1
    obtain ⟨m, em, rfl⟩ := e1
    have hi := (List.getElem?_eq_some_iff.mp em).1
    have tk : ms.take (i + 1) = ms.take i ++ [m] := by rw [List.take_succ, em]; rfl
    have lt : (ms.take i).length = i := by rw [List.length_take]; omega
    have nx : pg ls (ms.take (i + 1)) 0 = pg ls (ms.take i) 0 ++ (if ls[(pg ls (ms.take i) 0).length]? = some m then [i] else []) := by
      rw [tk, pg_snoc, lt, Nat.zero_add]
    have ln : (natsW (pg ls (ms.take i) 0)).length = (pg ls (ms.take i) 0).length := by simp [natsW]
    have lp := pg_len (ls := ls) (ms := ms.take i) (i := 0)
    simp only [WPA, Nat.reduceSub, Nat.reduceAdd, tgN, tgNil, tgCons, tgTup, wipeE, isT, String.reduceBEq, reduceIte, opLen_ref g, opLen_ref (f.g0 ga), List.length_map, ln]
    rw [nx]
    split
    · rename_i hlt
      have hlt : (pg ls (ms.take i) 0).length < ls.length := by simpa using hlt
      simp only [WPA, Nat.reduceSub, Nat.reduceAdd, tgN, tgNil, tgCons, tgTup, wipeE, isT, String.reduceBEq, reduceIte, lstAt_of (f.g0 ga), atI_n, List.getElem?_map, List.getElem?_eq_getElem hlt, Option.map_some, tyM_ref g, mAppend_ref g, ln]
      by_cases h : ls[(pg ls (ms.take i) 0).length] = m
      · rw [if_pos (by simp [h]), if_pos (by rw [sizeLine_eq]; omega), if_pos (by rw [h])]
        refine ⟨_, _, rfl, ?_, f.setN (Nat.le_refl _)⟩
        have : natsW (pg ls (ms.take i) 0 ++ [i]) = natsW (pg ls (ms.take i) 0) ++ [.int i] := by simp [natsW]
        rw [this]; exact get_set g
      · rw [if_neg (by simpa using h), if_neg (by simpa using h), List.append_nil]
        exact ⟨_, _, rfl, g, f⟩
    · rename_i hlt
      have hlt : ¬ (pg ls (ms.take i) 0).length < ls.length := by simpa using hlt
      rw [List.getElem?_eq_none (l := ls) (i := (pg ls (ms.take i) 0).length) (by omega)]
      simp only [reduceCtorEq, if_false, List.append_nil]
      exact ⟨_, _, rfl, g, f⟩
  · rintro ε S' ⟨x3, x4, rfl, g, f⟩
    have le : (enumL (ms.map W.str)).length = ms.length := by simp [enumL]
    rw [le, List.take_length] at g
    have ln : (natsW (pg ls ms 0)).length = (pg ls ms 0).length := by simp [natsW]
    simp only [WPA, Nat.reduceSub, Nat.reduceAdd, tgN, tgNil, tgCons, tgTup, wipeE, isT, String.reduceBEq, reduceIte, opLen_ref g, opLen_ref (f.g0 ga), List.length_map, ln]
    unfold spell
    by_cases h : (pg ls ms 0).length = ls.length
    · rw [if_pos (by simp [h]), if_pos h]
      exact ⟨⟨_, rfl, Nat.le_refl _, g⟩, f⟩
    · have : ¬ ((pg ls ms 0).length : Int) = (ls.length : Int) := by omega
      rw [if_neg (by simpa using this), if_neg h]
      exact ⟨rfl, f⟩
theorem inW_strs {n : Nat} {x : Str} {ys : List Str} {S : Store} (h : S[n]? = some (.lst (ys.map W.str))) : opNotIn (.str x) (.ref n) S = some (.bl (!decide (x ∈ ys)), S) := by
  have e : ∀ zs : List Str, (zs.map PyData.str).any (fun z => PyData.eqv z (.str x)) = decide (x ∈ zs) := fun zs => by
    rw [Bool.eq_iff_iff, List.any_eq_true, decide_eq_true_eq]
    constructor
    · rintro ⟨d, hd, hz⟩
      obtain ⟨y, hy, rfl⟩ := List.mem_map.mp hd
      simp only [PyData.eqv, beq_iff_eq] at hz
      rw [← hz]; exact hy
    · intro hx
      exact ⟨_, List.mem_map.mpr ⟨x, hx, rfl⟩, by simp [PyData.eqv]⟩
  have e2 : inW (.str x) (.ref n) S = (match toD S (49 + 1) (.str x), toD S (49 + 1) (.ref n) with
    | some d, some (.list ds) => some (ds.any fun z => PyData.eqv z d)
    | _, _ => none) := rfl
  unfold opNotIn
  rw [e2, toD_lst h, toD_strs]
  simp only [toD, Option.map_some, e]
theorem mIndex_strs {n t : Nat} {x : Str} {ys : List Str} {S : Store} (h : S[n]? = some (.lst (ys.map W.str))) (ht : ys[t]? = some x) (hn : ∀ s y, s < t → ys[s]? = some y → y ≠ x) : mIndex (.ref n) [.str x] S = some (.int (t : Nat), S) := by
  have e : findD (ys.map PyData.str) (.str x) = some t := by
    unfold findD
    rw [List.findIdx?_eq_some_iff_getElem]
    obtain ⟨lt, e1⟩ := List.getElem?_eq_some_iff.mp ht
    refine ⟨by simpa using lt, by simp [PyData.eqv, e1], fun s hs => ?_⟩
    have := hn s ys[s] hs (List.getElem?_eq_getElem (by omega))
    simp [PyData.eqv, this]
  have e2 : mIndex (.ref n) [.str x] S = (match toD S (49 + 1) (.ref n), toD S (49 + 1) (.str x) with
    | some (.list ds), some d => (findD ds d).map fun j => (W.int (j : Nat), S)
    | _, _ => none) := rfl
  rw [e2, toD_lst h, toD_strs]
  simp only [toD, Option.map_some, e]
theorem first_at {x : Str} : ∀ {ys : List Str}, x ∈ ys → ∃ t : Nat, ys[t]? = some x ∧ ∀ (s : Nat) (y : Str), s < t → ys[s]? = some y → y ≠ x
  | [], h => by cases h
  | y :: ys, h => by
    by_cases e : y = x
    · exact ⟨0, by rw [e]; rfl, fun s _ hs _ => absurd hs (Nat.not_lt_zero _)⟩
    · rcases List.mem_cons.mp h with h | h
      · exact absurd h.symm e
      · obtain ⟨t, h1, h2⟩ := first_at h
        refine ⟨t + 1, by simpa using h1, fun s z hs hz => ?_⟩
        cases s with
        | zero => have hz : y = z := by simpa using hz
                  rw [← hz]; exact e
        | succ s => exact h2 s z (by omega) (by simpa using hz)
theorem cut_from {α : Type} {xs : List α} {b : Nat} : cutL xs (some (b : Int)) none = xs.drop b := by
  unfold cutL
  rw [HT.sIx_none, HT.sIx_nat, List.take_of_length_le (by rw [List.length_drop]; omega)]
  by_cases h : b ≤ xs.length
  · rw [Nat.min_eq_left h]
  · rw [Nat.min_eq_right (by omega), List.drop_eq_nil_of_le (Nat.le_refl _), List.drop_eq_nil_of_le (by omega)]
theorem law_spelled_spec {a b : Nat} {xs ms : List Str} {S : Store} {E : Ex → Store → Prop} (ga : S[a]? = some (.lst (xs.map W.str))) (gb : S[b]? = some (.lst (ms.map W.str))) (hl : xs.length ≤ 10000) (hm : ms.length ≤ 10000) :
    wp (n_law_spelled [.ref a, .ref b] S) (fun r S' => SpW (spell (red xs) ms) S r S' ∧ Fr 0 S S') E := by
  unfold n_law_spelled d_law_spelled
  simp only [WPA, Nat.reduceSub, Nat.reduceAdd, tgN, tgNil, tgCons, tgTup, wipeE, isT, String.reduceBEq, reduceIte, lenOk_of (show 0 ≤ 1000000 by decide)]
  refine wp_mono (law_reduced_spec (S := S ++ [O.lst []]) (Fr.app.g0 ga) hl) ?_ (fun _ _ q => q)
  rintro r S1 ⟨rfl, gr, f1⟩
  have l1 : (S ++ [O.lst []]).length = S.length + 1 := by simp
  rw [l1] at gr ⊢
  have hr : (red xs).length ≤ 10000 := Nat.le_trans (red_len xs) hl
  simp only [WPA, Nat.reduceSub, Nat.reduceAdd, tgN, tgNil, tgCons, tgTup, wipeE, isT, String.reduceBEq, reduceIte, srcW_ref gr]
  refine wpS_forL (fun j ε S' => ∃ (f : List Nat) (b0 : Nat) (x2 : Option W), ε = [some (.ref a), some (.ref b), x2, some (.ref S.length), some (.int b0)] ∧ S'[S.length]? = some (.lst (natsW f)) ∧ f.length = j ∧ b0 ≤ ms.length ∧
    pg (red xs) ms 0 = f ++ pg ((red xs).drop j) (ms.drop b0) b0 ∧ Fr 0 S S' ∧ S'[S.length + 1]? = some (.lst ((red xs).map W.str))) ⟨[], 0, _, rfl, f1.g0 get_new, rfl, Nat.zero_le _, by simp, Fr.app.trans f1, gr⟩ (fun _ _ S' _ h => by obtain ⟨_, _, _, _, _, _, _, _, _, g⟩ := h; exact g) ?_ ?_
  · rintro j w ε S' e ⟨f, b0, x2, rfl, g, lf, hb, hp, fr, gr'⟩
    rw [List.getElem?_map, Option.map_eq_some_iff] at e
    obtain ⟨l, el, rfl⟩ := e
    have hj := (List.getElem?_eq_some_iff.mp el).1
    have dr : (red xs).drop j = l :: (red xs).drop (j + 1) := by
      rw [List.drop_eq_getElem_cons hj, (List.getElem?_eq_some_iff.mp el).2]
    rw [dr] at hp
    have gb' := fr.g0 gb
    have gs : (S' ++ [O.lst ((ms.drop b0).map W.str)])[S'.length]? = some (.lst ((ms.drop b0).map W.str)) := get_new
    simp only [WPA, Nat.reduceSub, Nat.reduceAdd, tgN, tgNil, tgCons, tgTup, wipeE, isT, String.reduceBEq, reduceIte, opSl_ref gb', cut_from, ← List.map_drop, inW_strs gs]
    by_cases hin : l ∈ ms.drop b0
    · rw [if_neg (by simpa using hin)]
      obtain ⟨t, t1, t2⟩ := first_at hin
      have ht : t < (ms.drop b0).length := (List.getElem?_eq_some_iff.mp t1).1
      rw [List.length_drop] at ht
      have gb2 : (S' ++ [O.lst ((ms.drop b0).map W.str)])[b]? = some (.lst (ms.map W.str)) := Fr.app.g0 gb'
      have gs2 : (S' ++ [O.lst ((ms.drop b0).map W.str)] ++ [O.lst ((ms.drop b0).map W.str)])[(S' ++ [O.lst ((ms.drop b0).map W.str)]).length]? = some (.lst ((ms.drop b0).map W.str)) := get_new
      have g2 : (S' ++ [O.lst ((ms.drop b0).map W.str)] ++ [O.lst ((ms.drop b0).map W.str)])[S.length]? = some (.lst (natsW f)) := Fr.app.g0 (Fr.app.g0 g)
      have ln : (natsW f).length = f.length := by simp [natsW]
      simp only [WPA, Nat.reduceSub, Nat.reduceAdd, tgN, tgNil, tgCons, tgTup, wipeE, isT, String.reduceBEq, reduceIte, opSl_ref gb2, cut_from, ← List.map_drop, tyM_ref gs2, mIndex_strs gs2 t1 t2, tyM_ref g2, mAppend_ref g2, ln]
      rw [if_pos (by rw [sizeLine_eq]; omega)]
      have ei : (b0 : Int) + (t : Int) + 1 = ((b0 + t + 1 : Nat) : Int) := by omega
      have ei2 : ((b0 + t + 1 : Nat) : Int) - 1 = ((b0 + t : Nat) : Int) := by omega
      rw [ei, ei2]
      refine ⟨f ++ [b0 + t], b0 + t + 1, _, rfl, ?_, by simp [lf], by omega, ?_, fr.snoc.snoc.setN (Nat.le_refl _), ?_⟩
      · have : natsW (f ++ [b0 + t]) = natsW f ++ [.int ((b0 + t : Nat) : Int)] := by simp [natsW]
        rw [this]; exact get_set g2
      · rw [hp, pg_find t1 t2, List.append_assoc, List.drop_drop]
        rfl
      · rw [List.getElem?_set_ne (by omega)]
        exact Fr.app.g0 (Fr.app.g0 gr')
    · rw [if_pos (by simpa using hin)]
      rw [pg_none hin, List.append_nil] at hp
      have : spell (red xs) ms = none := if_neg (by rw [hp]; omega)
      rw [this]
      exact ⟨rfl, fr.snoc⟩
  · rintro ε S' ⟨f, b0, x2, rfl, g, lf, hb, hp, fr, gr'⟩
    rw [List.length_map] at lf hp
    rw [List.drop_length, pg_nil, List.append_nil] at hp
    simp only [WPA, Nat.reduceSub, Nat.reduceAdd, tgN, tgNil, tgCons, tgTup, wipeE, isT, String.reduceBEq, reduceIte]
    have : spell (red xs) ms = some f := by
      unfold spell
      rw [hp, if_pos lf]
    rw [this]
    exact ⟨⟨_, rfl, Nat.le_refl _, g⟩, fr⟩
/-! ### same, the other way -/
noncomputable section
def d_law_same2 (r : List W → M W) : DS :=
  dSeq (dIf (dOr (dTru (dIsi "list" (dVar 1))) (dTru (dIsi "tuple" (dVar 1)))) (dSeq (dIf (dOr (dBool (dOp opNe (dIsi "list" (dVar 0)) (dIsi "list" (dVar 1)))) (dNot (dTru (dIsi2 "list" "tuple" (dVar 0))))) (dRet (dC (.bl false))) (dNx))
  (dRet (dAndV (dOp opEq (dFn opLen (aCons (dVar 0) aNil)) (dFn opLen (aCons (dVar 1) aNil))) (dFn opAll (aCons (dLc (dZip (aCons (dVar 0) (aCons (dVar 1) aNil))) (tgTup 2 (tgCons (tgN 2) (tgCons (tgN 3) (tgNil)))) (dYes) (dCall r (aCons (dVar 2) (aCons (dVar 3) (aNil)))) [2, 3]) aNil))))) (dNx))
  (dSeq (dIf (dOr (dBool (dOp opIsN (dVar 1) (dC .non))) (dBool (dOp opIsN (dVar 0) (dC .non)))) (dRet (dAndV (dOp opIsN (dVar 1) (dC .non)) (dOp opIsN (dVar 0) (dC .non)))) (dNx))
  (dSeq (dIf (dOr (dBool (dOp opNe (dIsi "bool" (dVar 1)) (dIsi "bool" (dVar 0)))) (dBool (dOp opNe (dIsi "str" (dVar 1)) (dIsi "str" (dVar 0))))) (dRet (dC (.bl false))) (dNx))
  (dRet (dOp opEq (dVar 0) (dVar 1)))))
def n_law_same2 : Nat → List W → M W
  | 0 => fun _ => bad
  | j + 1 => dfn 4 2 (d_law_same2 (n_law_same2 j))
end
theorem same2_spec {E : Ex → Store → Prop} : ∀ (n : Nat) {a b : W} {S : Store}, Twin S n a b → wp (n_law_same2 n [a, b] S) (fun r S' => r = .bl true ∧ Fr 0 S S') E
  | 0, a, b, S, h => h.elim
  | n + 1, a, b, S, h => by
    have lc : ∀ (xs ys : List W) (g : Store → Prop), (∀ S', Fr 0 S S' → g S') → xs.length = ys.length → (∀ (i : Nat) x y, xs[i]? = some x → ys[i]? = some y → Twin S n x y) → ∀ ε0 : Ev, (∃ x0 y0, ε0 = [x0, y0, none, none]) →
        wp (lcL (tgTup 2 (tgCons (tgN 2) (tgCons (tgN 3) (tgNil)))) dYes (dCall (n_law_same2 n) (aCons (dVar 2) (aCons (dVar 3) (aNil)))) g ε0 (zipL xs ys) S) (fun ws S' => ws = ((List.range xs.length).map fun _ => true).map W.bl ∧ Fr 0 S S') E := by
      rintro xs ys g hg hl ht ε0 ⟨x0, y0, rfl⟩
      refine wp_mono (wp_lcMap (fun _ => .bl true) (fun _ S' => Fr 0 S S') Fr.refl (fun _ S' _ h => hg _ h) ?_) (fun ws S' ⟨q, f⟩ => ⟨?_, f⟩) (fun _ _ q => q)
      · rintro i x S' e f
        obtain ⟨u, v, e1, e2, rfl⟩ := zipL_at e
        simp only [WPA, Nat.reduceSub, Nat.reduceAdd, tgN, tgNil, tgCons, tgTup, wipeE, isT, String.reduceBEq, reduceIte]
        refine wp_mono (same2_spec n ((ht i u v e1 e2).mono f (Nat.le_refl _))) ?_ (fun _ _ q => q)
        rintro r S2 ⟨rfl, f2⟩
        exact ⟨rfl, f.trans f2⟩
      · rw [q, zipL_length hl, List.map_map]; rfl
    have all : ∀ m : Nat, ((List.range m).map fun _ => true).all id = true := fun m => map_true fun _ _ => rfl
    unfold n_law_same2 d_law_same2
    rcases h with ⟨rfl, rfl⟩ | ⟨x, rfl, rfl⟩ | ⟨x, rfl, rfl⟩ | ⟨x, rfl, rfl⟩ | ⟨xs, ys, rfl, rfl, hl, hz, h⟩ | ⟨p, q, xs, ys, rfl, rfl, g1, g2, hl, hz, h⟩
    · simp only [WPA, Nat.reduceSub, Nat.reduceAdd, tgN, tgNil, tgCons, tgTup, wipeE, isT, String.reduceBEq, reduceIte]
      exact Fr.refl
    · simp only [WPA, Nat.reduceSub, Nat.reduceAdd, tgN, tgNil, tgCons, tgTup, wipeE, isT, String.reduceBEq, reduceIte, beq_self_eq_true]
      exact Fr.refl
    · simp only [WPA, Nat.reduceSub, Nat.reduceAdd, tgN, tgNil, tgCons, tgTup, wipeE, isT, String.reduceBEq, reduceIte, beq_self_eq_true]
      exact Fr.refl
    · simp only [WPA, Nat.reduceSub, Nat.reduceAdd, tgN, tgNil, tgCons, tgTup, wipeE, isT, String.reduceBEq, reduceIte, beq_self_eq_true]
      exact Fr.refl
    · simp only [WPA, Nat.reduceSub, Nat.reduceAdd, tgN, tgNil, tgCons, tgTup, wipeE, isT, String.reduceBEq, reduceIte, beq_self_eq_true, hl, zipW]
      refine ⟨lenOk_of (by rw [zipL_length hl]; exact hz), ?_⟩
      refine wp_mono (lc xs ys _ (fun _ _ => trivial) hl h _ ⟨_, _, rfl⟩) ?_ (fun _ _ q => q)
      rintro ws S2 ⟨rfl, f⟩
      rw [opAll_ref get_new, all, wO_some]
      exact ⟨rfl, f.snoc⟩
    · simp only [WPA, Nat.reduceSub, Nat.reduceAdd, tgN, tgNil, tgCons, tgTup, wipeE, isT, String.reduceBEq, reduceIte, tyN_ref g1, tyN_ref g2, beq_self_eq_true, hl, zipW, opLen_ref g1, opLen_ref g2, g1, g2]
      refine ⟨lenOk_of (by rw [zipL_length hl]; exact hz), ?_⟩
      refine wp_mono (lc xs ys _ (fun S' f => ⟨f.g0 g1, f.g0 g2⟩) hl h _ ⟨_, _, rfl⟩) ?_ (fun _ _ q => q)
      rintro ws S2 ⟨rfl, f⟩
      rw [opAll_ref get_new, all, wO_some]
      exact ⟨rfl, f.snoc⟩
theorem opNotN_any {w : W} {S : Store} : opNotN w .non S = some (.bl (!isNon w), S) := rfl
theorem opIsB_bl {a b : Bool} {S : Store} : opIsB (.bl a) (.bl b) S = some (.bl (a == b), S) := rfl
/-- a letter, small -/
structure Let (x : Str) : Prop where
  l : Letter x
  ok : okS x = true
  sz : x.cps.size ≤ 8
theorem let_plus : Let "+" := ⟨.inr rfl, by decide, by decide⟩
theorem let_ten : ∀ x ∈ tenNames, Let x := fun x h => ⟨.inl (ten_ok x h).1, (ten_ok x h).2.1, (ten_ok x h).2.2⟩
theorem tiny_rule {xs : List Str} (h : ∀ x ∈ xs, Let x) : tiny (.list (xs.map PyData.str)) = true := by
  simp only [tiny]
  exact tinyAll_map fun x hx => str_tiny (h x hx).ok
theorem bulk_rule {xs : List Str} (h : ∀ x ∈ xs, Let x) : (PyData.list (xs.map PyData.str)).bulk ≤ xs.length * 9 := by
  simp only [PyData.bulk]
  exact bulkAll_map fun x hx => by simp only [PyData.bulk]; exact (h x hx).sz
theorem repr_two {n a b : Nat} {xs ms : List Str} {S : Store} (g : S[n]? = some (.lst [.ref a, .ref b])) (ga : S[a]? = some (.lst (xs.map W.str))) (gb : S[b]? = some (.lst (ms.map W.str))) (hx : ∀ x ∈ xs, Let x) (hm : ∀ x ∈ ms, Let x) (lx : xs.length ≤ 5000) (lm : ms.length ≤ 5000) :
    opRepr [.ref n] S = some (.str (PyData.list [.list (xs.map PyData.str), .list (ms.map PyData.str)]).shown, S) := by
  refine opRepr_tiny ?_ ?_ ?_
  · rw [toD_lst g]
    simp only [mapO]
    rw [toD_lst ga, toD_lst gb, toD_strs, toD_strs]
    rfl
  · have h1 := tiny_rule hx
    have h2 := tiny_rule hm
    simp only [tiny, tinyAll, Bool.and_true] at h1 h2 ⊢
    rw [h1, h2]; rfl
  · have h1 := bulk_rule hx
    have h2 := bulk_rule hm
    simp only [PyData.bulk, PyData.bulkAll] at h1 h2 ⊢
    omega
end N
/-! HI: small code worked through by simp: the store is S and what was made since. -/
namespace N
open PySem L2
noncomputable section
section
variable {S L : Store} {i j : Nat} {a b : List W} {w : W} {o : O}
theorem at_get : (S ++ L)[S.length + i]? = L[i]? := by
  rw [List.getElem?_append_right (Nat.le_add_right ..), Nat.add_sub_cancel_left]
theorem at_get0 : (S ++ L)[S.length]? = L[0]? := by
  rw [List.getElem?_append_right (Nat.le_refl _), Nat.sub_self]
theorem at_len : (S ++ L).length = S.length + L.length := List.length_append
theorem at_app {T : Store} : (S ++ L) ++ T = S ++ (L ++ T) := List.append_assoc ..
theorem at_set : (S ++ L).set (S.length + i) o = S ++ L.set i o := by
  rw [List.set_append_right _ _ (Nat.le_add_right ..), Nat.add_sub_cancel_left]
theorem at_set0 : (S ++ L).set S.length o = S ++ L.set 0 o := by
  rw [List.set_append_right _ _ (Nat.le_refl _), Nat.sub_self]
def asL : Option O → Option (List W)
  | some (.lst a) => some a
  | _ => none
theorem asL_lst : asL (some (.lst a)) = some a := rfl
theorem lstAt_asL {S : Store} {n : Nat} : lstAt S n = asL S[n]? := by
  unfold lstAt asL
  cases S[n]? with
  | none => rfl
  | some o => cases o <;> rfl
theorem at_lst : lstAt (S ++ L) (S.length + i) = asL L[i]? := by rw [lstAt_asL, at_get]
theorem at_lst0 : lstAt (S ++ L) S.length = asL L[0]? := by rw [lstAt_asL, at_get0]
theorem add_eq {S : Store} {n m : Nat} : opAdd (.ref n) (.ref m) S = (asL S[n]?).bind fun a => (asL S[m]?).bind fun b => if a.length + b.length ≤ sizeLine then some (.ref S.length, S ++ [.lst (a ++ b)]) else none := by
  unfold opAdd
  simp only
  cases h1 : S[n]? with
  | none => rfl
  | some o =>
    cases h2 : S[m]? with
    | none => cases o <;> rfl
    | some o2 => cases o <;> cases o2 <;> rfl
theorem at_add : opAdd (.ref (S.length + i)) (.ref (S.length + j)) (S ++ L) = (asL L[i]?).bind fun a => (asL L[j]?).bind fun b => if a.length + b.length ≤ sizeLine then some (.ref (S.length + L.length), S ++ (L ++ [.lst (a ++ b)])) else none := by
  rw [add_eq, at_get, at_get, at_len]
  simp only [at_app]
theorem at_add0 : opAdd (.ref S.length) (.ref (S.length + j)) (S ++ L) = (asL L[0]?).bind fun a => (asL L[j]?).bind fun b => if a.length + b.length ≤ sizeLine then some (.ref (S.length + L.length), S ++ (L ++ [.lst (a ++ b)])) else none := by
  rw [add_eq, at_get0, at_get, at_len]
  simp only [at_app]
theorem tyM_eq {S : Store} {n : Nat} : tyM "list" (.ref n) S = match S[n]? with
    | some (.lst _) => true
    | some (.dct _) => ("list" == ("dict" : String))
    | _ => false := by
  unfold tyM
  simp only
  cases S[n]? with
  | none => rfl
  | some o => cases o <;> rfl
theorem at_tyM : tyM "list" (.ref (S.length + i)) (S ++ L) = match L[i]? with
    | some (.lst _) => true
    | some (.dct _) => ("list" == ("dict" : String))
    | _ => false := by rw [tyM_eq, at_get]
theorem at_tyM0 : tyM "list" (.ref S.length) (S ++ L) = match L[0]? with
    | some (.lst _) => true
    | some (.dct _) => ("list" == ("dict" : String))
    | _ => false := by rw [tyM_eq, at_get0]
theorem push_eq {S : Store} {n : Nat} : mAppend (.ref n) [w] S = (asL S[n]?).bind fun l => if l.length < sizeLine then some (.non, S.set n (.lst (l ++ [w]))) else none := by
  unfold mAppend
  simp only
  cases S[n]? with
  | none => rfl
  | some o => cases o <;> rfl
theorem at_push : mAppend (.ref (S.length + i)) [w] (S ++ L) = (asL L[i]?).bind fun l => if l.length < sizeLine then some (.non, S ++ L.set i (.lst (l ++ [w]))) else none := by rw [push_eq, at_get]; simp only [at_set]
theorem sl_eq {S : Store} {n : Nat} {lo hi : Option Int} : opSl (.ref n) lo hi S = (asL S[n]?).map fun l => (.ref S.length, S ++ [.lst (cutL l lo hi)]) := by
  show (listW (.ref n) S).map _ = _
  unfold listW asL
  simp only <;> rcases S[n]? with _ | o <;> first | rfl | (cases o <;> rfl)
theorem tuple_eq {S : Store} {n : Nat} : opTuple [.ref n] S = (asL S[n]?).map fun l => (.tup l, S) := by
  unfold opTuple seqW asL
  simp only <;> rcases S[n]? with _ | o <;> first | rfl | (cases o <;> rfl)
theorem at_push0 : mAppend (.ref S.length) [w] (S ++ L) = (asL L[0]?).bind fun l => if l.length < sizeLine then some (.non, S ++ L.set 0 (.lst (l ++ [w]))) else none := by rw [push_eq, at_get0]; simp only [at_set0]
end
/-! a comprehension over items that stand written -/
section
variable {t : DT} {cnd : DB} {el : DE} {g : Store → Prop} {ε0 : Ev} {S : Store} {E : Ex → Store → Prop} {Q : List W → Store → Prop}
theorem wp_lcN : wp (lcL t cnd el g ε0 [] S) Q E = (g S ∧ Q [] S) := by
  rw [lcL, wp_bind, wp_grd]
  rfl
theorem wp_lcC {x : W} {xs : List W} : wp (lcL t cnd el g ε0 (x :: xs) S) Q E = (g S ∧ wO (t x ε0 S) fun ε1 => wp (cnd ε1 S) (fun c S1 => if c = true then wp (el ε1 S1) (fun w S2 => wp (lcL t cnd el g ε0 xs S2) (fun ws S3 => Q (w :: ws) S3) E) (fun _ _ => False) else wp (lcL t cnd el g ε0 xs S1) Q E) (fun _ _ => False)) := by
  rw [lcL, wp_bind, wp_grd]
  congr 1
  rw [wp_bind, wp_tgt]
  congr 1
  funext ε1
  rw [wp_bind, wp_noXe]
  congr 1
  funext c S1
  cases c with
  | false => rfl
  | true =>
    simp only [if_true]
    rw [wp_bind, wp_noXe]
    congr 1
    funext w S2
    rw [wp_bind]
    rfl
end
theorem fr0_app {S L : Store} : Fr 0 S (S ++ L) := .app
end
end N
/-! HJ: the kind of an error, as the laws k45-k65 ask it. -/
namespace N
open PySem L2
noncomputable section
abbrev Tb := Nat → Option Bool
def two (h : HotI) (s1 s2 : Str) (t1 t2 : Tb) : DA := aCons (dTup (aCons (dC (.str s1)) (aCons (dIsX h t1 (dVar 0)) (aNil)))) (aCons (dTup (aCons (dC (.str s2)) (aCons (dIsX h t2 (dVar 0)) (aNil)))) (aNil))
def more2 (h : HotI) (s1 s2 : Str) (t1 t2 : Tb) : DS := dSet 1 (dOp opAdd (dVar 1) (dLst (two h s1 s2 t1 t2)))
def d_kind (h : HotI) (t1 t2 t3 t4 t5 t6 t7 t8 t9 t10 t11 t12 t13 t14 : Tb) (to : List Tb) (tv : Tb) : DS :=
  dSeq (dSet 1 (dLst (two h "pattern" "stretches" t1 t2)))
  (dSeq (more2 h "day" "number" t3 t4)
  (dSeq (more2 h "office" "rule" t5 t6)
  (dSeq (more2 h "calendars" "log" t7 t8)
  (dSeq (more2 h "command" "undo" t9 t10)
  (dSeq (more2 h "far" "unknown" t11 t12)
  (dSeq (more2 h "clash" "parse" t13 t14)
  (dSeq (dDrop (dMt "list" mAppend (dVar 1) (aCons (dTup (aCons (dC (.str "odd")) (aCons (dIsX h (anyTb to) (dVar 0)) (aNil)))) aNil)))
  (dSeq (dSet 2 (dLc (dSrcL (dVar 1)) (tgTup 2 (tgCons (tgN 3) (tgCons (tgN 4) (tgNil)))) (dTru (dVar 4)) (dVar 3) [3, 4]))
  (dRet (dIfE (dAnd (dBool (dOp opEq (dFn opLen (aCons (dVar 2) aNil)) (dC (.int 1)))) (dTru (dIsX h tv (dVar 0)))) (dOp opIx (dVar 2) (dC (.int 0))) (dC (.str "odd"))))))))))))
abbrev SB := Str × Bool
def sbW (p : SB) : W := .tup [.str p.1, .bl p.2]
section
variable {a : Addr} {c : Nat} {dd : Option Addr} {ns : List Str} {ws : List W} {S : Store} {D : NEnds} {x2 x3 x4 : Option W}
theorem two_wp {s1 s2 : Str} {t1 t2 : Tb} {b1 b2 : Bool} {x1 : Option W} {Q : List W → Store → Prop} {E : Ex → Store → Prop} (h1 : t1 c = some b1) (h2 : t2 c = some b2) : wp (two (a, c, dd) s1 s2 t1 t2 [some (.exn a dd ns ws), x1, x2, x3, x4] S) Q E = Q ([(s1, b1), (s2, b2)].map sbW) S := by
  unfold two
  have l2 : lenOk 2 = true := by decide
  simp only [wp_dIsX, opIsX_exn, h1, h2, Option.map_some, l2, wp_ok, wp_exc, wp_ret, wp_badM, wp_lift, wp_chk, wp_alloc, wp_grd, wp_tgt, wp_noXe, wp_dVar, wp_dC, wp_aNil, wp_aCons, wp_dTup, wp_dLst, wp_dOp, wp_dUn, wp_dFn, wB_bl, wp_dChain, wp_dTru, wp_dBool, wp_dNot, wp_dAnd, wp_dOr, wp_dAndV, wp_dOrV, wp_dNotV, wp_dIfE, wp_dYes, wp_dCall, wp_dCallK, wp_dIsi, wp_dIsi2, wp_dMt, wp_oN, wI_int, wp_oS, wp_dSl, wp_dSrc, wp_dZip, wp_dRng1, wp_dRng2, wp_dEnum, wp_dLc, wpS_nx, wpS_rt, wpS_bk, wpS_ct, wpS_exc, wpS_bad, wpS_ite, wpS_dSeq, wpS_dNx, wpS_dBk, wpS_dCt, wpS_dDrop, wpS_dRet, wpS_dRetN, wpS_dIf, wpS_dSet, wpS_dAsg, wpS_dPar, wpS_dPar3, wpS_dSet2, wpS_dPut, wpS_dRaise, wpS_dFor, wp_dfn, wO_some, wO_none, wO_map, wO_bind, wO_ite, List.map_cons, List.map_nil, List.replicate_succ, List.replicate_zero, List.cons_append, List.nil_append, Nat.reduceSub, Nat.reduceAdd, List.getElem?_cons_zero, List.getElem?_cons_succ, List.set_cons_zero, List.set_cons_succ, List.length_cons, List.length_nil, tgN, tgNil, tgCons, tgTup, wipeE, isT, String.reduceBEq, Bool.and_false, Bool.false_and, Bool.true_and, Bool.and_true, Bool.or_false, Bool.false_or, Bool.true_or, Bool.or_true, Bool.not_true, Bool.not_false, if_true, if_false, true_and, and_true, Bool.false_eq_true, Bool.true_eq_false, reduceIte, opEq_int, opNe_int, opEq_str, opNe_str, opAdd_int, opSub_int, opMod_pos, opLt_int, opLe_int, opGt_int, opGe_int, opLt_str, opLe_str, opIsN_ref, opIsN_non, opIsN_int, opIsN_tup, opIsN_str, opIsN_bl, opEq_bl, opNe_bl, opFdiv_int, opMul_int, opPow_int, atI_0, atI_1, atI_2, opIx_ref, opIx_tup, opIx_rl, opLen_tup, opLen_str, opLen_rl, opMax2_int, opMin2_int, opInt_int, opInt_bl, tyN_non, tyN_bl, tyN_int, tyN_str, tyN_tup, tyN_rl, truthW_bl, srcW_tup, srcW_rl, sbW]
/-- the store, where the list stands, the list -/
abbrev KSt := Store × Nat × List SB
def stp (st : KSt) (q : List SB) : KSt := (st.1 ++ [.lst (q.map sbW)] ++ [.lst ((st.2.2 ++ q).map sbW)], st.1.length + 1, st.2.2 ++ q)
def KStOk (st : KSt) (m : Nat) : Prop := st.1[st.2.1]? = some (.lst (st.2.2.map sbW)) ∧ st.2.2.length ≤ m
theorem stp_ok {st : KSt} {q : List SB} {m : Nat} (h : KStOk st m) (hq : q.length = 2) : KStOk (stp st q) (m + 2) := by
  refine ⟨?_, ?_⟩
  · unfold stp
    simp only
    rw [List.getElem?_append_right (by simp)]
    simp
  · unfold stp
    simp only [List.length_append]
    have := h.2
    omega
theorem more2_go {s1 s2 : Str} {t1 t2 : Tb} {b1 b2 : Bool} {st : KSt} {m : Nat} (ok : KStOk st m) (hm : m ≤ 1000) (h1 : t1 c = some b1) (h2 : t2 c = some b2) (q : D.nx [some (.exn a dd ns ws), some (.ref (stp st [(s1, b1), (s2, b2)]).2.1), x2, x3, x4] (stp st [(s1, b1), (s2, b2)]).1) :
    wpS (more2 (a, c, dd) s1 s2 t1 t2 [some (.exn a dd ns ws), some (.ref st.2.1), x2, x3, x4] st.1) D := by
  obtain ⟨S, n, l⟩ := st
  obtain ⟨g, hl⟩ := ok
  unfold more2
  have l2 : lenOk 2 = true := by decide
  rw [wpS_dSet, wp_dOp]
  simp only [wp_ok, wp_exc, wp_ret, wp_badM, wp_lift, wp_chk, wp_alloc, wp_grd, wp_tgt, wp_noXe, wp_dVar, wp_dC, wp_aNil, wp_aCons, wp_dTup, wp_dLst, wp_dOp, wp_dUn, wp_dFn, wB_bl, wp_dChain, wp_dTru, wp_dBool, wp_dNot, wp_dAnd, wp_dOr, wp_dAndV, wp_dOrV, wp_dNotV, wp_dIfE, wp_dYes, wp_dCall, wp_dCallK, wp_dIsi, wp_dIsi2, wp_dMt, wp_oN, wI_int, wp_oS, wp_dSl, wp_dSrc, wp_dZip, wp_dRng1, wp_dRng2, wp_dEnum, wp_dLc, wpS_nx, wpS_rt, wpS_bk, wpS_ct, wpS_exc, wpS_bad, wpS_ite, wpS_dSeq, wpS_dNx, wpS_dBk, wpS_dCt, wpS_dDrop, wpS_dRet, wpS_dRetN, wpS_dIf, wpS_dSet, wpS_dAsg, wpS_dPar, wpS_dPar3, wpS_dSet2, wpS_dPut, wpS_dRaise, wpS_dFor, wp_dfn, wO_some, wO_none, wO_map, wO_bind, wO_ite, List.map_cons, List.map_nil, List.replicate_succ, List.replicate_zero, List.cons_append, List.nil_append, Nat.reduceSub, Nat.reduceAdd, List.getElem?_cons_zero, List.getElem?_cons_succ, List.set_cons_zero, List.set_cons_succ, List.length_cons, List.length_nil, tgN, tgNil, tgCons, tgTup, wipeE, isT, String.reduceBEq, Bool.and_false, Bool.false_and, Bool.true_and, Bool.and_true, Bool.or_false, Bool.false_or, Bool.true_or, Bool.or_true, Bool.not_true, Bool.not_false, if_true, if_false, true_and, and_true, Bool.false_eq_true, Bool.true_eq_false, reduceIte, opEq_int, opNe_int, opEq_str, opNe_str, opAdd_int, opSub_int, opMod_pos, opLt_int, opLe_int, opGt_int, opGe_int, opLt_str, opLe_str, opIsN_ref, opIsN_non, opIsN_int, opIsN_tup, opIsN_str, opIsN_bl, opEq_bl, opNe_bl, opFdiv_int, opMul_int, opPow_int, atI_0, atI_1, atI_2, opIx_ref, opIx_tup, opIx_rl, opLen_tup, opLen_str, opLen_rl, opMax2_int, opMin2_int, opInt_int, opInt_bl, tyN_non, tyN_bl, tyN_int, tyN_str, tyN_tup, tyN_rl, truthW_bl, srcW_tup, srcW_rl, two_wp h1 h2, l2]
  have g2 : (S ++ [.lst ([(s1, b1), (s2, b2)].map sbW)])[n]? = some (.lst (l.map sbW)) := by
    rw [List.getElem?_append_left (List.getElem?_eq_some_iff.mp g).1]
    exact g
  have g3 : (S ++ [.lst ([(s1, b1), (s2, b2)].map sbW)])[S.length]? = some (.lst ([(s1, b1), (s2, b2)].map sbW)) := by
    rw [List.getElem?_append_right (Nat.le_refl _), Nat.sub_self]
    rfl
  have e := opAdd_ref g2 g3 (by simp; simp only at hl; omega)
  simp only [List.map_cons, List.map_nil] at e
  rw [e, wO_some]
  unfold stp at q
  simpa only [List.length_append, List.length_cons, List.length_nil, List.map_cons, List.map_nil, Nat.zero_add, List.map_append] using q
end
/-- the word -/
def wordOf (bs : List SB) (v : Bool) : Str := match bs.filter (·.2) with
  | [p] => if v then p.1 else "odd"
  | _ => "odd"
/-- what is made on the way -/
def kS7 (S : Store) (b1 b2 b3 b4 b5 b6 b7 b8 b9 b10 b11 b12 b13 b14 : Bool) : KSt :=
  stp (stp (stp (stp (stp (stp ((S ++ [.lst (([("pattern", b1), ("stretches", b2)] : List SB).map sbW)], S.length, [("pattern", b1), ("stretches", b2)]) : KSt) [("day", b3), ("number", b4)]) [("office", b5), ("rule", b6)]) [("calendars", b7), ("log", b8)]) [("command", b9), ("undo", b10)]) [("far", b11), ("unknown", b12)]) [("clash", b13), ("parse", b14)]
def kS (S : Store) (b1 b2 b3 b4 b5 b6 b7 b8 b9 b10 b11 b12 b13 b14 bo : Bool) : Store :=
  let st := kS7 S b1 b2 b3 b4 b5 b6 b7 b8 b9 b10 b11 b12 b13 b14
  st.1.set st.2.1 (.lst ((st.2.2 ++ ([("odd", bo)] : List SB)).map sbW)) ++ [.lst (((st.2.2 ++ ([("odd", bo)] : List SB)).filter (·.2)).map fun p => .str p.1)]
theorem fr_stp {S : Store} {st : KSt} {q : List SB} (f : Fr 0 S st.1) : Fr 0 S (stp st q).1 := (f.snoc (T := [.lst (q.map sbW)])).snoc
theorem len_stp {S : Store} {st : KSt} {q : List SB} (f : Fr 0 S st.1) : S.length ≤ (stp st q).2.1 := Nat.le_succ_of_le f.len
theorem kS_fr {S : Store} {b1 b2 b3 b4 b5 b6 b7 b8 b9 b10 b11 b12 b13 b14 bo : Bool} : Fr 0 S (kS S b1 b2 b3 b4 b5 b6 b7 b8 b9 b10 b11 b12 b13 b14 bo) := by
  unfold kS kS7
  exact ((fr_stp (fr_stp (fr_stp (fr_stp (fr_stp (fr_stp .app)))))).setN (len_stp (fr_stp (fr_stp (fr_stp (fr_stp (fr_stp .app))))))).snoc
theorem kind_spec {a : Addr} {c : Nat} {dd : Option Addr} {ns : List Str} {ws : List W} {S : Store} {t1 t2 t3 t4 t5 t6 t7 t8 t9 t10 t11 t12 t13 t14 tv : Tb} {to : List Tb} {b1 b2 b3 b4 b5 b6 b7 b8 b9 b10 b11 b12 b13 b14 bo v : Bool}
    (h1 : t1 c = some b1) (h2 : t2 c = some b2) (h3 : t3 c = some b3) (h4 : t4 c = some b4) (h5 : t5 c = some b5) (h6 : t6 c = some b6) (h7 : t7 c = some b7) (h8 : t8 c = some b8) (h9 : t9 c = some b9) (h10 : t10 c = some b10) (h11 : t11 c = some b11) (h12 : t12 c = some b12) (h13 : t13 c = some b13) (h14 : t14 c = some b14) (ho : anyTb to c = some bo) (hv : tv c = some v) :
    wp (dfn 5 1 (d_kind (a, c, dd) t1 t2 t3 t4 t5 t6 t7 t8 t9 t10 t11 t12 t13 t14 to tv) [.exn a dd ns ws] S) (fun r S' => r = .str (wordOf [("pattern", b1), ("stretches", b2), ("day", b3), ("number", b4), ("office", b5), ("rule", b6), ("calendars", b7), ("log", b8), ("command", b9), ("undo", b10), ("far", b11), ("unknown", b12), ("clash", b13), ("parse", b14), ("odd", bo)] v) ∧ S' = kS S b1 b2 b3 b4 b5 b6 b7 b8 b9 b10 b11 b12 b13 b14 bo) (fun _ _ => False) := by
  unfold d_kind
  have l2 : lenOk 2 = true := by decide
  generalize hwd : wordOf [("pattern", b1), ("stretches", b2), ("day", b3), ("number", b4), ("office", b5), ("rule", b6), ("calendars", b7), ("log", b8), ("command", b9), ("undo", b10), ("far", b11), ("unknown", b12), ("clash", b13), ("parse", b14), ("odd", bo)] v = wd
  generalize hkS : kS S b1 b2 b3 b4 b5 b6 b7 b8 b9 b10 b11 b12 b13 b14 bo = K
  simp only [wp_dfn, List.map_cons, List.map_nil, List.replicate_succ, List.replicate_zero, List.cons_append, List.nil_append, Nat.reduceSub, Nat.reduceAdd, List.getElem?_cons_zero, List.getElem?_cons_succ, List.set_cons_zero, List.set_cons_succ, List.length_cons, List.length_nil, tgN, tgNil, tgCons, tgTup, wipeE, isT, String.reduceBEq, Bool.and_false, Bool.false_and, Bool.true_and, Bool.and_true, Bool.or_false, Bool.false_or, Bool.true_or, Bool.or_true, Bool.not_true, Bool.not_false, if_true, if_false, true_and, and_true, Bool.false_eq_true, Bool.true_eq_false, reduceIte]
  rw [wpS_dSeq, wpS_dSet, wp_dLst, two_wp h1 h2]
  refine ⟨l2, ?_⟩
  have ok1 : KStOk ((S ++ [.lst (([("pattern", b1), ("stretches", b2)] : List SB).map sbW)], S.length, [("pattern", b1), ("stretches", b2)]) : KSt) 2 := ⟨by simp, by simp⟩
  show wpS _ _
  rw [wpS_dSeq]
  refine more2_go (st := ((S ++ [.lst (([("pattern", b1), ("stretches", b2)] : List SB).map sbW)], S.length, [("pattern", b1), ("stretches", b2)]) : KSt)) ok1 (by decide) h3 h4 ?_
  have ok2 := stp_ok (q := ([("day", b3), ("number", b4)] : List SB)) ok1 rfl
  show wpS _ _
  rw [wpS_dSeq]
  refine more2_go ok2 (by decide) h5 h6 ?_
  have ok3 := stp_ok (q := ([("office", b5), ("rule", b6)] : List SB)) ok2 rfl
  show wpS _ _
  rw [wpS_dSeq]
  refine more2_go ok3 (by decide) h7 h8 ?_
  have ok4 := stp_ok (q := ([("calendars", b7), ("log", b8)] : List SB)) ok3 rfl
  show wpS _ _
  rw [wpS_dSeq]
  refine more2_go ok4 (by decide) h9 h10 ?_
  have ok5 := stp_ok (q := ([("command", b9), ("undo", b10)] : List SB)) ok4 rfl
  show wpS _ _
  rw [wpS_dSeq]
  refine more2_go ok5 (by decide) h11 h12 ?_
  have ok6 := stp_ok (q := ([("far", b11), ("unknown", b12)] : List SB)) ok5 rfl
  show wpS _ _
  rw [wpS_dSeq]
  refine more2_go ok6 (by decide) h13 h14 ?_
  have ok7 := stp_ok (q := ([("clash", b13), ("parse", b14)] : List SB)) ok6 rfl
  show wpS _ _
  have e7 : stp (stp (stp (stp (stp (stp ((S ++ [.lst (([("pattern", b1), ("stretches", b2)] : List SB).map sbW)], S.length, [("pattern", b1), ("stretches", b2)]) : KSt) [("day", b3), ("number", b4)]) [("office", b5), ("rule", b6)]) [("calendars", b7), ("log", b8)]) [("command", b9), ("undo", b10)]) [("far", b11), ("unknown", b12)]) [("clash", b13), ("parse", b14)] = kS7 S b1 b2 b3 b4 b5 b6 b7 b8 b9 b10 b11 b12 b13 b14 := rfl
  rw [e7] at ok7 ⊢
  have el : (kS7 S b1 b2 b3 b4 b5 b6 b7 b8 b9 b10 b11 b12 b13 b14).2.2 ++ ([("odd", bo)] : List SB) = ([("pattern", b1), ("stretches", b2), ("day", b3), ("number", b4), ("office", b5), ("rule", b6), ("calendars", b7), ("log", b8), ("command", b9), ("undo", b10), ("far", b11), ("unknown", b12), ("clash", b13), ("parse", b14), ("odd", bo)] : List SB) := rfl
  rw [← el] at hwd
  unfold kS at hkS
  simp only at hkS
  clear e7 el ok6 ok5 ok4 ok3 ok2 ok1 h1 h2 h3 h4 h5 h6 h7 h8 h9 h10 h11 h12 h13 h14
  generalize kS7 S b1 b2 b3 b4 b5 b6 b7 b8 b9 b10 b11 b12 b13 b14 = st at ok7 hwd hkS ⊢
  obtain ⟨T, n, l⟩ := st
  obtain ⟨g, hl⟩ := ok7
  simp only at g hl hwd hkS ⊢
  have hz : (l.map sbW).length < sizeLine := by
    rw [List.length_map, sizeLine_eq]
    omega
  rw [wpS_dSeq]
  simp only [wp_dIsX, opIsX_exn, ho, Option.map_some, tyM_ref g, mAppend_ref g, if_pos hz, wp_ok, wp_exc, wp_ret, wp_badM, wp_lift, wp_chk, wp_alloc, wp_grd, wp_tgt, wp_noXe, wp_dVar, wp_dC, wp_aNil, wp_aCons, wp_dTup, wp_dLst, wp_dOp, wp_dUn, wp_dFn, wB_bl, wp_dChain, wp_dTru, wp_dBool, wp_dNot, wp_dAnd, wp_dOr, wp_dAndV, wp_dOrV, wp_dNotV, wp_dIfE, wp_dYes, wp_dCall, wp_dCallK, wp_dIsi, wp_dIsi2, wp_dMt, wp_oN, wI_int, wp_oS, wp_dSl, wp_dSrc, wp_dZip, wp_dRng1, wp_dRng2, wp_dEnum, wp_dLc, wpS_nx, wpS_rt, wpS_bk, wpS_ct, wpS_exc, wpS_bad, wpS_ite, wpS_dSeq, wpS_dNx, wpS_dBk, wpS_dCt, wpS_dDrop, wpS_dRet, wpS_dRetN, wpS_dIf, wpS_dSet, wpS_dAsg, wpS_dPar, wpS_dPar3, wpS_dSet2, wpS_dPut, wpS_dRaise, wpS_dFor, wp_dfn, wO_some, wO_none, wO_map, wO_bind, wO_ite, List.map_cons, List.map_nil, List.replicate_succ, List.replicate_zero, List.cons_append, List.nil_append, Nat.reduceSub, Nat.reduceAdd, List.getElem?_cons_zero, List.getElem?_cons_succ, List.set_cons_zero, List.set_cons_succ, List.length_cons, List.length_nil, tgN, tgNil, tgCons, tgTup, wipeE, isT, String.reduceBEq, Bool.and_false, Bool.false_and, Bool.true_and, Bool.and_true, Bool.or_false, Bool.false_or, Bool.true_or, Bool.or_true, Bool.not_true, Bool.not_false, if_true, if_false, true_and, and_true, Bool.false_eq_true, Bool.true_eq_false, reduceIte, opEq_int, opNe_int, opEq_str, opNe_str, opAdd_int, opSub_int, opMod_pos, opLt_int, opLe_int, opGt_int, opGe_int, opLt_str, opLe_str, opIsN_ref, opIsN_non, opIsN_int, opIsN_tup, opIsN_str, opIsN_bl, opEq_bl, opNe_bl, opFdiv_int, opMul_int, opPow_int, atI_0, atI_1, atI_2, opIx_ref, opIx_tup, opIx_rl, opLen_tup, opLen_str, opLen_rl, opMax2_int, opMin2_int, opInt_int, opInt_bl, tyN_non, tyN_bl, tyN_int, tyN_str, tyN_tup, tyN_rl, truthW_bl, srcW_tup, srcW_rl]
  refine ⟨l2, ?_⟩
  have hn : n < T.length := (List.getElem?_eq_some_iff.mp g).1
  have g2 : (T.set n (.lst (l.map sbW ++ [.tup [.str "odd", .bl bo]])))[n]? = some (.lst ((l ++ ([("odd", bo)] : List SB)).map sbW)) := by
    rw [List.getElem?_set_self hn, List.map_append]
    rfl
  have hT : T.set n (.lst (l.map sbW ++ [.tup [.str "odd", .bl bo]])) = T.set n (.lst ((l ++ ([("odd", bo)] : List SB)).map sbW)) := by
    rw [List.map_append]
    rfl
  rw [hT] at g2 ⊢
  generalize T.set n (.lst ((l ++ ([("odd", bo)] : List SB)).map sbW)) = T2 at g2 hkS ⊢
  have hl2 : (l ++ ([("odd", bo)] : List SB)).length ≤ 100 := by
    rw [List.length_append]
    have : ([("odd", bo)] : List SB).length = 1 := rfl
    omega
  generalize l ++ ([("odd", bo)] : List SB) = l2 at g2 hwd hkS hl2 ⊢
  simp only [wp_dSrcL, lstAt_of g2, wp_ok, wp_exc, wp_ret, wp_badM, wp_lift, wp_chk, wp_alloc, wp_grd, wp_tgt, wp_noXe, wp_dVar, wp_dC, wp_aNil, wp_aCons, wp_dTup, wp_dLst, wp_dOp, wp_dUn, wp_dFn, wB_bl, wp_dChain, wp_dTru, wp_dBool, wp_dNot, wp_dAnd, wp_dOr, wp_dAndV, wp_dOrV, wp_dNotV, wp_dIfE, wp_dYes, wp_dCall, wp_dCallK, wp_dIsi, wp_dIsi2, wp_dMt, wp_oN, wI_int, wp_oS, wp_dSl, wp_dSrc, wp_dZip, wp_dRng1, wp_dRng2, wp_dEnum, wp_dLc, wpS_nx, wpS_rt, wpS_bk, wpS_ct, wpS_exc, wpS_bad, wpS_ite, wpS_dSeq, wpS_dNx, wpS_dBk, wpS_dCt, wpS_dDrop, wpS_dRet, wpS_dRetN, wpS_dIf, wpS_dSet, wpS_dAsg, wpS_dPar, wpS_dPar3, wpS_dSet2, wpS_dPut, wpS_dRaise, wpS_dFor, wp_dfn, wO_some, wO_none, wO_map, wO_bind, wO_ite, List.map_cons, List.map_nil, List.replicate_succ, List.replicate_zero, List.cons_append, List.nil_append, Nat.reduceSub, Nat.reduceAdd, List.getElem?_cons_zero, List.getElem?_cons_succ, List.set_cons_zero, List.set_cons_succ, List.length_cons, List.length_nil, tgN, tgNil, tgCons, tgTup, wipeE, isT, String.reduceBEq, Bool.and_false, Bool.false_and, Bool.true_and, Bool.and_true, Bool.or_false, Bool.false_or, Bool.true_or, Bool.or_true, Bool.not_true, Bool.not_false, if_true, if_false, true_and, and_true, Bool.false_eq_true, Bool.true_eq_false, reduceIte, opEq_int, opNe_int, opEq_str, opNe_str, opAdd_int, opSub_int, opMod_pos, opLt_int, opLe_int, opGt_int, opGe_int, opLt_str, opLe_str, opIsN_ref, opIsN_non, opIsN_int, opIsN_tup, opIsN_str, opIsN_bl, opEq_bl, opNe_bl, opFdiv_int, opMul_int, opPow_int, atI_0, atI_1, atI_2, opIx_ref, opIx_tup, opIx_rl, opLen_tup, opLen_str, opLen_rl, opMax2_int, opMin2_int, opInt_int, opInt_bl, tyN_non, tyN_bl, tyN_int, tyN_str, tyN_tup, tyN_rl, truthW_bl, srcW_tup, srcW_rl]
  refine ⟨lenOk_of (by rw [List.length_map]; omega), ?_⟩
  refine wp_mono (wp_lcP (α := SB) (xs := l2) (c := sbW) (fun p => p.2) (fun p => .str p.1) (fun S' => S' = T2) rfl (fun S' e => by rw [e]; exact g2) ?_) ?_ (fun _ _ q => q)
  · rintro i x S' e rfl
    unfold sbW
    have e2 : tgTup 2 (tgCons (tgN 3) (tgCons (tgN 4) tgNil)) (.tup [.str x.1, .bl x.2]) [some (.exn a dd ns ws), some (.ref n), none, none, none] S' = some [some (.exn a dd ns ws), some (.ref n), none, some (.str x.1), some (.bl x.2)] := rfl
    rw [e2]
    simp only [wp_ok, wp_exc, wp_ret, wp_badM, wp_lift, wp_chk, wp_alloc, wp_grd, wp_tgt, wp_noXe, wp_dVar, wp_dC, wp_aNil, wp_aCons, wp_dTup, wp_dLst, wp_dOp, wp_dUn, wp_dFn, wB_bl, wp_dChain, wp_dTru, wp_dBool, wp_dNot, wp_dAnd, wp_dOr, wp_dAndV, wp_dOrV, wp_dNotV, wp_dIfE, wp_dYes, wp_dCall, wp_dCallK, wp_dIsi, wp_dIsi2, wp_dMt, wp_oN, wI_int, wp_oS, wp_dSl, wp_dSrc, wp_dZip, wp_dRng1, wp_dRng2, wp_dEnum, wp_dLc, wpS_nx, wpS_rt, wpS_bk, wpS_ct, wpS_exc, wpS_bad, wpS_ite, wpS_dSeq, wpS_dNx, wpS_dBk, wpS_dCt, wpS_dDrop, wpS_dRet, wpS_dRetN, wpS_dIf, wpS_dSet, wpS_dAsg, wpS_dPar, wpS_dPar3, wpS_dSet2, wpS_dPut, wpS_dRaise, wpS_dFor, wp_dfn, wO_some, wO_none, wO_map, wO_bind, wO_ite, List.map_cons, List.map_nil, List.replicate_succ, List.replicate_zero, List.cons_append, List.nil_append, Nat.reduceSub, Nat.reduceAdd, List.getElem?_cons_zero, List.getElem?_cons_succ, List.set_cons_zero, List.set_cons_succ, List.length_cons, List.length_nil, tgN, tgNil, tgCons, tgTup, wipeE, isT, String.reduceBEq, Bool.and_false, Bool.false_and, Bool.true_and, Bool.and_true, Bool.or_false, Bool.false_or, Bool.true_or, Bool.or_true, Bool.not_true, Bool.not_false, if_true, if_false, true_and, and_true, Bool.false_eq_true, Bool.true_eq_false, reduceIte, opEq_int, opNe_int, opEq_str, opNe_str, opAdd_int, opSub_int, opMod_pos, opLt_int, opLe_int, opGt_int, opGe_int, opLt_str, opLe_str, opIsN_ref, opIsN_non, opIsN_int, opIsN_tup, opIsN_str, opIsN_bl, opEq_bl, opNe_bl, opFdiv_int, opMul_int, opPow_int, atI_0, atI_1, atI_2, opIx_ref, opIx_tup, opIx_rl, opLen_tup, opLen_str, opLen_rl, opMax2_int, opMin2_int, opInt_int, opInt_bl, tyN_non, tyN_bl, tyN_int, tyN_str, tyN_tup, tyN_rl, truthW_bl, srcW_tup, srcW_rl]
    split <;> trivial
  · rintro r S' ⟨rfl, rfl⟩
    have g3 : (S' ++ [.lst ((l2.filter fun p => p.2).map fun p => W.str p.1)])[S'.length]? = some (.lst ((l2.filter fun p => p.2).map fun p => W.str p.1)) := by
      rw [List.getElem?_append_right (Nat.le_refl _), Nat.sub_self]
      rfl
    simp only [wp_dIsX, opIsX_exn, hv, Option.map_some, opLen_ref g3, wp_ok, wp_exc, wp_ret, wp_badM, wp_lift, wp_chk, wp_alloc, wp_grd, wp_tgt, wp_noXe, wp_dVar, wp_dC, wp_aNil, wp_aCons, wp_dTup, wp_dLst, wp_dOp, wp_dUn, wp_dFn, wB_bl, wp_dChain, wp_dTru, wp_dBool, wp_dNot, wp_dAnd, wp_dOr, wp_dAndV, wp_dOrV, wp_dNotV, wp_dIfE, wp_dYes, wp_dCall, wp_dCallK, wp_dIsi, wp_dIsi2, wp_dMt, wp_oN, wI_int, wp_oS, wp_dSl, wp_dSrc, wp_dZip, wp_dRng1, wp_dRng2, wp_dEnum, wp_dLc, wpS_nx, wpS_rt, wpS_bk, wpS_ct, wpS_exc, wpS_bad, wpS_ite, wpS_dSeq, wpS_dNx, wpS_dBk, wpS_dCt, wpS_dDrop, wpS_dRet, wpS_dRetN, wpS_dIf, wpS_dSet, wpS_dAsg, wpS_dPar, wpS_dPar3, wpS_dSet2, wpS_dPut, wpS_dRaise, wpS_dFor, wp_dfn, wO_some, wO_none, wO_map, wO_bind, wO_ite, List.map_cons, List.map_nil, List.replicate_succ, List.replicate_zero, List.cons_append, List.nil_append, Nat.reduceSub, Nat.reduceAdd, List.getElem?_cons_zero, List.getElem?_cons_succ, List.set_cons_zero, List.set_cons_succ, List.length_cons, List.length_nil, tgN, tgNil, tgCons, tgTup, wipeE, isT, String.reduceBEq, Bool.and_false, Bool.false_and, Bool.true_and, Bool.and_true, Bool.or_false, Bool.false_or, Bool.true_or, Bool.or_true, Bool.not_true, Bool.not_false, if_true, if_false, true_and, and_true, Bool.false_eq_true, Bool.true_eq_false, reduceIte, opEq_int, opNe_int, opEq_str, opNe_str, opAdd_int, opSub_int, opMod_pos, opLt_int, opLe_int, opGt_int, opGe_int, opLt_str, opLe_str, opIsN_ref, opIsN_non, opIsN_int, opIsN_tup, opIsN_str, opIsN_bl, opEq_bl, opNe_bl, opFdiv_int, opMul_int, opPow_int, atI_0, atI_1, atI_2, opIx_ref, opIx_tup, opIx_rl, opLen_tup, opLen_str, opLen_rl, opMax2_int, opMin2_int, opInt_int, opInt_bl, tyN_non, tyN_bl, tyN_int, tyN_str, tyN_tup, tyN_rl, truthW_bl, srcW_tup, srcW_rl, lstAt_of g3]
    subst hkS hwd
    unfold wordOf
    match hf : l2.filter fun p => p.2 with
    | [] => simp [hf]
    | [p] => cases v <;> simp [hf, wO]
    | p :: q :: r =>
      simp only [hf, List.map_cons, List.length_cons]
      rw [if_neg (by simp; omega)]
      exact ⟨trivial, trivial⟩
end
end N
/-! TA: offices, letters and rules judged, any values. -/
namespace N
open PySem L2
noncomputable section
def low (c : Nat) : Bool := decide (97 ≤ c) && decide (c ≤ 122)
def nameB (x : Str) : Bool := decide (1 ≤ x.length) && (decide (x.length ≤ 8) && x.cps.toList.all low)
def offB : W → Bool
  | .str x => nameB x
  | _ => false
def plusB : W → Bool
  | .str x => x == "+"
  | _ => false
def letB (w : W) : Bool := offB w || plusB w
/-- the kinds of values that are asked -/
inductive Va (S : Store) : W → Prop
  | non : Va S .non
  | bl (b : Bool) : Va S (.bl b)
  | int (i : Int) : Va S (.int i)
  | str {x : Str} : x.length ≤ 1000 → Va S (.str x)
  | tup (ws : List W) : Va S (.tup ws)
  | dct {n : Nat} {kvs : List (Key × W)} : S[n]? = some (.dct kvs) → Va S (.ref n)
  | lst {n : Nat} {ws : List W} : S[n]? = some (.lst ws) → ws.length ≤ 1000 → Va S (.ref n)
theorem Va.mono {S S' : Store} (f : Fr 0 S S') {w : W} (v : Va S w) : Va S' w := by
  cases v with
  | non => exact .non
  | bl b => exact .bl b
  | int i => exact .int i
  | str h => exact .str h
  | tup ws => exact .tup ws
  | dct g => exact .dct (f.g0 g)
  | lst g h => exact .lst (f.g0 g) h
theorem tyN_dctA {n : Nat} {kvs : List (Key × W)} {S : Store} (e : S[n]? = some (.dct kvs)) : tyN (.ref n) S = some "dict" := by
  unfold tyN
  simp only [e]
theorem low_chain {c : Nat} : (!decide ((⟨#[c]⟩ : Str).cps.toList < ("a" : Str).cps.toList)) = decide (97 ≤ c) ∧ (!decide (("z" : Str).cps.toList < (⟨#[c]⟩ : Str).cps.toList)) = decide (c ≤ 122) := by
  have e1 : ("a" : Str).cps.toList = [97] := by decide
  have e2 : ("z" : Str).cps.toList = [122] := by decide
  rw [e1, e2]
  have lt1 : ∀ a b : Nat, ([a] < [b]) ↔ a < b := fun a b => by
    rw [List.cons_lt_cons_iff]
    exact ⟨fun h => h.elim id fun h => absurd h.2 (List.not_lt_nil _), .inl⟩
  constructor
  · rw [Bool.eq_iff_iff, Bool.not_eq_true', decide_eq_false_iff_not, decide_eq_true_eq]
    exact ⟨fun h => Nat.not_lt.mp fun q => h ((lt1 _ _).mpr q), fun h q => absurd ((lt1 _ _).mp q) (by omega)⟩
  · rw [Bool.eq_iff_iff, Bool.not_eq_true', decide_eq_false_iff_not, decide_eq_true_eq]
    exact ⟨fun h => Nat.not_lt.mp fun q => h ((lt1 _ _).mpr q), fun h q => absurd ((lt1 _ _).mp q) (by omega)⟩
section
variable {S : Store} {E : Ex → Store → Prop} {w : W}
theorem is_office_any (v : Va S w) : wp (n_is_office [w] S) (fun r S' => r = .bl (offB w) ∧ Fr 0 S S') E := by
  unfold n_is_office d_is_office
  cases v with
  | non => simp only [WPA, Nat.reduceSub, Nat.reduceAdd, tgN, tgNil, tgCons, tgTup, wipeE, isT, String.reduceBEq, reduceIte]; exact ⟨rfl, Fr.refl⟩
  | bl b => simp only [WPA, Nat.reduceSub, Nat.reduceAdd, tgN, tgNil, tgCons, tgTup, wipeE, isT, String.reduceBEq, reduceIte]; exact ⟨rfl, Fr.refl⟩
  | int i => simp only [WPA, Nat.reduceSub, Nat.reduceAdd, tgN, tgNil, tgCons, tgTup, wipeE, isT, String.reduceBEq, reduceIte]; exact ⟨rfl, Fr.refl⟩
  | tup ws => simp only [WPA, Nat.reduceSub, Nat.reduceAdd, tgN, tgNil, tgCons, tgTup, wipeE, isT, String.reduceBEq, reduceIte]; exact ⟨rfl, Fr.refl⟩
  | dct g => simp only [WPA, Nat.reduceSub, Nat.reduceAdd, tgN, tgNil, tgCons, tgTup, wipeE, isT, String.reduceBEq, reduceIte, tyN_dctA g]; exact ⟨rfl, Fr.refl⟩
  | lst g h => simp only [WPA, Nat.reduceSub, Nat.reduceAdd, tgN, tgNil, tgCons, tgTup, wipeE, isT, String.reduceBEq, reduceIte, tyN_ref g]; exact ⟨rfl, Fr.refl⟩
  | @str x h =>
    have h1 : x.length ≤ sizeLine := by rw [sizeLine_eq]; omega
    have hl : x.cps.toList.length ≤ 1000000 := by have : x.cps.toList.length = x.length := rfl; omega
    simp only [WPA, Nat.reduceSub, Nat.reduceAdd, tgN, tgNil, tgCons, tgTup, wipeE, isT, String.reduceBEq, reduceIte, h1]
    have e1 : decide ((1 : Int) ≤ (x.length : Int)) = decide (1 ≤ x.length) := by
      rw [Bool.eq_iff_iff, decide_eq_true_eq, decide_eq_true_eq]; omega
    have e2 : decide ((x.length : Int) ≤ 8) = decide (x.length ≤ 8) := by
      rw [Bool.eq_iff_iff, decide_eq_true_eq, decide_eq_true_eq]; omega
    rw [e1, e2]
    have eo : offB (.str x) = (decide (1 ≤ x.length) && (decide (x.length ≤ 8) && x.cps.toList.all low)) := rfl
    rw [eo]
    cases decide (1 ≤ x.length) with
    | false =>
      simp only [WPA, Nat.reduceSub, Nat.reduceAdd, tgN, tgNil, tgCons, tgTup, wipeE, isT, String.reduceBEq, reduceIte]
      exact Fr.refl
    | true =>
      cases decide (x.length ≤ 8) with
      | false =>
        simp only [WPA, Nat.reduceSub, Nat.reduceAdd, tgN, tgNil, tgCons, tgTup, wipeE, isT, String.reduceBEq, reduceIte]
        exact Fr.refl
      | true =>
        simp only [WPA, Nat.reduceSub, Nat.reduceAdd, tgN, tgNil, tgCons, tgTup, wipeE, isT, String.reduceBEq, reduceIte, srcW, List.length_map, lenOk_of hl]
        refine wp_mono (wp_lcF (f := fun c => W.bl (low c)) (fun S' => Fr 0 S S') Fr.refl (fun _ _ => trivial) ?_) ?_ (fun _ _ q => q)
        · intro i c S' e f
          simp only [WPA, Nat.reduceSub, Nat.reduceAdd, tgN, tgNil, tgCons, tgTup, wipeE, isT, String.reduceBEq, reduceIte, (low_chain (c := c)).1, (low_chain (c := c)).2]
          unfold low
          cases decide (97 ≤ c) with
          | true => simp only [WPA, Nat.reduceSub, Nat.reduceAdd, tgN, tgNil, tgCons, tgTup, wipeE, isT, String.reduceBEq, reduceIte]; exact f
          | false => simp only [WPA, Nat.reduceSub, Nat.reduceAdd, tgN, tgNil, tgCons, tgTup, wipeE, isT, String.reduceBEq, reduceIte]; exact f
        · rintro ws S' ⟨rfl, f⟩
          have e : (S' ++ [O.lst (x.cps.toList.map fun c => W.bl (low c))])[S'.length]? = some (.lst ((x.cps.toList.map low).map W.bl)) := by
            rw [List.map_map]; exact get_new
          rw [opAll_ref e, wO_some]
          refine ⟨?_, f.snoc⟩
          simp [List.all_map]
theorem alpha {c : Nat} : decide (c ∈ ("abcdefghijklmnopqrstuvwxyz" : Str).cps.toList) = low c := by
  have e : ("abcdefghijklmnopqrstuvwxyz" : Str).cps.toList = [97, 98, 99, 100, 101, 102, 103, 104, 105, 106, 107, 108, 109, 110, 111, 112, 113, 114, 115, 116, 117, 118, 119, 120, 121, 122] := by decide +kernel
  rw [e]
  unfold low
  rw [Bool.eq_iff_iff, decide_eq_true_eq, Bool.and_eq_true, decide_eq_true_eq, decide_eq_true_eq]
  simp only [List.mem_cons, List.mem_nil_iff, or_false]
  omega
theorem opEqE_ref {n m : Nat} {ws : List W} {S : Store} (h1 : S[n]? = some (.lst ws)) (h2 : S[m]? = some (.lst [])) : opEqE (.ref n) (.ref m) S = some (.bl ws.isEmpty, S) := by
  unfold opEqE
  simp only [h1, h2]
theorem filter_none {α : Type} {p q : α → Bool} (h : ∀ x, p x = !q x) : ∀ xs : List α, (xs.filter p).isEmpty = xs.all q
  | [] => rfl
  | x :: xs => by
    rw [List.filter_cons, List.all_cons, ← filter_none h xs, h x]
    cases q x <;> simp
theorem is_letter_any (v : Va S w) : wp (n_is_letter [w] S) (fun r S' => r = .bl (letB w) ∧ Fr 0 S S') E := by
  unfold n_is_letter d_is_letter
  simp only [WPA, Nat.reduceSub, Nat.reduceAdd, tgN, tgNil, tgCons, tgTup, wipeE, isT, String.reduceBEq, reduceIte]
  refine wp_mono (is_office_any v) ?_ (fun _ _ q => q)
  rintro r S1 ⟨rfl, f⟩
  unfold letB
  simp only [WPA, Nat.reduceSub, Nat.reduceAdd, tgN, tgNil, tgCons, tgTup, wipeE, isT, String.reduceBEq, reduceIte]
  cases q : offB w with
  | true => simp only [WPA, Nat.reduceSub, Nat.reduceAdd, tgN, tgNil, tgCons, tgTup, wipeE, isT, String.reduceBEq, reduceIte]; exact f
  | false =>
    have v1 := v.mono f
    cases v1 with
    | non => simp only [WPA, Nat.reduceSub, Nat.reduceAdd, tgN, tgNil, tgCons, tgTup, wipeE, isT, String.reduceBEq, reduceIte]; exact ⟨rfl, f⟩
    | bl b => simp only [WPA, Nat.reduceSub, Nat.reduceAdd, tgN, tgNil, tgCons, tgTup, wipeE, isT, String.reduceBEq, reduceIte]; exact ⟨rfl, f⟩
    | int i => simp only [WPA, Nat.reduceSub, Nat.reduceAdd, tgN, tgNil, tgCons, tgTup, wipeE, isT, String.reduceBEq, reduceIte]; exact ⟨rfl, f⟩
    | tup ws => simp only [WPA, Nat.reduceSub, Nat.reduceAdd, tgN, tgNil, tgCons, tgTup, wipeE, isT, String.reduceBEq, reduceIte]; exact ⟨rfl, f⟩
    | dct g => simp only [WPA, Nat.reduceSub, Nat.reduceAdd, tgN, tgNil, tgCons, tgTup, wipeE, isT, String.reduceBEq, reduceIte, tyN_dctA g]; exact ⟨rfl, f⟩
    | lst g h => simp only [WPA, Nat.reduceSub, Nat.reduceAdd, tgN, tgNil, tgCons, tgTup, wipeE, isT, String.reduceBEq, reduceIte, tyN_ref g]; exact ⟨rfl, f⟩
    | str h => simp only [WPA, Nat.reduceSub, Nat.reduceAdd, tgN, tgNil, tgCons, tgTup, wipeE, isT, String.reduceBEq, reduceIte]; exact ⟨rfl, f⟩
/-- whether a value is a rule -/
def ruleB (S : Store) : W → Bool
  | .ref n => match S[n]? with
    | some (.lst ws) => ws.all letB
    | _ => false
  | _ => false
theorem ruleB_lst {n : Nat} {ws : List W} (g : S[n]? = some (.lst ws)) : ruleB S (.ref n) = ws.all letB := by
  unfold ruleB
  simp only [g]
theorem ruleB_dct {n : Nat} {kvs : List (Key × W)} (g : S[n]? = some (.dct kvs)) : ruleB S (.ref n) = false := by
  unfold ruleB
  simp only [g]
def Els (S : Store) (w : W) : Prop := ∀ n ws, w = .ref n → S[n]? = some (.lst ws) → ∀ u ∈ ws, Va S u
theorem is_rule_any (v : Va S w) (els : Els S w) : wp (n_is_rule [w] S) (fun r S' => r = .bl (ruleB S w) ∧ Fr 0 S S') E := by
  unfold n_is_rule d_is_rule
  cases v with
  | non => simp only [WPA, Nat.reduceSub, Nat.reduceAdd, tgN, tgNil, tgCons, tgTup, wipeE, isT, String.reduceBEq, reduceIte]; exact ⟨rfl, Fr.refl⟩
  | bl b => simp only [WPA, Nat.reduceSub, Nat.reduceAdd, tgN, tgNil, tgCons, tgTup, wipeE, isT, String.reduceBEq, reduceIte]; exact ⟨rfl, Fr.refl⟩
  | int i => simp only [WPA, Nat.reduceSub, Nat.reduceAdd, tgN, tgNil, tgCons, tgTup, wipeE, isT, String.reduceBEq, reduceIte]; exact ⟨rfl, Fr.refl⟩
  | tup ws => simp only [WPA, Nat.reduceSub, Nat.reduceAdd, tgN, tgNil, tgCons, tgTup, wipeE, isT, String.reduceBEq, reduceIte]; exact ⟨rfl, Fr.refl⟩
  | str h => simp only [WPA, Nat.reduceSub, Nat.reduceAdd, tgN, tgNil, tgCons, tgTup, wipeE, isT, String.reduceBEq, reduceIte]; exact ⟨rfl, Fr.refl⟩
  | dct g => simp only [WPA, Nat.reduceSub, Nat.reduceAdd, tgN, tgNil, tgCons, tgTup, wipeE, isT, String.reduceBEq, reduceIte, tyN_dctA g, ruleB_dct g]; exact Fr.refl
  | @lst n ws g h =>
    have ok := els n ws rfl g
    simp only [WPA, Nat.reduceSub, Nat.reduceAdd, tgN, tgNil, tgCons, tgTup, wipeE, isT, String.reduceBEq, reduceIte, tyN_ref g, srcW_ref g, lenOk_of (show ws.length ≤ 1000000 by omega)]
    have hm : ws = ws.map fun w => w := by simp
    refine wp_mono (Q := fun us S' => us = ws.map (fun w => W.bl (letB w)) ∧ Fr 0 S S') ?_ ?_ (fun _ _ q => q)
    · have h2 := wp_lcF (t := tgN 1) (el := dCall n_is_letter (aCons (dVar 1) (aNil))) (g := fun S' => S'[n]? = some (.lst ws)) (ε0 := [some (.ref n), none]) (E := E) (xs := ws) (c := fun w => w) (S := S) (fun w => W.bl (letB w)) (fun S' => Fr 0 S S') Fr.refl (fun S' f => f.g0 g) (by
        intro i c S' e f
        simp only [WPA, Nat.reduceSub, Nat.reduceAdd, tgN, tgNil, tgCons, tgTup, wipeE, isT, String.reduceBEq, reduceIte]
        refine wp_mono (is_letter_any ((ok c (List.mem_of_getElem? e)).mono f)) ?_ (fun _ _ q => q)
        rintro r S2 ⟨rfl, f2⟩
        exact ⟨rfl, f.trans f2⟩)
      rw [← hm] at h2
      exact h2
    · rintro us S' ⟨rfl, f⟩
      have e : (S' ++ [O.lst (ws.map fun w => W.bl (letB w))])[S'.length]? = some (.lst ((ws.map letB).map W.bl)) := by
        rw [List.map_map]; exact get_new
      rw [opAll_ref e, wO_some, ruleB_lst g]
      exact ⟨by simp [List.all_map], f.snoc⟩
end
end
end N
/-! OE: what is wished of the class rules (wp). -/
namespace N
open PySem L2
noncomputable section
section
variable {ε : Ev} {S : Store} {Q : W → Store → Prop} {E : Ex → Store → Prop} {D : NEnds}
theorem wp_dFld {cs : List Nat} {f : Str} {d : DE} : wp (dFld cs f d ε S) Q E = wp (d ε S) (fun w S1 => wO (getF cs f w S1) fun p => Q p.1 p.2) E := wp_bind.trans (wp_congr fun w S1 => wp_lift)
theorem getF_ref {cs : List Nat} {f : Str} {n c : Nat} {fs : List (Str × W)} {S : Store} (h : S[n]? = some (.ins c fs)) (hc : cs.contains c = true) : getF cs f (.ref n) S = (fs.lookup f).map fun v => (v, S) := by
  unfold getF
  rw [insOf_ref h hc]
theorem setF_ref {cs : List Nat} {f : Str} {v : W} {n c : Nat} {fs : List (Str × W)} {S : Store} (h : S[n]? = some (.ins c fs)) (hc : cs.contains c = true) (hl : fs.length < 1000) : setF cs f (.ref n) v S = some (S.set n (.ins c (putI f v fs))) := by
  unfold setF
  simp only [h, hc, hl, and_self, if_true]
theorem wpS_dSetF {cs : List Nat} {f : Str} {o d : DE} : wpS (dSetF cs f o d ε S) D = wp (d ε S) (fun v S1 => wp (o ε S1) (fun w S2 => wO (setF cs f w v S2) fun S3 => D.nx ε S3) (fun x S1 => D.ex x ε S1)) (fun x S1 => D.ex x ε S1) := by
  unfold dSetF
  simp only [wpS_sBind]
  congr 1; funext v S1; congr 1; funext w S2
  cases setF cs f w v S2 <;> rfl
/-- the object is of the class and has no field of the name -/
def okI (cs : List Nat) (m : Str) (w : W) (S : Store) : Bool := match insOf cs w S with
  | some fs => (fs.lookup m).isNone
  | none => false
theorem okI_ref {cs : List Nat} {m : Str} {n c : Nat} {fs : List (Str × W)} {S : Store} (h : S[n]? = some (.ins c fs)) (hc : cs.contains c = true) : okI cs m (.ref n) S = (fs.lookup m).isNone := by
  unfold okI
  rw [insOf_ref h hc]
theorem wp_chkI {α : Type} {cs : List Nat} {m : Str} {w : W} {f : Unit → M α} {Q : α → Store → Prop} : wp ((chkI cs m w >>= f) S) Q E = (okI cs m w S = true ∧ wp (f () S) Q E) := by
  refine wp_bind.trans ?_
  unfold chkI okI
  cases insOf cs w S with
  | none => simp [wp]
  | some fs =>
    simp only
    cases (fs.lookup m).isNone <;> simp [wp]
theorem wp_dMeth {cs : List Nat} {m : Str} {d : List W → M W} {o : DE} {a : DA} : wp (dMeth cs m d o a ε S) Q E = wp (o ε S) (fun w S1 => okI cs m w S1 = true ∧ wp (a ε S1) (fun ws S2 => wp (d (w :: ws) S2) Q E) E) E := by
  unfold dMeth
  refine wp_bind.trans (wp_congr fun w S1 => ?_)
  rw [wp_chkI]
  congr 1
  exact wp_bind
theorem wp_permD {d : List W → M W} {na nk : Nat} {dW : List W} {perm : List Nat} {ws us : List W} : wp (permD d na nk dW perm ws us S) Q E = (ws.length = na ∧ us.length = nk ∧ wO (permW perm (ws ++ us ++ dW)) fun zs => wp (d zs S) Q E) := by
  unfold permD
  by_cases h : ws.length = na ∧ us.length = nk
  · rw [if_pos h]
    simp only [h.1, h.2, true_and]
    cases permW perm (ws ++ us ++ dW) <;> rfl
  · rw [if_neg h]
    exact propext ⟨False.elim, fun z => h ⟨z.1, z.2.1⟩⟩
theorem wp_dMethK {cs : List Nat} {m : Str} {d : List W → M W} {na nk : Nat} {dW : List W} {perm : List Nat} {o : DE} {a b : DA} : wp (dMethK cs m d na nk dW perm o a b ε S) Q E = wp (o ε S) (fun w S1 => okI cs m w S1 = true ∧ wp (a ε S1) (fun ws S2 => wp (b ε S2) (fun us S3 => (w :: ws).length = na + 1 ∧ us.length = nk ∧ wO (permW perm ((w :: ws) ++ us ++ dW)) fun zs => wp (d zs S3) Q E) E) E) E := by
  unfold dMethK
  refine wp_bind.trans (wp_congr fun w S1 => ?_)
  rw [wp_chkI]
  congr 1
  exact wp_bind.trans (wp_congr fun ws S2 => wp_bind.trans (wp_congr fun us S3 => wp_permD))
theorem wp_mkW {ci : Nat} {d : List W → M W} {na nk : Nat} {dW : List W} {perm : List Nat} {ws us : List W} : wp (mkW ci d na nk dW perm ws us S) Q E = ((W.ref S.length :: ws).length = na + 1 ∧ us.length = nk ∧ wO (permW perm ((W.ref S.length :: ws) ++ us ++ dW)) fun zs => wp (d zs (S ++ [.ins ci []])) (fun r S3 => r = .non ∧ Q (.ref S.length) S3) E) := by
  have e := wp_permD (S := S ++ [.ins ci []]) (d := d) (na := na + 1) (nk := nk) (dW := dW) (perm := perm) (ws := W.ref S.length :: ws) (us := us) (Q := fun r S3 => r = .non ∧ Q (.ref S.length) S3) (E := E)
  rw [← e]
  unfold mkW
  cases permD d (na + 1) nk dW perm (W.ref S.length :: ws) us (S ++ [.ins ci []]) with
  | ok w S' => cases w <;> simp [wp]
  | exc x S' => rfl
  | bad => rfl
theorem wp_dMake {ci : Nat} {d : List W → M W} {na nk : Nat} {dW : List W} {perm : List Nat} {a b : DA} : wp (dMake ci d na nk dW perm a b ε S) Q E = wp (a ε S) (fun ws S1 => wp (b ε S1) (fun us S2 => (W.ref S2.length :: ws).length = na + 1 ∧ us.length = nk ∧ wO (permW perm ((W.ref S2.length :: ws) ++ us ++ dW)) fun zs => wp (d zs (S2 ++ [.ins ci []])) (fun r S3 => r = .non ∧ Q (.ref S2.length) S3) E) E) E := by
  unfold dMake
  exact wp_bind.trans (wp_congr fun ws S1 => wp_bind.trans (wp_congr fun us S2 => wp_mkW))
theorem wp_dProp {cs : List Nat} {d : List W → M W} {o : DE} : wp (dProp cs d o ε S) Q E = wp (o ε S) (fun w S1 => (insOf cs w S1).isSome = true ∧ wp (d [w] S1) Q (fun _ _ => False)) E := by
  unfold dProp
  refine wp_bind.trans (wp_congr fun w S1 => ?_)
  by_cases h : (insOf cs w S1).isSome = true
  · simp only [h, if_true, true_and]
    exact wp_noXe
  · simp [h, wp]
theorem wp_dEnumS {a : DA} {Q : Src → Store → Prop} : wp (dEnumS a ε S) Q E = wp (a ε S) (fun ws S1 => ∃ x, ws = [.str x] ∧ okS x = true ∧ Q ⟨enumL (signsW x), fun _ => True⟩ S1) E := by
  unfold dEnumS
  refine wp_bind.trans (wp_congr fun ws S1 => ?_)
  split
  · rename_i x
    by_cases h : okS x = true
    · rw [if_pos h]
      exact propext ⟨fun q => ⟨x, rfl, h, q⟩, fun ⟨y, e, _, q⟩ => by cases e; exact q⟩
    · rw [if_neg h]
      exact propext ⟨False.elim, fun ⟨y, e, hy, _⟩ => by cases e; exact h hy⟩
  · rename_i hn
    exact propext ⟨False.elim, fun ⟨y, e, _, _⟩ => hn y e⟩
theorem opListRg_int {i j : Int} (h : (-1000000000 ≤ i ∧ i ≤ 1000000000) ∧ (-1000000000 ≤ j ∧ j ≤ 1000000000) ∧ (j - i).toNat ≤ 1000000) : opListRg [.int i, .int j] S = some (.ref S.length, S ++ [.lst ((List.range (j - i).toNat).map fun n => .int (i + (n : Nat)))]) := by
  unfold opListRg
  simp only [if_pos h]
theorem opSortR_rows {w : W} {l : List ((Int × Int) × Option Bool)} (h : rowsOf w S = some l) (hf : rowsFit l) : opSortR [w] S = some (.ref S.length, S ++ [.lst ((l.mergeSort leR).map rowW)]) := by
  unfold opSortR
  simp only [h, Option.bind_some, if_pos hf]
theorem rowsOf_ref {n : Nat} {l : List ((Int × Int) × Option Bool)} (h : S[n]? = some (.lst (l.map rowW))) : rowsOf (.ref n) S = some l := by
  unfold rowsOf
  simp only [h, Option.bind_some, mapM_rowW]
theorem rowsOf_tup {l : List ((Int × Int) × Option Bool)} : rowsOf (.tup (l.map rowW)) S = some l := by
  unfold rowsOf
  simp only [Option.bind_some, mapM_rowW]
end
end
end N
/-! PA: stretches of days: joined, without others, sorted parts (plain). -/
namespace N
open PySem L2
abbrev Stretch := Int × Int
abbrev Part := (Int × Int) × Option Bool
def InS (l : List Stretch) (d : Int) : Prop := ∃ p ∈ l, p.1 ≤ d ∧ d ≤ p.2
theorem InS.nil {d : Int} : ¬ InS [] d := fun ⟨p, h, _⟩ => by simp at h
theorem InS.app {l m : List Stretch} {d : Int} : InS (l ++ m) d ↔ InS l d ∨ InS m d := by
  constructor
  · rintro ⟨p, h, q⟩
    exact (List.mem_append.mp h).elim (fun z => .inl ⟨p, z, q⟩) fun z => .inr ⟨p, z, q⟩
  · rintro (⟨p, h, q⟩ | ⟨p, h, q⟩)
    · exact ⟨p, List.mem_append_left _ h, q⟩
    · exact ⟨p, List.mem_append_right _ h, q⟩
theorem InS.one {p : Stretch} {d : Int} : InS [p] d ↔ p.1 ≤ d ∧ d ≤ p.2 := ⟨fun ⟨q, h, r⟩ => by simp at h; subst h; exact r, fun r => ⟨p, by simp, r⟩⟩
theorem InS.perm {l m : List Stretch} (h : l.Perm m) {d : Int} : InS l d ↔ InS m d := ⟨fun ⟨p, a, b⟩ => ⟨p, h.mem_iff.mp a, b⟩, fun ⟨p, a, b⟩ => ⟨p, h.mem_iff.mpr a, b⟩⟩
structure Asc (l : List Stretch) : Prop where
  pw : l.Pairwise fun p q => p.2 < q.1
  ne : ∀ p ∈ l, p.1 ≤ p.2
theorem Asc.nil : Asc [] := ⟨List.Pairwise.nil, fun p h => by simp at h⟩
theorem Asc.snoc {l : List Stretch} {p : Stretch} (a : Asc l) (h : p.1 ≤ p.2) (k : ∀ q ∈ l, q.2 < p.1) : Asc (l ++ [p]) := by
  refine ⟨List.pairwise_append.mpr ⟨a.pw, List.pairwise_singleton _ _, fun q hq r hr => ?_⟩, fun q hq => ?_⟩
  · simp at hr; subst hr; exact k q hq
  · rcases List.mem_append.mp hq with z | z
    · exact a.ne q z
    · simp at z; subst z; exact h
/-! ### joined -/
structure JInv (pre f : List Stretch) : Prop where
  asc : Asc f
  mem : ∀ d, InS f d ↔ InS pre d
  fst : ∀ q ∈ f, ∃ r ∈ pre, q.1 = r.1
theorem JInv.nil : JInv [] [] := ⟨Asc.nil, fun d => Iff.rfl, fun q h => by simp at h⟩
theorem JInv.push {pre f : List Stretch} {p : Stretch} (J : JInv pre f) (hp : p.1 ≤ p.2) (h : ∀ q ∈ f, q.2 < p.1) : JInv (pre ++ [p]) (f ++ [p]) := by
  refine ⟨J.asc.snoc hp h, fun d => by rw [InS.app, InS.app, J.mem], fun q hq => ?_⟩
  rcases List.mem_append.mp hq with z | z
  · obtain ⟨r, h1, h2⟩ := J.fst q z
    exact ⟨r, List.mem_append_left _ h1, h2⟩
  · exact ⟨q, List.mem_append_right _ z, rfl⟩
theorem JInv.far {pre g : List Stretch} {q p : Stretch} (J : JInv pre (g ++ [q])) (hp : p.1 ≤ p.2) (h : q.2 + 1 < p.1) : JInv (pre ++ [p]) (g ++ [q] ++ [p]) := by
  refine J.push hp fun r hr => ?_
  have hq := J.asc.ne q (by simp)
  rcases List.mem_append.mp hr with z | z
  · have := (List.pairwise_append.mp J.asc.pw).2.2 r z q (by simp)
    omega
  · simp at z; subst z; omega
theorem JInv.near {pre g : List Stretch} {q p : Stretch} (J : JInv pre (g ++ [q])) (hp : p.1 ≤ p.2) (hs : ∀ r ∈ pre, r.1 ≤ p.1) (h : p.1 ≤ q.2 + 1) : JInv (pre ++ [p]) (g ++ [(q.1, if p.2 > q.2 then p.2 else q.2)]) := by
  have hq := J.asc.ne q (by simp)
  have hqp : q.1 ≤ p.1 := by
    obtain ⟨r, h1, h2⟩ := J.fst q (by simp)
    rw [h2]; exact hs r h1
  have pw := List.pairwise_append.mp J.asc.pw
  refine ⟨⟨List.pairwise_append.mpr ⟨pw.1, List.pairwise_singleton _ _, fun r hr s hs => ?_⟩, fun r hr => ?_⟩, fun d => ?_, fun r hr => ?_⟩
  · simp at hs; subst hs
    exact pw.2.2 r hr q (by simp)
  · rcases List.mem_append.mp hr with z | z
    · exact J.asc.ne r (by simp [z])
    · simp at z; subst z; simp only; split <;> omega
  · rw [InS.app, InS.app, ← J.mem, InS.app, InS.one, InS.one, InS.one]
    constructor
    · rintro (z | ⟨z1, z2⟩)
      · exact .inl (.inl z)
      · simp only at z1 z2
        by_cases e : d ≤ q.2
        · exact .inl (.inr ⟨z1, e⟩)
        · refine .inr ⟨by omega, ?_⟩
          split at z2 <;> omega
    · rintro ((z | ⟨z1, z2⟩) | ⟨z1, z2⟩)
      · exact .inl z
      · refine .inr ⟨z1, ?_⟩
        simp only
        split <;> omega
      · refine .inr ⟨by simp only; omega, ?_⟩
        simp only
        split <;> omega
  · rcases List.mem_append.mp hr with z | z
    · obtain ⟨s, h1, h2⟩ := J.fst r (by simp [z])
      exact ⟨s, List.mem_append_left _ h1, h2⟩
    · simp at z; subst z
      obtain ⟨s, h1, h2⟩ := J.fst q (by simp)
      exact ⟨s, List.mem_append_left _ h1, h2⟩
/-! ### without others -/
structure WIn (a b : Int) (f0 pre fnd : List Stretch) (f : Int) : Prop where
  le : a ≤ f
  asc : Asc fnd
  lt : ∀ p ∈ fnd, p.2 < f
  old : ∀ p ∈ fnd, p ∈ f0 ∨ p.2 ≤ b
  mem : ∀ d, InS fnd d ↔ InS f0 d ∨ (a ≤ d ∧ d < f ∧ d ≤ b ∧ ¬ InS pre d)
  rest : ∀ d, f ≤ d → d ≤ b → ¬ InS pre d
  top : f = a ∨ ∃ q ∈ pre, f = q.2 + 1
theorem WIn.start {a b : Int} {f0 : List Stretch} (A : Asc f0) (h : ∀ p ∈ f0, p.2 < a) : WIn a b f0 [] f0 a :=
  ⟨Int.le_refl _, A, h, fun p hp => .inl hp, fun d => ⟨.inl, fun z => z.elim id fun z => by omega⟩, fun d _ _ => InS.nil, .inl rfl⟩
theorem WIn.skip {a b : Int} {f0 pre fnd : List Stretch} {f : Int} {q : Stretch} (w : WIn a b f0 pre fnd f) (hq : q.1 ≤ q.2) (hs : ∀ r ∈ pre, r.2 < q.1) (h : q.2 < f ∨ b < q.1) : WIn a b f0 (pre ++ [q]) fnd f := by
  have key : ∀ d, a ≤ d → d < f → d ≤ b → ¬ (q.1 ≤ d ∧ d ≤ q.2) := fun d h1 h2 h3 ⟨h4, h5⟩ => by
    rcases h with h | h
    · rcases w.top with e | ⟨r, hr, e⟩
      · omega
      · have := hs r hr; omega
    · omega
  refine ⟨w.le, w.asc, w.lt, w.old, fun d => ?_, fun d h1 h2 => ?_, w.top.imp id fun ⟨r, hr, e⟩ => ⟨r, List.mem_append_left _ hr, e⟩⟩
  · rw [w.mem, InS.app, InS.one]
    constructor
    · rintro (z | ⟨z1, z2, z3, z4⟩)
      · exact .inl z
      · exact .inr ⟨z1, z2, z3, fun z => z.elim z4 (key d z1 z2 z3)⟩
    · rintro (z | ⟨z1, z2, z3, z4⟩)
      · exact .inl z
      · exact .inr ⟨z1, z2, z3, fun z => z4 (.inl z)⟩
  · rw [InS.app, InS.one]
    rintro (z | z)
    · exact w.rest d h1 h2 z
    · rcases h with h | h <;> omega
theorem WIn.cut {a b : Int} {f0 pre fnd : List Stretch} {f : Int} {q : Stretch} (w : WIn a b f0 pre fnd f) (hq : q.1 ≤ q.2) (hs : ∀ r ∈ pre, r.2 < q.1) (h1 : f ≤ q.2) (h2 : q.1 ≤ b) : WIn a b f0 (pre ++ [q]) (if f < q.1 then fnd ++ [(f, q.1 - 1)] else fnd) (q.2 + 1) := by
  have key : ∀ d, a ≤ d → d < f → d < q.1 := fun d h3 h4 => by
    rcases w.top with e | ⟨r, hr, e⟩
    · omega
    · have := hs r hr; omega
  have hle := w.le
  have hmem : ∀ d, InS (if f < q.1 then fnd ++ [(f, q.1 - 1)] else fnd) d ↔ InS fnd d ∨ (f ≤ d ∧ d ≤ q.1 - 1) := fun d => by
    by_cases e : f < q.1
    · rw [if_pos e, InS.app, InS.one]
    · rw [if_neg e]
      exact ⟨.inl, fun z => z.elim id fun z => by omega⟩
  refine ⟨by omega, ?_, ?_, ?_, fun d => ?_, fun d h3 h4 => ?_, .inr ⟨q, by simp, rfl⟩⟩
  · split
    · rename_i e
      exact w.asc.snoc (by simp only; omega) w.lt
    · exact w.asc
  · intro p hp
    split at hp
    · rcases List.mem_append.mp hp with z | z
      · have := w.lt p z; omega
      · simp at z; subst z; simp only; omega
    · have := w.lt p hp; omega
  · intro p hp
    split at hp
    · rcases List.mem_append.mp hp with z | z
      · exact w.old p z
      · simp at z; subst z; exact .inr (by simp only; omega)
    · exact w.old p hp
  · rw [hmem, w.mem, InS.app, InS.one]
    constructor
    · rintro ((z | ⟨z1, z2, z3, z4⟩) | ⟨z1, z2⟩)
      · exact .inl z
      · exact .inr ⟨z1, by omega, z3, fun z => z.elim z4 fun z => by have := key d z1 z2; omega⟩
      · exact .inr ⟨by omega, by omega, by omega, fun z => z.elim (w.rest d z1 (by omega)) fun z => by omega⟩
    · rintro (z | ⟨z1, z2, z3, z4⟩)
      · exact .inl (.inl z)
      · by_cases e : d < f
        · exact .inl (.inr ⟨z1, e, z3, fun z => z4 (.inl z)⟩)
        · refine .inr ⟨by omega, ?_⟩
          have : ¬ (q.1 ≤ d ∧ d ≤ q.2) := fun z => z4 (.inr z)
          omega
  · rw [InS.app, InS.one]
    rintro (z | z)
    · exact w.rest d (by omega) h4 z
    · omega
/-- what stands behind a stretch -/
structure WOut (done os fnd : List Stretch) : Prop where
  asc : Asc fnd
  mem : ∀ d, InS fnd d ↔ InS done d ∧ ¬ InS os d
  top : ∀ p ∈ fnd, ∃ s ∈ done, p.2 ≤ s.2
theorem WOut.nil {os : List Stretch} : WOut [] os [] := ⟨Asc.nil, fun d => ⟨fun z => (InS.nil z).elim, fun z => (InS.nil z.1).elim⟩, fun p h => by simp at h⟩
theorem WIn.finish {a b : Int} {done os f0 fnd : List Stretch} {f : Int} (W : WOut done os f0) (w : WIn a b f0 os fnd f) : WOut (done ++ [(a, b)]) os (if f ≤ b then fnd ++ [(f, b)] else fnd) := by
  have hmem : ∀ d, InS (if f ≤ b then fnd ++ [(f, b)] else fnd) d ↔ InS fnd d ∨ (f ≤ d ∧ d ≤ b) := fun d => by
    by_cases e : f ≤ b
    · rw [if_pos e, InS.app, InS.one]
    · rw [if_neg e]
      exact ⟨.inl, fun z => z.elim id fun z => by omega⟩
  have hle := w.le
  refine ⟨?_, fun d => ?_, fun p hp => ?_⟩
  · split
    · rename_i e
      exact w.asc.snoc e w.lt
    · exact w.asc
  · rw [hmem, w.mem, W.mem, InS.app, InS.one]
    constructor
    · rintro ((⟨z1, z2⟩ | ⟨z1, z2, z3, z4⟩) | ⟨z1, z2⟩)
      · exact ⟨.inl z1, z2⟩
      · exact ⟨.inr ⟨z1, z3⟩, z4⟩
      · exact ⟨.inr ⟨by show a ≤ d; omega, z2⟩, w.rest d z1 z2⟩
    · rintro ⟨z1 | ⟨z1, z3⟩, z2⟩
      · exact .inl (.inl ⟨z1, z2⟩)
      · by_cases e : d < f
        · exact .inl (.inr ⟨z1, e, z3, z2⟩)
        · exact .inr ⟨by omega, z3⟩
  · have fin : ∀ p ∈ fnd, ∃ s ∈ done ++ [(a, b)], p.2 ≤ s.2 := fun p hp => by
      rcases w.old p hp with z | z
      · obtain ⟨s, h1, h2⟩ := W.top p z
        exact ⟨s, List.mem_append_left _ h1, h2⟩
      · exact ⟨(a, b), by simp, z⟩
    split at hp
    · rcases List.mem_append.mp hp with z | z
      · exact fin p z
      · simp at z; subst z; exact ⟨(a, b), by simp, Int.le_refl _⟩
    · exact fin p hp
/-! ### parts -/
structure PartsOk (P : List Part) (C O : Int → Prop) : Prop where
  pw : P.Pairwise fun x y => x.1.2 < y.1.1
  ne : ∀ x ∈ P, x.1.1 ≤ x.1.2
  som : ∀ x ∈ P, x.2.isSome = true
  cl : ∀ d, C d ↔ ∃ x ∈ P, x.1.1 ≤ d ∧ d ≤ x.1.2 ∧ x.2 = some false
  op : ∀ d, (O d ∧ ¬ C d) ↔ ∃ x ∈ P, x.1.1 ≤ d ∧ d ≤ x.1.2 ∧ x.2 = some true
def rawParts (cl op : List Stretch) : List Part := cl.map (fun p => (p, some false)) ++ op.map (fun p => (p, some true))
theorem raw_mem {cl op : List Stretch} {x : Part} : x ∈ rawParts cl op ↔ (x.1 ∈ cl ∧ x.2 = some false) ∨ (x.1 ∈ op ∧ x.2 = some true) := by
  unfold rawParts
  rw [List.mem_append, List.mem_map, List.mem_map]
  constructor
  · rintro (⟨p, h, rfl⟩ | ⟨p, h, rfl⟩)
    · exact .inl ⟨h, rfl⟩
    · exact .inr ⟨h, rfl⟩
  · rintro (⟨h, e⟩ | ⟨h, e⟩)
    · exact .inl ⟨x.1, h, Prod.ext rfl e.symm⟩
    · exact .inr ⟨x.1, h, Prod.ext rfl e.symm⟩
section
variable {cl op : List Stretch}
theorem raw_fit (a : Asc cl) (b : Asc op) (h : ∀ d, InS cl d → ¬ InS op d) : rowsFit (rawParts cl op) := by
  constructor
  · intro x hx y hy
    rw [raw_mem] at hx hy
    rcases hx with ⟨_, e⟩ | ⟨_, e⟩ <;> rcases hy with ⟨_, e'⟩ | ⟨_, e'⟩ <;> rw [e, e'] <;> rfl
  · intro x hx y hy exy
    rw [raw_mem] at hx hy
    rcases hx with ⟨m, e⟩ | ⟨m, e⟩ <;> rcases hy with ⟨m', e'⟩ | ⟨m', e'⟩
    · rw [e, e']
    · exact absurd ⟨y.1, m', Int.le_refl _, b.ne _ m'⟩ (h y.1.1 ⟨x.1, m, by rw [exy]; exact Int.le_refl _, by rw [exy]; exact b.ne _ m'⟩)
    · exact absurd ⟨x.1, m, Int.le_refl _, b.ne _ m⟩ (h x.1.1 ⟨y.1, m', by rw [exy]; exact Int.le_refl _, by rw [exy]; exact a.ne _ m'⟩)
    · rw [e, e']
theorem parts_ok (a : Asc cl) (b : Asc op) (h : ∀ d, InS cl d → ¬ InS op d) {C O : Int → Prop} (hC : ∀ d, C d ↔ InS cl d) (hO : ∀ d, InS op d ↔ O d ∧ ¬ C d) : PartsOk ((rawParts cl op).mergeSort leR) C O := by
  have hp := List.mergeSort_perm (rawParts cl op) leR
  have mem : ∀ x, x ∈ (rawParts cl op).mergeSort leR ↔ (x.1 ∈ cl ∧ x.2 = some false) ∨ (x.1 ∈ op ∧ x.2 = some true) := fun x => by rw [hp.mem_iff, raw_mem]
  have ne : ∀ x ∈ (rawParts cl op).mergeSort leR, x.1.1 ≤ x.1.2 := fun x hx => by
    rcases (mem x).mp hx with ⟨m, _⟩ | ⟨m, _⟩
    · exact a.ne _ m
    · exact b.ne _ m
  refine ⟨?_, ne, fun x hx => ?_, fun d => ?_, fun d => ?_⟩
  · have dis : (rawParts cl op).Pairwise fun x y => x.1.2 < y.1.1 ∨ y.1.2 < x.1.1 := by
      unfold rawParts
      refine List.pairwise_append.mpr ⟨List.pairwise_map.mpr (a.pw.imp fun z => .inl z), List.pairwise_map.mpr (b.pw.imp fun z => .inl z), fun x hx y hy => ?_⟩
      obtain ⟨p, hp', rfl⟩ := List.mem_map.mp hx
      obtain ⟨q, hq, rfl⟩ := List.mem_map.mp hy
      have e1 := a.ne p hp'
      have e2 := b.ne q hq
      by_cases z : p.2 < q.1
      · exact .inl z
      · refine .inr ?_
        by_cases z2 : q.2 < p.1
        · exact z2
        · exfalso
          by_cases z3 : p.1 ≤ q.1
          · exact h q.1 ⟨p, hp', z3, by omega⟩ ⟨q, hq, Int.le_refl _, e2⟩
          · exact h p.1 ⟨p, hp', Int.le_refl _, e1⟩ ⟨q, hq, by omega, by omega⟩
    have dis2 := (hp.symm.pairwise_iff (fun {x y} z => z.symm)).mp dis
    refine List.Pairwise.imp_of_mem ?_ ((leR_sorted (rawParts cl op)).and dis2)
    rintro x y hx hy ⟨h1, h2⟩
    have e1 := ne x hx
    have e2 := ne y hy
    unfold leR at h1
    simp only [Bool.not_eq_true'] at h1
    have h3 := SrtO.lexB_no.mp h1
    omega
  · rcases (mem x).mp hx with ⟨_, e⟩ | ⟨_, e⟩ <;> rw [e] <;> rfl
  · rw [hC]
    constructor
    · rintro ⟨p, h1, h2, h3⟩
      exact ⟨(p, some false), (mem _).mpr (.inl ⟨h1, rfl⟩), h2, h3, rfl⟩
    · rintro ⟨x, hx, h2, h3, e⟩
      rcases (mem x).mp hx with ⟨m, _⟩ | ⟨m, e'⟩
      · exact ⟨x.1, m, h2, h3⟩
      · rw [e] at e'; cases e'
  · rw [← hO]
    constructor
    · rintro ⟨p, h1, h2, h3⟩
      exact ⟨(p, some true), (mem _).mpr (.inr ⟨h1, rfl⟩), h2, h3, rfl⟩
    · rintro ⟨x, hx, h2, h3, e⟩
      rcases (mem x).mp hx with ⟨m, e'⟩ | ⟨m, _⟩
      · rw [e] at e'; cases e'
      · exact ⟨x.1, m, h2, h3⟩
end
/-- the first part that does not end before a day -/
structure AtPart (P : List Part) (d : Int) (i : Nat) : Prop where
  le : i ≤ P.length
  lo : ∀ (j : Nat) x, P[j]? = some x → j < i → x.1.2 < d
  hi : ∀ (j : Nat) x, P[j]? = some x → i ≤ j → d ≤ x.1.2
theorem PartsOk.ends {P : List Part} {C O : Int → Prop} (K : PartsOk P C O) {i j : Nat} {x y : Part} (hi : P[i]? = some x) (hj : P[j]? = some y) (h : i < j) : x.1.2 < y.1.1 := by
  obtain ⟨h1, e1⟩ := List.getElem?_eq_some_iff.mp hi
  obtain ⟨h2, e2⟩ := List.getElem?_eq_some_iff.mp hj
  have := List.pairwise_iff_getElem.mp K.pw i j h1 h2 h
  rw [e1, e2] at this
  exact this
theorem PartsOk.here {P : List Part} {C O : Int → Prop} (K : PartsOk P C O) {d : Int} {i : Nat} (A : AtPart P d i) {x : Part} (hx : P[i]? = some x) (h : x.1.1 ≤ d) : (x.2 = some true ∧ O d ∧ ¬ C d) ∨ (x.2 = some false ∧ C d) := by
  have hm := List.mem_of_getElem? hx
  have h2 := A.hi i x hx (Nat.le_refl _)
  cases e : x.2 with
  | none =>
    have := K.som x hm
    rw [e] at this; cases this
  | some b =>
    cases b with
    | true => exact .inl ⟨rfl, (K.op d).mpr ⟨x, hm, h, h2, e⟩⟩
    | false => exact .inr ⟨rfl, (K.cl d).mpr ⟨x, hm, h, h2, e⟩⟩
theorem PartsOk.none_at {P : List Part} {C O : Int → Prop} (K : PartsOk P C O) {d : Int} {i : Nat} (A : AtPart P d i) (h : ∀ x, P[i]? = some x → d < x.1.1) : ¬ C d ∧ ¬ O d := by
  have no : ∀ x ∈ P, ¬ (x.1.1 ≤ d ∧ d ≤ x.1.2) := fun x hx ⟨h1, h2⟩ => by
    obtain ⟨j, hj⟩ := List.getElem?_of_mem hx
    by_cases e : j < i
    · have := A.lo j x hj e; omega
    · by_cases e2 : j = i
      · subst e2; have := h x hj; omega
      · have hlt : i < P.length := by
          have := (List.getElem?_eq_some_iff.mp hj).1; omega
        have hy := h P[i] (List.getElem?_eq_getElem hlt)
        have := K.ends (List.getElem?_eq_getElem hlt) hj (by omega)
        have := K.ne P[i] (List.getElem_mem hlt)
        omega
  have hC : ¬ C d := fun z => by
    obtain ⟨x, hx, h1, h2, _⟩ := (K.cl d).mp z
    exact no x hx ⟨h1, h2⟩
  exact ⟨hC, fun z => by
    obtain ⟨x, hx, h1, h2, _⟩ := (K.op d).mp ⟨z, hC⟩
    exact no x hx ⟨h1, h2⟩⟩
end N
/-! PB: calendars: made, and asked whether they are open. -/
namespace N
open PySem L2
noncomputable section
def d_is_integer : DS :=
  dSeq (dIf (dOr (dNot (dTru (dIsi "int" (dVar 0)))) (dTru (dIsi "bool" (dVar 0)))) (dRet (dC (.bl false))) (dNx))
  (dRet (dAndV (dOrV (dOp opIsN (dVar 1) (dC .non)) (dOp opLe (dVar 1) (dVar 0))) (dOrV (dOp opIsN (dVar 2) (dC .non)) (dOp opLe (dVar 0) (dVar 2)))))
def n_is_integer : List W → M W := dfn 3 3 d_is_integer
def d_is_day : DS :=
  dRet (dCallK n_is_integer 1 0 [.non, .non] [0, 1, 2] (aCons (dVar 0) (aNil)) (aNil))
def n_is_day : List W → M W := dfn 1 1 d_is_day
def d_require_day (x3 : Nat) : DS :=
  dIf (dNot (dTru (dCall n_is_day (aCons (dVar 0) (aNil))))) (dRaise x3) (dNx)
def n_require_day (x3 : Nat) : List W → M W := dfn 1 1 (d_require_day x3)
def d_is_stretch : DS :=
  dSeq (dIf (dOr (dNot (dTru (dIsi "tuple" (dVar 0)))) (dBool (dOp opNe (dFn opLen (aCons (dVar 0) aNil)) (dC (.int 2))))) (dRet (dC (.bl false))) (dNx))
  (dRet (dAndV (dCallK n_is_integer 1 0 [.non, .non] [0, 1, 2] (aCons (dOp opIx (dVar 0) (dC (.int 0))) (aNil)) (aNil)) (dCallK n_is_integer 2 0 [.non, .non] [0, 1, 3] (aCons (dOp opIx (dVar 0) (dC (.int 1))) (aCons (dOp opIx (dVar 0) (dC (.int 0))) (aNil))) (aNil))))
def n_is_stretch : List W → M W := dfn 1 1 d_is_stretch
def d_require_stretches (x2 : Nat) : DS :=
  dIf (dOr (dNot (dTru (dIsi2 "list" "tuple" (dVar 0)))) (dNot (dTru (dFn opAll (aCons (dLc (dSrc (dVar 0)) (tgN 1) (dYes) (dCall n_is_stretch (aCons (dVar 1) (aNil))) [1]) aNil))))) (dRaise x2) (dNx)
def n_require_stretches (x2 : Nat) : List W → M W := dfn 2 1 (d_require_stretches x2)
def d_joined_stretches : DS :=
  dSeq (dSet 1 (dLst (aNil)))
  (dSeq (dFor (dSrc (dFn opSortR (aCons (dVar 0) aNil))) (tgTup 2 (tgCons (tgN 2) (tgCons (tgN 3) (tgNil)))) (dIf (dAnd (dBool (dOp opNe (dVar 1) (dLst (aNil)))) (dBool (dOp opLe (dVar 2) (dOp opAdd (dOp opIx (dOp opIx (dVar 1) (dUn opNeg (dC (.int 1)))) (dC (.int 1))) (dC (.int 1)))))) (dPut (dTup (aCons (dOp opIx (dOp opIx (dVar 1) (dUn opNeg (dC (.int 1)))) (dC (.int 0))) (aCons (dFn opMax2 (aCons (dOp opIx (dOp opIx (dVar 1) (dUn opNeg (dC (.int 1)))) (dC (.int 1))) (aCons (dVar 3) aNil))) (aNil)))) (dVar 1) (dUn opNeg (dC (.int 1)))) (dDrop (dMt "list" mAppend (dVar 1) (aCons (dTup (aCons (dVar 2) (aCons (dVar 3) (aNil)))) aNil)))))
  (dRet (dVar 1)))
def n_joined_stretches : List W → M W := dfn 4 1 d_joined_stretches
def d_without_stretches : DS :=
  dSeq (dSet 2 (dLst (aNil)))
  (dSeq (dFor (dSrc (dVar 0)) (tgTup 2 (tgCons (tgN 3) (tgCons (tgN 4) (tgNil)))) (dSeq (dFor (dSrc (dVar 1)) (tgTup 2 (tgCons (tgN 5) (tgCons (tgN 6) (tgNil)))) (dSeq (dIf (dOr (dBool (dOp opLt (dVar 6) (dVar 3))) (dBool (dOp opLt (dVar 4) (dVar 5)))) (dCt) (dNx))
  (dSeq (dIf (dBool (dOp opLt (dVar 3) (dVar 5))) (dDrop (dMt "list" mAppend (dVar 2) (aCons (dTup (aCons (dVar 3) (aCons (dOp opSub (dVar 5) (dC (.int 1))) (aNil)))) aNil))) (dNx))
  (dSet 3 (dOp opAdd (dVar 6) (dC (.int 1)))))))
  (dIf (dBool (dOp opLe (dVar 3) (dVar 4))) (dDrop (dMt "list" mAppend (dVar 2) (aCons (dTup (aCons (dVar 3) (aCons (dVar 4) (aNil)))) aNil))) (dNx))))
  (dRet (dVar 2)))
def n_without_stretches : List W → M W := dfn 7 2 d_without_stretches
def d_is_pattern_reading : DS :=
  dSeq (dIf (dOr (dNot (dTru (dIsi "str" (dVar 0)))) (dOr (dNot (dBool (dChain opLe opLe (dC (.int 1)) (dFn opLen (aCons (dVar 0) aNil)) (dC (.int 8))))) (dBool (dOp opNotIn (dC (.str "o")) (dVar 0))))) (dRet (dC (.bl false))) (dNx))
  (dRet (dFn opAll (aCons (dLc (dSrc (dVar 0)) (tgN 1) (dYes) (dOp opInT (dVar 1) (dTup (aCons (dC (.str "o")) (aCons (dC (.str "-")) (aNil))))) [1]) aNil)))
def n_is_pattern_reading : List W → M W := dfn 2 1 d_is_pattern_reading
def d_Calendar_init (x1 : Nat) (x2 : Nat) (c5 : Nat) : DS :=
  dSeq (dIf (dNot (dTru (dCall n_is_pattern_reading (aCons (dVar 1) (aNil))))) (dRaise x1) (dNx))
  (dSeq (dDrop (dCall (n_require_stretches x2) (aCons (dVar 2) (aNil))))
  (dSeq (dDrop (dCall (n_require_stretches x2) (aCons (dVar 3) (aNil))))
  (dSeq (dSetF [c5] "signs" (dVar 0) (dVar 1))
  (dSeq (dSetF [c5] "open_signs" (dVar 0) (dLc (dEnumS (aCons (dVar 1) aNil)) (tgTup 2 (tgCons (tgN 7) (tgCons (tgN 8) (tgNil)))) (dBool (dOp opEq (dVar 8) (dC (.str "o")))) (dVar 7) [7, 8]))
  (dSeq (dSet 4 (dCall n_joined_stretches (aCons (dVar 2) (aNil))))
  (dSeq (dSet 5 (dCall n_without_stretches (aCons (dCall n_joined_stretches (aCons (dVar 3) (aNil))) (aCons (dVar 4) (aNil)))))
  (dSeq (dSet 6 (dLc (dSrc (dVar 4)) (tgTup 2 (tgCons (tgN 9) (tgCons (tgN 10) (tgNil)))) (dYes) (dTup (aCons (dVar 9) (aCons (dVar 10) (aCons (dC (.bl false)) (aNil))))) [9, 10]))
  (dSetF [c5] "parts" (dVar 0) (dFn opSortR (aCons (dOp opAdd (dVar 6) (dLc (dSrc (dVar 5)) (tgTup 2 (tgCons (tgN 9) (tgCons (tgN 10) (tgNil)))) (dYes) (dTup (aCons (dVar 9) (aCons (dVar 10) (aCons (dC (.bl true)) (aNil))))) [9, 10])) aNil))))))))))
def n_Calendar_init (x1 : Nat) (x2 : Nat) (c5 : Nat) : List W → M W := dfn 11 4 (d_Calendar_init x1 x2 c5)
def d_Calendar_pattern (c5 : Nat) : DS :=
  dRet (dFld [c5] "signs" (dVar 0))
def n_Calendar_pattern (c5 : Nat) : List W → M W := dfn 1 1 (d_Calendar_pattern c5)
def d_Calendar_part_index (c5 : Nat) : DS :=
  dSeq (dPar 2 3 (aCons (dC (.int 0)) (aCons (dFn opLen (aCons (dFld [c5] "parts" (dVar 0)) aNil)) (aNil))))
  (dSeq (dWhile (dBool (dOp opLt (dVar 2) (dVar 3))) (dSeq (dSet 4 (dOp opFdiv (dOp opAdd (dVar 2) (dVar 3)) (dC (.int 2))))
  (dIf (dBool (dOp opLt (dOp opIx (dOp opIx (dFld [c5] "parts" (dVar 0)) (dVar 4)) (dC (.int 1))) (dVar 1))) (dSet 2 (dOp opAdd (dVar 4) (dC (.int 1)))) (dSet 3 (dVar 4)))))
  (dRet (dVar 2)))
def n_Calendar_part_index (c5 : Nat) : List W → M W := dfn 5 2 (d_Calendar_part_index c5)
def d_Calendar_is_open (x3 : Nat) (c5 : Nat) : DS :=
  dSeq (dDrop (dCall (n_require_day x3) (aCons (dVar 1) (aNil))))
  (dSeq (dSet 2 (dMeth [c5] "part_index" (n_Calendar_part_index c5) (dVar 0) (aCons (dVar 1) (aNil))))
  (dSeq (dIf (dAnd (dBool (dOp opLt (dVar 2) (dFn opLen (aCons (dFld [c5] "parts" (dVar 0)) aNil)))) (dBool (dOp opLe (dOp opIx (dOp opIx (dFld [c5] "parts" (dVar 0)) (dVar 2)) (dC (.int 0))) (dVar 1)))) (dRet (dOp opIx (dOp opIx (dFld [c5] "parts" (dVar 0)) (dVar 2)) (dC (.int 2)))) (dNx))
  (dRet (dOp opEq (dOp opIx (dFld [c5] "signs" (dVar 0)) (dOp opMod (dVar 1) (dFn opLen (aCons (dFld [c5] "signs" (dVar 0)) aNil)))) (dC (.str "o"))))))
def n_Calendar_is_open (x3 : Nat) (c5 : Nat) : List W → M W := dfn 3 2 (d_Calendar_is_open x3 c5)
end
/-! ### rows of two ints -/
abbrev pW (p : Stretch) : W := .tup [.int p.1, .int p.2]
theorem pW_row (p : Stretch) : pW p = rowW (p, none) := rfl
theorem map_pW (l : List Stretch) : l.map pW = (l.map fun p => ((p, none) : Part)).map rowW := by
  rw [List.map_map]; rfl
/-- a list of pairs, or a tuple of them -/
def Strs (S : Store) (w : W) (l : List Stretch) : Prop := (∃ n, w = .ref n ∧ S[n]? = some (.lst (l.map pW))) ∨ w = .tup (l.map pW)
theorem Strs.mono {S S' : Store} {w : W} {l : List Stretch} (h : Strs S w l) (f : Fr 0 S S') : Strs S' w l := h.imp (fun ⟨n, e, g⟩ => ⟨n, e, f.g0 g⟩) id
theorem Strs.rows {S : Store} {w : W} {l : List Stretch} (h : Strs S w l) : rowsOf w S = some (l.map fun p => ((p, none) : Part)) := by
  rcases h with ⟨n, rfl, g⟩ | rfl
  · rw [map_pW] at g
    exact rowsOf_ref g
  · rw [map_pW]
    exact rowsOf_tup
theorem Strs.src {S : Store} {w : W} {l : List Stretch} (h : Strs S w l) : ∃ g : Store → Prop, srcW w S = some ⟨l.map pW, g⟩ ∧ ∀ S', Fr 0 S S' → g S' := by
  rcases h with ⟨n, rfl, g⟩ | rfl
  · exact ⟨_, srcW_ref g, fun S' f => f.g0 g⟩
  · exact ⟨_, srcW_tup, fun _ _ => trivial⟩
theorem Strs.ty {S : Store} {w : W} {l : List Stretch} (h : Strs S w l) : tyN w S = some "list" ∨ tyN w S = some "tuple" := by
  rcases h with ⟨n, rfl, g⟩ | rfl
  · exact .inl (tyN_ref g)
  · exact .inr tyN_tup
theorem atI_end {α : Type} {xs : List α} {x : α} : atI (xs ++ [x]) (-1) = some x := by
  unfold atI ixN
  have h1 : ¬ ((0 : Int) ≤ -1) := by decide
  have h2 : -(((xs ++ [x]).length : Nat) : Int) ≤ -1 := by simp; omega
  rw [if_neg h1, if_pos h2]
  have h3 : (-1 + (((xs ++ [x]).length : Nat) : Int)).toNat = xs.length := by simp; omega
  simp only [Option.bind_some, h3]
  simp
theorem ixN_end {α : Type} {xs : List α} {x : α} : ixN (xs ++ [x]).length (-1) = some xs.length := by
  unfold ixN
  have h1 : ¬ ((0 : Int) ≤ -1) := by decide
  have h2 : -(((xs ++ [x]).length : Nat) : Int) ≤ -1 := by simp; omega
  rw [if_neg h1, if_pos h2]
  congr 1
  simp; omega
theorem set_end {α : Type} {xs : List α} {x y : α} : (xs ++ [x]).set xs.length y = xs ++ [y] := by
  rw [List.set_append_right _ _ (Nat.le_refl _)]
  simp
theorem toD_pW {S : Store} {k : Nat} (p : Stretch) : toD S (k + 2) (pW p) = some (.tuple [.int p.1, .int p.2]) := rfl
theorem opNe_pairs_nil {n m : Nat} {l : List Stretch} {S : Store} (h1 : S[n]? = some (.lst (l.map pW))) (h2 : S[m]? = some (.lst [])) : opNe (.ref n) (.ref m) S = some (.bl (!l.isEmpty), S) := by
  unfold opNe
  rw [toD_lst h1, toD_lst h2, mapO_map (g := fun p : Stretch => PyData.tuple [.int p.1, .int p.2]) fun p _ => toD_pW p]
  show some (W.bl (!PyData.eqv _ _), S) = _
  rw [eqv_nil]
section
variable {S : Store} {E : Ex → Store → Prop}
theorem perm012 {a b c : W} : permW [0, 1, 2] [a, b, c] = some [a, b, c] := rfl
theorem is_stretch_spec {p : Stretch} : wp (n_is_stretch [pW p] S) (fun r S' => r = .bl (decide (p.1 ≤ p.2)) ∧ S' = S) E := by
  have e1 : permW [0, 1, 2] [W.int p.1, .non, .non] = some [W.int p.1, .non, .non] := rfl
  have e2 : permW [0, 1, 3] [W.int p.2, W.int p.1, .non, .non] = some [W.int p.2, W.int p.1, .non] := rfl
  unfold n_is_stretch d_is_stretch n_is_integer d_is_integer
  simp only [WPA, Nat.reduceSub, Nat.reduceAdd, tgN, tgNil, tgCons, tgTup, wipeE, isT, String.reduceBEq, reduceIte, e1, e2]
  have e3 : (!(((2 : Nat) : Int) == 2)) = false := rfl
  simp only [e3, Bool.false_eq_true, if_false]
  cases decide (p.1 ≤ p.2) <;> simp
theorem require_day_spec {x3 : Nat} {d : Int} : wp (n_require_day x3 [.int d] S) (fun r S' => r = .non ∧ S' = S) E := by
  have e1 : permW [0, 1, 2] [W.int d, .non, .non] = some [W.int d, .non, .non] := rfl
  unfold n_require_day d_require_day n_is_day d_is_day n_is_integer d_is_integer
  simp only [WPA, Nat.reduceSub, Nat.reduceAdd, tgN, tgNil, tgCons, tgTup, wipeE, isT, String.reduceBEq, reduceIte, e1]
theorem require_stretches_spec {x2 : Nat} {w : W} {l : List Stretch} (h : Strs S w l) (hn : ∀ p ∈ l, p.1 ≤ p.2) (hl : l.length ≤ 100000) : wp (n_require_stretches x2 [w] S) (fun r S' => r = .non ∧ Fr 0 S S') E := by
  obtain ⟨g, h3, h4⟩ := h.src
  unfold n_require_stretches d_require_stretches
  rcases h.ty with h1 | h1
  all_goals
    simp only [WPA, Nat.reduceSub, Nat.reduceAdd, tgN, tgNil, tgCons, tgTup, wipeE, isT, String.reduceBEq, reduceIte, h1, h3, List.length_map, lenOk_of (show l.length ≤ 1000000 by omega)]
    refine wp_mono (wp_lcF (f := fun _ => W.bl true) (fun S' => Fr 0 S S') Fr.refl h4 ?_) ?_ (fun _ _ q => q)
    · intro i p S' e f
      simp only [WPA, Nat.reduceSub, Nat.reduceAdd, tgN, tgNil, tgCons, tgTup, wipeE, isT, String.reduceBEq, reduceIte]
      refine wp_mono is_stretch_spec ?_ (fun _ _ q => q)
      rintro r S2 ⟨rfl, rfl⟩
      exact ⟨by rw [decide_eq_true (hn p (List.mem_of_getElem? e))], f⟩
    · rintro ws S' ⟨rfl, f⟩
      have e : (S' ++ [O.lst (l.map fun _ => W.bl true)])[S'.length]? = some (.lst ((l.map fun _ => true).map W.bl)) := by
        rw [List.map_map]; exact get_new
      have e2 : ((l.map fun _ => true).all id) = true := by simp
      rw [opAll_ref e, wO_some]
      simp only [WPA, Nat.reduceSub, Nat.reduceAdd, tgN, tgNil, tgCons, tgTup, wipeE, isT, String.reduceBEq, reduceIte, e2]
      exact f.snoc
theorem sort_none {l : List Stretch} : ∃ m : List Stretch, (l.map fun p => ((p, none) : Part)).mergeSort leR = m.map (fun p => ((p, none) : Part)) ∧ m.Perm l ∧ m.Pairwise fun p q => p.1 ≤ q.1 := by
  have hp := List.mergeSort_perm (l.map fun p => ((p, none) : Part)) leR
  have hs := leR_sorted (l.map fun p => ((p, none) : Part))
  generalize (l.map fun p => ((p, none) : Part)).mergeSort leR = M at hp hs
  have hnone : ∀ x ∈ M, x.2 = none := fun x hx => by
    obtain ⟨p, _, rfl⟩ := List.mem_map.mp (hp.mem_iff.mp hx)
    rfl
  have e : (M.map (·.1)).map (fun p => ((p, none) : Part)) = M := by
    rw [List.map_map]
    conv => rhs; rw [← List.map_id M]
    exact List.map_congr_left fun x hx => Prod.ext rfl (hnone x hx).symm
  refine ⟨M.map (·.1), e.symm, ?_, List.pairwise_map.mpr (hs.imp fun {x y} z => ?_)⟩
  · have q := hp.map (·.1)
    rw [List.map_map] at q
    have e2 : (l.map ((fun x : Part => x.1) ∘ fun p => ((p, none) : Part))) = l := by
      conv => rhs; rw [← List.map_id l]
      exact List.map_congr_left fun x _ => rfl
    rw [e2] at q
    exact q
  · unfold leR at z
    simp only [Bool.not_eq_true'] at z
    have := SrtO.lexB_no.mp z
    omega
theorem joined_spec {w : W} {l : List Stretch} (h : Strs S w l) (hn : ∀ p ∈ l, p.1 ≤ p.2) (hl : l.length ≤ 100000) : wp (n_joined_stretches [w] S) (fun r S' => ∃ n f, r = .ref n ∧ S'[n]? = some (.lst (f.map pW)) ∧ S.length ≤ n ∧ Asc f ∧ (∀ d, InS f d ↔ InS l d) ∧ f.length ≤ l.length ∧ Fr 0 S S') E := by
  obtain ⟨m, hm, hp, hs⟩ := sort_none (l := l)
  have hfit : rowsFit (l.map fun p => ((p, none) : Part)) := by
    have hnone : ∀ x ∈ (l.map fun p => ((p, none) : Part)), x.2 = none := fun x hx => by
      obtain ⟨p, _, rfl⟩ := List.mem_map.mp hx
      rfl
    exact ⟨fun x hx y hy => by rw [hnone x hx, hnone y hy], fun x hx y hy _ => by rw [hnone x hx, hnone y hy]⟩
  unfold n_joined_stretches d_joined_stretches
  simp only [WPA, Nat.reduceSub, Nat.reduceAdd, tgN, tgNil, tgCons, tgTup, wipeE, isT, String.reduceBEq, reduceIte, lenOk_of (show 0 ≤ 1000000 by omega)]
  have h1 : Strs (S ++ [.lst []]) w l := h.mono Fr.refl.snoc
  rw [opSortR_rows h1.rows hfit, hm, ← map_pW, wO_some]
  have g1 : ((S ++ [O.lst []]) ++ [O.lst (m.map pW)])[S.length]? = some (.lst (([] : List Stretch).map pW)) := by
    rw [List.getElem?_append_left (by simp)]; exact get_new
  have g2 : ((S ++ [O.lst []]) ++ [O.lst (m.map pW)])[(S ++ [O.lst []]).length]? = some (.lst (m.map pW)) := get_new
  have fr : Fr 0 S ((S ++ [O.lst []]) ++ [O.lst (m.map pW)]) := Fr.refl.snoc.snoc
  have hne : S.length ≠ (S ++ [O.lst []]).length := by simp
  have hle : S.length ≤ (S ++ [O.lst []]).length := by simp
  generalize (S ++ [O.lst []]).length = n2 at g2 hne hle ⊢
  generalize (S ++ [O.lst []]) ++ [O.lst (m.map pW)] = S1 at g1 g2 fr ⊢
  simp only [srcW_ref g2, WPA, Nat.reduceSub, Nat.reduceAdd, tgN, tgNil, tgCons, tgTup, wipeE, isT, String.reduceBEq, reduceIte]
  refine wpS_forL (fun i ε' S' => ∃ f a b, ε' = [some w, some (.ref S.length), a, b] ∧ S'[S.length]? = some (.lst (f.map pW)) ∧ S'[n2]? = some (.lst (m.map pW)) ∧ Fr 0 S S' ∧ JInv (m.take i) f ∧ f.length ≤ i)
    ⟨[], none, none, rfl, g1, g2, fr, JInv.nil, Nat.le_refl _⟩ (fun i ε' S' _ ⟨f, a, b, _, _, g, _⟩ => g) ?_ ?_
  · rintro i x ε' S' e ⟨f, a, b, rfl, k1, k2, k3, J, hfl⟩
    rw [List.getElem?_map, Option.map_eq_some_iff] at e
    obtain ⟨p, e1, rfl⟩ := e
    have hpm := List.mem_of_getElem? e1
    have hpn := hn p (hp.mem_iff.mp hpm)
    have htk : m.take (i + 1) = m.take i ++ [p] := by rw [List.take_succ, e1]; rfl
    have hi := (List.getElem?_eq_some_iff.mp e1).1
    have hlm := hp.length_eq
    have hsort : ∀ r ∈ m.take i, r.1 ≤ p.1 := fun r hr => by
      obtain ⟨j, hj, ej⟩ := List.mem_take_iff_getElem.mp hr
      have := List.pairwise_iff_getElem.mp hs j i (by omega) hi (by omega)
      rw [ej] at this
      have e3 := (List.getElem?_eq_some_iff.mp e1).2
      rw [e3] at this
      exact this
    rw [htk]
    have k1' : (S' ++ [O.lst []])[S.length]? = some (.lst (f.map pW)) := by rw [List.getElem?_append_left (get_lt k1)]; exact k1
    have k2' : (S' ++ [O.lst []])[n2]? = some (.lst (m.map pW)) := by rw [List.getElem?_append_left (get_lt k2)]; exact k2
    have k3' : Fr 0 S (S' ++ [O.lst []]) := k3.snoc
    simp only [WPA, Nat.reduceSub, Nat.reduceAdd, tgN, tgNil, tgCons, tgTup, wipeE, isT, String.reduceBEq, reduceIte, lenOk_of (show 0 ≤ 1000000 by omega)]
    rw [opNe_pairs_nil k1' get_new]
    generalize S' ++ [O.lst []] = S2 at k1' k2' k3' ⊢
    have l2 := lenOk_of (show 2 ≤ 1000000 by omega)
    have fin : ∀ f', JInv (m.take i ++ [p]) f' → f'.length ≤ i + 1 → ∃ f'' a b, [some w, some (W.ref S.length), some (W.int p.1), some (W.int p.2)] = [some w, some (W.ref S.length), a, b] ∧ (S2.set S.length (.lst (f'.map pW)))[S.length]? = some (.lst (f''.map pW)) ∧ (S2.set S.length (.lst (f'.map pW)))[n2]? = some (.lst (m.map pW)) ∧ Fr 0 S (S2.set S.length (.lst (f'.map pW))) ∧ JInv (m.take i ++ [p]) f'' ∧ f''.length ≤ i + 1 := fun f' J' hl' =>
      ⟨f', _, _, rfl, get_set k1', by rw [List.getElem?_set_ne hne]; exact k2', k3'.setN (Nat.le_refl _), J', hl'⟩
    have push : JInv (m.take i ++ [p]) (f ++ [p]) → tyM "list" (W.ref S.length) S2 = true ∧ lenOk 2 = true ∧ wO (mAppend (W.ref S.length) [W.tup [W.int p.1, W.int p.2]] S2) fun p_2 =>
        ∃ f a b, [some w, some (W.ref S.length), some (W.int p.1), some (W.int p.2)] = [some w, some (W.ref S.length), a, b] ∧ p_2.2[S.length]? = some (.lst (f.map pW)) ∧ p_2.2[n2]? = some (.lst (m.map pW)) ∧ Fr 0 S p_2.2 ∧ JInv (m.take i ++ [p]) f ∧ f.length ≤ i + 1 := fun J' => by
      refine ⟨tyM_ref k1', l2, ?_⟩
      rw [mAppend_ref k1', if_pos (by rw [List.length_map, sizeLine_eq]; omega), wO_some]
      have e4 : f.map pW ++ [W.tup [W.int p.1, W.int p.2]] = (f ++ [p]).map pW := by rw [List.map_append]; rfl
      rw [e4]
      exact fin _ J' (by simp; omega)
    rw [wO_some, wB_bl]
    rcases List.eq_nil_or_concat f with rfl | ⟨g, q, rfl⟩
    · rw [if_neg (by simp)]
      refine push (J.push hpn fun q hq => by simp at hq)
    · rw [if_pos (by simp)]
      have eg : (g ++ [q]).map pW = g.map pW ++ [pW q] := by rw [List.map_append]; rfl
      have n1 : opNeg (W.int 1) S2 = some (.int (-1), S2) := rfl
      simp only [List.concat_eq_append] at k1' hfl J fin push ⊢
      have k1 := k1'
      rw [eg] at k1
      have ix : opIx (.ref S.length) (.int (-1)) S2 = some (pW q, S2) := by
        rw [opIx_ref, lstAt_of k1]
        simp only [Option.bind_some, atI_end, Option.map_some]
      have six : ∀ v, setIx (.ref S.length) (.int (-1)) v S2 = some (S2.set S.length (.lst (g.map pW ++ [v]))) := fun v => by
        rw [setIx_ref k1, ixN_end, Option.map_some, set_end]
      simp only [n1, ix, WPA, Nat.reduceSub, Nat.reduceAdd, tgN, tgNil, tgCons, tgTup, wipeE, isT, String.reduceBEq, reduceIte]
      by_cases e5 : p.1 ≤ q.2 + 1
      · rw [if_pos (decide_eq_true e5)]
        simp only [n1, ix, six, WPA, Nat.reduceSub, Nat.reduceAdd, tgN, tgNil, tgCons, tgTup, wipeE, isT, String.reduceBEq, reduceIte, l2]
        have e6 : g.map pW ++ [W.tup [W.int q.1, W.int (if p.2 > q.2 then p.2 else q.2)]] = (g ++ [(q.1, if p.2 > q.2 then p.2 else q.2)]).map pW := by rw [List.map_append]; rfl
        rw [e6]
        exact fin _ (J.near hpn hsort e5) (by simp at hfl ⊢; omega)
      · rw [if_neg (by rw [decide_eq_false e5]; decide)]
        exact push (J.far hpn (by omega))
  · rintro ε' S' ⟨f, a, b, rfl, k1, k2, k3, J, hfl⟩
    rw [List.length_map, List.take_length] at J
    rw [List.length_map] at hfl
    simp only [WPA, Nat.reduceSub, Nat.reduceAdd, tgN, tgNil, tgCons, tgTup, wipeE, isT, String.reduceBEq, reduceIte]
    exact ⟨S.length, f, rfl, k1, Nat.le_refl _, J.asc, fun d => (J.mem d).trans (InS.perm hp), by rw [← hp.length_eq]; exact hfl, k3⟩
theorem asc_lt {A : List Stretch} (h : Asc A) {i : Nat} {p : Stretch} (e : A[i]? = some p) : ∀ s ∈ A.take i, s.2 < p.1 := fun s hs => by
  obtain ⟨j, hj, ej⟩ := List.mem_take_iff_getElem.mp hs
  have hi := (List.getElem?_eq_some_iff.mp e).1
  have := List.pairwise_iff_getElem.mp h.pw j i (by omega) hi (by omega)
  rw [ej, (List.getElem?_eq_some_iff.mp e).2] at this
  exact this
theorem without_spec {n1 n2 : Nat} {A Os : List Stretch} (h1 : S[n1]? = some (.lst (A.map pW))) (h2 : S[n2]? = some (.lst (Os.map pW))) (hA : Asc A) (hO : Asc Os) (hl : A.length * (Os.length + 1) ≤ 900000) (hl2 : A.length ≤ 100000) (hl3 : Os.length ≤ 100000) :
    wp (n_without_stretches [.ref n1, .ref n2] S) (fun r S' => ∃ n f, r = .ref n ∧ S'[n]? = some (.lst (f.map pW)) ∧ S.length ≤ n ∧ Asc f ∧ (∀ d, InS f d ↔ InS A d ∧ ¬ InS Os d) ∧ f.length ≤ A.length * (Os.length + 1) ∧ Fr 0 S S') E := by
  have l2 := lenOk_of (show 2 ≤ 1000000 by omega)
  unfold n_without_stretches d_without_stretches
  simp only [WPA, Nat.reduceSub, Nat.reduceAdd, tgN, tgNil, tgCons, tgTup, wipeE, isT, String.reduceBEq, reduceIte, lenOk_of (show 0 ≤ 1000000 by omega)]
  have g0 : (S ++ [O.lst []])[S.length]? = some (.lst (([] : List Stretch).map pW)) := get_new
  have g1 : (S ++ [O.lst []])[n1]? = some (.lst (A.map pW)) := by rw [List.getElem?_append_left (get_lt h1)]; exact h1
  have g2 : (S ++ [O.lst []])[n2]? = some (.lst (Os.map pW)) := by rw [List.getElem?_append_left (get_lt h2)]; exact h2
  have ne1 : S.length ≠ n1 := Nat.ne_of_gt (get_lt h1)
  have ne2 : S.length ≠ n2 := Nat.ne_of_gt (get_lt h2)
  have fr : Fr 0 S (S ++ [O.lst []]) := Fr.refl.snoc
  generalize S ++ [O.lst []] = S1 at g0 g1 g2 fr ⊢
  simp only [srcW_ref g1, WPA, Nat.reduceSub, Nat.reduceAdd, tgN, tgNil, tgCons, tgTup, wipeE, isT, String.reduceBEq, reduceIte]
  refine wpS_forL (fun i ε' S' => ∃ f a b c d, ε' = [some (.ref n1), some (.ref n2), some (.ref S.length), a, b, c, d] ∧ S'[S.length]? = some (.lst (f.map pW)) ∧ S'[n1]? = some (.lst (A.map pW)) ∧ S'[n2]? = some (.lst (Os.map pW)) ∧ Fr 0 S S' ∧ WOut (A.take i) Os f ∧ f.length ≤ i * (Os.length + 1))
    ⟨[], none, none, none, none, rfl, g0, g1, g2, fr, WOut.nil, Nat.zero_le _⟩ (fun i ε' S' _ ⟨f, _, _, _, _, _, _, g, _⟩ => g) ?_ ?_
  · rintro i x ε' S' e ⟨f0, a, b, c, d, rfl, k0, k1, k2, k3, wo, hfl⟩
    rw [List.getElem?_map, Option.map_eq_some_iff] at e
    obtain ⟨⟨a, b⟩, e1, rfl⟩ := e
    have hab := hA.ne _ (List.mem_of_getElem? e1)
    have htk : A.take (i + 1) = A.take i ++ [(a, b)] := by rw [List.take_succ, e1]; rfl
    have hi := (List.getElem?_eq_some_iff.mp e1).1
    have hmul : (i + 1) * (Os.length + 1) ≤ A.length * (Os.length + 1) := Nat.mul_le_mul_right _ hi
    have hexp : (i + 1) * (Os.length + 1) = i * (Os.length + 1) + (Os.length + 1) := by rw [Nat.add_mul, Nat.one_mul]
    have hbase : ∀ p ∈ f0, p.2 < a := fun p hp => by
      obtain ⟨s, hs1, hs2⟩ := wo.top p hp
      have := asc_lt hA e1 s hs1
      simp only at this
      omega
    rw [htk]
    simp only [WPA, Nat.reduceSub, Nat.reduceAdd, tgN, tgNil, tgCons, tgTup, wipeE, isT, String.reduceBEq, reduceIte, srcW_ref k2]
    refine wpS_forL (fun j ε' S' => ∃ fnd f c d, ε' = [some (.ref n1), some (.ref n2), some (.ref S.length), some (.int f), some (.int b), c, d] ∧ S'[S.length]? = some (.lst (fnd.map pW)) ∧ S'[n1]? = some (.lst (A.map pW)) ∧ S'[n2]? = some (.lst (Os.map pW)) ∧ Fr 0 S S' ∧ WIn a b f0 (Os.take j) fnd f ∧ fnd.length ≤ f0.length + j)
      ⟨f0, a, c, d, rfl, k0, k1, k2, k3, WIn.start wo.asc hbase, Nat.le_refl _⟩ (fun j ε' S' _ ⟨_, _, _, _, _, _, _, g, _⟩ => g) ?_ ?_
    · rintro j x ε' S2 e ⟨fnd, f, c', d', rfl, m0, m1, m2, m3, w, hwl⟩
      rw [List.getElem?_map, Option.map_eq_some_iff] at e
      obtain ⟨q, e2, rfl⟩ := e
      have hq := hO.ne _ (List.mem_of_getElem? e2)
      have hqs := asc_lt hO e2
      have htk2 : Os.take (j + 1) = Os.take j ++ [q] := by rw [List.take_succ, e2]; rfl
      have hj := (List.getElem?_eq_some_iff.mp e2).1
      rw [htk2]
      simp only [WPA, Nat.reduceSub, Nat.reduceAdd, tgN, tgNil, tgCons, tgTup, wipeE, isT, String.reduceBEq, reduceIte]
      by_cases t1 : q.2 < f
      · rw [if_pos (decide_eq_true t1)]
        exact ⟨fnd, f, _, _, rfl, m0, m1, m2, m3, w.skip hq hqs (.inl t1), by omega⟩
      · rw [if_neg (by rw [decide_eq_false t1]; decide)]
        by_cases t2 : b < q.1
        · rw [if_pos (decide_eq_true t2)]
          exact ⟨fnd, f, _, _, rfl, m0, m1, m2, m3, w.skip hq hqs (.inr t2), by omega⟩
        · rw [if_neg (by rw [decide_eq_false t2]; decide)]
          have cut := w.cut hq hqs (by omega) (by omega)
          by_cases t3 : f < q.1
          · rw [if_pos (decide_eq_true t3)]
            rw [if_pos t3] at cut
            refine ⟨tyM_ref m0, l2, ?_⟩
            rw [mAppend_ref m0, if_pos (by rw [List.length_map, sizeLine_eq]; omega), wO_some]
            have e4 : fnd.map pW ++ [W.tup [W.int f, W.int (q.1 - 1)]] = (fnd ++ [(f, q.1 - 1)]).map pW := by rw [List.map_append]; rfl
            rw [e4]
            exact ⟨_, _, _, _, rfl, get_set m0, by rw [List.getElem?_set_ne ne1]; exact m1, by rw [List.getElem?_set_ne ne2]; exact m2, m3.setN (Nat.le_refl _), cut, by simp; omega⟩
          · rw [if_neg (by rw [decide_eq_false t3]; decide)]
            rw [if_neg t3] at cut
            exact ⟨_, _, _, _, rfl, m0, m1, m2, m3, cut, by omega⟩
    · rintro ε' S2 ⟨fnd, f, c', d', rfl, m0, m1, m2, m3, w, hwl⟩
      rw [List.length_map, List.take_length] at w
      rw [List.length_map] at hwl
      have fi := w.finish wo
      simp only [WPA, Nat.reduceSub, Nat.reduceAdd, tgN, tgNil, tgCons, tgTup, wipeE, isT, String.reduceBEq, reduceIte]
      by_cases t3 : f ≤ b
      · rw [if_pos (decide_eq_true t3)]
        rw [if_pos t3] at fi
        refine ⟨tyM_ref m0, l2, ?_⟩
        rw [mAppend_ref m0, if_pos (by rw [List.length_map, sizeLine_eq]; omega), wO_some]
        have e4 : fnd.map pW ++ [W.tup [W.int f, W.int b]] = (fnd ++ [(f, b)]).map pW := by rw [List.map_append]; rfl
        rw [e4]
        exact ⟨_, _, _, _, _, rfl, get_set m0, by rw [List.getElem?_set_ne ne1]; exact m1, by rw [List.getElem?_set_ne ne2]; exact m2, m3.setN (Nat.le_refl _), fi, by simp; omega⟩
      · rw [if_neg (by rw [decide_eq_false t3]; decide)]
        rw [if_neg t3] at fi
        exact ⟨_, _, _, _, _, rfl, m0, m1, m2, m3, fi, by omega⟩
  · rintro ε' S' ⟨f, a, b, c, d, rfl, k0, k1, k2, k3, wo, hfl⟩
    rw [List.length_map, List.take_length] at wo
    rw [List.length_map] at hfl
    simp only [WPA, Nat.reduceSub, Nat.reduceAdd, tgN, tgNil, tgCons, tgTup, wipeE, isT, String.reduceBEq, reduceIte]
    exact ⟨S.length, f, rfl, k0, Nat.le_refl _, wo.asc, wo.mem, hfl, k3⟩
end
end N
/-! PC: calendars: made, and asked whether they are open. -/
namespace N
open PySem L2
theorem str_o : ("o" : Str) = ⟨#[111]⟩ := by decide +kernel
theorem str_m : ("-" : Str) = ⟨#[45]⟩ := by decide +kernel
theorem one_eq {c e : Nat} : ((⟨#[c]⟩ : Str) == ⟨#[e]⟩) = (c == e) := by
  rw [Bool.eq_iff_iff, beq_iff_eq, beq_iff_eq]
  constructor
  · intro h
    have h1 := congrArg Str.cps h
    have h2 := congrArg Array.toList h1
    simpa using h2
  · rintro rfl; rfl
structure PatOk (x : Str) : Prop where
  lo : 1 ≤ x.length
  hi : x.length ≤ 8
  all : ∀ c ∈ x.cps.toList, c = 111 ∨ c = 45
  has : 111 ∈ x.cps.toList
theorem PatOk.ok {x : Str} (h : PatOk x) : okS x = true := by
  unfold okS
  rw [List.all_eq_true]
  intro c hc
  rcases h.all c hc with rfl | rfl <;> decide
theorem okS_signs {x : Str} : signsW x = x.cps.toList.map fun c => W.str ⟨#[c]⟩ := rfl
/-- whether the sign of a pattern on a day is open -/
def signB (x : Str) (d : Int) : Bool := decide (x.cps.toList[(d % (x.length : Int)).toNat]? = some 111)
/-- the places of the open signs -/
def openSigns (x : Str) : List Int := (x.cps.toList.zipIdx.filter fun p => p.1 == 111).map fun p => (p.2 : Int)
theorem enum_signs {x : Str} : enumL (signsW x) = x.cps.toList.zipIdx.map fun p => W.tup [.int (p.2 : Nat), .str ⟨#[p.1]⟩] := by
  unfold enumL
  rw [okS_signs, List.length_map]
  refine List.ext_getElem? fun i => ?_
  rw [List.getElem?_zipWith, List.getElem?_map, List.getElem?_map, List.getElem?_zipIdx]
  cases e : x.cps.toList[i]? with
  | none => simp
  | some c =>
    have hl := (List.getElem?_eq_some_iff.mp e).1
    rw [List.getElem?_range hl]
    simp
section
variable {S : Store} {E : Ex → Store → Prop}
theorem opInT_sign {c : Nat} (h : c = 111 ∨ c = 45) : opInT (.str ⟨#[c]⟩) (.tup [.str "o", .str "-"]) S = some (.bl true, S) := by
  have e : opInT (.str ⟨#[c]⟩) (.tup [.str "o", .str "-"]) S = some (.bl ([("o" : Str), "-"].any fun y => y == ⟨#[c]⟩), S) := rfl
  rw [e, str_o, str_m]
  simp only [List.any_cons, List.any_nil, one_eq, Bool.or_false]
  rcases h with rfl | rfl <;> rfl
theorem opNotIn_o {x : Str} (h : 111 ∈ x.cps.toList) : opNotIn (.str "o") (.str x) S = some (.bl false, S) := by
  rw [str_o]
  show some (W.bl (!decide (111 ∈ x.cps.toList)), S) = _
  rw [decide_eq_true h]; rfl
theorem is_pattern_spec {x : Str} (h : PatOk x) : wp (n_is_pattern_reading [.str x] S) (fun r S' => r = .bl true ∧ Fr 0 S S') E := by
  have h1 := h.lo
  have h2 := h.hi
  have hl : x.length ≤ sizeLine := by rw [sizeLine_eq]; omega
  have hl2 : x.cps.toList.length ≤ 1000000 := by have : x.cps.toList.length = x.length := rfl; omega
  have e1 : decide ((1 : Int) ≤ (x.length : Int)) = true := decide_eq_true (by omega)
  have e2 : decide ((x.length : Int) ≤ 8) = true := decide_eq_true (by omega)
  unfold n_is_pattern_reading d_is_pattern_reading
  simp only [WPA, Nat.reduceSub, Nat.reduceAdd, tgN, tgNil, tgCons, tgTup, wipeE, isT, String.reduceBEq, reduceIte, hl, e1, e2, opNotIn_o h.has, srcW, List.length_map, lenOk_of hl2]
  refine wp_mono (wp_lcF (f := fun _ => W.bl true) (fun S' => Fr 0 S S') Fr.refl (fun _ _ => trivial) ?_) ?_ (fun _ _ q => q)
  · intro i c S' e f
    simp only [WPA, Nat.reduceSub, Nat.reduceAdd, tgN, tgNil, tgCons, tgTup, wipeE, isT, String.reduceBEq, reduceIte, lenOk_of (show 2 ≤ 1000000 by omega), opInT_sign (h.all c (List.mem_of_getElem? e))]
    exact f
  · rintro ws S' ⟨rfl, f⟩
    have e : (S' ++ [O.lst (x.cps.toList.map fun _ => W.bl true)])[S'.length]? = some (.lst ((x.cps.toList.map fun _ => true).map W.bl)) := by
      rw [List.map_map]; exact get_new
    have e2 : ((x.cps.toList.map fun _ => true).all id) = true := by simp
    rw [opAll_ref e, wO_some]
    simp only [WPA, Nat.reduceSub, Nat.reduceAdd, tgN, tgNil, tgCons, tgTup, wipeE, isT, String.reduceBEq, reduceIte, e2]
    exact f.snoc
end
/-- the fields of a calendar -/
def calF (x : Str) (a b : Nat) : List (Str × W) := [("signs", .str x), ("open_signs", .ref a), ("parts", .ref b)]
/-- a calendar at n, its objects from B on -/
structure Cal (B ci : Nat) (S : Store) (n : Nat) (x : Str) (P : List Part) : Prop where
  ex : ∃ a b, S[n]? = some (.ins ci (calF x a b)) ∧ S[a]? = some (.lst ((openSigns x).map W.int)) ∧ S[b]? = some (.lst (P.map rowW)) ∧ B ≤ n ∧ B ≤ a ∧ B ≤ b
theorem Cal.mono {B ci n : Nat} {S S' : Store} {x : Str} {P : List Part} (c : Cal B ci S n x P) (f : Fr B S S') : Cal B ci S' n x P := by
  obtain ⟨a, b, h1, h2, h3, h4, h5, h6⟩ := c.ex
  exact ⟨a, b, f.get _ _ h4 h1, f.get _ _ h5 h2, f.get _ _ h6 h3, h4, h5, h6⟩
theorem Cal.low {B C ci n : Nat} {S : Store} {x : Str} {P : List Part} (c : Cal B ci S n x P) (h : C ≤ B) : Cal C ci S n x P := by
  obtain ⟨a, b, h1, h2, h3, h4, h5, h6⟩ := c.ex
  exact ⟨a, b, h1, h2, h3, by omega, by omega, by omega⟩
theorem ne_sp : (("parts" : Str) == "signs") = false := by decide +kernel
theorem ne_so : (("signs" : Str) == "open_signs") = false := by decide +kernel
theorem ne_os : (("open_signs" : Str) == "signs") = false := by decide +kernel
theorem ne_po : (("parts" : Str) == "open_signs") = false := by decide +kernel
theorem look_signs {x : Str} {a b : Nat} : (calF x a b).lookup ("signs" : Str) = some (.str x) := by
  unfold calF
  rw [List.lookup_cons, beq_self_eq_true]
theorem look_open {x : Str} {a b : Nat} : (calF x a b).lookup ("open_signs" : Str) = some (.ref a) := by
  unfold calF
  rw [List.lookup_cons, ne_os, List.lookup_cons, beq_self_eq_true]
theorem look_parts {x : Str} {a b : Nat} : (calF x a b).lookup ("parts" : Str) = some (.ref b) := by
  unfold calF
  rw [List.lookup_cons, ne_sp, List.lookup_cons, ne_po, List.lookup_cons, beq_self_eq_true]
theorem look_no {x m : Str} {a b : Nat} (h1 : (m == ("signs" : Str)) = false) (h2 : (m == ("open_signs" : Str)) = false) (h3 : (m == ("parts" : Str)) = false) : (calF x a b).lookup m = none := by
  unfold calF
  rw [List.lookup_cons, h1, List.lookup_cons, h2, List.lookup_cons, h3]; rfl
theorem con_self {ci : Nat} : [ci].contains ci = true := by simp
theorem put1 {v : W} : putI ("signs" : Str) v [] = [(("signs" : Str), v)] := rfl
theorem put2 {v w : W} : putI ("open_signs" : Str) w [(("signs" : Str), v)] = [(("signs" : Str), v), ("open_signs", w)] := by
  have h : ¬ (("signs" : Str) = "open_signs") := fun e => by have := ne_so; rw [e] at this; simp at this
  show (if ("signs" : Str) = "open_signs" then _ else _) = _
  rw [if_neg h]; rfl
theorem put3 {v w u : W} : putI ("parts" : Str) u [(("signs" : Str), v), ("open_signs", w)] = [(("signs" : Str), v), ("open_signs", w), ("parts", u)] := by
  have h : ¬ (("signs" : Str) = "parts") := fun e => by have := ne_sp; rw [← e] at this; simp at this
  have h2 : ¬ (("open_signs" : Str) = "parts") := fun e => by have := ne_po; rw [← e] at this; simp at this
  show (if ("signs" : Str) = "parts" then _ else (("signs" : Str), v) :: (if ("open_signs" : Str) = "parts" then _ else _)) = _
  rw [if_neg h, if_neg h2]; rfl
section
variable {S : Store} {E : Ex → Store → Prop} {ci : Nat}
theorem opIx_row0 {k : Part} : opIx (rowW k) (.int 0) S = some (.int k.1.1, S) := by
  obtain ⟨⟨a, b⟩, c⟩ := k
  cases c <;> rfl
theorem opIx_row1 {k : Part} : opIx (rowW k) (.int 1) S = some (.int k.1.2, S) := by
  obtain ⟨⟨a, b⟩, c⟩ := k
  cases c <;> rfl
theorem opIx_row2 {k : Part} {b : Bool} (h : k.2 = some b) : opIx (rowW k) (.int 2) S = some (.bl b, S) := by
  obtain ⟨⟨a, b⟩, c⟩ := k
  cases h
  rfl
theorem two_ok {i : Int} : divOk i 2 = true := divOk_of (by decide) (Nat.lt_of_lt_of_le (by decide : (2 : Int).natAbs < 2 ^ 2) (Nat.pow_le_pow_right (by decide) (by decide)))
theorem atI_rows {i : Nat} {P : List Part} {k : Part} (e : P[i]? = some k) : atI (P.map rowW) (i : Int) = some (rowW k) := by
  rw [atI_n, List.getElem?_map, e]; rfl
theorem part_index_spec {n : Nat} {x : Str} {P : List Part} {d : Int} {B : Nat} (c : Cal B ci S n x P) (hp : P.Pairwise fun x y => x.1.2 < y.1.1) (hn : ∀ x ∈ P, x.1.1 ≤ x.1.2) (hl : P.length ≤ 1000000) :
    wp (n_Calendar_part_index ci [.ref n, .int d] S) (fun r S' => ∃ i : Nat, r = .int i ∧ AtPart P d i ∧ S' = S) E := by
  obtain ⟨a, b, h1, h2, h3, _⟩ := c.ex
  have f1 := getF_ref (f := "parts") h1 con_self
  rw [look_parts, Option.map_some] at f1
  have ends : ∀ (i j : Nat) (y z : Part), P[i]? = some y → P[j]? = some z → i < j → y.1.2 < z.1.2 := fun i j y z e1 e2 hij => by
    have q := List.pairwise_iff_getElem.mp hp i j (List.getElem?_eq_some_iff.mp e1).1 (List.getElem?_eq_some_iff.mp e2).1 hij
    rw [(List.getElem?_eq_some_iff.mp e1).2, (List.getElem?_eq_some_iff.mp e2).2] at q
    have := hn z (List.mem_of_getElem? e2)
    omega
  unfold n_Calendar_part_index d_Calendar_part_index
  simp only [WPA, Nat.reduceSub, Nat.reduceAdd, tgN, tgNil, tgCons, tgTup, wipeE, isT, String.reduceBEq, reduceIte, wp_dFld, wpS_dSetF, wp_dMeth, wp_dMethK, wp_dMake, wp_dProp, wp_dEnumS, f1, opLen_ref h3, List.length_map]
  refine wpS_dWhileQ P.length (fun m ε' S' => ∃ (lo : Nat) (hi : Nat) (u : Option W), ε' = [some (.ref n), some (.int d), some (.int lo), some (.int hi), u] ∧ S' = S ∧ lo ≤ hi ∧ hi ≤ P.length ∧ m = hi - lo ∧ (∀ (j : Nat) y, P[j]? = some y → j < lo → y.1.2 < d) ∧ ∀ (j : Nat) y, P[j]? = some y → hi ≤ j → d ≤ y.1.2)
    (fun ε' S' => ∃ (lo : Nat) (u : Option W) (v : Option W), ε' = [some (.ref n), some (.int d), some (.int lo), u, v] ∧ S' = S ∧ AtPart P d lo) (Nat.lt_of_le_of_lt hl (by decide)) ⟨0, P.length, none, rfl, rfl, Nat.zero_le _, Nat.le_refl _, rfl, fun j y _ h => absurd h (Nat.not_lt_zero _), fun j y e h => absurd (List.getElem?_eq_some_iff.mp e).1 (by omega)⟩ ?_ ?_
  · rintro m ε' S' ⟨lo, hi, u, rfl, rfl, q1, q2, rfl, q3, q4⟩
    simp only [WPA, Nat.reduceSub, Nat.reduceAdd, tgN, tgNil, tgCons, tgTup, wipeE, isT, String.reduceBEq, reduceIte]
    by_cases hlt : lo < hi
    · rw [if_pos (decide_eq_true (by omega))]
      have hm : (lo + hi) / 2 < P.length := by omega
      have em : P[(lo + hi) / 2]? = some P[(lo + hi) / 2] := List.getElem?_eq_getElem hm
      generalize P[(lo + hi) / 2] = y at em
      have dv : divOk ((lo : Int) + hi) 2 = true := two_ok
      have mid : ((lo : Int) + hi) / 2 = (((lo + hi) / 2 : Nat) : Int) := by omega
      simp only [WPA, Nat.reduceSub, Nat.reduceAdd, tgN, tgNil, tgCons, tgTup, wipeE, isT, String.reduceBEq, reduceIte, wp_dFld, wpS_dSetF, wp_dMeth, wp_dMethK, wp_dMake, wp_dProp, wp_dEnumS, dv, mid, f1, lstAt_of h3, atI_rows em, opIx_row1]
      by_cases t : y.1.2 < d
      · rw [if_pos (decide_eq_true t)]
        refine ⟨hi - ((lo + hi) / 2 + 1), by omega, (lo + hi) / 2 + 1, hi, _, rfl, by omega, q2, rfl, fun j z e hj => ?_, q4⟩
        by_cases e2 : j = (lo + hi) / 2
        · subst e2; rw [em] at e; cases e; exact t
        · have := ends j _ z y e em (by omega); omega
      · rw [if_neg (by rw [decide_eq_false t]; decide)]
        refine ⟨(lo + hi) / 2 - lo, by omega, lo, (lo + hi) / 2, _, rfl, by omega, by omega, rfl, q3, fun j z e hj => ?_⟩
        by_cases e2 : j = (lo + hi) / 2
        · subst e2; rw [em] at e; cases e; omega
        · have := ends _ j y z em e (by omega); omega
    · rw [if_neg (by rw [decide_eq_false (by omega)]; decide)]
      have e : lo = hi := by omega
      subst e
      exact ⟨lo, _, _, rfl, q2, q3, q4⟩
  · rintro ε' S' ⟨lo, u, v, rfl, rfl, A⟩
    simp only [WPA, Nat.reduceSub, Nat.reduceAdd, tgN, tgNil, tgCons, tgTup, wipeE, isT, String.reduceBEq, reduceIte]
    exact ⟨lo, rfl, A⟩
theorem opIx_sign {x : Str} {d : Int} (h : PatOk x) : ∃ c, x.cps.toList[(d % (x.length : Int)).toNat]? = some c ∧ opIx (.str x) (.int (d % (x.length : Int))) S = some (.str ⟨#[c]⟩, S) := by
  have h1 := h.lo
  have h2 := h.hi
  have hl : x.length ≤ sizeLine := by rw [sizeLine_eq]; omega
  have p1 := Int.emod_nonneg d (show (x.length : Int) ≠ 0 by omega)
  have p2 := Int.emod_lt_of_pos d (show (0 : Int) < x.length by omega)
  have hlt : (d % (x.length : Int)).toNat < x.cps.toList.length := by
    have : x.cps.toList.length = x.length := rfl
    omega
  refine ⟨x.cps.toList[(d % (x.length : Int)).toNat], List.getElem?_eq_getElem hlt, ?_⟩
  show (if x.length ≤ sizeLine then _ else _) = _
  rw [if_pos hl, atI_nn p1, List.getElem?_eq_getElem hlt]
  rfl
theorem is_open_spec {x3 n : Nat} {x : Str} {P : List Part} {d : Int} {C Op : Int → Prop} {B : Nat} (c : Cal B ci S n x P) (hx : PatOk x) (K : PartsOk P C Op) (hl : P.length ≤ 1000000) :
    wp (n_Calendar_is_open x3 ci [.ref n, .int d] S) (fun r S' => ∃ b, r = .bl b ∧ (b = true ↔ ¬ C d ∧ (Op d ∨ signB x d = true)) ∧ S' = S) E := by
  obtain ⟨a, b, h1, h2, h3, _⟩ := id c.ex
  have f1 := getF_ref (f := "parts") h1 con_self
  rw [look_parts, Option.map_some] at f1
  have f2 := getF_ref (f := "signs") h1 con_self
  rw [look_signs, Option.map_some] at f2
  have o1 : okI [ci] "part_index" (.ref n) S = true := by
    rw [okI_ref h1 con_self, look_no (by decide +kernel) (by decide +kernel) (by decide +kernel)]; rfl
  have hxl : x.length ≤ sizeLine := by have := hx.hi; rw [sizeLine_eq]; omega
  have hpos : (0 : Int) < x.length := by have := hx.lo; omega
  obtain ⟨ch, e1, e2⟩ := opIx_sign (S := S) (d := d) hx
  have sg : signB x d = (ch == 111) := by
    unfold signB
    rw [e1, Bool.eq_iff_iff, decide_eq_true_eq, beq_iff_eq, Option.some.injEq]
  have last : ¬ C d → ¬ Op d → (((⟨#[ch]⟩ : Str) == "o") = true ↔ ¬ C d ∧ (Op d ∨ signB x d = true)) := fun p1 p2 => by
    rw [str_o, one_eq, sg]
    exact ⟨fun q => ⟨p1, .inr q⟩, fun q => q.2.elim (fun z => absurd z p2) id⟩
  unfold n_Calendar_is_open d_Calendar_is_open
  simp only [WPA, Nat.reduceSub, Nat.reduceAdd, tgN, tgNil, tgCons, tgTup, wipeE, isT, String.reduceBEq, reduceIte, wp_dFld, wpS_dSetF, wp_dMeth, wp_dMethK, wp_dMake, wp_dProp, wp_dEnumS]
  refine wp_mono require_day_spec ?_ (fun _ _ q => q)
  rintro r S' ⟨rfl, rfl⟩
  refine ⟨o1, ?_⟩
  refine wp_mono (part_index_spec c K.pw K.ne hl) ?_ (fun _ _ q => q)
  rintro r S' ⟨i, rfl, A, rfl⟩
  simp only [WPA, Nat.reduceSub, Nat.reduceAdd, tgN, tgNil, tgCons, tgTup, wipeE, isT, String.reduceBEq, reduceIte, wp_dFld, wpS_dSetF, wp_dMeth, wp_dMethK, wp_dMake, wp_dProp, wp_dEnumS, f1, opLen_ref h3, List.length_map]
  by_cases hi : i < P.length
  · have em : P[i]? = some P[i] := List.getElem?_eq_getElem hi
    have hm := List.getElem_mem hi
    generalize P[i] = y at em hm
    rw [if_pos (decide_eq_true (by omega))]
    simp only [WPA, Nat.reduceSub, Nat.reduceAdd, tgN, tgNil, tgCons, tgTup, wipeE, isT, String.reduceBEq, reduceIte, wp_dFld, wpS_dSetF, wp_dMeth, wp_dMethK, wp_dMake, wp_dProp, wp_dEnumS, f1, lstAt_of h3, atI_rows em, opIx_row0]
    by_cases t : y.1.1 ≤ d
    · rw [if_pos (decide_eq_true t)]
      rcases K.here A em t with ⟨e3, p1, p2⟩ | ⟨e3, p1⟩
      · simp only [WPA, Nat.reduceSub, Nat.reduceAdd, tgN, tgNil, tgCons, tgTup, wipeE, isT, String.reduceBEq, reduceIte, wp_dFld, wpS_dSetF, wp_dMeth, wp_dMethK, wp_dMake, wp_dProp, wp_dEnumS, f1, lstAt_of h3, atI_rows em, opIx_row2 e3]
        exact ⟨true, rfl, ⟨fun _ => ⟨p2, .inl p1⟩, fun _ => rfl⟩⟩
      · simp only [WPA, Nat.reduceSub, Nat.reduceAdd, tgN, tgNil, tgCons, tgTup, wipeE, isT, String.reduceBEq, reduceIte, wp_dFld, wpS_dSetF, wp_dMeth, wp_dMethK, wp_dMake, wp_dProp, wp_dEnumS, f1, lstAt_of h3, atI_rows em, opIx_row2 e3]
        exact ⟨false, rfl, ⟨fun z => (by cases z), fun z => absurd p1 z.1⟩⟩
    · rw [if_neg (by rw [decide_eq_false t]; decide)]
      obtain ⟨p1, p2⟩ := K.none_at A fun z hz => by rw [em] at hz; cases hz; omega
      simp only [WPA, Nat.reduceSub, Nat.reduceAdd, tgN, tgNil, tgCons, tgTup, wipeE, isT, String.reduceBEq, reduceIte, wp_dFld, wpS_dSetF, wp_dMeth, wp_dMethK, wp_dMake, wp_dProp, wp_dEnumS, f2, hxl, hpos, e2]
      exact ⟨_, rfl, last p1 p2⟩
  · rw [if_neg (by rw [decide_eq_false (by omega)]; decide)]
    obtain ⟨p1, p2⟩ := K.none_at A fun z hz => absurd (List.getElem?_eq_some_iff.mp hz).1 hi
    simp only [WPA, Nat.reduceSub, Nat.reduceAdd, tgN, tgNil, tgCons, tgTup, wipeE, isT, String.reduceBEq, reduceIte, wp_dFld, wpS_dSetF, wp_dMeth, wp_dMethK, wp_dMake, wp_dProp, wp_dEnumS, f2, hxl, hpos, e2]
    exact ⟨_, rfl, last p1 p2⟩
theorem pattern_spec {n : Nat} {x : Str} {P : List Part} {B : Nat} (c : Cal B ci S n x P) : wp (n_Calendar_pattern ci [.ref n] S) (fun r S' => r = .str x ∧ S' = S) E := by
  obtain ⟨a, b, h1, h2, h3, _⟩ := c.ex
  have f2 := getF_ref (f := "signs") h1 con_self
  rw [look_signs, Option.map_some] at f2
  unfold n_Calendar_pattern d_Calendar_pattern
  simp only [WPA, Nat.reduceSub, Nat.reduceAdd, tgN, tgNil, tgCons, tgTup, wipeE, isT, String.reduceBEq, reduceIte, wp_dFld, wpS_dSetF, wp_dMeth, wp_dMethK, wp_dMake, wp_dProp, wp_dEnumS, f2]
end
end N
/-! PD: calendars made. -/
namespace N
open PySem L2
section
variable {E : Ex → Store → Prop} {ci : Nat}
theorem mem_open {x : Str} {S : Store} : ∀ p ∈ x.cps.toList.zipIdx, opEq (.str ⟨#[p.1]⟩) (.str "o") S = some (.bl (p.1 == 111), S) := fun p _ => by
  rw [opEq_str, str_o, one_eq]
theorem init_spec {x1 x2 n : Nat} {S0 S : Store} {x : Str} {wc wo : W} {cl op : List Stretch} (hn : S0.length ≤ n) (h0 : S[n]? = some (.ins ci [])) (f0 : Fr 0 S0 S) (hx : PatOk x) (hc : Strs S0 wc cl) (ho : Strs S0 wo op) (hcn : ∀ p ∈ cl, p.1 ≤ p.2) (hon : ∀ p ∈ op, p.1 ≤ p.2) (lc : cl.length ≤ 400) (lo : op.length ≤ 400) :
    wp (n_Calendar_init x1 x2 ci [.ref n, .str x, wc, wo] S) (fun r S' => r = .non ∧ ∃ P, Cal S0.length ci S' n x P ∧ PartsOk P (InS cl) (InS op) ∧ P.length ≤ 1000000 ∧ Fr 0 S0 S') E := by
  unfold n_Calendar_init d_Calendar_init
  simp only [WPA, Nat.reduceSub, Nat.reduceAdd, tgN, tgNil, tgCons, tgTup, wipeE, isT, String.reduceBEq, reduceIte, wp_dFld, wpS_dSetF, wp_dMeth, wp_dMethK, wp_dMake, wp_dProp, wp_dEnumS]
  refine wp_mono (is_pattern_spec hx) ?_ (fun _ _ q => q)
  rintro r S1 ⟨rfl, g1⟩
  simp only [WPA, Nat.reduceSub, Nat.reduceAdd, tgN, tgNil, tgCons, tgTup, wipeE, isT, String.reduceBEq, reduceIte, wp_dFld, wpS_dSetF, wp_dMeth, wp_dMethK, wp_dMake, wp_dProp, wp_dEnumS]
  have a1 := f0.trans g1
  have n1 := g1.g0 h0
  refine wp_mono (require_stretches_spec (hc.mono a1) hcn (by omega)) ?_ (fun _ _ q => q)
  rintro r S2 ⟨rfl, g2⟩
  have a2 := a1.trans g2
  have n2 := g2.g0 n1
  refine wp_mono (require_stretches_spec (ho.mono a2) hon (by omega)) ?_ (fun _ _ q => q)
  rintro r S3 ⟨rfl, g3⟩
  have a3 := a2.trans g3
  have n3 := g3.g0 n2
  clear h0 f0 g1 g2 g3 a1 a2 n1 n2
  rw [setF_ref n3 con_self (by decide), wO_some, put1]
  have n4 := get_set (o := .ins ci [(("signs" : Str), .str x)]) n3
  have a4 : Fr 0 S0 (S3.set n (.ins ci [(("signs" : Str), .str x)])) := a3.setN hn
  generalize S3.set n (.ins ci [(("signs" : Str), .str x)]) = S4 at n4 a4 ⊢
  -- the places of the open signs
  have hz : (enumL (signsW x)).length ≤ 1000000 := by
    have := hx.hi
    rw [enum_signs, List.length_map, List.length_zipIdx]
    have : x.cps.toList.length = x.length := rfl
    omega
  refine ⟨x, rfl, hx.ok, lenOk_of hz, ?_⟩
  rw [enum_signs]
  refine wp_mono (wp_lcP (p := fun p : Nat × Nat => p.1 == 111) (f := fun p : Nat × Nat => W.int (p.2 : Nat)) (fun S' => Fr 0 S4 S') Fr.refl (fun _ _ => trivial) ?_) ?_ (fun _ _ q => q)
  · intro i p S' e f
    simp only [WPA, Nat.reduceSub, Nat.reduceAdd, tgN, tgNil, tgCons, tgTup, wipeE, isT, String.reduceBEq, reduceIte, str_o, one_eq]
    split <;> exact f
  rintro ws S5 ⟨rfl, g5⟩
  have e5 : (x.cps.toList.zipIdx.filter fun p => p.1 == 111).map (fun p : Nat × Nat => W.int (p.2 : Nat)) = (openSigns x).map W.int := by
    unfold openSigns
    rw [List.map_map]; rfl
  rw [e5]
  have n5 : (S5 ++ [O.lst ((openSigns x).map W.int)])[n]? = some (.ins ci [(("signs" : Str), .str x)]) := (g5.snoc).g0 n4
  have o5 : (S5 ++ [O.lst ((openSigns x).map W.int)])[S5.length]? = some (.lst ((openSigns x).map W.int)) := get_new
  have a5 : Fr 0 S0 (S5 ++ [O.lst ((openSigns x).map W.int)]) := (a4.trans g5).snoc
  have ne5 : S5.length ≠ n := Nat.ne_of_gt (Nat.lt_of_lt_of_le (get_lt n4) g5.len)
  have le5 : S0.length ≤ S5.length := (a4.trans g5).len
  generalize S5.length = sa at o5 ne5 le5 ⊢
  rw [setF_ref n5 con_self (by simp), wO_some, put2]
  have n6 := get_set (o := .ins ci [(("signs" : Str), .str x), ("open_signs", .ref sa)]) n5
  have o6 : ((S5 ++ [O.lst ((openSigns x).map W.int)]).set n (.ins ci [(("signs" : Str), .str x), ("open_signs", .ref sa)]))[sa]? = some (.lst ((openSigns x).map W.int)) := by rw [List.getElem?_set_ne (Ne.symm ne5)]; exact o5
  have a6 : Fr 0 S0 ((S5 ++ [O.lst ((openSigns x).map W.int)]).set n (.ins ci [(("signs" : Str), .str x), ("open_signs", .ref sa)])) := a5.setN hn
  generalize (S5 ++ [O.lst ((openSigns x).map W.int)]).set n (.ins ci [(("signs" : Str), .str x), ("open_signs", .ref sa)]) = S6 at n6 o6 a6 ⊢
  clear n3 n4 a4 n5 o5 a5 a3 g5
  -- closed, opened
  refine wp_mono (joined_spec (hc.mono a6) hcn (by omega)) ?_ (fun _ _ q => q)
  rintro r S7 ⟨sc, C, rfl, c7, lec, aC, mC, lC, g7⟩
  refine wp_mono (joined_spec ((ho.mono a6).mono g7) hon (by omega)) ?_ (fun _ _ q => q)
  rintro r S8 ⟨sj, J, rfl, j8, lej, aJ, mJ, lJ, g8⟩
  have hmul : J.length * (C.length + 1) ≤ 400 * 401 := Nat.mul_le_mul (by omega) (by omega)
  refine wp_mono (without_spec j8 (g8.g0 c7) aJ aC (by omega) (by omega) (by omega)) ?_ (fun _ _ q => q)
  rintro r S9 ⟨so, Q, rfl, q9, leq, aQ, mQ, lQ, g9⟩
  have g69 := (g7.trans g8).trans g9
  have c9 := g9.g0 (g8.g0 c7)
  have n9 := g69.g0 n6
  have o9 := g69.g0 o6
  have a9 := a6.trans g69
  clear n6 o6 a6 g69 c7 g7 g8 g9 j8
  -- parts
  simp only [WPA, Nat.reduceSub, Nat.reduceAdd, tgN, tgNil, tgCons, tgTup, wipeE, isT, String.reduceBEq, reduceIte, wp_dFld, wpS_dSetF, wp_dMeth, wp_dMethK, wp_dMake, wp_dProp, wp_dEnumS, srcW_ref c9, List.length_map, lenOk_of (show C.length ≤ 1000000 by omega)]
  refine wp_mono (wp_lcF (f := fun p : Stretch => rowW (p, some false)) (fun S' => Fr 0 S9 S') Fr.refl (fun S' f => f.g0 c9) ?_) ?_ (fun _ _ q => q)
  · intro i p S' e f
    simp only [WPA, Nat.reduceSub, Nat.reduceAdd, tgN, tgNil, tgCons, tgTup, wipeE, isT, String.reduceBEq, reduceIte, lenOk_of (show 3 ≤ 1000000 by omega)]
    exact ⟨rfl, f⟩
  rintro ws S10 ⟨rfl, g10⟩
  have g11 : Fr 0 S9 (S10 ++ [O.lst (C.map fun p => rowW (p, some false))]) := g10.snoc
  have p11 : (S10 ++ [O.lst (C.map fun p => rowW (p, some false))])[S10.length]? = some (.lst (C.map fun p => rowW (p, some false))) := get_new
  generalize S10.length = sp at p11 ⊢
  generalize S10 ++ [O.lst (C.map fun p => rowW (p, some false))] = S11 at g11 p11 ⊢
  simp only [WPA, Nat.reduceSub, Nat.reduceAdd, tgN, tgNil, tgCons, tgTup, wipeE, isT, String.reduceBEq, reduceIte, wp_dFld, wpS_dSetF, wp_dMeth, wp_dMethK, wp_dMake, wp_dProp, wp_dEnumS, srcW_ref (g11.g0 q9), List.length_map, lenOk_of (show Q.length ≤ 1000000 by omega)]
  refine wp_mono (wp_lcF (f := fun p : Stretch => rowW (p, some true)) (fun S' => Fr 0 S11 S') Fr.refl (fun S' f => f.g0 (g11.g0 q9)) ?_) ?_ (fun _ _ q => q)
  · intro i p S' e f
    simp only [WPA, Nat.reduceSub, Nat.reduceAdd, tgN, tgNil, tgCons, tgTup, wipeE, isT, String.reduceBEq, reduceIte, lenOk_of (show 3 ≤ 1000000 by omega)]
    exact ⟨rfl, f⟩
  rintro ws S12 ⟨rfl, g12⟩
  have g13 : Fr 0 S11 (S12 ++ [O.lst (Q.map fun p => rowW (p, some true))]) := g12.snoc
  have p13 : (S12 ++ [O.lst (Q.map fun p => rowW (p, some true))])[S12.length]? = some (.lst (Q.map fun p => rowW (p, some true))) := get_new
  generalize S12.length = sq at p13 ⊢
  generalize S12 ++ [O.lst (Q.map fun p => rowW (p, some true))] = S13 at g13 p13 ⊢
  rw [opAdd_ref (g13.g0 p11) p13 (by simp only [List.length_map]; omega), wO_some]
  have eraw : (C.map fun p => rowW (p, some false)) ++ (Q.map fun p => rowW (p, some true)) = (rawParts C Q).map rowW := by
    unfold rawParts
    rw [List.map_append, List.map_map, List.map_map]; rfl
  rw [eraw]
  have dis : ∀ d, InS C d → ¬ InS Q d := fun d z z2 => ((mQ d).mp z2).2 z
  rw [opSortR_rows (rowsOf_ref get_new) (raw_fit aC aQ dis), wO_some]
  have K : PartsOk ((rawParts C Q).mergeSort leR) (InS cl) (InS op) := parts_ok aC aQ dis (fun d => (mC d).symm) fun d => by rw [mQ, mJ, mC]
  have hlen : ((rawParts C Q).mergeSort leR).length ≤ 1000000 := by
    rw [(List.mergeSort_perm _ _).length_eq]
    unfold rawParts
    simp only [List.length_append, List.length_map]
    omega
  generalize (rawParts C Q).mergeSort leR = P at K hlen ⊢
  have g14 : Fr 0 S9 (S13 ++ [O.lst ((rawParts C Q).map rowW)] ++ [O.lst (P.map rowW)]) := (g11.trans g13).snoc.snoc
  have p14 : (S13 ++ [O.lst ((rawParts C Q).map rowW)] ++ [O.lst (P.map rowW)])[(S13 ++ [O.lst ((rawParts C Q).map rowW)]).length]? = some (.lst (P.map rowW)) := get_new
  have le14 : S0.length ≤ (S13 ++ [O.lst ((rawParts C Q).map rowW)]).length := Nat.le_trans (a9.trans (g11.trans g13)).len (by simp)
  have ne14 : (S13 ++ [O.lst ((rawParts C Q).map rowW)]).length ≠ n := Nat.ne_of_gt (Nat.lt_of_lt_of_le (get_lt n9) (Nat.le_trans (g11.trans g13).len (by simp)))
  generalize (S13 ++ [O.lst ((rawParts C Q).map rowW)]).length = sb at p14 ne14 le14 ⊢
  generalize S13 ++ [O.lst ((rawParts C Q).map rowW)] ++ [O.lst (P.map rowW)] = S14 at g14 p14 ⊢
  rw [setF_ref (g14.g0 n9) con_self (by simp), wO_some, put3]
  refine ⟨P, ⟨sa, sb, get_set (g14.g0 n9), ?_, ?_, hn, le5, le14⟩, K, hlen, (a9.trans g14).setN hn⟩
  · rw [List.getElem?_set_ne (Ne.symm ne5)]; exact g14.g0 o9
  · rw [List.getElem?_set_ne (Ne.symm ne14)]; exact p14
end
end N
/-! K01p: patterns judged, any values. -/
namespace K01
open PySem L2 N
noncomputable section
def sgn (c : Nat) : Bool := c == 111 || c == 45
def pat (x : Str) : Bool := decide (1 ≤ x.length) && (decide (x.length ≤ 8) && (decide (111 ∈ x.cps.toList) && x.cps.toList.all sgn))
def dueW : W → Bool
  | .str x => pat x
  | _ => false
theorem pat_ok {x : Str} (h : pat x = true) : PatOk x := by
  unfold pat at h
  rw [Bool.and_eq_true, Bool.and_eq_true, Bool.and_eq_true, decide_eq_true_eq, decide_eq_true_eq, decide_eq_true_eq, List.all_eq_true] at h
  refine ⟨h.1, h.2.1, fun c hc => ?_, h.2.2.1⟩
  have := h.2.2.2 c hc
  unfold sgn at this
  simpa using this
section
variable {S : Store} {E : Ex → Store → Prop} {w : W}
theorem notInL {c q : Nat} {S' : Store} (g : S'[q]? = some (.lst [.str "o", .str "-"])) : opNotIn (.str ⟨#[c]⟩) (.ref q) S' = some (.bl (!sgn c), S') := by
  have g' : S'[q]? = some (.lst ((["o", "-"] : List Str).map W.str)) := g
  rw [inW_strs g']
  have : decide ((⟨#[c]⟩ : Str) ∈ ([("o" : Str), "-"])) = sgn c := by
    have a := @one_eq c 111
    have b := @one_eq c 45
    rw [← str_o] at a
    rw [← str_m] at b
    unfold sgn
    rw [← a, ← b, Bool.eq_iff_iff, decide_eq_true_eq, Bool.or_eq_true, beq_iff_eq, beq_iff_eq]
    simp
  rw [this]
theorem inO {x : Str} : opIn (.str "o") (.str x) S = some (.bl (decide (111 ∈ x.cps.toList)), S) := by
  rw [str_o]; rfl
theorem notInO {x : Str} : opNotIn (.str "o") (.str x) S = some (.bl (!decide (111 ∈ x.cps.toList)), S) := by
  rw [str_o]; rfl
theorem inT {c : Nat} : opInT (.str ⟨#[c]⟩) (.tup [.str "o", .str "-"]) S = some (.bl (sgn c), S) := by
  have e : opInT (.str ⟨#[c]⟩) (.tup [.str "o", .str "-"]) S = some (.bl ([("o" : Str), "-"].any fun y => y == ⟨#[c]⟩), S) := rfl
  rw [e, str_o, str_m]
  simp only [List.any_cons, List.any_nil, one_eq, Bool.or_false]
  unfold sgn
  rw [BEq.comm (a := 111), BEq.comm (a := 45)]
theorem le1 {x : Str} : decide ((1 : Int) ≤ (x.length : Int)) = decide (1 ≤ x.length) := by
  rw [Bool.eq_iff_iff, decide_eq_true_eq, decide_eq_true_eq]; omega
theorem le8 {x : Str} : decide ((x.length : Int) ≤ 8) = decide (x.length ≤ 8) := by
  rw [Bool.eq_iff_iff, decide_eq_true_eq, decide_eq_true_eq]; omega
theorem due_any (v : Va S w) : wp (n_law_due [w] S) (fun r S' => r = .bl (dueW w) ∧ Fr 0 S S') E := by
  unfold n_law_due d_law_due
  cases v with
  | non => simp only [WPA, Nat.reduceSub, Nat.reduceAdd, tgN, tgNil, tgCons, tgTup, wipeE, isT, String.reduceBEq, reduceIte]; exact ⟨rfl, Fr.refl⟩
  | bl b => simp only [WPA, Nat.reduceSub, Nat.reduceAdd, tgN, tgNil, tgCons, tgTup, wipeE, isT, String.reduceBEq, reduceIte]; exact ⟨rfl, Fr.refl⟩
  | int i => simp only [WPA, Nat.reduceSub, Nat.reduceAdd, tgN, tgNil, tgCons, tgTup, wipeE, isT, String.reduceBEq, reduceIte]; exact ⟨rfl, Fr.refl⟩
  | tup ws => simp only [WPA, Nat.reduceSub, Nat.reduceAdd, tgN, tgNil, tgCons, tgTup, wipeE, isT, String.reduceBEq, reduceIte]; exact ⟨rfl, Fr.refl⟩
  | dct g => simp only [WPA, Nat.reduceSub, Nat.reduceAdd, tgN, tgNil, tgCons, tgTup, wipeE, isT, String.reduceBEq, reduceIte, tyN_dctA g]; exact ⟨rfl, Fr.refl⟩
  | lst g h => simp only [WPA, Nat.reduceSub, Nat.reduceAdd, tgN, tgNil, tgCons, tgTup, wipeE, isT, String.reduceBEq, reduceIte, tyN_ref g]; exact ⟨rfl, Fr.refl⟩
  | @str x h =>
    have h1 : x.length ≤ sizeLine := by rw [sizeLine_eq]; omega
    have hl : x.cps.toList.length ≤ 1000000 := by have : x.cps.toList.length = x.length := rfl; omega
    simp only [WPA, Nat.reduceSub, Nat.reduceAdd, tgN, tgNil, tgCons, tgTup, wipeE, isT, String.reduceBEq, reduceIte, h1, le1, le8]
    have eo : dueW (.str x) = (decide (1 ≤ x.length) && (decide (x.length ≤ 8) && (decide (111 ∈ x.cps.toList) && x.cps.toList.all sgn))) := rfl
    rw [eo]
    cases decide (1 ≤ x.length) with
    | false => simp only [WPA, Nat.reduceSub, Nat.reduceAdd, tgN, tgNil, tgCons, tgTup, wipeE, isT, String.reduceBEq, reduceIte]; exact Fr.refl
    | true =>
      cases decide (x.length ≤ 8) with
      | false => simp only [WPA, Nat.reduceSub, Nat.reduceAdd, tgN, tgNil, tgCons, tgTup, wipeE, isT, String.reduceBEq, reduceIte]; exact Fr.refl
      | true =>
        simp only [WPA, Nat.reduceSub, Nat.reduceAdd, tgN, tgNil, tgCons, tgTup, wipeE, isT, String.reduceBEq, reduceIte, inO]
        cases decide (111 ∈ x.cps.toList) with
        | false => simp only [WPA, Nat.reduceSub, Nat.reduceAdd, tgN, tgNil, tgCons, tgTup, wipeE, isT, String.reduceBEq, reduceIte]; exact Fr.refl
        | true =>
          simp only [WPA, Nat.reduceSub, Nat.reduceAdd, tgN, tgNil, tgCons, tgTup, wipeE, isT, String.reduceBEq, reduceIte, srcW, List.length_map, lenOk_of hl, lenOk_of (show 0 ≤ 1000000 by decide)]
          refine wp_mono (wp_lcP (c := fun c : Nat => W.str ⟨#[c]⟩) (xs := x.cps.toList) (fun c => !sgn c) (fun c => W.str ⟨#[c]⟩) (fun S' => Fr 0 S S') Fr.refl (fun _ _ => trivial) ?_) ?_ (fun _ _ q => q)
          · intro i c S' e f
            simp only [WPA, Nat.reduceSub, Nat.reduceAdd, tgN, tgNil, tgCons, tgTup, wipeE, isT, String.reduceBEq, reduceIte, lenOk_of (show 2 ≤ 1000000 by decide), notInL get_new]
            split <;> exact f.snoc
          · rintro ws S' ⟨rfl, f⟩
            rw [opEqE_ref (Fr.app.g0 get_new) get_new, wO_some]
            refine ⟨?_, f.snoc.snoc⟩
            rw [List.isEmpty_map, filter_none fun _ => rfl]
theorem is_pat_any (v : Va S w) : wp (n_is_pattern_reading [w] S) (fun r S' => r = .bl (dueW w) ∧ Fr 0 S S') E := by
  unfold n_is_pattern_reading d_is_pattern_reading
  cases v with
  | non => simp only [WPA, Nat.reduceSub, Nat.reduceAdd, tgN, tgNil, tgCons, tgTup, wipeE, isT, String.reduceBEq, reduceIte]; exact ⟨rfl, Fr.refl⟩
  | bl b => simp only [WPA, Nat.reduceSub, Nat.reduceAdd, tgN, tgNil, tgCons, tgTup, wipeE, isT, String.reduceBEq, reduceIte]; exact ⟨rfl, Fr.refl⟩
  | int i => simp only [WPA, Nat.reduceSub, Nat.reduceAdd, tgN, tgNil, tgCons, tgTup, wipeE, isT, String.reduceBEq, reduceIte]; exact ⟨rfl, Fr.refl⟩
  | tup ws => simp only [WPA, Nat.reduceSub, Nat.reduceAdd, tgN, tgNil, tgCons, tgTup, wipeE, isT, String.reduceBEq, reduceIte]; exact ⟨rfl, Fr.refl⟩
  | dct g => simp only [WPA, Nat.reduceSub, Nat.reduceAdd, tgN, tgNil, tgCons, tgTup, wipeE, isT, String.reduceBEq, reduceIte, tyN_dctA g]; exact ⟨rfl, Fr.refl⟩
  | lst g h => simp only [WPA, Nat.reduceSub, Nat.reduceAdd, tgN, tgNil, tgCons, tgTup, wipeE, isT, String.reduceBEq, reduceIte, tyN_ref g]; exact ⟨rfl, Fr.refl⟩
  | @str x h =>
    have h1 : x.length ≤ sizeLine := by rw [sizeLine_eq]; omega
    have hl : x.cps.toList.length ≤ 1000000 := by have : x.cps.toList.length = x.length := rfl; omega
    simp only [WPA, Nat.reduceSub, Nat.reduceAdd, tgN, tgNil, tgCons, tgTup, wipeE, isT, String.reduceBEq, reduceIte, h1, le1, le8]
    have eo : dueW (.str x) = (decide (1 ≤ x.length) && (decide (x.length ≤ 8) && (decide (111 ∈ x.cps.toList) && x.cps.toList.all sgn))) := rfl
    rw [eo]
    cases decide (1 ≤ x.length) with
    | false => simp only [WPA, Nat.reduceSub, Nat.reduceAdd, tgN, tgNil, tgCons, tgTup, wipeE, isT, String.reduceBEq, reduceIte]; exact Fr.refl
    | true =>
      cases decide (x.length ≤ 8) with
      | false => simp only [WPA, Nat.reduceSub, Nat.reduceAdd, tgN, tgNil, tgCons, tgTup, wipeE, isT, String.reduceBEq, reduceIte]; exact Fr.refl
      | true =>
        simp only [WPA, Nat.reduceSub, Nat.reduceAdd, tgN, tgNil, tgCons, tgTup, wipeE, isT, String.reduceBEq, reduceIte, notInO]
        cases decide (111 ∈ x.cps.toList) with
        | false => simp only [WPA, Nat.reduceSub, Nat.reduceAdd, tgN, tgNil, tgCons, tgTup, wipeE, isT, String.reduceBEq, reduceIte]; exact Fr.refl
        | true =>
          simp only [WPA, Nat.reduceSub, Nat.reduceAdd, tgN, tgNil, tgCons, tgTup, wipeE, isT, String.reduceBEq, reduceIte, srcW, List.length_map, lenOk_of hl]
          refine wp_mono (wp_lcF (f := fun c => W.bl (sgn c)) (fun S' => Fr 0 S S') Fr.refl (fun _ _ => trivial) ?_) ?_ (fun _ _ q => q)
          · intro i c S' e f
            simp only [WPA, Nat.reduceSub, Nat.reduceAdd, tgN, tgNil, tgCons, tgTup, wipeE, isT, String.reduceBEq, reduceIte, lenOk_of (show 2 ≤ 1000000 by omega), inT]
            exact f
          · rintro ws S' ⟨rfl, f⟩
            have e : (S' ++ [O.lst (x.cps.toList.map fun c => W.bl (sgn c))])[S'.length]? = some (.lst ((x.cps.toList.map sgn).map W.bl)) := by
              rw [List.map_map]; exact get_new
            rw [opAll_ref e, wO_some]
            refine ⟨?_, f.snoc⟩
            rw [List.all_map]; rfl
theorem taken_any (v : Va S w) : wp (n_law_taken [w] S) (fun r S' => r = (if dueW w = true then w else .non) ∧ Fr 0 S S') E := by
  unfold n_law_taken d_law_taken
  have pm : permW [0, 1, 2, 3] [W.ref S.length, w, .tup [], .tup []] = some [W.ref S.length, w, .tup [], .tup []] := rfl
  simp only [WPA, Nat.reduceSub, Nat.reduceAdd, tgN, tgNil, tgCons, tgTup, wipeE, isT, String.reduceBEq, reduceIte, wpS_dTry, wp_dProp, wp_dMake, pm]
  by_cases hd : dueW w = true
  · rw [if_pos hd]
    obtain ⟨x, rfl⟩ : ∃ x, w = .str x := by
      cases w with
      | str x => exact ⟨x, rfl⟩
      | _ => cases hd
    refine wp_mono (init_spec (x1 := 1) (x2 := 2) (S0 := S) (ci := 5) (cl := []) (op := []) (Nat.le_refl _) get_new Fr.app (pat_ok hd) (.inr rfl) (.inr rfl) (fun _ h => nomatch h) (fun _ h => nomatch h) (Nat.zero_le _) (Nat.zero_le _)) ?_ (fun _ _ q => q)
    rintro r S1 ⟨rfl, P, C, _, _, f1⟩
    refine ⟨rfl, ?_, ?_⟩
    · obtain ⟨a, b, h1, _⟩ := C.ex
      rw [insOf_ref h1 con_self]; rfl
    · refine wp_mono (pattern_spec C) ?_ (fun _ _ q => q)
      rintro r S2 ⟨rfl, rfl⟩
      exact ⟨rfl, f1⟩
  · rw [if_neg hd]
    unfold n_Calendar_init d_Calendar_init
    simp only [WPA, Nat.reduceSub, Nat.reduceAdd, tgN, tgNil, tgCons, tgTup, wipeE, isT, String.reduceBEq, reduceIte]
    refine wp_mono (is_pat_any (v.mono Fr.app)) ?_ (fun _ _ q => q)
    rintro r S1 ⟨rfl, f1⟩
    have e : dueW w = false := by simpa using hd
    rw [e]
    simp only [WPA, Nat.reduceSub, Nat.reduceAdd, tgN, tgNil, tgCons, tgTup, wipeE, isT, String.reduceBEq, reduceIte]
    rw [wpS_catchY (c := ⟨tb_InvalidPattern, none, fun h => dRet (dC .non)⟩) tbs_1]
    refine uni_rt (w := .non) (S0 := S1) (fun a d => ?_) ⟨rfl, Fr.app.trans f1⟩
    rw [wpS_unb]
    exact ⟨rfl, rfl⟩
end
end
end K01
/-! K01q: one value judged; draws. -/
namespace K01
open PySem L2 N
theorem opReprD_of {ws : List W} {S : Store} {r : W × Store} (h : opRepr ws S = some r) : opReprD ws S = some r := by
  unfold opReprD
  rw [h]
theorem repr_bb {n : Nat} {a b : Bool} {S : Store} (g : S[n]? = some (.lst [.bl a, .bl b])) : opReprD [.ref n] S = some (.str (PyData.list [.bool a, .bool b]).shown, S) := by
  refine opReprD_of (opRepr_tiny ?_ ?_ ?_)
  · rw [toD_lst g]; rfl
  · rfl
  · simp [PyData.bulk, PyData.bulkAll]
theorem repr_st {x : Str} {S : Store} (h : okS x = true) (hl : x.length ≤ 1000) : opReprD [.str x] S = some (.str (PyData.str x).shown, S) := by
  refine opReprD_of (opRepr_tiny (d := .str x) rfl (str_tiny h) ?_)
  simp only [PyData.bulk]
  have : x.cps.size = x.length := rfl
  omega
theorem repr_no {S : Store} : opReprD [.non] S = some (.str PyData.none.shown, S) := opReprD_of (opRepr_tiny (d := .none) rfl rfl (by simp [PyData.bulk]))
theorem right_any {S : Store} {E : Ex → Store → Prop} {w : W} (v : Va S w) : wp (n_law_right [w] S) (fun r S' => r = .bl true ∧ Fr 0 S S') E := by
  unfold n_law_right d_law_right
  have pm : permW [0] [w] = some [w] := rfl
  have ip : ∀ {S' : Store}, Fr 0 S S' → wp (n_Calendar_is_pattern [w] S') (fun r S2 => r = .bl (dueW w) ∧ Fr 0 S' S2) (fun _ _ => False) := fun {S'} f => by
    unfold n_Calendar_is_pattern d_Calendar_is_pattern
    simp only [WPA, Nat.reduceSub, Nat.reduceAdd, tgN, tgNil, tgCons, tgTup, wipeE, isT, String.reduceBEq, reduceIte]
    exact is_pat_any (v.mono f)
  have ip' : ∀ {S' : Store}, Fr 0 S S' → wp (n_Calendar_is_pattern [w] S') (fun r S2 => r = .bl (dueW w) ∧ Fr 0 S' S2) E := fun {S'} f => wp_mono (ip f) (fun _ _ q => q) (fun _ _ q => q.elim)
  simp only [WPA, Nat.reduceSub, Nat.reduceAdd, tgN, tgNil, tgCons, tgTup, wipeE, isT, String.reduceBEq, reduceIte]
  refine wp_mono (due_any v) ?_ (fun _ _ q => q)
  rintro r S1 ⟨rfl, f1⟩
  simp only [WPA, Nat.reduceSub, Nat.reduceAdd, tgN, tgNil, tgCons, tgTup, wipeE, isT, String.reduceBEq, reduceIte]
  refine wp_mono (ip' f1) ?_ (fun _ _ q => q)
  rintro r S2 ⟨rfl, f2⟩
  simp only [WPA, Nat.reduceSub, Nat.reduceAdd, tgN, tgNil, tgCons, tgTup, wipeE, isT, String.reduceBEq, reduceIte, pm]
  refine wp_mono (ip' (f1.trans f2)) ?_ (fun _ _ q => q)
  rintro r S3 ⟨rfl, f3⟩
  have f13 := f1.trans (f2.trans f3)
  refine ⟨lenOk_of (by decide), ?_⟩
  rw [repr_bb get_new, wO_some]
  dsimp only
  refine ⟨lenOk_of (by decide), ?_⟩
  rw [repr_bb get_new, wO_some]
  simp only [WPA, Nat.reduceSub, Nat.reduceAdd, tgN, tgNil, tgCons, tgTup, wipeE, isT, String.reduceBEq, reduceIte, beq_self_eq_true]
  have f4 : Fr 0 S (S3 ++ [O.lst [W.bl (dueW w), W.bl (dueW w)]] ++ [O.lst [W.bl (dueW w), W.bl (dueW w)]]) := f13.snoc.snoc
  refine wp_mono (taken_any (v.mono f4)) ?_ (fun _ _ q => q)
  rintro r S5 ⟨rfl, f5⟩
  have fT := f4.trans f5
  by_cases hd : dueW w = true
  · obtain ⟨x, rfl⟩ : ∃ x, w = .str x := by
      cases w with
      | str x => exact ⟨x, rfl⟩
      | _ => cases hd
    have po := pat_ok hd
    have hi := po.hi
    rw [hd, if_pos rfl, repr_st po.ok (by omega), wO_some]
    simp only [WPA, Nat.reduceSub, Nat.reduceAdd, tgN, tgNil, tgCons, tgTup, wipeE, isT, String.reduceBEq, reduceIte, repr_st po.ok (show x.length ≤ 1000 by omega), beq_self_eq_true]
    exact fT
  · have e : dueW w = false := by simpa using hd
    rw [e, if_neg (by decide), repr_no, wO_some]
    simp only [WPA, Nat.reduceSub, Nat.reduceAdd, tgN, tgNil, tgCons, tgTup, wipeE, isT, String.reduceBEq, reduceIte, repr_no, beq_self_eq_true]
    exact fT
theorem wp_dDict0' {ε : Ev} {S : Store} {Q : W → Store → Prop} {E : Ex → Store → Prop} : wp (dDict0 ε S) Q E = Q (.ref S.length) (S ++ [.dct []]) := rfl
theorem opIxD_lst {n : Nat} {l : List W} {i : W} {S : Store} (h : S[n]? = some (.lst l)) : opIxD (.ref n) i S = opIx (.ref n) i S := by
  unfold opIxD
  simp only [h]
theorem mExtend_ref {n m : Nat} {a b : List W} {S : Store} (h1 : S[n]? = some (.lst a)) (h2 : S[m]? = some (.lst b)) (h : a.length + b.length ≤ 1000000) : mExtend (.ref n) [.ref m] S = some (.non, S.set n (.lst (a ++ b))) := by
  unfold mExtend
  simp only [h1, h2]
  rw [if_pos (by rw [sizeLine_eq]; omega)]
theorem clamp {n c : Nat} (hc : 1 ≤ c) : ∃ m : Nat, (if (if (n : Int) < c then (n : Int) else c) > 1 then (if (n : Int) < c then (n : Int) else c) else 1) = (m : Int) ∧ 0 < m ∧ m ≤ c := by
  refine ⟨if n ≤ 1 then 1 else if n < c then n else c, ?_, ?_, ?_⟩
  · split <;> split <;> (try split) <;> (try split) <;> omega
  · split <;> (try split) <;> omega
  · split <;> (try split) <;> omega
theorem bits_log {i : Int} (h : Builtin.Int.intBits i ≤ 1048576) : i.natAbs.log2 ≤ 1048576 := by
  unfold Builtin.Int.intBits at h
  split at h
  · rename_i z
    have : i = 0 := by simpa using z
    rw [this]; decide
  · omega
theorem bag_spec {ns : List Int} {k : Nat} {S : Store} {E : Ex → Store → Prop} (hk : k ≤ 1000) (h2 : ∀ n ∈ ns, Builtin.Int.intBits n ≤ 1048576) : wp (n_law_bag [.rl (ns.map W.int), .int k] S) (fun r S' => r = .ref S.length ∧ Purse (S.length + 1) 0 S.length S') E := by
  have z1 : powOk 10 18 = true := by decide +kernel
  have z2 : powOk 10 37 = true := by decide +kernel
  have v2 : (10 : Int) ^ Int.toNat 37 + 43 = 10000000000000000000000000000000000043 := by decide +kernel
  have c1 : (0 : Int) < 10000000000000000000000000000000000043 := by decide
  have m2 : mulOk 23 k = true := mulOk_of (by decide +kernel) (Nat.lt_of_lt_of_le (by omega : _ < 2 ^ 150) (Nat.pow_le_pow_right (by decide) (by decide)))
  have out : ∀ c : Int, c.natAbs.log2 ≤ 1048576 → wpS ((dRet (dLst (aCons (dFn opMax2 (aCons (dC (.int 0)) (aCons (dOp opSub (dFn opAbs (aCons (dVar 2) aNil)) (dOp opPow (dC (.int 10)) (dC (.int 18)))) aNil))) (aCons (dOp opMod (dOp opAdd (dOp opAdd (dOp opMul (dVar 2) (dC (.int 67))) (dOp opMul (dC (.int 23)) (dVar 1))) (dC (.int 11))) (dOp opAdd (dOp opPow (dC (.int 10)) (dC (.int 37))) (dC (.int 43)))) (aCons (dC (.int 0)) (aNil)))))) [some (.rl (ns.map W.int)), some (.int k), some (.int c)] S)
      ⟨fun _ _ => False, fun r S' => r = .ref S.length ∧ Purse (S.length + 1) 0 S.length S', fun _ _ => False, fun _ _ => False, fun _ _ _ => False⟩ := fun c hc => by
    have m1 : mulOk c 67 = true := by
      unfold mulOk
      have : (67 : Int).natAbs.log2 = 6 := by decide
      rw [this]
      exact decide_eq_true (by omega)
    have h3 := Int.emod_nonneg (c * 67 + 23 * (k : Int) + 11) (show (10000000000000000000000000000000000043 : Int) ≠ 0 by decide)
    have h4 := Int.emod_lt_of_pos (c * 67 + 23 * (k : Int) + 11) c1
    simp only [WPA, Nat.reduceSub, Nat.reduceAdd, tgN, tgNil, tgCons, tgTup, wipeE, isT, String.reduceBEq, reduceIte, opAbs, z1, z2, v2, c1, m1, m2, lenOk_of (show 3 ≤ 1000000 by decide)]
    exact ⟨by simp, by omega, _, _, 0, get_new, by omega, Int.le_refl _, by omega⟩
  unfold n_law_bag d_law_bag
  simp only [wp_dfn, wpS_dSeq, wpS_dSet, wp_dIfE, EVA, Nat.reduceSub, Nat.reduceAdd, tgN, tgNil, tgCons, tgTup, wipeE, isT, String.reduceBEq, reduceIte, wp_dBool, wp_dOp, wp_dVar, wO_some, wp_dFn, wp_aCons, wp_aNil, opLen_rl, opLt_int, wB_bl, List.length_map, opIx_rl, wp_dC]
  split
  · rename_i h
    have hk2 : k < ns.length := by simpa using h
    rw [atI_n, List.getElem?_map, List.getElem?_eq_getElem hk2]
    simp only [Option.map_some, wO_some]
    exact wpS_mono (out _ (bits_log (h2 _ (List.getElem_mem hk2)))) (fun _ _ h => h.elim) (fun _ _ h => h) (fun _ _ h => h.elim) (fun _ _ h => h.elim) (fun _ _ _ h => h.elim)
  · exact wpS_mono (out _ (by decide)) (fun _ _ h => h.elim) (fun _ _ h => h) (fun _ _ h => h.elim) (fun _ _ h => h.elim) (fun _ _ _ h => h.elim)
theorem opMulS_at {x : Str} {i : Int} {S : Store} (h : 2 ≤ i ∧ i ≤ 100 ∧ 1 ≤ x.length ∧ x.length ≤ 1000) : opMulS (.str x) (.int i) S = some (.str (repS x i.toNat), S) := by
  unfold opMulS
  simp only
  rw [if_pos h]
theorem strsOf_map : ∀ {xs : List Str}, strsOf (xs.map W.str) = some xs
  | [] => rfl
  | x :: xs => by
    have ih : strsOf (xs.map W.str) = some xs := strsOf_map
    unfold strsOf at ih ⊢
    rw [List.map_cons]
    simp only [mapO, ih]
theorem join_short : ∀ {ys : List Str}, (∀ y ∈ ys, y.length = 1) → (Str.join "" ys).length ≤ ys.length
  | [], _ => Nat.le_refl _
  | [y], h => by
    show y.length ≤ 1
    rw [h y (List.mem_cons_self ..)]
    exact Nat.le_refl _
  | y :: z :: ys, h => by
    rw [Str.join, strLen_append, strLen_append]
    · have ih := join_short (ys := z :: ys) fun u hu => h u (List.mem_cons_of_mem _ hu)
      have hy := h y (List.mem_cons_self ..)
      have e : (Str.ofString "").length = 0 := by decide
      simp only [List.length_cons] at ih ⊢
      omega
    · intro q; cases q
theorem mJoin_at {q : Nat} {ys : List Str} {S : Store} (g : S[q]? = some (.lst (ys.map W.str))) (h : ∀ y ∈ ys, y.length = 1 ∧ okS y = true) (hl : ys.length ≤ 1000) : ∃ wd : Str, mJoin (.str "") [.ref q] S = some (.str wd, S) ∧ okS wd = true ∧ wd.length ≤ ys.length := by
  have ok : okS (Txt.join "" ys) = true := by
    rw [TL.join_eq]
    exact okS_join (by decide) ys fun y hy => (h y hy).2
  refine ⟨Txt.join "" ys, ?_, ok, ?_⟩
  · unfold mJoin seqW
    simp only [g, Option.bind_some, strsOf_map]
    have e : (Str.ofString "").length = 0 := by decide
    have s : (ys.map (·.length)).sum ≤ ys.length := by
      have : ∀ zs : List Str, (∀ y ∈ zs, y.length = 1) → (zs.map (·.length)).sum ≤ zs.length := fun zs => by
        induction zs with
        | nil => intro _; simp
        | cons z zs ih =>
          intro hz
          have := ih fun y hy => hz y (List.mem_cons_of_mem _ hy)
          have := hz z (List.mem_cons_self ..)
          simp only [List.map_cons, List.sum_cons, List.length_cons]
          omega
      exact this ys fun y hy => (h y hy).1
    rw [if_pos ⟨by rw [e]; omega, ok⟩]
  · rw [TL.join_eq]
    exact join_short fun y hy => (h y hy).1
end K01
/-! K01r: the law of k01 is true. -/
namespace K01
open PySem L2 N
/-- the words of the first part -/
def Wd (i : Nat) (x : Str) : Prop := okS x = true ∧ x.length ≤ i
abbrev e0 (ns : List Int) (x1 x2 x3 x4 x5 x6 x7 x8 x9 x10 : Option W) : Ev := [some (.rl (ns.map W.int)), x1, x2, x3, x4, x5, x6, x7, x8, x9, x10]
theorem b2_spec {ns : List Int} {x4 x5 : Option W} {q i : Nat} {xs : List Str} {S : Store} {D : NEnds} (hi : i < 4) (g : S[q]? = some (.lst (xs.map W.str))) (hx : ∀ x ∈ xs, Wd i x) (hl : xs.length ≤ 4 ^ i)
    (nx : ∀ (q' : Nat) (zs : List Str) (x4 x5 : Option W) (S' : Store), S'[q']? = some (.lst (zs.map W.str)) → (∀ x ∈ zs, Wd (i + 1) x) → zs.length ≤ 4 ^ (i + 1) → D.nx (e0 ns (some (.ref q')) (some (.int i)) none x4 x5 none none none none none) S') :
    wpS (d_law_b2 (e0 ns (some (.ref q)) (some (.int i)) none x4 x5 none none none none none) S) D := by
  have h256 : xs.length ≤ 64 := Nat.le_trans hl (by rcases (show i = 0 ∨ i = 1 ∨ i = 2 ∨ i = 3 by omega) with rfl | rfl | rfl | rfl <;> decide)
  have l3 : ("o-x" : Str).cps.toList = [111, 45, 120] := by decide
  unfold d_law_b2
  rw [wpS_dSeq]
  refine wpS_join' (fun ε' S' => ε' = e0 ns (some (.ref q)) (some (.int i)) none (some (.ref S.length)) x5 none none none none none ∧ S' = S ++ [.lst []]) ?_ ?_
  · simp only [WPA, Nat.reduceSub, Nat.reduceAdd, tgN, tgNil, tgCons, tgTup, wipeE, isT, String.reduceBEq, reduceIte]
    first | exact ⟨lenOk_of (by decide), rfl, rfl⟩ | exact ⟨rfl, rfl⟩ | exact lenOk_of (by decide) | rfl
  rintro ε' S1 ⟨rfl, rfl⟩
  dsimp only [e0]
  have hq := (List.getElem?_eq_some_iff.mp g).1
  rw [wpS_dSeq]
  refine wpS_join' (fun ε' S' => ∃ (x5 : Option W) (ys : List Str), ε' = e0 ns (some (.ref q)) (some (.int i)) none (some (.ref S.length)) x5 none none none none none ∧ S'[S.length]? = some (.lst (ys.map W.str)) ∧ S'[q]? = some (.lst (xs.map W.str)) ∧ (∀ y ∈ ys, Wd (i + 1) y) ∧ ys.length ≤ 3 * xs.length) ?_ ?_
  · simp only [WPA, Nat.reduceSub, Nat.reduceAdd, tgN, tgNil, tgCons, tgTup, wipeE, isT, String.reduceBEq, reduceIte, srcW, List.length_map, l3]
    refine wpS_forL (fun j ε' S' => ∃ (x5 : Option W) (ys : List Str), ε' = e0 ns (some (.ref q)) (some (.int i)) none (some (.ref S.length)) x5 none none none none none ∧ S'[S.length]? = some (.lst (ys.map W.str)) ∧ S'[q]? = some (.lst (xs.map W.str)) ∧ (∀ y ∈ ys, Wd (i + 1) y) ∧ ys.length ≤ j * xs.length) ⟨x5, [], rfl, get_new, Fr.app.g0 g, (fun _ h => nomatch h), Nat.zero_le _⟩ (fun _ _ _ _ _ => trivial) ?_ ?_
    · rintro j w ε S2 e ⟨x5, ys, rfl, gl, gq, hy, ly⟩
      obtain ⟨c, hc, rfl, cok⟩ : ∃ c : Nat, c ∈ ([111, 45, 120] : List Nat) ∧ w = .str ⟨#[c]⟩ ∧ okS ⟨#[c]⟩ = true := by
        have := List.mem_of_getElem? e
        simp only [List.map_cons, List.map_nil, List.mem_cons, List.mem_nil_iff, or_false] at this
        rcases this with rfl | rfl | rfl
        · exact ⟨111, by simp, rfl, by decide⟩
        · exact ⟨45, by simp, rfl, by decide⟩
        · exact ⟨120, by simp, rfl, by decide⟩
      have hj : j < 3 := by simpa using (List.getElem?_eq_some_iff.mp e).1
      have lc : (⟨#[c]⟩ : Str).length = 1 := rfl
      unfold d_law_b1
      have lly : ys.length ≤ 3 * xs.length := Nat.le_trans ly (Nat.mul_le_mul_right _ (by omega))
      simp only [WPA, Nat.reduceSub, Nat.reduceAdd, tgN, tgNil, tgCons, tgTup, wipeE, isT, String.reduceBEq, reduceIte, tyM_ref gl, srcW_ref gq, List.length_map, lenOk_of (show xs.length ≤ 1000000 by omega)]
      refine wp_mono (wp_lcP (xs := xs) (c := W.str) (fun x => (x.length : Int) == i) (fun x => W.str (x ++ ⟨#[c]⟩)) (fun S' => Fr 0 S2 S') Fr.refl (fun S' f => f.g0 gq) ?_) ?_ (fun _ _ q => q)
      · intro k x S3 ek f
        have hw := hx x (List.mem_of_getElem? ek)
        have hz : x.length ≤ sizeLine := by rw [sizeLine_eq]; have := hw.2; omega
        have hz2 : x.length + (⟨#[c]⟩ : Str).length ≤ sizeLine := by rw [sizeLine_eq, lc]; have := hw.2; omega
        have ad : opAdd (.str x) (.str ⟨#[c]⟩) S3 = some (.str (x ++ ⟨#[c]⟩), S3) := if_pos hz2
        simp only [WPA, Nat.reduceSub, Nat.reduceAdd, tgN, tgNil, tgCons, tgTup, wipeE, isT, String.reduceBEq, reduceIte, hz, ad]
        split <;> exact f
      · rintro ws S3 ⟨rfl, f⟩
        have em : (xs.filter fun x => (x.length : Int) == i).map (fun x => W.str (x ++ ⟨#[c]⟩)) = ((xs.filter fun x => (x.length : Int) == i).map fun x => x ++ (⟨#[c]⟩ : Str)).map W.str := by
          rw [List.map_map]; rfl
        rw [em]
        generalize hzs : (xs.filter fun x => (x.length : Int) == i).map (fun x => x ++ (⟨#[c]⟩ : Str)) = zs
        have lz : zs.length ≤ xs.length := by rw [← hzs, List.length_map]; exact List.length_filter_le _ _
        have hz : ∀ z ∈ zs, Wd (i + 1) z := fun z hz => by
          rw [← hzs] at hz
          obtain ⟨x, hx2, rfl⟩ := List.mem_map.mp hz
          have hw := hx x (List.mem_filter.mp hx2).1
          refine ⟨?_, by rw [strLen_append, lc]; have := hw.2; omega⟩
          have ok2 := hw.1
          unfold okS at ok2 cok ⊢
          rw [List.all_eq_true] at ok2 cok ⊢
          intro d hd
          have hd : d ∈ (x.cps ++ #[c]).toList := hd
          rw [Array.toList_append] at hd
          rcases List.mem_append.mp hd with h | h
          · exact ok2 d h
          · exact cok d h
        have fT := f.snoc (T := [O.lst (zs.map W.str)])
        rw [mExtend_ref (fT.g0 gl) get_new (by rw [List.length_map, List.length_map]; omega), wO_some]
        refine ⟨_, ys ++ zs, rfl, ?_, ?_, fun y h => (List.mem_append.mp h).elim (hy y) (hz y), ?_⟩
        · rw [← List.map_append]
          exact get_set (fT.g0 gl)
        · rw [List.getElem?_set_ne (by omega)]
          exact fT.g0 gq
        · rw [List.length_append, Nat.succ_mul]; omega
    · rintro ε S2 ⟨x5, ys, h1, h2, h3, h4, h5⟩
      exact ⟨x5, ys, h1, h2, h3, h4, h5⟩
  rintro ε' S2 ⟨x5, ys, rfl, gl, gq, hy, ly⟩
  dsimp only [e0]
  have ad := opAdd_ref gq gl (by rw [List.length_map, List.length_map]; omega)
  simp only [WPA, Nat.reduceSub, Nat.reduceAdd, tgN, tgNil, tgCons, tgTup, wipeE, isT, String.reduceBEq, reduceIte]
  rw [ad, wO_some]
  refine nx S2.length (xs ++ ys) _ _ _ (by rw [List.map_append]; exact get_new) (fun x h => (List.mem_append.mp h).elim (fun h => ⟨(hx x h).1, Nat.le_succ_of_le (hx x h).2⟩) (hy x)) ?_
  rw [List.length_append, Nat.pow_succ]
  omega
theorem sg_ok : ∀ x ∈ ([("o" : Str), "-", "o", "-", "o", "-", "O", " ", "0", "_"] : List Str), x.length = 1 ∧ okS x = true := by
  intro x hx
  simp only [List.mem_cons, List.mem_nil_iff, or_false] at hx
  rcases hx with rfl | rfl | rfl | rfl | rfl | rfl | rfl | rfl | rfl | rfl <;> exact ⟨by decide, by decide⟩
theorem b3_spec {ns : List Int} {x1 x2 x3 x4 x5 x8 x9 x10 : Option W} {i n p : Nat} {S : Store} (D2 : Purse (p + 1) n p S) (hn : n < 2 ^ 60) {D : NEnds}
    (nx : ∀ (x5 x8 x9 x10 : Option W) (S' : Store), Purse (p + 1) (n + 100) p S' → D.nx (e0 ns x1 x2 x3 x4 x5 (some (.ref p)) (some (.int i)) x8 x9 x10) S') :
    wpS (d_law_b3 (e0 ns x1 x2 x3 x4 x5 (some (.ref p)) (some (.int i)) x8 x9 x10) S) D := by
  unfold d_law_b3
  rw [wpS_dSeq]
  refine wpS_join' (fun ε' S' => ∃ (q : Nat) (zs : List Str), ε' = e0 ns x1 x2 x3 x4 x5 (some (.ref p)) (some (.int i)) (some (.ref q)) x9 x10 ∧ p + 1 ≤ q ∧ S'[q]? = some (.lst (zs.map W.str)) ∧ 1 ≤ zs.length ∧ zs.length ≤ 10 ∧ (∀ z ∈ zs, z.length = 1 ∧ okS z = true) ∧ Purse (p + 1) (n + 1) p S') ?_ ?_
  · simp only [WPA, Nat.reduceSub, Nat.reduceAdd, tgN, tgNil, tgCons, tgTup, wipeE, isT, String.reduceBEq, reduceIte, lenOk_of (show 10 ≤ 1000000 by decide), lenOk_of (show 4 ≤ 1000000 by decide)]
    have hb := D2.bl
    have D3 : Purse (p + 1) n p (S ++ [O.lst (([("o" : Str), "-", "o", "-", "o", "-", "O", " ", "0", "_"] : List Str).map W.str)] ++ [O.lst [W.int 4, W.int 4, W.int 4, W.int 10]]) := D2.mono (Nat.le_refl _) Fr.app.snoc
    have g3 : (S ++ [O.lst (([("o" : Str), "-", "o", "-", "o", "-", "O", " ", "0", "_"] : List Str).map W.str)] ++ [O.lst [W.int 4, W.int 4, W.int 4, W.int 10]])[S.length]? = some (.lst (([("o" : Str), "-", "o", "-", "o", "-", "O", " ", "0", "_"] : List Str).map W.str)) := Fr.app.g0 get_new
    have g4 : (S ++ [O.lst (([("o" : Str), "-", "o", "-", "o", "-", "O", " ", "0", "_"] : List Str).map W.str)] ++ [O.lst [W.int 4, W.int 4, W.int 4, W.int 10]])[(S ++ [O.lst (([("o" : Str), "-", "o", "-", "o", "-", "O", " ", "0", "_"] : List Str).map W.str)]).length]? = some (.lst [W.int 4, W.int 4, W.int 4, W.int 10]) := get_new
    refine wp_mono (take_spec D3 (by omega) (by decide) (by decide)) ?_ (fun _ _ q => q)
    rintro r S4 ⟨k, rfl, k0, k1, D4, f4, _⟩
    have g4 := f4.get _ _ (by rw [List.length_append]; omega) g4
    have g3 := f4.get _ _ hb g3
    simp only [List.map_cons, List.map_nil] at g4
    obtain ⟨m, hm, m1, m2⟩ : ∃ m : Nat, (([W.int 4, W.int 4, W.int 4, W.int 10] : List W)[k.toNat]?) = some (.int m) ∧ 1 ≤ m ∧ m ≤ 10 := by
      rcases (show k = 0 ∨ k = 1 ∨ k = 2 ∨ k = 3 by omega) with rfl | rfl | rfl | rfl
      · exact ⟨4, rfl, by decide, by decide⟩
      · exact ⟨4, rfl, by decide, by decide⟩
      · exact ⟨4, rfl, by decide, by decide⟩
      · exact ⟨10, rfl, by decide, by decide⟩
    rw [opIxD_lst g4, opIx_ref, lstAt_of g4, Option.bind_some, atI_nn k0, hm, Option.map_some, wO_some]
    simp only [wI_int]
    have sl : ∀ L : List Str, L.length = 10 → S4[S.length]? = some (.lst (L.map W.str)) → opSl (.ref S.length) none (some (m : Int)) S4 = some (.ref S4.length, S4 ++ [.lst ((L.take m).map W.str)]) := fun L hL g => by
      rw [opSl_ref g]
      have : cutL (L.map W.str) none (some (m : Int)) = (L.take m).map W.str := by
        unfold cutL
        rw [HT.sIx_none, HT.sIx_nat, List.drop_zero, Nat.sub_zero, List.map_take, List.length_map, Nat.min_eq_left (by omega)]
      rw [this]
    rw [sl _ rfl g3, wO_some]
    refine ⟨S4.length, _, rfl, D4.bl, get_new, ?_, ?_, fun z hz => sg_ok z (List.mem_of_mem_take hz), D4.mono (Nat.le_refl _) Fr.app⟩
    · rw [List.length_take]; simp; omega
    · rw [List.length_take]; omega
  rintro ε' S3 ⟨q, zs, rfl, bq, gq, z1, z10, zok, D3⟩
  dsimp only [e0]
  rw [wpS_dSeq]
  refine wpS_join' (fun ε' S' => ∃ wd : Str, ε' = e0 ns x1 x2 x3 x4 x5 (some (.ref p)) (some (.int i)) (some (.ref q)) (some (.str wd)) x10 ∧ wd.length ≤ 10 ∧ okS wd = true ∧ Purse (p + 1) (n + 20) p S') ?_ ?_
  · simp only [WPA, Nat.reduceSub, Nat.reduceAdd, tgN, tgNil, tgCons, tgTup, wipeE, isT, String.reduceBEq, reduceIte]
    refine ⟨rfl, ?_⟩
    refine wp_mono (take_spec D3 (by omega) (by decide) (by decide)) ?_ (fun _ _ q => q)
    rintro r S4 ⟨c, rfl, c0, c1, D4, f4, _⟩
    obtain ⟨cn, rfl, hcn⟩ : ∃ cn : Nat, c = (cn : Int) ∧ cn ≤ 10 := ⟨c.toNat, by omega, by omega⟩
    simp only [rngW_len]
    refine ⟨bnd_of (by omega) (by omega), lenOk_of (by omega), ?_⟩
    have gq4 := f4.get _ _ bq gq
    refine wp_mono (wp_lcL (acc := []) (fun k acc S' => ∃ ys : List Str, acc = ys.map W.str ∧ ys.length = k ∧ (∀ y ∈ ys, y.length = 1 ∧ okS y = true) ∧ Purse (p + 1) (n + 2 + k) p S' ∧ Fr (p + 1) S4 S' ∧ k ≤ cn) ⟨[], rfl, rfl, fun _ h => by simp at h, D4, Fr.refl, Nat.zero_le _⟩ (fun _ _ _ _ _ => trivial) ?_) ?_ (fun _ _ q => q)
    · rintro k x acc S5 e ⟨ys, rfl, ly, hy, D5, f5, hk⟩
      obtain ⟨hk, rfl⟩ := rngW_get e
      have hk : k < cn := by simpa using hk
      have gq5 := f5.get _ _ bq gq4
      simp only [WPA, Nat.reduceSub, Nat.reduceAdd, tgN, tgNil, tgCons, tgTup, wipeE, isT, String.reduceBEq, reduceIte, opLen_ref gq5, List.length_map]
      refine wp_mono (take_spec D5 (by omega) (by omega) (by omega)) ?_ (fun _ _ q => q)
      rintro r S6 ⟨v, rfl, v0, v1, D6, f6, _⟩
      have hv : v.toNat < zs.length := by omega
      have gq6 := f6.get _ _ bq gq5
      rw [opIxD_lst gq6, opIx_ref, lstAt_of gq6, Option.bind_some, atI_nn v0, List.getElem?_map, List.getElem?_eq_getElem hv, Option.map_some, Option.map_some, wO_some]
      refine ⟨ys ++ [zs[v.toNat]], by simp, by simp [ly], fun y hy2 => ?_, D6.mono (by omega) Fr.refl, f5.trans f6, hk⟩
      rcases List.mem_append.mp hy2 with h | h
      · exact hy y h
      · rw [List.mem_singleton.mp h]; exact zok _ (List.getElem_mem hv)
    · rintro ws S5 ⟨ys, ew, ly, hy, D5, f5, _⟩
      rw [List.nil_append] at ew
      subst ew
      rw [rngW_len] at ly D5
      obtain ⟨wd, w1, w2, w3⟩ := mJoin_at (S := S5 ++ [O.lst (ys.map W.str)]) get_new hy (by omega)
      rw [w1, wO_some]
      exact ⟨wd, rfl, by omega, w2, D5.mono (by omega) Fr.app⟩
  clear D3 gq
  rintro ε' S3 ⟨wd, rfl, wdl, wdok, D3⟩
  dsimp only [e0]
  rw [wpS_dSeq]
  refine wpS_join' (fun ε' S' => ∃ (q10 : Nat) (vs : List W), ε' = e0 ns x1 x2 x3 x4 x5 (some (.ref p)) (some (.int i)) (some (.ref q)) (some (.str wd)) (some (.ref q10)) ∧ p + 1 ≤ q10 ∧ S'[q10]? = some (.lst vs) ∧ vs.length = 12 ∧ (∀ S2, Fr (p + 1) S' S2 → ∀ w ∈ vs, Va S2 w) ∧ Purse (p + 1) (n + 20) p S') ?_ ?_
  · simp only [wpS_dSet, wp_dLst, wp_dTup, wp_aCons, wp_aNil, wp_dVar, wp_dC, EVA, Nat.reduceSub, Nat.reduceAdd, tgN, tgNil, tgCons, tgTup, wipeE, isT, String.reduceBEq, reduceIte, wO_some, wp_dDict1, wp_dDict0']
    refine ⟨lenOk_of (by decide), lenOk_of (by decide), lenOk_of (by decide), lenOk_of (by decide), lenOk_of (by decide), lenOk_of (by decide), lenOk_of (by decide), ?_⟩
    simp only [List.append_assoc, List.singleton_append, List.length_append, List.length_cons, List.length_nil, Nat.zero_add, Nat.add_assoc, Nat.reduceAdd]
    have hb := D3.bl
    refine ⟨S3.length + 6, _, rfl, by omega, by rw [at_get]; rfl, rfl, fun S2 f w hw => ?_, D3.mono (Nat.le_refl _) Fr.app⟩
    have G : ∀ (j : Nat) (o : O), ([O.lst [W.str "o"], O.dct [], O.dct [(Sum.inr (Str.ofString "o"), W.int 1)], O.lst [], O.lst [W.str "o", W.str "-"], O.lst [W.str wd]] : List O)[j]? = some o → S2[S3.length + j]? = some o := fun j o h => by
      refine f.get _ _ (by omega) ?_
      rw [at_get, ← h]
      match j, h with
      | 0, _ => rfl
      | 1, _ => rfl
      | 2, _ => rfl
      | 3, _ => rfl
      | 4, _ => rfl
      | 5, _ => rfl
      | j + 6, h => cases h
    simp only [List.mem_cons, List.mem_nil_iff, or_false] at hw
    rcases hw with rfl | rfl | rfl | rfl | rfl | rfl | rfl | rfl | rfl | rfl | rfl | rfl
    · exact .non
    · exact .int 0
    · exact .int 1
    · exact .bl true
    · exact .lst (G 0 _ rfl) (by decide)
    · exact .tup _
    · exact .dct (G 1 _ rfl)
    · exact .dct (G 2 _ rfl)
    · exact .lst (G 3 _ rfl) (by decide)
    · exact .lst (G 4 _ rfl) (by decide)
    · exact .lst (G 5 _ rfl) (by simp)
    · exact .tup _
  clear D3
  rintro ε' S3 ⟨q10, vs, rfl, b10, g10, lvs, hv, D3⟩
  dsimp only [e0]
  simp only [WPA, Nat.reduceSub, Nat.reduceAdd, tgN, tgNil, tgCons, tgTup, wipeE, isT, String.reduceBEq, reduceIte]
  refine wp_mono (right_any (Va.str (by omega))) ?_ (fun _ _ q => q)
  rintro r S4 ⟨rfl, f4⟩
  have D4 := D3.mono (Nat.le_refl _) f4
  simp only [WPA, Nat.reduceSub, Nat.reduceAdd, tgN, tgNil, tgCons, tgTup, wipeE, isT, String.reduceBEq, reduceIte, opLen_ref (f4.g0 g10), lvs]
  refine wp_mono (take_spec D4 (by omega) (by decide) (by decide)) ?_ (fun _ _ q => q)
  rintro r S5 ⟨v, rfl, v0, v1, D5, f5, _⟩
  have v1 : v < 12 := by simpa using v1
  have hvl : v.toNat < vs.length := by omega
  have f45 := (f4.up (Nat.zero_le _)).trans f5
  have g5 := f5.get _ _ b10 (f4.g0 g10)
  rw [opIxD_lst g5, opIx_ref, lstAt_of g5, Option.bind_some, atI_nn v0, List.getElem?_eq_getElem hvl, Option.map_some, wO_some]
  refine wp_mono (right_any (hv _ f45 _ (List.getElem_mem hvl))) ?_ (fun _ _ q => q)
  rintro r S6 ⟨rfl, f6⟩
  simp only [WPA, Nat.reduceSub, Nat.reduceAdd, tgN, tgNil, tgCons, tgTup, wipeE, isT, String.reduceBEq, reduceIte]
  exact nx _ _ _ _ _ (D5.mono (by omega) f6)
theorem law_true (ns : List Int) (h : ns.length ≤ 63) (h2 : ∀ n ∈ ns, Builtin.Int.intBits n ≤ 1048576) : wp (n_law [.rl (ns.map W.int)] []) (fun r _ => r = .bl true) (fun _ _ => False) := by
  unfold n_law d_law
  simp only [wp_dfn, EVA, Nat.reduceSub, Nat.reduceAdd, tgN, tgNil, tgCons, tgTup, wipeE, isT, String.reduceBEq, reduceIte]
  rw [wpS_dSeq]
  refine wpS_join' (fun ε' S' => ε' = e0 ns (some (.ref 0)) none none none none none none none none none ∧ S' = [.lst [.str ""]]) ?_ ?_
  · simp only [WPA, Nat.reduceSub, Nat.reduceAdd, tgN, tgNil, tgCons, tgTup, wipeE, isT, String.reduceBEq, reduceIte]
    first | exact ⟨lenOk_of (by decide), rfl, rfl⟩ | exact ⟨rfl, rfl⟩ | exact lenOk_of (by decide) | rfl
  rintro ε' S1 ⟨rfl, rfl⟩
  dsimp only [e0]
  rw [wpS_dSeq]
  refine wpS_join' (fun ε' S' => ∃ (q : Nat) (xs : List Str) (x2 x4 x5 : Option W), ε' = e0 ns (some (.ref q)) x2 none x4 x5 none none none none none ∧ S'[q]? = some (.lst (xs.map W.str)) ∧ (∀ x ∈ xs, Wd 4 x) ∧ xs.length ≤ 256) ?_ ?_
  · simp only [WPA, Nat.reduceSub, Nat.reduceAdd, tgN, tgNil, tgCons, tgTup, wipeE, isT, String.reduceBEq, reduceIte]
    refine ⟨by decide, ?_⟩
    refine wpS_forL (fun i ε' S' => ∃ (q : Nat) (xs : List Str) (x2 x4 x5 : Option W), ε' = e0 ns (some (.ref q)) x2 none x4 x5 none none none none none ∧ S'[q]? = some (.lst (xs.map W.str)) ∧ (∀ x ∈ xs, Wd i x) ∧ xs.length ≤ 4 ^ i) ⟨0, [""], _, _, _, rfl, rfl, fun x hx => by rw [List.mem_singleton.mp hx]; exact ⟨by decide, by decide⟩, by decide⟩ (fun _ _ _ _ _ => trivial) ?_ ?_
    · rintro i x ε S e ⟨q, xs, x2, x4, x5, rfl, gq, hx, lx⟩
      obtain ⟨hi, rfl⟩ := rngW_get e
      have hi : i < 4 := by simpa using hi
      rw [Int.zero_add]
      simp only [EVA, Nat.reduceSub, Nat.reduceAdd, tgN, tgNil, tgCons, tgTup, wipeE, isT, String.reduceBEq, reduceIte, wO_some]
      exact b2_spec hi gq hx lx fun q' zs x4 x5 S' g1 g2 g3 => ⟨q', zs, _, x4, x5, rfl, g1, g2, g3⟩
    · rintro ε S ⟨q, xs, x2, x4, x5, e, g, hx, lx⟩
      exact ⟨q, xs, x2, x4, x5, e, g, hx, lx⟩
  rintro ε' S1 ⟨q, xs, x2, x4, x5, rfl, gq, hx, lx⟩
  dsimp only [e0]
  rw [wpS_dSeq]
  refine wpS_join' (fun ε' S' => ε' = e0 ns (some (.ref q)) x2 none x4 x5 none none none none none) ?_ ?_
  · simp only [WPA, Nat.reduceSub, Nat.reduceAdd, tgN, tgNil, tgCons, tgTup, wipeE, isT, String.reduceBEq, reduceIte, srcW_ref gq, List.length_map]
    refine ⟨lenOk_of (by omega), ?_⟩
    refine wp_mono (wp_lcL (acc := []) (fun k acc S' => acc = [] ∧ Fr 0 S1 S') ⟨rfl, Fr.refl⟩ (fun _ _ S' _ h => h.2.g0 gq) ?_) ?_ (fun _ _ q => q)
    · rintro k w acc S4 e ⟨rfl, f4⟩
      obtain ⟨x, hxm, rfl⟩ := List.mem_map.mp (List.mem_of_getElem? e)
      simp only [WPA, Nat.reduceSub, Nat.reduceAdd, tgN, tgNil, tgCons, tgTup, wipeE, isT, String.reduceBEq, reduceIte]
      refine wp_mono (right_any (Va.str (by have := (hx x hxm).2; omega))) ?_ (fun _ _ q => q)
      rintro r S5 ⟨rfl, f5⟩
      simp only [WPA, Nat.reduceSub, Nat.reduceAdd, tgN, tgNil, tgCons, tgTup, wipeE, isT, String.reduceBEq, reduceIte]
      exact f4.trans f5
    · rintro ws S4 ⟨ew, f4⟩
      rw [List.nil_append] at ew
      subst ew
      have ne : opNe (.ref S4.length) (.ref (S4 ++ [O.lst []]).length) (S4 ++ [O.lst []] ++ [O.lst []]) = some (.bl false, S4 ++ [O.lst []] ++ [O.lst []]) := opNe_ones (ws := []) (i := 0) (Fr.app.g0 get_new) get_new (fun w h => by cases h)
      refine ⟨lenOk_of (by decide), ?_⟩
      rw [ne, wO_some]
      simp only [WPA, Nat.reduceSub, Nat.reduceAdd, tgN, tgNil, tgCons, tgTup, wipeE, isT, String.reduceBEq, reduceIte]
  rintro ε' S2 rfl
  dsimp only [e0]
  rw [wpS_dSeq]
  refine wpS_join' (fun ε' S' => ∃ x1 x2 x3 x4 x5 x6 x7 x8 x9 x10 : Option W, ε' = e0 ns x1 x2 x3 x4 x5 x6 x7 x8 x9 x10) ?_ ?_
  · simp only [WPA, Nat.reduceSub, Nat.reduceAdd, tgN, tgNil, tgCons, tgTup, wipeE, isT, String.reduceBEq, reduceIte, List.length_map]
    obtain ⟨m, hm, hm0, hm1⟩ := clamp (n := ns.length) (c := 8) (by decide)
    have hm2 : (if 1 < (if (ns.length : Int) < 8 then (ns.length : Int) else 8) then (if (ns.length : Int) < 8 then (ns.length : Int) else 8) else 1) = (m : Int) := hm
    first | rw [hm] | rw [hm2]
    refine ⟨bnd_of (by omega) (by omega), ?_⟩
    refine wpS_forL (fun i ε S' => ∃ x1 x2 x3 x4 x5 x6 x7 x8 x9 x10 : Option W, ε = e0 ns x1 x2 x3 x4 x5 x6 x7 x8 x9 x10) ⟨_, _, _, _, _, _, _, _, _, _, rfl⟩ (fun _ _ _ _ _ => trivial) ?_ (fun ε S' h => h)
    rintro i x ε S e ⟨x1, x2, x3, x4, x5, x6, x7, x8, x9, x10, rfl⟩
    obtain ⟨hi, rfl⟩ := rngW_get e
    have hi : i < m := by simpa using hi
    rw [Int.zero_add]
    unfold d_law_b4
    simp only [WPA, Nat.reduceSub, Nat.reduceAdd, tgN, tgNil, tgCons, tgTup, wipeE, isT, String.reduceBEq, reduceIte]
    refine wp_mono (bag_spec (by omega) h2) ?_ (fun _ _ q => q)
    rintro r S3 ⟨rfl, D1⟩
    generalize S.length = p at D1
    refine ⟨by decide, ?_⟩
    refine wpS_forL (fun j ε S' => ∃ x5 x7 x8 x9 x10 : Option W, ε = e0 ns x1 x2 (some (.int i)) x4 x5 (some (.ref p)) x7 x8 x9 x10 ∧ Purse (p + 1) (100 * j) p S') ⟨_, _, _, _, _, rfl, D1⟩ (fun _ _ _ _ _ => trivial) ?_ (fun ε S' ⟨x5, x7, x8, x9, x10, e, _⟩ => ⟨x1, x2, _, x4, x5, _, x7, x8, x9, x10, e⟩)
    rintro j x ε S4 e2 ⟨x5, x7, x8, x9, x10, rfl, D2⟩
    obtain ⟨hj, rfl⟩ := rngW_get e2
    have hj : j < 20 := by simpa using hj
    rw [Int.zero_add]
    simp only [EVA, Nat.reduceSub, Nat.reduceAdd, tgN, tgNil, tgCons, tgTup, wipeE, isT, String.reduceBEq, reduceIte, wO_some]
    exact b3_spec D2 (by omega) fun y5 y8 y9 y10 S' D3 => ⟨y5, _, y8, y9, y10, rfl, D3.mono (by omega) Fr.refl⟩
  rintro ε' S3 ⟨x1, x2, x3, x4, x5, x6, x7, x8, x9, x10, rfl⟩
  dsimp only [e0]
  have la : (Str.ofString "o").length = 1 := by decide
  have lb : (Str.ofString "-").length = 1 := by decide
  simp only [WPA, Nat.reduceSub, Nat.reduceAdd, tgN, tgNil, tgCons, tgTup, wipeE, isT, String.reduceBEq, reduceIte, show ((8 : Int) == 8) = true from rfl, opMulS_at (x := Str.ofString "o") (i := 8) (by decide)]
  refine wp_mono (right_any (Va.str (by rw [repS_len, la]; decide))) ?_ (fun _ _ q => q)
  rintro r S4 ⟨rfl, f4⟩
  simp only [WPA, Nat.reduceSub, Nat.reduceAdd, tgN, tgNil, tgCons, tgTup, wipeE, isT, String.reduceBEq, reduceIte, opMulS_at (x := Str.ofString "o") (i := 9) (by decide)]
  refine wp_mono (right_any (Va.str (by rw [repS_len, la]; decide))) ?_ (fun _ _ q => q)
  rintro r S5 ⟨rfl, f5⟩
  simp only [WPA, Nat.reduceSub, Nat.reduceAdd, tgN, tgNil, tgCons, tgTup, wipeE, isT, String.reduceBEq, reduceIte, opMulS_at (x := Str.ofString "-") (i := 8) (by decide)]
  refine wp_mono (right_any (Va.str (by rw [repS_len, lb]; decide))) ?_ (fun _ _ q => q)
  rintro r S6 ⟨rfl, f6⟩
  rfl
end K01
namespace K01
open PySem L2 N
theorem facts {l : PySem.W.OpenLaw} {w : World} {K : PySem.W.Frag} {h : Heap} {mg : Str → Option Value} {fa : Addr} (X : K.In h) (Gg : h.Ns mainGlobals mg) (hfa : mg "law" = some (.ref fa))
    {t_CLOSED_SIGN : Tok}
    {t_LONGEST_PATTERN : Tok}
    {t_OPEN_SIGN : Tok}
    {C_InvalidPattern : Addr}
    {C_InvalidStretches : Addr}
    {C_Calendar : Addr}
    {kt_Calendar_LONGEST : Tok}
    {f_is_integer : Addr} {od_is_integer an_is_integer : Option Addr} {sl_is_integer : Array (Option Value)} {oc_is_integer kV_is_integer dc_is_integer pm_is_integer cd_is_integer ct_is_integer : Value}
    {T_is_integer : Addr} {o_is_integer : Obj} {z_is_integer : Nat}
    {f_is_stretch : Addr} {od_is_stretch an_is_stretch : Option Addr} {sl_is_stretch : Array (Option Value)} {oc_is_stretch kV_is_stretch dc_is_stretch pm_is_stretch cd_is_stretch ct_is_stretch : Value}
    {f_require_stretches : Addr} {od_require_stretches an_require_stretches : Option Addr} {sl_require_stretches : Array (Option Value)} {oc_require_stretches kV_require_stretches dc_require_stretches pm_require_stretches cd_require_stretches ct_require_stretches : Value}
    {f_joined_stretches : Addr} {od_joined_stretches an_joined_stretches : Option Addr} {sl_joined_stretches : Array (Option Value)} {oc_joined_stretches kV_joined_stretches dc_joined_stretches pm_joined_stretches cd_joined_stretches ct_joined_stretches : Value}
    {f_without_stretches : Addr} {od_without_stretches an_without_stretches : Option Addr} {sl_without_stretches : Array (Option Value)} {oc_without_stretches kV_without_stretches dc_without_stretches pm_without_stretches cd_without_stretches ct_without_stretches : Value}
    {f_law_bag : Addr} {od_law_bag an_law_bag : Option Addr} {sl_law_bag : Array (Option Value)} {oc_law_bag kV_law_bag dc_law_bag pm_law_bag cd_law_bag ct_law_bag : Value}
    {f_law_take : Addr} {od_law_take an_law_take : Option Addr} {sl_law_take : Array (Option Value)} {oc_law_take kV_law_take dc_law_take pm_law_take cd_law_take ct_law_take : Value}
    {f_law_due : Addr} {od_law_due an_law_due : Option Addr} {sl_law_due : Array (Option Value)} {oc_law_due kV_law_due dc_law_due pm_law_due cd_law_due ct_law_due : Value}
    {f_Calendar_pattern : Addr} {od_Calendar_pattern an_Calendar_pattern : Option Addr} {sl_Calendar_pattern : Array (Option Value)} {oc_Calendar_pattern kV_Calendar_pattern dc_Calendar_pattern pm_Calendar_pattern cd_Calendar_pattern ct_Calendar_pattern : Value}
    {p_Calendar_pattern : Addr} {re_Calendar_pattern : List Value}
    {f_is_pattern_reading : Addr} {od_is_pattern_reading an_is_pattern_reading : Option Addr} {sl_is_pattern_reading : Array (Option Value)} {oc_is_pattern_reading kV_is_pattern_reading dc_is_pattern_reading pm_is_pattern_reading cd_is_pattern_reading ct_is_pattern_reading : Value}
    {f_Calendar_init : Addr} {od_Calendar_init an_Calendar_init : Option Addr} {sl_Calendar_init : Array (Option Value)} {oc_Calendar_init dc_Calendar_init pm_Calendar_init cd_Calendar_init ct_Calendar_init : Value}
    {kD_Calendar_init : Addr}
    {T_Calendar_init_closed : Addr} {dd_Calendar_init_closed : Option Addr} {nn_Calendar_init_closed : Nat} {sl_Calendar_init_closed : Array (Option Value)}
    {T_Calendar_init_opened : Addr} {dd_Calendar_init_opened : Option Addr} {nn_Calendar_init_opened : Nat} {sl_Calendar_init_opened : Array (Option Value)}
    {f_law_taken : Addr} {od_law_taken an_law_taken : Option Addr} {sl_law_taken : Array (Option Value)} {oc_law_taken kV_law_taken dc_law_taken pm_law_taken cd_law_taken ct_law_taken : Value}
    {f_Calendar_is_pattern : Addr} {od_Calendar_is_pattern an_Calendar_is_pattern : Option Addr} {sl_Calendar_is_pattern : Array (Option Value)} {oc_Calendar_is_pattern kV_Calendar_is_pattern dc_Calendar_is_pattern pm_Calendar_is_pattern cd_Calendar_is_pattern ct_Calendar_is_pattern : Value}
    {p_Calendar_is_pattern : Addr} {re_Calendar_is_pattern : List Value}
    {f_law_right : Addr} {od_law_right an_law_right : Option Addr} {sl_law_right : Array (Option Value)} {oc_law_right kV_law_right dc_law_right pm_law_right cd_law_right ct_law_right : Value}
    {f_law : Addr} {od_law an_law : Option Addr} {sl_law : Array (Option Value)} {oc_law kV_law dc_law pm_law cd_law ct_law : Value}
    (q_abs : PySem.W.nsIn K mainGlobals "abs" = some none)
    (q_all : PySem.W.nsIn K mainGlobals "all" = some none)
    (q_bool : PySem.W.nsIn K mainGlobals "bool" = some none)
    (q_enumerate : PySem.W.nsIn K mainGlobals "enumerate" = some none)
    (q_int : PySem.W.nsIn K mainGlobals "int" = some none)
    (q_isinstance : PySem.W.nsIn K mainGlobals "isinstance" = some none)
    (q_len : PySem.W.nsIn K mainGlobals "len" = some none)
    (q_list : PySem.W.nsIn K mainGlobals "list" = some none)
    (q_max : PySem.W.nsIn K mainGlobals "max" = some none)
    (q_min : PySem.W.nsIn K mainGlobals "min" = some none)
    (q_range : PySem.W.nsIn K mainGlobals "range" = some none)
    (q_repr : PySem.W.nsIn K mainGlobals "repr" = some none)
    (q_sorted : PySem.W.nsIn K mainGlobals "sorted" = some none)
    (q_str : PySem.W.nsIn K mainGlobals "str" = some none)
    (q_tuple : PySem.W.nsIn K mainGlobals "tuple" = some none)
    (q_CLOSED_SIGN : PySem.W.nsIn K mainGlobals "CLOSED_SIGN" = some (some (.str "-" t_CLOSED_SIGN)))
    (q_LONGEST_PATTERN : PySem.W.nsIn K mainGlobals "LONGEST_PATTERN" = some (some (.int (8) t_LONGEST_PATTERN)))
    (q_OPEN_SIGN : PySem.W.nsIn K mainGlobals "OPEN_SIGN" = some (some (.str "o" t_OPEN_SIGN)))
    (xg_InvalidPattern : PySem.W.nsIn K mainGlobals "InvalidPattern" = some (some (.ref C_InvalidPattern)))
    (xq_InvalidPattern : PySem.W.excIn K C_InvalidPattern [.type "ValueError", .type "Exception", .type "BaseException", .type "object"] "ValueError.__new__" = true)
    (xk_InvalidPattern : PySem.W.keepIn K (.ref C_InvalidPattern) = true)
    (xs_InvalidPattern : PySem.W.subIn K (.ref C_InvalidPattern) (.type "BaseException") = some true)
    (xt_InvalidPattern : PySem.W.typeIn K (.ref C_InvalidPattern) = some (.type "type"))
    (xg_InvalidStretches : PySem.W.nsIn K mainGlobals "InvalidStretches" = some (some (.ref C_InvalidStretches)))
    (xq_InvalidStretches : PySem.W.excIn K C_InvalidStretches [.type "ValueError", .type "Exception", .type "BaseException", .type "object"] "ValueError.__new__" = true)
    (xk_InvalidStretches : PySem.W.keepIn K (.ref C_InvalidStretches) = true)
    (xs_InvalidStretches : PySem.W.subIn K (.ref C_InvalidStretches) (.type "BaseException") = some true)
    (xt_InvalidStretches : PySem.W.typeIn K (.ref C_InvalidStretches) = some (.type "type"))
    (zn : PySem.W.specialIn K (.builtin "object.__class__") "__get__" = some (some (.builtin "getset_descriptor.__get__")))
    (zk : PySem.W.takesIn K (.builtin "object.__class__") = some true)
    (zg_InvalidPattern : PySem.W.findIn K (.ref C_InvalidPattern) "__getattribute__" = some (some (.builtin "BaseException.__getattribute__")))
    (zt_InvalidPattern : PySem.W.findIn K (.ref C_InvalidPattern) "__getattr__" = some none)
    (za_InvalidPattern : PySem.W.findIn K (.ref C_InvalidPattern) "__class__" = some (some (.builtin "object.__class__")))
    (zo_InvalidPattern : PySem.W.mroIn K C_InvalidPattern (.type "object") = some true)
    (zd_InvalidPattern : PySem.W.hasDictIn K C_InvalidPattern = true)
    (zc_InvalidPattern : (PySem.W.clsIn K C_InvalidPattern).isSome = true)
    (zg_InvalidStretches : PySem.W.findIn K (.ref C_InvalidStretches) "__getattribute__" = some (some (.builtin "BaseException.__getattribute__")))
    (zt_InvalidStretches : PySem.W.findIn K (.ref C_InvalidStretches) "__getattr__" = some none)
    (za_InvalidStretches : PySem.W.findIn K (.ref C_InvalidStretches) "__class__" = some (some (.builtin "object.__class__")))
    (zo_InvalidStretches : PySem.W.mroIn K C_InvalidStretches (.type "object") = some true)
    (zd_InvalidStretches : PySem.W.hasDictIn K C_InvalidStretches = true)
    (zc_InvalidStretches : (PySem.W.clsIn K C_InvalidStretches).isSome = true)
    (kw_InvalidPattern_InvalidPattern : PySem.W.kitOne K (.ref C_InvalidPattern) (.ref C_InvalidPattern) = some true)
    (kv_InvalidPattern_InvalidPattern : PySem.W.exmOne K (.ref C_InvalidPattern) (.ref C_InvalidPattern) = some true)
    (kw_InvalidStretches_InvalidPattern : PySem.W.kitOne K (.ref C_InvalidStretches) (.ref C_InvalidPattern) = some false)
    (kv_InvalidStretches_InvalidPattern : PySem.W.exmOne K (.ref C_InvalidStretches) (.ref C_InvalidPattern) = some false)
    (cg_Calendar : PySem.W.nsIn K mainGlobals "Calendar" = some (some (.ref C_Calendar)))
    (pg_Calendar : PySem.W.plainGet K C_Calendar Str.empty = true)
    (hd_Calendar : PySem.W.hasDictIn K C_Calendar = true)
    (po_Calendar : PySem.W.plainOver K C_Calendar = true)
    (sa_Calendar : PySem.W.findIn K (.ref C_Calendar) "__setattr__" = some (some (.builtin "object.__setattr__")))
    (kr_Calendar_LONGEST : PySem.W.readsIn K C_Calendar (.type "type") = true)
    (kg_Calendar_LONGEST : PySem.W.specialIn K (.ref C_Calendar) "__getattribute__" = some (some (.builtin "type.__getattribute__")))
    (kc_Calendar_LONGEST : PySem.W.findCls K (.ref C_Calendar) (.type "type") "LONGEST" = some (.val (.int 8 kt_Calendar_LONGEST)))
    (n_Calendar_open_signs : PySem.W.findIn K (.ref C_Calendar) "open_signs" = some none)
    (n_Calendar_parts : PySem.W.findIn K (.ref C_Calendar) "parts" = some none)
    (n_Calendar_signs : PySem.W.findIn K (.ref C_Calendar) "signs" = some none)
    (a_is_integer : PySem.W.nsIn K mainGlobals "is_integer" = some (some (.ref f_is_integer)))
    (l_is_integer : K.lookup f_is_integer = some ⟨oc_is_integer, od_is_integer, .func (PySem.W.fnOf "is_integer" "is_integer" (defArgs (top 20)) (defBody (top 20)) (defScope (top 20)) (.ref T_is_integer) kV_is_integer dc_is_integer pm_is_integer an_is_integer cd_is_integer ct_is_integer), sl_is_integer⟩)
    (c_is_integer : PySem.W.codeIn K cd_is_integer "is_integer" = true)
    (k_is_integer : PySem.W.keepIn K (.ref f_is_integer) = true)
    (e_is_integer : K.lookup T_is_integer = some o_is_integer)
    (g_is_integer : o_is_integer.data = .seq ([.none, .none] : List Value).toArray z_is_integer)
    (a_is_stretch : PySem.W.nsIn K mainGlobals "is_stretch" = some (some (.ref f_is_stretch)))
    (l_is_stretch : K.lookup f_is_stretch = some ⟨oc_is_stretch, od_is_stretch, .func (PySem.W.fnOf "is_stretch" "is_stretch" (defArgs (top 23)) (defBody (top 23)) (defScope (top 23)) .none kV_is_stretch dc_is_stretch pm_is_stretch an_is_stretch cd_is_stretch ct_is_stretch), sl_is_stretch⟩)
    (c_is_stretch : PySem.W.codeIn K cd_is_stretch "is_stretch" = true)
    (k_is_stretch : PySem.W.keepIn K (.ref f_is_stretch) = true)
    (a_require_stretches : PySem.W.nsIn K mainGlobals "require_stretches" = some (some (.ref f_require_stretches)))
    (l_require_stretches : K.lookup f_require_stretches = some ⟨oc_require_stretches, od_require_stretches, .func (PySem.W.fnOf "require_stretches" "require_stretches" (defArgs (top 24)) (defBody (top 24)) (defScope (top 24)) .none kV_require_stretches dc_require_stretches pm_require_stretches an_require_stretches cd_require_stretches ct_require_stretches), sl_require_stretches⟩)
    (c_require_stretches : PySem.W.codeIn K cd_require_stretches "require_stretches" = true)
    (k_require_stretches : PySem.W.keepIn K (.ref f_require_stretches) = true)
    (a_joined_stretches : PySem.W.nsIn K mainGlobals "joined_stretches" = some (some (.ref f_joined_stretches)))
    (l_joined_stretches : K.lookup f_joined_stretches = some ⟨oc_joined_stretches, od_joined_stretches, .func (PySem.W.fnOf "joined_stretches" "joined_stretches" (defArgs (top 25)) (defBody (top 25)) (defScope (top 25)) .none kV_joined_stretches dc_joined_stretches pm_joined_stretches an_joined_stretches cd_joined_stretches ct_joined_stretches), sl_joined_stretches⟩)
    (c_joined_stretches : PySem.W.codeIn K cd_joined_stretches "joined_stretches" = true)
    (k_joined_stretches : PySem.W.keepIn K (.ref f_joined_stretches) = true)
    (a_without_stretches : PySem.W.nsIn K mainGlobals "without_stretches" = some (some (.ref f_without_stretches)))
    (l_without_stretches : K.lookup f_without_stretches = some ⟨oc_without_stretches, od_without_stretches, .func (PySem.W.fnOf "without_stretches" "without_stretches" (defArgs (top 26)) (defBody (top 26)) (defScope (top 26)) .none kV_without_stretches dc_without_stretches pm_without_stretches an_without_stretches cd_without_stretches ct_without_stretches), sl_without_stretches⟩)
    (c_without_stretches : PySem.W.codeIn K cd_without_stretches "without_stretches" = true)
    (k_without_stretches : PySem.W.keepIn K (.ref f_without_stretches) = true)
    (a_law_bag : PySem.W.nsIn K mainGlobals "_law_bag" = some (some (.ref f_law_bag)))
    (l_law_bag : K.lookup f_law_bag = some ⟨oc_law_bag, od_law_bag, .func (PySem.W.fnOf "_law_bag" "_law_bag" (defArgs (top 29)) (defBody (top 29)) (defScope (top 29)) .none kV_law_bag dc_law_bag pm_law_bag an_law_bag cd_law_bag ct_law_bag), sl_law_bag⟩)
    (c_law_bag : PySem.W.codeIn K cd_law_bag "_law_bag" = true)
    (k_law_bag : PySem.W.keepIn K (.ref f_law_bag) = true)
    (a_law_take : PySem.W.nsIn K mainGlobals "_law_take" = some (some (.ref f_law_take)))
    (l_law_take : K.lookup f_law_take = some ⟨oc_law_take, od_law_take, .func (PySem.W.fnOf "_law_take" "_law_take" (defArgs (top 30)) (defBody (top 30)) (defScope (top 30)) .none kV_law_take dc_law_take pm_law_take an_law_take cd_law_take ct_law_take), sl_law_take⟩)
    (c_law_take : PySem.W.codeIn K cd_law_take "_law_take" = true)
    (k_law_take : PySem.W.keepIn K (.ref f_law_take) = true)
    (a_law_due : PySem.W.nsIn K mainGlobals "_law_due" = some (some (.ref f_law_due)))
    (l_law_due : K.lookup f_law_due = some ⟨oc_law_due, od_law_due, .func (PySem.W.fnOf "_law_due" "_law_due" (defArgs (top 31)) (defBody (top 31)) (defScope (top 31)) .none kV_law_due dc_law_due pm_law_due an_law_due cd_law_due ct_law_due), sl_law_due⟩)
    (c_law_due : PySem.W.codeIn K cd_law_due "_law_due" = true)
    (k_law_due : PySem.W.keepIn K (.ref f_law_due) = true)
    (pa_Calendar_pattern : PySem.W.findIn K (.ref C_Calendar) "pattern" = some (some (.ref p_Calendar_pattern)))
    (pb_Calendar_pattern : PySem.W.specialIn K (.ref p_Calendar_pattern) "__get__" = some (some (.builtin "property.__get__")))
    (pc_Calendar_pattern : PySem.W.takesIn K (.ref p_Calendar_pattern) = some true)
    (pd_Calendar_pattern : PySem.W.recIn K p_Calendar_pattern "property" = some (.ref f_Calendar_pattern :: re_Calendar_pattern))
    (l_Calendar_pattern : K.lookup f_Calendar_pattern = some ⟨oc_Calendar_pattern, od_Calendar_pattern, .func (PySem.W.fnOf "pattern" "Calendar.pattern" (defArgs (inClass (top 27) 4)) (defBody (inClass (top 27) 4)) (defScope (inClass (top 27) 4)) .none kV_Calendar_pattern dc_Calendar_pattern pm_Calendar_pattern an_Calendar_pattern cd_Calendar_pattern ct_Calendar_pattern), sl_Calendar_pattern⟩)
    (c_Calendar_pattern : PySem.W.codeIn K cd_Calendar_pattern "Calendar.pattern" = true)
    (a_is_pattern_reading : PySem.W.nsIn K mainGlobals "is_pattern_reading" = some (some (.ref f_is_pattern_reading)))
    (l_is_pattern_reading : K.lookup f_is_pattern_reading = some ⟨oc_is_pattern_reading, od_is_pattern_reading, .func (PySem.W.fnOf "is_pattern" "is_pattern" (defArgs (top 14)) (defBody (top 14)) (defScope (top 14)) .none kV_is_pattern_reading dc_is_pattern_reading pm_is_pattern_reading an_is_pattern_reading cd_is_pattern_reading ct_is_pattern_reading), sl_is_pattern_reading⟩)
    (c_is_pattern_reading : PySem.W.codeIn K cd_is_pattern_reading "is_pattern" = true)
    (k_is_pattern_reading : PySem.W.keepIn K (.ref f_is_pattern_reading) = true)
    (a_Calendar_init : PySem.W.findIn K (.ref C_Calendar) "__init__" = some (some (.ref f_Calendar_init)))
    (i_Calendar_init : PySem.W.isFn K (.ref f_Calendar_init) = true)
    (k_Calendar_init : PySem.W.keepIn K (.ref f_Calendar_init) = true)
    (l_Calendar_init : K.lookup f_Calendar_init = some ⟨oc_Calendar_init, od_Calendar_init, .func (PySem.W.fnOf "__init__" "Calendar.__init__" (defArgs (inClass (top 27) 1)) (defBody (inClass (top 27) 1)) (defScope (inClass (top 27) 1)) .none (.ref kD_Calendar_init) dc_Calendar_init pm_Calendar_init an_Calendar_init cd_Calendar_init ct_Calendar_init), sl_Calendar_init⟩)
    (c_Calendar_init : PySem.W.codeIn K cd_Calendar_init "Calendar.__init__" = true)
    (mk_Calendar : PySem.W.makesIn K C_Calendar = true)
    (kc_Calendar : PySem.W.keepIn K (.ref C_Calendar) = true)
    (q_Calendar_init_closed : PySem.W.nsIn K kD_Calendar_init "closed" = some (some (.ref T_Calendar_init_closed)))
    (t_Calendar_init_closed : K.lookup T_Calendar_init_closed = some ⟨.type "tuple", dd_Calendar_init_closed, .seq #[] nn_Calendar_init_closed, sl_Calendar_init_closed⟩)
    (q_Calendar_init_opened : PySem.W.nsIn K kD_Calendar_init "opened" = some (some (.ref T_Calendar_init_opened)))
    (t_Calendar_init_opened : K.lookup T_Calendar_init_opened = some ⟨.type "tuple", dd_Calendar_init_opened, .seq #[] nn_Calendar_init_opened, sl_Calendar_init_opened⟩)
    (a_law_taken : PySem.W.nsIn K mainGlobals "_law_taken" = some (some (.ref f_law_taken)))
    (l_law_taken : K.lookup f_law_taken = some ⟨oc_law_taken, od_law_taken, .func (PySem.W.fnOf "_law_taken" "_law_taken" (defArgs (top 32)) (defBody (top 32)) (defScope (top 32)) .none kV_law_taken dc_law_taken pm_law_taken an_law_taken cd_law_taken ct_law_taken), sl_law_taken⟩)
    (c_law_taken : PySem.W.codeIn K cd_law_taken "_law_taken" = true)
    (k_law_taken : PySem.W.keepIn K (.ref f_law_taken) = true)
    (pa_Calendar_is_pattern : PySem.W.readsIn K C_Calendar (.type "type") = true)
    (pb_Calendar_is_pattern : PySem.W.specialIn K (.ref C_Calendar) "__getattribute__" = some (some (.builtin "type.__getattribute__")))
    (pc_Calendar_is_pattern : PySem.W.findCls K (.ref C_Calendar) (.type "type") "is_pattern" = some (.get (.builtin "staticmethod.__get__") (.ref p_Calendar_is_pattern) .none (.ref C_Calendar)))
    (pd_Calendar_is_pattern : PySem.W.recIn K p_Calendar_is_pattern "staticmethod" = some (.ref f_Calendar_is_pattern :: re_Calendar_is_pattern))
    (k_Calendar_is_pattern : PySem.W.keepIn K (.ref f_Calendar_is_pattern) = true)
    (l_Calendar_is_pattern : K.lookup f_Calendar_is_pattern = some ⟨oc_Calendar_is_pattern, od_Calendar_is_pattern, .func (PySem.W.fnOf "is_pattern" "Calendar.is_pattern" (defArgs (inClass (top 27) 2)) (defBody (inClass (top 27) 2)) (defScope (inClass (top 27) 2)) .none kV_Calendar_is_pattern dc_Calendar_is_pattern pm_Calendar_is_pattern an_Calendar_is_pattern cd_Calendar_is_pattern ct_Calendar_is_pattern), sl_Calendar_is_pattern⟩)
    (c_Calendar_is_pattern : PySem.W.codeIn K cd_Calendar_is_pattern "Calendar.is_pattern" = true)
    (a_law_right : PySem.W.nsIn K mainGlobals "_law_right" = some (some (.ref f_law_right)))
    (l_law_right : K.lookup f_law_right = some ⟨oc_law_right, od_law_right, .func (PySem.W.fnOf "_law_right" "_law_right" (defArgs (top 33)) (defBody (top 33)) (defScope (top 33)) .none kV_law_right dc_law_right pm_law_right an_law_right cd_law_right ct_law_right), sl_law_right⟩)
    (c_law_right : PySem.W.codeIn K cd_law_right "_law_right" = true)
    (k_law_right : PySem.W.keepIn K (.ref f_law_right) = true)
    (a_law : PySem.W.nsIn K mainGlobals "law" = some (some (.ref f_law)))
    (l_law : K.lookup f_law = some ⟨oc_law, od_law, .func (PySem.W.fnOf "law" "law" (defArgs (top 34)) (defBody (top 34)) (defScope (top 34)) .none kV_law dc_law pm_law an_law cd_law ct_law), sl_law⟩)
    (c_law : PySem.W.codeIn K cd_law "law" = true)
    (k_law : PySem.W.keepIn K (.ref f_law) = true)
    : ∃ (fd : FuncData) (cl : Nat → Addr), (∀ (s : Shared) (u : Value), BindsTo s fd ⟨[u], []⟩ [("script", u)]) ∧ ∀ base : Heap, K.In base → base.Ns mainGlobals mg → FnG ⟨l.prog, w, K, mg, base, cl⟩ 8 fa fd ["script"] (spN ⟨l.prog, w, K, mg, base, cl⟩ n_law) := by
  have T : ∀ base : Heap, Txt ⟨l.prog, w, K, mg, base, fun i => if i = 1 then C_InvalidPattern else if i = 2 then C_InvalidStretches else if i = 5 then C_Calendar else 0⟩ := fun base => {
    b_abs := PySem.W.mg_none_of X Gg q_abs,
    b_all := PySem.W.mg_none_of X Gg q_all,
    b_bool := PySem.W.mg_none_of X Gg q_bool,
    b_enumerate := PySem.W.mg_none_of X Gg q_enumerate,
    b_int := PySem.W.mg_none_of X Gg q_int,
    b_isinstance := PySem.W.mg_none_of X Gg q_isinstance,
    b_len := PySem.W.mg_none_of X Gg q_len,
    b_list := PySem.W.mg_none_of X Gg q_list,
    b_max := PySem.W.mg_none_of X Gg q_max,
    b_min := PySem.W.mg_none_of X Gg q_min,
    b_range := PySem.W.mg_none_of X Gg q_range,
    b_repr := PySem.W.mg_none_of X Gg q_repr,
    b_sorted := PySem.W.mg_none_of X Gg q_sorted,
    b_str := PySem.W.mg_none_of X Gg q_str,
    b_tuple := PySem.W.mg_none_of X Gg q_tuple,
    c_CLOSED_SIGN := ⟨_, PySem.W.mg_of X Gg q_CLOSED_SIGN⟩,
    c_LONGEST_PATTERN := ⟨_, PySem.W.mg_of X Gg q_LONGEST_PATTERN⟩,
    c_OPEN_SIGN := ⟨_, PySem.W.mg_of X Gg q_OPEN_SIGN⟩,
    x_InvalidPattern := ⟨PySem.W.mg_of X Gg xg_InvalidPattern, xq_InvalidPattern, xk_InvalidPattern, xs_InvalidPattern, xt_InvalidPattern⟩,
    x_InvalidStretches := ⟨PySem.W.mg_of X Gg xg_InvalidStretches, xq_InvalidStretches, xk_InvalidStretches, xs_InvalidStretches, xt_InvalidStretches⟩,
    y_InvalidPattern := ⟨PySem.W.mg_of X Gg xg_InvalidPattern, tbl_all (all_cons (kv_InvalidPattern_InvalidPattern) (all_nil)) (all_cons (kv_InvalidStretches_InvalidPattern) (all_nil)), tbl_all (all_cons (⟨⟨zc_InvalidPattern, zg_InvalidPattern, zt_InvalidPattern, xs_InvalidPattern, za_InvalidPattern, zn, zk, zo_InvalidPattern, zd_InvalidPattern⟩, kw_InvalidPattern_InvalidPattern⟩) (all_nil)) (all_cons (⟨⟨zc_InvalidStretches, zg_InvalidStretches, zt_InvalidStretches, xs_InvalidStretches, za_InvalidStretches, zn, zk, zo_InvalidStretches, zd_InvalidStretches⟩, kw_InvalidStretches_InvalidPattern⟩) (all_nil))⟩,
    k_Calendar_LONGEST := ⟨⟨_, _, _, PySem.W.mg_of X Gg cg_Calendar, ⟨kr_Calendar_LONGEST, kg_Calendar_LONGEST⟩, ⟨kc_Calendar_LONGEST, ⟨_, rfl⟩⟩⟩⟩,
    a_open_signs := fun c hc => by { obtain rfl : c = 5 := (by simpa using hc); exact ⟨⟨pg_Calendar, hd_Calendar, po_Calendar, sa_Calendar⟩, n_Calendar_open_signs⟩ },
    a_parts := fun c hc => by { obtain rfl : c = 5 := (by simpa using hc); exact ⟨⟨pg_Calendar, hd_Calendar, po_Calendar, sa_Calendar⟩, n_Calendar_parts⟩ },
    a_signs := fun c hc => by { obtain rfl : c = 5 := (by simpa using hc); exact ⟨⟨pg_Calendar, hd_Calendar, po_Calendar, sa_Calendar⟩, n_Calendar_signs⟩ },
    f_is_integer := ⟨f_is_integer, _, T_is_integer, o_is_integer, z_is_integer, PySem.W.mg_of X Gg a_is_integer, k_is_integer, funX_mk l_is_integer c_is_integer, rfl, e_is_integer, g_is_integer⟩,
    f_is_stretch := ⟨f_is_stretch, _, PySem.W.mg_of X Gg a_is_stretch, k_is_stretch, funX_mk l_is_stretch c_is_stretch, rfl⟩,
    f_require_stretches := ⟨f_require_stretches, _, PySem.W.mg_of X Gg a_require_stretches, k_require_stretches, funX_mk l_require_stretches c_require_stretches, rfl⟩,
    f_joined_stretches := ⟨f_joined_stretches, _, PySem.W.mg_of X Gg a_joined_stretches, k_joined_stretches, funX_mk l_joined_stretches c_joined_stretches, rfl⟩,
    f_without_stretches := ⟨f_without_stretches, _, PySem.W.mg_of X Gg a_without_stretches, k_without_stretches, funX_mk l_without_stretches c_without_stretches, rfl⟩,
    f_law_bag := ⟨f_law_bag, _, PySem.W.mg_of X Gg a_law_bag, k_law_bag, funX_mk l_law_bag c_law_bag, rfl⟩,
    f_law_take := ⟨f_law_take, _, PySem.W.mg_of X Gg a_law_take, k_law_take, funX_mk l_law_take c_law_take, rfl⟩,
    f_law_due := ⟨f_law_due, _, PySem.W.mg_of X Gg a_law_due, k_law_due, funX_mk l_law_due c_law_due, rfl⟩,
    f_Calendar_pattern := ⟨p_Calendar_pattern, f_Calendar_pattern, _, fun c hc => by { obtain rfl : c = 5 := (by simpa using hc); exact ⟨⟨pg_Calendar, hd_Calendar, po_Calendar, sa_Calendar⟩, ⟨pa_Calendar_pattern, pb_Calendar_pattern, pc_Calendar_pattern, ⟨_, pd_Calendar_pattern⟩⟩⟩ }, funX_mk l_Calendar_pattern c_Calendar_pattern, rfl⟩,
    f_is_pattern_reading := ⟨f_is_pattern_reading, _, PySem.W.mg_of X Gg a_is_pattern_reading, k_is_pattern_reading, funX_mk l_is_pattern_reading c_is_pattern_reading, rfl⟩,
    f_Calendar_init := ⟨f_Calendar_init, _, kD_Calendar_init, PySem.W.mg_of X Gg cg_Calendar, ⟨mk_Calendar, a_Calendar_init, i_Calendar_init, kc_Calendar⟩, funX_mk l_Calendar_init c_Calendar_init, rfl, rfl, fun q hq => by { rcases List.mem_cons.mp hq with e | hq; (· subst e; exact ⟨_, .ref T_Calendar_init_closed, q_Calendar_init_closed, rfl, tup0_ok t_Calendar_init_closed⟩); rcases List.mem_cons.mp hq with e | hq; (· subst e; exact ⟨_, .ref T_Calendar_init_opened, q_Calendar_init_opened, rfl, tup0_ok t_Calendar_init_opened⟩); cases hq }⟩,
    f_law_taken := ⟨f_law_taken, _, PySem.W.mg_of X Gg a_law_taken, k_law_taken, funX_mk l_law_taken c_law_taken, rfl⟩,
    f_Calendar_is_pattern := ⟨⟨_, _, f_Calendar_is_pattern, _, _, PySem.W.mg_of X Gg cg_Calendar, ⟨pa_Calendar_is_pattern, pb_Calendar_is_pattern⟩, ⟨pc_Calendar_is_pattern, ⟨_, pd_Calendar_is_pattern⟩⟩, k_Calendar_is_pattern, funX_mk l_Calendar_is_pattern c_Calendar_is_pattern, rfl⟩⟩,
    f_law_right := ⟨f_law_right, _, PySem.W.mg_of X Gg a_law_right, k_law_right, funX_mk l_law_right c_law_right, rfl⟩,
    f_law := ⟨f_law, _, PySem.W.mg_of X Gg a_law, k_law, funX_mk l_law c_law, rfl⟩ }
  have e := hfa.symm.trans (PySem.W.mg_of X Gg a_law)
  cases e
  exact ⟨_, fun i => if i = 1 then C_InvalidPattern else if i = 2 then C_InvalidStretches else if i = 5 then C_Calendar else 0, fun s u => .of_eq rfl, fun base _ _ => fn_ok (funX_mk l_law c_law) sc_law rfl (bd_law (T base))⟩
end K01
open PySem PySem.W PyProof.Rows
set_option maxRecDepth 100000 in
set_option maxHeartbeats 0 in
theorem PySem.Challenge.cw_daychains_k01_patterns_judged_holds : PySem.Challenge.rw_daychains_k01_patterns_judged.Holds := by
  w_on; o_law; k_head; (case hw => w_witness2)
  k_fill
  refine N.walkG (l := PySem.Challenge.rw_daychains_k01_patterns_judged) (n := 63) (k := 8) (x := "script") (den := K01.n_law) rfl (by decide) rfl ⟨rfl, by decide, by decide⟩ (fun w h Y => PySem.W.kIn_of Y) ?F (fun ns h1 h2 => K01.law_true ns h1 h2)
  case F =>
    intro w mg fa h KX G hmg
    refine' K01.facts KX G hmg ?q_abs ?q_all ?q_bool ?q_enumerate ?q_int ?q_isinstance ?q_len ?q_list ?q_max ?q_min ?q_range ?q_repr ?q_sorted ?q_str ?q_tuple ?q_CLOSED_SIGN ?q_LONGEST_PATTERN ?q_OPEN_SIGN ?xg_InvalidPattern ?xq_InvalidPattern ?xk_InvalidPattern ?xs_InvalidPattern ?xt_InvalidPattern ?xg_InvalidStretches ?xq_InvalidStretches ?xk_InvalidStretches ?xs_InvalidStretches ?xt_InvalidStretches ?zn ?zk ?zg_InvalidPattern ?zt_InvalidPattern ?za_InvalidPattern ?zo_InvalidPattern ?zd_InvalidPattern ?zc_InvalidPattern ?zg_InvalidStretches ?zt_InvalidStretches ?za_InvalidStretches ?zo_InvalidStretches ?zd_InvalidStretches ?zc_InvalidStretches ?kw_InvalidPattern_InvalidPattern ?kv_InvalidPattern_InvalidPattern ?kw_InvalidStretches_InvalidPattern ?kv_InvalidStretches_InvalidPattern ?cg_Calendar ?pg_Calendar ?hd_Calendar ?po_Calendar ?sa_Calendar ?kr_Calendar_LONGEST ?kg_Calendar_LONGEST ?kc_Calendar_LONGEST ?n_Calendar_open_signs ?n_Calendar_parts ?n_Calendar_signs ?a_is_integer ?l_is_integer ?c_is_integer ?k_is_integer ?e_is_integer ?g_is_integer ?a_is_stretch ?l_is_stretch ?c_is_stretch ?k_is_stretch ?a_require_stretches ?l_require_stretches ?c_require_stretches ?k_require_stretches ?a_joined_stretches ?l_joined_stretches ?c_joined_stretches ?k_joined_stretches ?a_without_stretches ?l_without_stretches ?c_without_stretches ?k_without_stretches ?a_law_bag ?l_law_bag ?c_law_bag ?k_law_bag ?a_law_take ?l_law_take ?c_law_take ?k_law_take ?a_law_due ?l_law_due ?c_law_due ?k_law_due ?pa_Calendar_pattern ?pb_Calendar_pattern ?pc_Calendar_pattern ?pd_Calendar_pattern ?l_Calendar_pattern ?c_Calendar_pattern ?a_is_pattern_reading ?l_is_pattern_reading ?c_is_pattern_reading ?k_is_pattern_reading ?a_Calendar_init ?i_Calendar_init ?k_Calendar_init ?l_Calendar_init ?c_Calendar_init ?mk_Calendar ?kc_Calendar ?q_Calendar_init_closed ?t_Calendar_init_closed ?q_Calendar_init_opened ?t_Calendar_init_opened ?a_law_taken ?l_law_taken ?c_law_taken ?k_law_taken ?pa_Calendar_is_pattern ?pb_Calendar_is_pattern ?pc_Calendar_is_pattern ?pd_Calendar_is_pattern ?k_Calendar_is_pattern ?l_Calendar_is_pattern ?c_Calendar_is_pattern ?a_law_right ?l_law_right ?c_law_right ?k_law_right ?a_law ?l_law ?c_law ?k_law
    (case q_abs => k_is)
    (case q_all => k_is)
    (case q_bool => k_is)
    (case q_enumerate => k_is)
    (case q_int => k_is)
    (case q_isinstance => k_is)
    (case q_len => k_is)
    (case q_list => k_is)
    (case q_max => k_is)
    (case q_min => k_is)
    (case q_range => k_is)
    (case q_repr => k_is)
    (case q_sorted => k_is)
    (case q_str => k_is)
    (case q_tuple => k_is)
    (case q_CLOSED_SIGN => k_is)
    (case q_LONGEST_PATTERN => k_is)
    (case q_OPEN_SIGN => k_is)
    (case xg_InvalidPattern => k_is)
    (case xq_InvalidPattern => k_exc)
    (case xk_InvalidPattern => k_is)
    (case xs_InvalidPattern => k_is)
    (case xt_InvalidPattern => k_is)
    (case xg_InvalidStretches => k_is)
    (case xq_InvalidStretches => k_exc)
    (case xk_InvalidStretches => k_is)
    (case xs_InvalidStretches => k_is)
    (case xt_InvalidStretches => k_is)
    (case zn => k_is)
    (case zk => k_is)
    (case zg_InvalidPattern => k_is)
    (case zt_InvalidPattern => k_is)
    (case za_InvalidPattern => k_is)
    (case zo_InvalidPattern => k_is)
    (case zd_InvalidPattern => k_is)
    (case zc_InvalidPattern => kernel_rfl)
    (case zg_InvalidStretches => k_is)
    (case zt_InvalidStretches => k_is)
    (case za_InvalidStretches => k_is)
    (case zo_InvalidStretches => k_is)
    (case zd_InvalidStretches => k_is)
    (case zc_InvalidStretches => kernel_rfl)
    (case kw_InvalidPattern_InvalidPattern => kernel_rfl)
    (case kv_InvalidPattern_InvalidPattern => kernel_rfl)
    (case kw_InvalidStretches_InvalidPattern => kernel_rfl)
    (case kv_InvalidStretches_InvalidPattern => kernel_rfl)
    (case cg_Calendar => k_is)
    (case pg_Calendar => k_is)
    (case hd_Calendar => k_is)
    (case po_Calendar => k_is)
    (case sa_Calendar => k_is)
    (case kr_Calendar_LONGEST => k_is)
    (case kg_Calendar_LONGEST => k_is)
    (case kc_Calendar_LONGEST => k_is)
    (case n_Calendar_open_signs => k_is)
    (case n_Calendar_parts => k_is)
    (case n_Calendar_signs => k_is)
    (case a_is_integer => k_is)
    (case l_is_integer => k_is)
    (case c_is_integer => k_is)
    (case k_is_integer => k_is)
    (case e_is_integer => k_is)
    (case g_is_integer => rfl)
    (case a_is_stretch => k_is)
    (case l_is_stretch => k_is)
    (case c_is_stretch => k_is)
    (case k_is_stretch => k_is)
    (case a_require_stretches => k_is)
    (case l_require_stretches => k_is)
    (case c_require_stretches => k_is)
    (case k_require_stretches => k_is)
    (case a_joined_stretches => k_is)
    (case l_joined_stretches => k_is)
    (case c_joined_stretches => k_is)
    (case k_joined_stretches => k_is)
    (case a_without_stretches => k_is)
    (case l_without_stretches => k_is)
    (case c_without_stretches => k_is)
    (case k_without_stretches => k_is)
    (case a_law_bag => k_is)
    (case l_law_bag => k_is)
    (case c_law_bag => k_is)
    (case k_law_bag => k_is)
    (case a_law_take => k_is)
    (case l_law_take => k_is)
    (case c_law_take => k_is)
    (case k_law_take => k_is)
    (case a_law_due => k_is)
    (case l_law_due => k_is)
    (case c_law_due => k_is)
    (case k_law_due => k_is)
    (case pa_Calendar_pattern => k_is)
    (case pb_Calendar_pattern => k_is)
    (case pc_Calendar_pattern => k_is)
    (case pd_Calendar_pattern => k_is)
    (case l_Calendar_pattern => k_is)
    (case c_Calendar_pattern => k_is)
    (case a_is_pattern_reading => k_is)
    (case l_is_pattern_reading => k_is)
    (case c_is_pattern_reading => k_is)
    (case k_is_pattern_reading => k_is)
    (case a_Calendar_init => k_is)
    (case i_Calendar_init => k_is)
    (case k_Calendar_init => k_is)
    (case l_Calendar_init => k_is)
    (case c_Calendar_init => k_is)
    (case mk_Calendar => k_is)
    (case kc_Calendar => k_is)
    (case q_Calendar_init_closed => k_is)
    (case t_Calendar_init_closed => k_is)
    (case q_Calendar_init_opened => k_is)
    (case t_Calendar_init_opened => k_is)
    (case a_law_taken => k_is)
    (case l_law_taken => k_is)
    (case c_law_taken => k_is)
    (case k_law_taken => k_is)
    (case pa_Calendar_is_pattern => k_is)
    (case pb_Calendar_is_pattern => k_is)
    (case pc_Calendar_is_pattern => k_is)
    (case pd_Calendar_is_pattern => k_is)
    (case k_Calendar_is_pattern => k_is)
    (case l_Calendar_is_pattern => k_is)
    (case c_Calendar_is_pattern => k_is)
    (case a_law_right => k_is)
    (case l_law_right => k_is)
    (case c_law_right => k_is)
    (case k_law_right => k_is)
    (case a_law => k_is)
    (case l_law => k_is)
    (case c_law => k_is)
    (case k_law => k_is)
