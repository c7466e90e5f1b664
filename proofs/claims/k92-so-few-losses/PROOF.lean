import PyProof.Rows.All
import Wide.All
import OpenK.AllK
import Wide.FinOn
import HandS.ForMost
import HandS.TupLe
import HandS.TupAny
import HandS.TupMul
import HandS.Conv
import HandS.Walk
import HandS.More
import HandS.Codes
import HandS.Style
import HandS.Defaults
import KE.GoesEnum
import KE.SortKeyHeap
import PyProof.TupleOfSeq
import HandS.SortKw
import HandS.Lambda
import HandS.EndTab
import HandS.HeadHook4
import HandS.HeadWalk
import HandS.Head2
import PySem.Challenge.RW_hearsaybook_k92_whole_so_few_losses
set_option Elab.async false
set_option linter.all false
set_option maxRecDepth 100000
set_option maxHeartbeats 4000000
/-! Rules that the layer lacked: t > u of int tuples, enumerate(tuple), sorted(tuple of ints). -/
namespace Hb
open PySem PySem.Spec PyProof.Rows L2
/-- t > u of two tuples of ints: some truth value -/
def rGtT (K : PySem.W.Frag) : R2 := fun x y H Q => ∃ (a b : Addr) (ns ms : List Int), x = .ref a ∧ y = .ref b ∧ SqT K H a (ns.map V.int) ∧ SqT K H b (ms.map V.int) ∧ ∀ k : Bool, Q (.bl k) H
theorem op_gtT {X : Cx} (hu : X.A.units < cLine) : OpR X (compareOp .Gt) (rGtT X.K) := by
  intro pins s σ H x y v u Q I rx ry h
  obtain ⟨a, b, ns, ms, rfl, rfl, ha, hb, q⟩ := h
  cases rx; cases ry
  obtain ⟨xs, r1, p1, _⟩ := I.tuple ha
  obtain ⟨ys, r2, p2, _⟩ := I.tuple hb
  have i1 : IntsAre xs ns := Vals.ints r1
  have i2 : IntsAre ys ms := Vals.ints r2
  have R := Ob.RcOp.tuples_gt (A := X.A) (s := s) (e := fun j => (ns.getD j 0 == ms.getD j 0)) (r := fun j => decide (ms.getD j 0 < ns.getD j 0)) p1 p2 hu
    (fun j h1 h2 => by
      obtain ⟨t, et⟩ := PyProof.Rows.IntsAre.int_at i1 j xs.toArray[j] (by simp)
      obtain ⟨t', et'⟩ := PyProof.Rows.IntsAre.int_at i2 j ys.toArray[j] (by simp)
      rw [et, et']; exact SeqAt.EqAt.int_int _ _ _ _)
    (fun j h1 h2 _ => by
      obtain ⟨t, et⟩ := PyProof.Rows.IntsAre.int_at i1 j xs.toArray[j] (by simp)
      obtain ⟨t', et'⟩ := PyProof.Rows.IntsAre.int_at i2 j ys.toArray[j] (by simp)
      rw [et, et']; exact Ob.RcOp.gt_int _ _ _ _)
  exact R X.prog X.w X.xe (EP X pins σ Q) ⟨.bl _, H, I, rfl, q _⟩

/-! ### enumerate of a tuple -/
theorem meets_enumT (l : Addr) (items : Array Value) (n : Nat) (dct : Option Addr) (sl : Array (Option Value)) :
    Meets (Builtin.«enumerate.__new__» ⟨[.type "enumerate", .ref l], []⟩) (fun _ R s => s.heap.get? l = some ⟨.type "tuple", dct, .seq items n, sl⟩ ∧
      R (.ok (.ret (.ref (s.heap.push { cls := .type "tuple_iterator", data := .fields #[.ref l, .int 0 0] }).objs.size)))
        { s with heap := (s.heap.push { cls := .type "tuple_iterator", data := .fields #[.ref l, .int 0 0] }).push ⟨.type "enumerate", none, .fields #[.none, .bool false, .ref s.heap.objs.size, rawInt 0, .none, .none], #[]⟩ }) :=
  .of_wp fun prog w A R s h => by
    obtain ⟨hp, g, d, tk, os⟩ := s
    obtain ⟨hl, h⟩ := h
    have hsub := sub_enumerate
    have hT : Heap.IsTuple (Shared.heap ⟨hp, g, d, tk, os⟩) l items := ⟨_, hl, rfl, n, rfl⟩
    have q1 : ∀ {A' : Around} {E : Value → Shared → Prop} {Q : Value → Shared → Prop}, Q (.ref hp.objs.size) ⟨hp.push ⟨.type "tuple_iterator", none, .fields #[.ref l, .int 0 0], #[]⟩, g, d, tk, os⟩ →
        wpAny (model prog w) A' (pyIter (.ref l)) Q E ⟨hp, g, d, tk, os⟩ := fun q => wpAny_pyIter_tuple hT q
    wp_walk using q1
    refine wpAny_stack_any fun st => wpAny_pure ?_
    split
    · rename_i c _ _ _ _ _
      cases (c == Value.type "enumerate") <;> (wp_walk using q1; exact ⟨_, rfl, h⟩)
    · wp_walk using q1
      exact ⟨_, rfl, h⟩
section
variable {prog : Program} {w : World} {A : Around} {E : Value → Shared → Prop} {s : Shared}
theorem call_enumT {l : Addr} {items : Array Value} {Q : Value → Shared → Prop} (hL : s.heap.IsTuple l items)
    (h : ∀ h', IsEnum h' (s.heap.objs.size + 1) s.heap.objs.size 0 .none → h'.IsTupleIter s.heap.objs.size l 0 → (∀ b o, s.heap.get? b = some o → h'.get? b = some o) → Q (.ref (s.heap.objs.size + 1)) { s with heap := h' }) :
    wpAny (model prog w) A (call (.type "enumerate") [.ref l]) Q E s := by
  obtain ⟨⟨c, dct, dt, sl⟩, hl, hc, n, hd⟩ := hL
  cases (show c = .type "tuple" from hc)
  cases (show dt = .seq items n from hd)
  refine callType_new F.called_enumerate (by decide) (F.typeCall_enumerate_1 _) (F.newCall_enumerate_1 _) (fun obj => F.args_object_init_2 obj _) F.entry_enumerate_new (meets_enumT l items n dct sl) ⟨hl, ?_⟩
  have hz : (s.heap.push { cls := .type "tuple_iterator", data := .fields #[.ref l, .int 0 0] }).objs.size = s.heap.objs.size + 1 := Heap.size_push ..
  show _ ∧ _
  rw [hz]
  have he : IsEnum ((s.heap.push { cls := .type "tuple_iterator", data := .fields #[.ref l, .int 0 0] }).push ⟨.type "enumerate", none, .fields #[.none, .bool false, .ref s.heap.objs.size, rawInt 0, .none, .none], #[]⟩) (s.heap.objs.size + 1) s.heap.objs.size 0 .none := by
    have z := Heap.get?_push_size (s.heap.push { cls := .type "tuple_iterator", data := .fields #[.ref l, .int 0 0] }) (o := ⟨.type "enumerate", none, .fields #[.none, .bool false, .ref s.heap.objs.size, rawInt 0, .none, .none], #[]⟩) rfl
    rw [hz] at z; exact z
  exact ⟨⟨_, he, rfl⟩, h _ he ⟨_, Heap.get?_push_of_some _ (Heap.get?_push_size _ rfl), rfl, rfl⟩ fun b o x => Heap.get?_push_of_some _ (Heap.get?_push_of_some _ x)⟩
end
theorem wpAny_pyNext_enumT_end {prog : Program} {w : World} {A : Around} {E : Value → Shared → Prop} {s : Shared} {e it l : Addr} {i : Nat} {items : Array Value} {old : Value} {Q : Option Value → Shared → Prop} (hh : A.handled = none)
    (he : IsEnum s.heap e it i old) (hit : s.heap.IsTupleIter it l i) (hl : s.heap.IsTuple l items) (hx : items[i]? = none) (hQ : ∀ h', Heap.ExtBut it s.heap h' → Q none { s with heap := h' }) :
    wpAny (model prog w) A (pyNext (.ref e)) Q E s := by
  unfold pyNext
  refine wpAny_bind (wpAny_attempt (wpAny_callSpecial?_slot (name := Str.ofString "__next__") ⟨_, he, rfl⟩ F.slot_enumerate_next (wpAny_call_entry F.slot_enumerate_next ⟨_, he, rfl⟩ F.entry_enumerate_next ?_ (F.args_enumerate_next_1 _))))
  show wpAny _ _ (field (.ref e) 2 >>= _) _ _ _
  refine wpAny_bind (wpAny_field he rfl (x := .ref it) rfl (wpAny_bind (wpAny_nextOf_tuple_end hh hit hl hx fun h' x he' hx' => ?_)))
  obtain ⟨o, ho, hc⟩ := hx'
  exact wpAny_bind (wpAny_isInstance (T := "StopIteration") (b := true) ⟨o, ho, hc⟩ isSubtype_stop (wpAny_pure (hQ _ he')))
/-- the tuple at a, each item with its place in a new pair -/
def IteT (K : PySem.W.Frag) (a : Addr) : It :=
  ⟨fun i H => ∃ xs x, SqT K H a xs ∧ xs[i]? = some x, fun i H v H' => ∃ T x, v = .ref T ∧ H T = none ∧ H' = upd H T (.tup [.int (i : Nat), x]) ∧ ∀ xs, SqT K H a xs → xs[i]? = some x, fun i H => ∃ xs, SqT K H a xs ∧ xs.length ≤ i⟩
theorem turn_enumT {P : Program} {w : World} {K : PySem.W.Frag} {elts : List Expr} {kk : Nat} {tpos : Pos} (a e it : Addr) :
    Turn P w K (.Tuple elts kk tpos) (IteT K a) [e, it] e (fun i h => (∃ old, IsEnum h e it (i : Int) old) ∧ h.IsTupleIter it a i ∧ e ≠ it) where
  mem := by simp
  obj := fun i h st b hb => by
    obtain ⟨⟨old, he⟩, ⟨o, ho, hc, hd⟩, _⟩ := st
    rcases (show b = e ∨ b = it by simpa using hb) with z | z
    · rw [z]; exact ⟨_, he, fun v q => (nomatch q)⟩
    · rw [z]; exact ⟨o, ho, fun v q => by rw [hd] at q; cases q⟩
  keep := fun i h h' st k => ⟨st.1.elim fun old he => ⟨old, k e (by simp) _ he⟩, st.2.1.at fun o q => k it (by simp) o q, st.2.2⟩
  item := by
    intro X hP hw hK hc i pins s σ H E I hf st hg
    subst hP hw hK
    obtain ⟨⟨old, he⟩, hit, hne⟩ := st
    obtain ⟨xs, x, hq, hx⟩ := hg
    obtain ⟨its, rv, p, hz⟩ := I.tuple hq
    obtain ⟨u, hu, ru⟩ := rv.get hx
    have hel : e < s.heap.objs.size := Heap.lt_size he
    have hil : it < s.heap.objs.size := by obtain ⟨_, q, _⟩ := hit; exact Heap.lt_size q
    obtain ⟨o0, q0, _⟩ := id p
    have hae : a ≠ e := fun z => by
      obtain ⟨o1, q1, c1, _⟩ := id p
      rw [z, he] at q1; cases q1; injection c1 with c2; exact absurd c2 (by decide)
    have hai : a ≠ it := fun z => by
      obtain ⟨o1, q1, c1, _⟩ := id p
      obtain ⟨o2, q2, c2, _⟩ := id hit
      rw [z, q2] at q1; cases q1; rw [c1] at c2; injection c2 with c3; exact absurd c3 (by decide)
    have D : Draws X.prog X.w X.A.in1 it [it, a] its.toArray.size (fun i v => its.toArray[i]? = some v) (fun i h => h.IsTupleIter it a i ∧ h.IsTuple a its.toArray) := Draws.tuple (A := X.A.in1) (show X.A.in1.handled = none from I.ok.hd hc) it a hai _
    refine wpAny_pyNext_enum_itemD D he ⟨hit, p⟩ (by rw [List.size_toArray, ← rv.length]; exact (List.getElem?_eq_some_iff.mp hx).1) hne (by simp [hne, hae.symm]) fun y h' tk hy ho hst hT hsz hk => ?_
    obtain rfl : u = y := by
      have z : its.toArray[i]? = some u := by simpa using hu
      exact Option.some.inj (z.symm.trans hy)
    refine ⟨_, rfl, wpAny_letOwnedTupleGo_enum (s := { s with heap := h', toks := tk + 1 }) ho fun g he' sb => ?_⟩
    have hT2 : g.get? s.heap.objs.size = some { cls := .type "tuple", data := .seq #[.int i tk, u] } := (sb.2 _ (Nat.ne_of_gt hel)).trans hT
    have new : ObjOk X.prog X.w (upd H s.heap.objs.size (.tup [.int (i : Nat), x])) g s.heap.objs.size (.tup [.int (i : Nat), x]) :=
      ⟨show 2 ≤ sizeLine by decide, [.int i tk, u], .cons ⟨_, rfl⟩ (.cons ru .nil), ⟨_, hT2, rfl, _, rfl⟩⟩
    have I1 : Inv X pins σ (upd H s.heap.objs.size (.tup [.int (i : Nat), x])) { s with heap := g, toks := tk + 1 } :=
      I.turnedNew (ch := [e, it]) (fun b ob hb q => by
        have n1 : b ≠ e := fun z => hb (by simp [z])
        have n2 : b ≠ it := fun z => hb (by simp [z])
        exact (sb.2 b n1).trans (hk b ob n1 n2 q)) hf (Nat.le_refl _) new
    refine ⟨.ref s.heap.objs.size, _, I1, rfl, ⟨_, x, rfl, I.hok.fresh (Nat.le_refl _), rfl, fun zs hy => by rw [I.tuple_inj hy hq]; exact hx⟩, ⟨⟨u, ?_⟩, hst.1.at fun o q => (sb.2 it (Ne.symm hne)).trans q, hne⟩, fun b hb => ?_⟩
    · rw [show ((i + 1 : Nat) : Int) = (i : Int) + 1 by omega]
      exact he'
    · have hb' : b < s.heap.objs.size := by
        rcases (show b = e ∨ b = it by simpa using hb) with z | z <;> rw [z] <;> assumption
      rw [upd_ne (Nat.ne_of_lt hb')]
      exact (hf b hb).1
  done := by
    intro X hP hw hK hc i pins s σ H E I hf st hg
    subst hP hw hK
    obtain ⟨⟨old, he⟩, hit, hne⟩ := st
    obtain ⟨xs, hq, hx⟩ := hg
    obtain ⟨its, rv, p, hz⟩ := I.tuple hq
    obtain ⟨f0, f1, f2, f3, f4, f5⟩ := hf it (by simp)
    have hai : a ≠ it := fun z => by
      obtain ⟨o1, q1, c1, _⟩ := id p
      obtain ⟨o2, q2, c2, _⟩ := id hit
      rw [z, q2] at q1; cases q1; rw [c1] at c2; injection c2 with c3; exact absurd c3 (by decide)
    have hl := rv.length
    exact wpAny_pyNext_enumT_end (I.ok.hd hc) he hit p (by simp; omega) fun h' eb => ⟨rfl, I.turned (t' := s.toks) (fun b o hb q => eb b o hb q) f0 f1 f3 f4 f5⟩
  self := fun A i s Q E st h => wpAny_pyIter_enum st.1.choose_spec h

def iEnumT (K : PySem.W.Frag) (ta : TA) : TI := fun σ H R => ta σ H fun vs H1 => ∃ a xs, vs = [.ref a] ∧ SqT K H1 a xs ∧ R (IteT K a) H1
theorem pi_enumT {X : Cx} {e : Expr} {ta : TA} {p pos tpos : Pos} {elts : List Expr} {kk : Nat} (hg : Gl X "enumerate") (hm : X.mg "enumerate" = none) (ha : PA X [e] ta) (hs : starEach [e] X.env = [(false, eval e X.env)] := by rfl) :
    PI X (.Tuple elts kk tpos) (.Call (.Name "enumerate" p) [e] [] pos) (iEnumT X.K ta) := by
  refine ⟨fun pins s σ H R I h => ?_⟩
  refine Call_ (ld_blt I hg hm boot_enumerate (PyProof.Rows.callWith_type1 (thn (ha.run pos pins s σ H _ I h) fun us s1 ⟨vs, H1, I1, r1, a, xs, ex, hq, q⟩ => ?_) hs rfl))
  subst ex
  obtain rfl := Vals.ref1 r1
  obtain ⟨its, rv, p', hz⟩ := I1.tuple hq
  refine call_enumT p' fun h' he hit hk => wpAny_pyIter_enum he ?_
  refine ⟨s1.heap.objs.size + 1, [s1.heap.objs.size + 1, s1.heap.objs.size], _, _, H1, rfl, I1.kept (t' := s1.toks) hk, turn_enumT a (s1.heap.objs.size + 1) s1.heap.objs.size, ⟨⟨.none, he⟩, hit, Nat.succ_ne_self _⟩, fun b hb => ?_, q⟩
  have hle : s1.heap.objs.size ≤ b := by
    rcases (show b = s1.heap.objs.size + 1 ∨ b = s1.heap.objs.size by simpa using hb) with z | z
    · rw [z]; exact Nat.le_add_right _ _
    · exact Nat.le_of_eq z.symm
  exact I1.fpOk hle (I1.hok.fresh hle)
theorem walk_enumT {K : PySem.W.Frag} {a : Addr} {xs : List V} : Walk (IteT K a) xs.length (fun H => SqT K H a xs) (YPair (fun i => some (.int (i : Nat))) (fun i => xs[i]?)) := by
  refine ⟨fun i H hi g => ⟨xs, xs[i], g, by simp [hi]⟩, fun H g => ⟨xs, g, Nat.le_refl _⟩, fun i H v H' hi g y => ?_⟩
  obtain ⟨T, x, e1, e2, e3, e4⟩ := y
  exact ⟨T, _, x, e1, e2, e3, rfl, e4 xs g⟩
/-! ### sorted of a tuple of ints -/
theorem cr_sortedT {X : Cx} : CallR X (.builtin "sorted") (fun xs H Q => ∃ (a : Addr) (ns : List Int), xs = [.ref a] ∧ SqT X.K H a (ns.map V.int) ∧ ns.length < 64 ∧
    ∀ (ys : List Int) (p : Addr), ys.Perm ns → H p = none → Q (.ref p) (upd H p (.lst (ys.map V.int)))) := by
  intro pins s σ H xs us Q I r q
  obtain ⟨a, ns, ex, hd, h64, q⟩ := q
  subst ex
  obtain rfl := Vals.ref1 r
  obtain ⟨its, rv, p, hz⟩ := I.tuple hd
  have hS : IntsAre its ns := Vals.ints rv
  have hl : its.length = ns.length := hS.length
  refine Calls.call_function_entry PyProof.Rows.kind_sorted PyProof.Rows.plain_sorted PyProof.Rows.entry_sorted (PyProof.Rows.args_sorted1 _) ?_
  unfold Builtin.«sorted»
  refine wpAny_bind (m := checkCount "sorted" 1 1 _) (wpAny_pure ?_)
  obtain ⟨o, ho, hc, n, hdt⟩ := id p
  refine wpAny_bind (wpAny_collect_seq a (.inr rfl) ho hc hdt (fun h' hk => ?_) (by rw [List.size_toArray, hl, sizeLine_eq]; omega))
  have I1 : Inv X pins σ H { s with heap := h' } := I.kept (t' := s.toks) hk
  refine wpAny_bind (wpAny_newList ?_ (by simp only [List.toList_toArray]; rw [hl, sizeLine_eq]; omega))
  have hoL : (h'.push (seqObj "list" its.toArray 0)).get? h'.objs.size = some (seqObj "list" its.toArray 0) := Heap.get?_push_size _ rfl
  show wpAny _ _ _ _ _ { s with heap := h'.push (seqObj "list" its.toArray 0) }
  refine wpAny_bind (wpAny_holding (wpAny_call_entry PyProof.Rows.slot_list_sort ⟨_, hoL, rfl⟩ PyProof.Rows.entry_list_sort
    (PyProof.Rows.list_sort_tree (s := { s with heap := h'.push (seqObj "list" its.toArray 0) }) hoL hS (by rw [hl]; exact h64) fun out ys g1 g2 g3 => ⟨_, rfl, ?_⟩) (PyProof.Rows.args_list_sort _)))
  obtain ⟨e', he'⟩ := PyProof.Rows.sortedHeap_at (vs := its) (out := out) hoL
  have hlen : (ys.map V.int).length ≤ sizeLine := by
    rw [List.length_map, g2.length_eq, sizeLine_eq]; omega
  refine wpAny_pure ⟨_, rfl, .ref h'.objs.size, upd H h'.objs.size (.lst (ys.map V.int)), I1.laid (t' := s.toks) (fun b u e => ?_) (Nat.le_refl _) ⟨hlen, out.toList, e', vals_of_ints g1, by rw [Array.toArray_toList]; exact he'⟩, rfl, q ys _ g2 (I1.hok.fresh (Nat.le_refl _))⟩
  have hb : b < h'.objs.size := Heap.lt_size e
  rw [PyProof.Rows.sortedHeap_old (Nat.ne_of_lt hb) (by rw [size_push']; exact Nat.lt_succ_of_lt hb)]
  exact Heap.get?_push_of_some _ e
end Hb

set_option maxHeartbeats 4000000
/-! sorted(xs, key=lambda house: (told[house], house)), told captured: some arrangement of xs. -/
namespace Hb
open PySem PySem.Spec PyProof.Rows L2 LamX
def lamArgs (pa : Pos) : Arguments := { posonlyargs := [], args := [⟨"house", none, pa⟩], vararg := none, kwonlyargs := [], kw_defaults := [], kwarg := none, defaults := [] }
def lamBody (q1 q2 q3 q4 q5 : Pos) : Expr := .Tuple [.Subscript (.Name "told" q1) (.Name "house" q2) q3, .Name "house" q4] 0 q5
def lamScope : Scope := { kind := .function, names := [("house", .local), ("told", .free)], isGenerator := false, isCoroutine := false, more := [] }
/-- the key of a house -/
def keyD (ts : List Int) (i : Int) : PyData := .tuple [.int (ts.getD i.toNat 0), .int i]
section
variable {prog : Program} {w : World} {A : Around} {s : Shared}
/-- the lambda, called -/
theorem lam_call {f b c' cc : Addr} {qual : Str} {pa q1 q2 q3 q4 q5 : Pos} {cl : List (Str × Addr)} {pm ctv : Value} {its : List Value} {ts : List Int} {i : Int} {t : Tok} (hroom : A.depth < recursionLimit) (lim : s.heap.NoLimit)
    (ho : s.heap.get? f = some (PySem.W.kla_obj "<lambda>" qual (lamArgs pa) (lamBody q1 q2 q3 q4 q5) lamScope cl pm c' ctv)) (hcd : s.heap.CodeRec (.ref c') qual) (hcl : cl.lookup ("told" : Str) = some cc) (hcell : s.heap.IsCell cc (some (.ref b)))
    (hT : IsTup s.heap b its.toArray) (hI : IntsAre its ts) (hi0 : 0 ≤ i) (hi1 : i < ts.length) (hl : ts.length ≤ 1000) :
    wpAny (model prog w) A (call (.ref f) [.int i t]) (PySem.W.KeyPure (keyD ts i) s) (fun _ _ => False) s := by
  refine wpAny_call (PySem.W.kla_callFunE hroom ho rfl rfl rfl rfl hcd ?_)
  have hb : bindArgs (PySem.W.kla_fn "<lambda>" qual (lamArgs pa) (lamBody q1 q2 q3 q4 q5) lamScope cl pm (.ref c') ctv) ⟨[.int i t], []⟩ = pure [(("house" : Str), Value.int i t)] := rfl
  rw [hb]
  refine wpAny_pure (wpAny_newFunctionEnv (show ∀ x ∈ lamScope.names, x.2 ≠ .cell by decide +kernel) (fun x hx => by rw [List.mem_singleton.mp hx]; exact (by decide +kernel : lamScope.names.lookup ("house" : Str) = some .local)) (fun h₁ hns hsb => ⟨lim.fresh _ hsb, PySem.W.kla_codeExpr ?_⟩) rfl)
  have kp : ∀ b o, s.heap.get? b = some o → h₁.get? b = some o := fun b o e => hsb.extBut b o (Nat.ne_of_lt (Heap.lt_size e)) (Heap.get?_push_of_some _ e)
  have hT1 : IsTup h₁ b its.toArray := by
    obtain ⟨o, e, r⟩ := hT
    exact ⟨o, kp _ _ e, r⟩
  have hcell1 : h₁.IsCell cc (some (.ref b)) := by
    obtain ⟨o, e, r⟩ := hcell
    exact ⟨o, kp _ _ e, r⟩
  have hlen : its.length = ts.length := hI.length
  obtain ⟨j, rfl⟩ : ∃ j : Nat, i = (j : Int) := ⟨i.toNat, by omega⟩
  have hj : j < its.length := by omega
  obtain ⟨tk, et⟩ := PyProof.Rows.IntsAre.int_at hI j its[j] (by simp [hj])
  refine wpAny_Tuple_spliced ?_
  refine Calls.spliced_cons ?_
  have ldh : ∀ {p : Pos} {E' : Value → Shared → Prop} {A' : Around} {tk' : Nat} {Q' : Value → Shared → Prop} , Q' (.int (j : Int) t) { s with heap := h₁, toks := tk' } →
      wpAny (model prog w) A' (eval (.Name "house" p) (newEnv lamScope s.heap.objs.size mainGlobals cl (qual ++ ".<locals>.") (some f) (.ref c') none builtinsNs)) Q' E' { s with heap := h₁, toks := tk' } := fun q =>
    wpAny_Name (wpAny_loadName_local rfl rfl hns rfl q)
  refine Subscript_ (wpAny_Name (wpAny_loadName_free rfl rfl hcl hcell1 ?_))
  refine ldh ?_
  refine subscriptTail_builtinR (x := its[j]) hT1.typeIs slot_tuple_getitem.lookup (PyProof.Rows.getItem_tuple (j := j) hT1 (by omega) (by omega) (by rw [PySem.seqIndex_of (by omega) (by simp; omega)]; simp) (by simp [hj]) ⟨rfl, ?_⟩) rfl
  refine Calls.spliced_cons (ldh (Calls.spliced_nil ⟨show 2 ≤ sizeLine by decide, ?_⟩))
  refine ⟨_, _, rfl, fun b o e => Heap.get?_push_of_some _ (kp b o e), ?_⟩
  rw [et]
  exact .tuple (Heap.get?_push_size _ rfl) rfl rfl (.cons (as := []) (bs := []) (.int _ _) (.cons (as := []) (bs := []) (.int _ _) .nil))
end

theorem alike_key (ts : List Int) (i j : Int) : PySem.W.alike (keyD ts i) (keyD ts j) = true := rfl
theorem each_ints : ∀ {vs : List Value} {ns : List Int}, IntsAre vs ns → PySem.W.EachIs (fun (v : Value) (i : Int) => ∃ t, v = .int i t) vs ns
  | _, _, .nil => .nil
  | _, _, .cons n t r => .cons ⟨t, rfl⟩ (each_ints r)
theorem vals_each : ∀ {vs : List Value} {ns : List Int}, PySem.W.EachIs (fun (v : Value) (i : Int) => ∃ t, v = .int i t) vs ns → Vals (ns.map V.int) vs
  | _, _, .nil => .nil
  | _, _, .cons r rs => .cons r (vals_each rs)
/-- the lambda is made; of what was tracked only the table at P may have changed -/
theorem lam_make3 {X : Cx} {pins : List (Addr × Obj)} {σ : L2.St} {H : Hp} {s : Shared} {c P : Addr} {q : Str} {params : Arguments} {body : Expr} {scope : Scope} {pos : Pos} {E : Value → Shared → Prop} {Q : Value → Shared → Prop} (I : L2.Inv X pins σ H s) (TB : TabB X.base X.mg c P)
    (hcode : X.env.code = .ref c) (hq : X.env.qual ++ "<lambda>" = q) (hT : TabS H P q) (hdef : defaultsOf params X.env = ([], [])) (hfree : ∀ y ∈ scope.names, y.2 = .free → ∃ c, X.env.cells.lookup y.1 = some c)
    (h : ∀ (f c' : Addr) (pm ctv : Value) (H1 : Hp) (s' : Shared), L2.Inv X pins σ H1 s' → (∀ b o, H b = some o → b ≠ P → H1 b = some o) → TabS H1 P q →
      s'.heap.get? f = some (PySem.W.kla_obj "<lambda>" q params body scope (cloFrom X.env.cells scope.names []) pm c' ctv) → H1 c' = some (CodeO c' q) → Q (.ref f) s') :
    wpAny (model X.prog X.w) X.A (eval (.Lambda params body scope pos) X.env) Q E s := by
  subst hq
  obtain ⟨ps, hP, ht, ha⟩ := hT
  have bP : s.heap.BuiltinsAt X.mg P := TB.bm.keeps I.bk
  have gP : s.heap.get? P = some { cls := .none, data := .fields ps } := I.hok P _ hP
  refine PySem.W.kla_eval hdef ?_
  rcases hc : codeAmong pos ps.toList with _ | cv
  · refine PySem.W.kla_makeFunction (ps := ps) (closure_ok hfree) I.ok.glob (I.mod.glob.keeps I.bk) hcode (TB.code.keeps I.bk) gP ht hc TB.gP bP fun c' ctv g tk hx hge hlt hrec htb => ?_
    obtain ⟨c2, oc, us, t, e2, hoc, hd, hv⟩ := hrec
    cases e2
    have nC : H c' = none := I.hok.fresh hge
    have I1 := inv_table (t' := tk) (more := #[rawInt pos.line, rawInt pos.col, .ref c']) (h' := g.push (PySem.W.kla_obj "<lambda>" (X.env.qual ++ "<lambda>") params body scope (cloFrom X.env.cells scope.names []) ((X.mg "__name__").getD .none) c' ctv)) I hP
      (fun b o hb e => Heap.get?_push_of_some _ (hx b o hb e)) (Heap.get?_push_of_some _ htb) hge ⟨oc, us, t, Heap.get?_push_of_some _ hoc, hd, hv⟩
    have stay : ∀ b o, H b = some o → b ≠ P → upd (upd H P (.tbl (ps ++ #[rawInt pos.line, rawInt pos.col, .ref c']))) c' (CodeO c' (X.env.qual ++ "<lambda>")) b = some o := fun b o e n => by
      rw [upd_ne (ne_of_none e nC), upd_ne n]; exact e
    have cP : ∀ d q', H d = some (CodeO d q') → d ≠ P := fun d q' e z => by
      rw [z, hP] at e
      exact codeO_ne ps (Option.some.inj e).symm
    refine h g.objs.size c' _ ctv _ _ I1 stay ⟨_, by rw [upd_ne (ne_of_none hP nC), upd_same], ?_, fun p' cv hcv => ?_⟩ (Heap.get?_push_size _ rfl) upd_same
    · rw [Array.toList_append]; exact PySem.TriplesOk_snoc _ _ _ _ ht
    · rw [Array.toList_append] at hcv
      rcases among_app _ ht hcv with z | z
      · obtain ⟨d, e1, e2⟩ := ha p' cv z
        exact ⟨d, e1, stay _ _ e2 (cP _ _ e2)⟩
      · exact ⟨c', z, upd_same⟩
  · obtain ⟨c', e, hco⟩ := ha pos cv hc
    subst e
    refine PySem.W.kla_makeFunctionHit (ps := ps) (closure_ok hfree) I.ok.glob (I.mod.glob.keeps I.bk) hcode (TB.code.keeps I.bk) gP ht hc bP fun ctv g tk hx hsz => ?_
    have I1 : L2.Inv X pins σ H { s with heap := g.push (PySem.W.kla_obj "<lambda>" (X.env.qual ++ "<lambda>") params body scope (cloFrom X.env.cells scope.names []) ((X.mg "__name__").getD .none) c' ctv), toks := tk } := I.kept fun b o e => Heap.get?_push_of_some _ (hx b o e)
    exact h g.objs.size c' _ ctv H _ I1 (fun _ _ e _ => e) ⟨ps, hP, ht, ha⟩ (Heap.get?_push_size _ rfl) hco
theorem tabs_extP {H H' : Hp} {P b : Addr} {q : Str} {xs : List V} {K : PySem.W.Frag} (t : TabS H P q) (e : ∀ b o, H b = some o → b ≠ P → H' b = some o) (h : SqT K H b xs) : SqT K H' b xs := by
  obtain ⟨ps, hP, _⟩ := t
  rcases h with (h | ⟨o, h⟩) | h
  · exact .inl (.inl (e _ _ h fun z => by rw [z, hP] at h; cases h))
  · exact .inl (.inr ⟨o, e _ _ h fun z => by rw [z, hP] at h; cases h⟩)
  · exact .inr h
theorem sql_extP {H H' : Hp} {P b : Addr} {q : Str} {xs : List V} {K : PySem.W.Frag} (t : TabS H P q) (e : ∀ b o, H b = some o → b ≠ P → H' b = some o) (h : SqL K H b xs) : SqL K H' b xs := by
  obtain ⟨ps, hP, _⟩ := t
  rcases h with (h | ⟨o, h⟩) | h
  · exact .inl (.inl (e _ _ h fun z => by rw [z, hP] at h; cases h))
  · exact .inl (.inr ⟨o, e _ _ h fun z => by rw [z, hP] at h; cases h⟩)
  · exact .inr h
/-- sorted(e, key=lambda house: (told[house], house)) -/
def rSortLam (P : Addr) (q : Str) (K : PySem.W.Frag) (j : Nat) : List V → L2.St → Hp → VK → Prop := fun vs σ H1 Q => ∃ (a b : Addr) (ns ts : List Int), vs = [.ref a] ∧ SqL K H1 a (ns.map V.int) ∧ σ[j]? = some (some (.ref b)) ∧ SqT K H1 b (ts.map V.int) ∧
  (∀ k ∈ ns, 0 ≤ k ∧ k < ts.length) ∧ ns.length ≤ 1000 ∧ ts.length ≤ 1000 ∧ TabS H1 P q ∧ ∀ (H2 : Hp) (ns' : List Int) (p : Addr), (∀ b o, H1 b = some o → b ≠ P → H2 b = some o) → TabS H2 P q → ns'.Perm ns → H2 p = none → Q (.ref p) (upd H2 p (.lst (ns'.map V.int)))
theorem pe_sortLam {X : Cx} {c P : Addr} {q : Str} {k j : Nat} {e : Expr} {ta : TA} {R : List V → L2.St → Hp → VK → Prop} {p1 pa q1 q2 q3 q4 q5 lpos kpos pos : Pos} (hr : Room (k + 3) X.A) (hg : Gl X "sorted") (hm : X.mg "sorted" = none) (ha : PA X [e] ta) (hN : X.N[j]? = some ("told" : Str))
    (hc : X.env.scope.names.lookup ("told" : Str) = some .cell) (TB : TabB X.base X.mg c P) (hcode : X.env.code = .ref c) (hq0 : X.env.qual ++ "<lambda>" = q)
    (hR : ∀ vs σ H Q, R vs σ H Q → rSortLam P q X.K j vs σ H Q) (h1 : backTo pos (starEach [e] X.env) = (false, eval e X.env) :: backTo pos (starEach [] X.env) := by rfl) (h2 : (backTo pos (starEach [e] X.env)).any (·.1) = false := by rfl) :
    PE X (.Call (.Name "sorted" p1) [e] [⟨some "key", .Lambda (lamArgs pa) (lamBody q1 q2 q3 q4 q5) lamScope lpos, kpos⟩] pos) (fun σ H Q => ta σ H fun vs H1 => R vs σ H1 Q) := by
  refine ⟨fun pins s σ H Q I h => ?_⟩
  refine wpAny_Call_Name_kw (ld_blt I hg hm boot_sorted ?_ (by decide) (by decide))
  refine PyProof.Rows.callWith_kw (thn (ha.run pos pins s σ H _ I h) fun us s1 ⟨vs, H1, I1, r1, q0⟩ => ?_) h1 h2 rfl rfl
  obtain ⟨a, b, ns, ts, ex, hq, hs, ht, hb, hl1, hl2, hT, qq⟩ := hR _ _ _ _ q0
  subst ex
  obtain rfl := Vals.ref1 r1
  show wpAny _ _ (evalAll ((do let v ← eval (.Lambda (lamArgs pa) (lamBody q1 q2 q3 q4 q5) lamScope lpos) X.env; standAt pos; pure v) :: [])) _ _ s1
  have hfree : ∀ y ∈ lamScope.names, y.2 = .free → ∃ c, X.env.cells.lookup y.1 = some c := fun y hy ey => by
    rcases List.mem_cons.mp hy with z | z
    · rw [z] at ey; cases ey
    · rw [List.mem_singleton.mp z]; exact I1.ok.has _ (.inl hc)
  refine wpAny_evalAll_cons (wpAny_bind (lam_make3 I1 TB hcode hq0 hT rfl hfree fun f c' pm ctv H2 s2 I2 eN T2 hf hco => wpAny_bind (wpAny_standAt (wpAny_pure (wpAny_evalAll_nil ?_)))))
  -- the captured cell
  obtain ⟨m, hn, hlk⟩ := I2.loc
  obtain ⟨u, ru, lk⟩ := hlk j "told" _ hN hs (.inr (.inl hc))
  obtain rfl : u = Value.ref b := ru
  obtain ⟨cc, hcc, hcell⟩ : ∃ cc, X.env.cells.lookup ("told" : Str) = some cc ∧ s2.heap.IsCell cc (some (.ref b)) := by
    rcases lk with ⟨z, _⟩ | ⟨_, z⟩
    · have z2 : X.env.scope.names.lookup ("told" : Str) = some .local := z
      rw [hc] at z2; cases z2
    · exact z
  have hclo : (cloFrom X.env.cells lamScope.names []).lookup ("told" : Str) = some cc := by
    show (List.lookup ("told" : Str) [(("told" : Str), (X.env.cells.lookup ("told" : Str)).getD 0)]) = some cc
    rw [hcc] <;> rfl
  -- the list, the tuple
  obtain ⟨its, rv, hL, _⟩ := I2.list (sql_extP hT eN hq)
  obtain ⟨tts, rt, hTu, _⟩ := I2.tuple (tabs_extP hT eN ht)
  have hI : IntsAre tts ts := Vals.ints rt
  have hni : IntsAre its ns := Vals.ints rv
  have hcd : s2.heap.CodeRec (.ref c') q := by
    obtain ⟨⟨oc, us, t, hoc, hdc, hvc⟩, _, _⟩ := I2.hok c' _ hco
    exact ⟨c', oc, us, t, rfl, hoc, hdc, hvc⟩
  refine PySem.W.sorted_key_data (k := keyD ts) (b := false) hL.isList (each_ints hni) (fun d hd d' hd' => ?_) (.inl fun d hd => ?_) (by rw [sizeLine_eq]; omega) (fun x _ => ?_) (PyProof.Rows.ksk_s1 _ _) (fun _ => PyProof.Rows.ksk_l1 _ _) (fun _ => PyProof.Rows.ksk_t1 _ _)
    (fun v i hv hi h tk kp => ?_) fun out c h' tk kp fresh hD hlen hE => ?_
  · obtain ⟨i, _, rfl⟩ := List.mem_map.mp hd
    obtain ⟨j, _, rfl⟩ := List.mem_map.mp hd'
    exact alike_key ts i j
  · obtain ⟨i, _, rfl⟩ := List.mem_map.mp hd
    exact ⟨_, _, rfl⟩
  · have z := hr.units
    show X.A.units + 2 + (max 0 (max 0 0) + 1) < cLine
    omega
  · obtain ⟨t, rfl⟩ := hv
    obtain ⟨o0, e0, e1⟩ := hcell
    obtain ⟨o2, e2, e3⟩ := hTu
    obtain ⟨c2, oc, us, t2, ec, hoc, hdc, hvc⟩ := hcd
    exact lam_call (cc := cc) (hr.in1.in1).depth (I2.nolimit.keeps kp) (kp _ _ hf) ⟨c2, oc, us, t2, ec, kp _ _ hoc, hdc, hvc⟩ hclo ⟨o0, kp _ _ e0, e1⟩ ⟨o2, kp _ _ e2, e3⟩ hI (hb i hi).1 (hb i hi).2 hl2
  · have hp := List.mergeSort_perm ns (PySem.W.dataLe false (keyD ts))
    have hz : ((ns.mergeSort (PySem.W.dataLe false (keyD ts))).map V.int).length ≤ sizeLine := by
      rw [List.length_map, hp.length_eq, sizeLine_eq]; omega
    exact ⟨.ref (s2.heap.objs.size + 1), upd H2 (s2.heap.objs.size + 1) (.lst ((ns.mergeSort (PySem.W.dataLe false (keyD ts))).map V.int)), I2.laid (t' := tk) kp (Nat.le_succ _) ⟨hz, out, c, vals_each hE, hD⟩, rfl,
      qq H2 _ _ eN T2 hp (I2.hok.fresh (Nat.le_succ _))⟩
end Hb

set_option maxHeartbeats 4000000
/-! What the head tells, by names; a maker for each def. Printed by gen.py. -/
namespace Hb
open PySem PySem.Spec PyProof.Rows L2
def top (i : Nat) : Stmt := PySem.Challenge.pw_hearsaybook_k92_whole_so_few_losses.main.body.getD i (.Pass ⟨0, 0, 0, 0⟩)
abbrev s_newer : Stmt := top 1
abbrev s_ticks : Stmt := top 3
abbrev s_ticks_by : Stmt := top 4
abbrev s_target : Stmt := top 5
abbrev s_helpers_most : Stmt := top 7
abbrev s_safe_number : Stmt := top 8
abbrev s_fresh_house : Stmt := top 10
abbrev s_begun : Stmt := top 11
abbrev s_houses_named : Stmt := top 13
abbrev s_news_of : Stmt := top 14
abbrev s_notes_of : Stmt := top 15
abbrev s_Reader___init__ : Stmt := inClass (top 16) 0
abbrev s_Reader_put_word : Stmt := inClass (top 16) 1
abbrev s_Reader_take_own : Stmt := inClass (top 16) 2
abbrev s_Reader_take_other : Stmt := inClass (top 16) 3
abbrev s_Reader_take : Stmt := inClass (top 16) 4
abbrev s_Reader_as_house : Stmt := inClass (top 16) 5
abbrev s_taken : Stmt := top 17
abbrev s_Turn___init__ : Stmt := inClass (top 19) 0
abbrev s_Turn_clause : Stmt := inClass (top 19) 1
abbrev s_Turn_is_up : Stmt := inClass (top 19) 2
abbrev s_Turn_word_of : Stmt := inClass (top 19) 3
abbrev s_Turn_timer_of : Stmt := inClass (top 19) 4
abbrev s_Turn_doubts : Stmt := inClass (top 19) 5
abbrev s_Turn_put_house : Stmt := inClass (top 19) 6
abbrev s_Turn_put_word : Stmt := inClass (top 19) 7
abbrev s_Turn_put_timer : Stmt := inClass (top 19) 8
abbrev s_Turn_send : Stmt := inClass (top 19) 9
abbrev s_Turn_be_down : Stmt := inClass (top 19) 10
abbrev s_Turn_come : Stmt := inClass (top 19) 11
abbrev s_Turn_leave : Stmt := inClass (top 19) 12
abbrev s_Turn_send_all : Stmt := inClass (top 19) 13
abbrev s_Turn_move : Stmt := inClass (top 19) 14
abbrev s_Turn_helpers : Stmt := inClass (top 19) 15
abbrev s_Turn_is_answered : Stmt := inClass (top 19) 16
abbrev s_Turn_ask : Stmt := inClass (top 19) 17
abbrev s_Turn_doubt : Stmt := inClass (top 19) 18
abbrev s_Turn_ask_all : Stmt := inClass (top 19) 19
abbrev s_Turn_go : Stmt := inClass (top 19) 20
abbrev s_Turn_state_behind : Stmt := inClass (top 19) 21
abbrev s_stepped : Stmt := top 20
abbrev s_houses_up : Stmt := top 23
abbrev s_marks_of : Stmt := top 24
abbrev s_gone_wrongly : Stmt := top 25
abbrev s__law_cell_at : Stmt := top 27
abbrev s__law_left : Stmt := top 28
abbrev s__law_pick : Stmt := top 29
abbrev s__law_town : Stmt := top 30
abbrev s__law_names : Stmt := top 31
abbrev s__law_rules : Stmt := top 32
abbrev s__law_lost : Stmt := top 33
abbrev s__law_cut_off : Stmt := top 34
abbrev s__law_lost_of : Stmt := top 35
abbrev s__law_none_gone : Stmt := top 36
abbrev s_law : Stmt := top 37
abbrev N_newer : List Str := ["one", "other"]
theorem sc_newer : FnScope N_newer ["one", "other"] (defScope s_newer) := ⟨rfl, rfl, rfl, by decide +kernel, rfl, by decide +kernel, by decide +kernel⟩
abbrev N_ticks : List Str := ["town", "house", "turn", "pace", "start"]
theorem sc_ticks : FnScope N_ticks ["town", "house", "turn"] (defScope s_ticks) := ⟨rfl, rfl, rfl, by decide +kernel, rfl, by decide +kernel, by decide +kernel⟩
abbrev N_ticks_by : List Str := ["town", "house", "turn", "pace", "start"]
theorem sc_ticks_by : FnScope N_ticks_by ["town", "house", "turn"] (defScope s_ticks_by) := ⟨rfl, rfl, rfl, by decide +kernel, rfl, by decide +kernel, by decide +kernel⟩
abbrev N_target : List Str := ["town", "house", "turn", "many", "ahead"]
theorem sc_target : FnScope N_target ["town", "house", "turn"] (defScope s_target) := ⟨rfl, rfl, rfl, by decide +kernel, rfl, by decide +kernel, by decide +kernel⟩
abbrev N_helpers_most : List Str := ["rules", "town"]
theorem sc_helpers_most : FnScope N_helpers_most ["rules", "town"] (defScope s_helpers_most) := ⟨rfl, rfl, rfl, by decide +kernel, rfl, by decide +kernel, by decide +kernel⟩
abbrev N_safe_number : List Str := ["rules", "town"]
theorem sc_safe_number : FnScope N_safe_number ["rules", "town"] (defScope s_safe_number) := ⟨rfl, rfl, rfl, by decide +kernel, rfl, by decide +kernel, by decide +kernel⟩
abbrev N_fresh_house : List Str := ["n", "told"]
theorem sc_fresh_house : FnScope N_fresh_house ["n", "told"] (defScope s_fresh_house) := ⟨rfl, rfl, rfl, by decide +kernel, rfl, by decide +kernel, by decide +kernel⟩
abbrev N_begun : List Str := ["rules", "town"]
theorem sc_begun : FnScope N_begun ["rules", "town"] (defScope s_begun) := ⟨rfl, rfl, rfl, by decide +kernel, rfl, by decide +kernel, by decide +kernel⟩
abbrev N_houses_named : List Str := ["rules", "town", "turn", "x", "y", "named", "about"]
theorem sc_houses_named : FnScope N_houses_named ["rules", "town", "turn", "x", "y"] (defScope s_houses_named) := ⟨rfl, rfl, rfl, by decide +kernel, rfl, by decide +kernel, by decide +kernel⟩
abbrev N_news_of : List Str := ["rules", "told", "x", "named", "some", "house"]
theorem sc_news_of : FnScope N_news_of ["rules", "told", "x", "named"] (defScope s_news_of) := ⟨rfl, rfl, rfl, by decide +kernel, rfl, by decide +kernel, by decide +kernel⟩
abbrev N_notes_of : List Str := ["rules", "town", "state", "x", "y", "turn", "houses", "up", "book", "told", "timers", "named", "news", "behind", "carried", "house", "count"]
theorem sc_notes_of : FnScope N_notes_of ["rules", "town", "state", "x", "y"] (defScope s_notes_of) := ⟨rfl, rfl, rfl, by decide +kernel, rfl, by decide +kernel, by decide +kernel⟩
abbrev N_Reader___init__ : List Str := ["self", "rules", "house", "own"]
theorem sc_Reader___init__ : FnScope N_Reader___init__ ["self", "rules", "house", "own"] (defScope s_Reader___init__) := ⟨rfl, rfl, rfl, by decide +kernel, rfl, by decide +kernel, by decide +kernel⟩
abbrev N_Reader_put_word : List Str := ["self", "house", "word"]
theorem sc_Reader_put_word : FnScope N_Reader_put_word ["self", "house", "word"] (defScope s_Reader_put_word) := ⟨rfl, rfl, rfl, by decide +kernel, rfl, by decide +kernel, by decide +kernel⟩
abbrev N_Reader_take_own : List Str := ["self", "word"]
theorem sc_Reader_take_own : FnScope N_Reader_take_own ["self", "word"] (defScope s_Reader_take_own) := ⟨rfl, rfl, rfl, by decide +kernel, rfl, by decide +kernel, by decide +kernel⟩
abbrev N_Reader_take_other : List Str := ["self", "house", "word", "here"]
theorem sc_Reader_take_other : FnScope N_Reader_take_other ["self", "house", "word"] (defScope s_Reader_take_other) := ⟨rfl, rfl, rfl, by decide +kernel, rfl, by decide +kernel, by decide +kernel⟩
abbrev N_Reader_take : List Str := ["self", "note", "house", "word"]
theorem sc_Reader_take : FnScope N_Reader_take ["self", "note"] (defScope s_Reader_take) := ⟨rfl, rfl, rfl, by decide +kernel, rfl, by decide +kernel, by decide +kernel⟩
abbrev N_Reader_as_house : List Str := ["self"]
theorem sc_Reader_as_house : FnScope N_Reader_as_house ["self"] (defScope s_Reader_as_house) := ⟨rfl, rfl, rfl, by decide +kernel, rfl, by decide +kernel, by decide +kernel⟩
abbrev N_taken : List Str := ["rules", "house", "y", "notes", "reader", "note"]
theorem sc_taken : FnScope N_taken ["rules", "house", "y", "notes"] (defScope s_taken) := ⟨rfl, rfl, rfl, by decide +kernel, rfl, by decide +kernel, by decide +kernel⟩
abbrev N_Turn___init__ : List Str := ["self", "rules", "town", "state", "lost"]
theorem sc_Turn___init__ : FnScope N_Turn___init__ ["self", "rules", "town", "state", "lost"] (defScope s_Turn___init__) := ⟨rfl, rfl, rfl, by decide +kernel, rfl, by decide +kernel, by decide +kernel⟩
abbrev N_Turn_clause : List Str := ["self", "word"]
theorem sc_Turn_clause : FnScope N_Turn_clause ["self", "word"] (defScope s_Turn_clause) := ⟨rfl, rfl, rfl, by decide +kernel, rfl, by decide +kernel, by decide +kernel⟩
abbrev N_Turn_is_up : List Str := ["self", "house"]
theorem sc_Turn_is_up : FnScope N_Turn_is_up ["self", "house"] (defScope s_Turn_is_up) := ⟨rfl, rfl, rfl, by decide +kernel, rfl, by decide +kernel, by decide +kernel⟩
abbrev N_Turn_word_of : List Str := ["self", "a", "b"]
theorem sc_Turn_word_of : FnScope N_Turn_word_of ["self", "a", "b"] (defScope s_Turn_word_of) := ⟨rfl, rfl, rfl, by decide +kernel, rfl, by decide +kernel, by decide +kernel⟩
abbrev N_Turn_timer_of : List Str := ["self", "a", "b"]
theorem sc_Turn_timer_of : FnScope N_Turn_timer_of ["self", "a", "b"] (defScope s_Turn_timer_of) := ⟨rfl, rfl, rfl, by decide +kernel, rfl, by decide +kernel, by decide +kernel⟩
abbrev N_Turn_doubts : List Str := ["self", "a", "b"]
theorem sc_Turn_doubts : FnScope N_Turn_doubts ["self", "a", "b"] (defScope s_Turn_doubts) := ⟨rfl, rfl, rfl, by decide +kernel, rfl, by decide +kernel, by decide +kernel⟩
abbrev N_Turn_put_house : List Str := ["self", "house", "up", "told", "timers"]
theorem sc_Turn_put_house : FnScope N_Turn_put_house ["self", "house", "up", "told", "timers"] (defScope s_Turn_put_house) := ⟨rfl, rfl, rfl, by decide +kernel, rfl, by decide +kernel, by decide +kernel⟩
abbrev N_Turn_put_word : List Str := ["self", "a", "b", "word", "up", "book", "told", "timers"]
theorem sc_Turn_put_word : FnScope N_Turn_put_word ["self", "a", "b", "word"] (defScope s_Turn_put_word) := ⟨rfl, rfl, rfl, by decide +kernel, rfl, by decide +kernel, by decide +kernel⟩
abbrev N_Turn_put_timer : List Str := ["self", "a", "b", "timer", "up", "book", "told", "timers"]
theorem sc_Turn_put_timer : FnScope N_Turn_put_timer ["self", "a", "b", "timer"] (defScope s_Turn_put_timer) := ⟨rfl, rfl, rfl, by decide +kernel, rfl, by decide +kernel, by decide +kernel⟩
abbrev N_Turn_send : List Str := ["self", "x", "y", "notes", "told", "up", "book", "old", "timers", "lost"]
theorem sc_Turn_send : FnScope N_Turn_send ["self", "x", "y"] (defScope s_Turn_send) := ⟨rfl, rfl, rfl, by decide +kernel, rfl, by decide +kernel, by decide +kernel⟩
abbrev N_Turn_be_down : List Str := ["self", "house", "up", "book", "told", "timers"]
theorem sc_Turn_be_down : FnScope N_Turn_be_down ["self", "house"] (defScope s_Turn_be_down) := ⟨rfl, rfl, rfl, by decide +kernel, rfl, by decide +kernel, by decide +kernel⟩
abbrev N_Turn_come : List Str := ["self", "house", "up", "book", "told", "timers"]
theorem sc_Turn_come : FnScope N_Turn_come ["self", "house"] (defScope s_Turn_come) := ⟨rfl, rfl, rfl, by decide +kernel, rfl, by decide +kernel, by decide +kernel⟩
abbrev N_Turn_leave : List Str := ["self", "house", "up", "book", "told", "timers"]
theorem sc_Turn_leave : FnScope N_Turn_leave ["self", "house"] (defScope s_Turn_leave) := ⟨rfl, rfl, rfl, by decide +kernel, rfl, by decide +kernel, by decide +kernel⟩
abbrev N_Turn_send_all : List Str := ["self", "x", "y"]
theorem sc_Turn_send_all : FnScope N_Turn_send_all ["self", "x"] (defScope s_Turn_send_all) := ⟨rfl, rfl, rfl, by decide +kernel, rfl, by decide +kernel, by decide +kernel⟩
abbrev N_Turn_move : List Str := ["self", "falls", "leaves", "comes", "house"]
theorem sc_Turn_move : FnScope N_Turn_move ["self", "falls", "leaves", "comes"] (defScope s_Turn_move) := ⟨rfl, rfl, rfl, by decide +kernel, rfl, by decide +kernel, by decide +kernel⟩
abbrev N_Turn_helpers : List Str := ["self", "a", "b", "n", "round_houses", "step", "house"]
theorem sc_Turn_helpers : FnScope N_Turn_helpers ["self", "a", "b"] (defScope s_Turn_helpers) := ⟨rfl, rfl, rfl, by decide +kernel, rfl, by decide +kernel, by decide +kernel⟩
abbrev N_Turn_is_answered : List Str := ["self", "a", "b", "house"]
theorem sc_Turn_is_answered : FnScope N_Turn_is_answered ["self", "a", "b"] (defScope s_Turn_is_answered) := ⟨rfl, rfl, rfl, by decide +kernel, rfl, by decide +kernel, by decide +kernel⟩
abbrev N_Turn_ask : List Str := ["self", "a", "b"]
theorem sc_Turn_ask : FnScope N_Turn_ask ["self", "a", "b"] (defScope s_Turn_ask) := ⟨rfl, rfl, rfl, by decide +kernel, rfl, by decide +kernel, by decide +kernel⟩
abbrev N_Turn_doubt : List Str := ["self", "a", "b", "number", "mark", "timer"]
theorem sc_Turn_doubt : FnScope N_Turn_doubt ["self", "a", "b"] (defScope s_Turn_doubt) := ⟨rfl, rfl, rfl, by decide +kernel, rfl, by decide +kernel, by decide +kernel⟩
abbrev N_Turn_ask_all : List Str := ["self", "a", "first", "b"]
theorem sc_Turn_ask_all : FnScope N_Turn_ask_all ["self", "a"] (defScope s_Turn_ask_all) := ⟨rfl, rfl, rfl, by decide +kernel, rfl, by decide +kernel, by decide +kernel⟩
abbrev N_Turn_go : List Str := ["self", "a"]
theorem sc_Turn_go : FnScope N_Turn_go ["self"] (defScope s_Turn_go) := ⟨rfl, rfl, rfl, by decide +kernel, rfl, by decide +kernel, by decide +kernel⟩
abbrev N_Turn_state_behind : List Str := ["self"]
theorem sc_Turn_state_behind : FnScope N_Turn_state_behind ["self"] (defScope s_Turn_state_behind) := ⟨rfl, rfl, rfl, by decide +kernel, rfl, by decide +kernel, by decide +kernel⟩
abbrev N_stepped : List Str := ["rules", "town", "state", "doings", "lost", "falls", "leaves", "comes", "turn"]
theorem sc_stepped : FnScope N_stepped ["rules", "town", "state", "doings"] (defScope s_stepped) := ⟨rfl, rfl, rfl, by decide +kernel, rfl, by decide +kernel, by decide +kernel⟩
abbrev N_houses_up : List Str := ["state", "house", "home"]
theorem sc_houses_up : FnScope N_houses_up ["state"] (defScope s_houses_up) := ⟨rfl, rfl, rfl, by decide +kernel, rfl, by decide +kernel, by decide +kernel⟩
abbrev N_marks_of : List Str := ["state", "house", "number", "mark"]
theorem sc_marks_of : FnScope N_marks_of ["state", "house"] (defScope s_marks_of) := ⟨rfl, rfl, rfl, by decide +kernel, rfl, by decide +kernel, by decide +kernel⟩
abbrev N_gone_wrongly : List Str := ["state", "some", "house", "marks", "other"]
theorem sc_gone_wrongly : FnScope N_gone_wrongly ["state"] (defScope s_gone_wrongly) := ⟨rfl, rfl, rfl, by decide +kernel, rfl, by decide +kernel, by decide +kernel⟩
abbrev N__law_cell_at : List Str := ["_law_script", "_law_k"]
theorem sc__law_cell_at : FnScope N__law_cell_at ["_law_script", "_law_k"] (defScope s__law_cell_at) := ⟨rfl, rfl, rfl, by decide +kernel, rfl, by decide +kernel, by decide +kernel⟩
abbrev N__law_left : List Str := ["_law_script", "_law_k", "_law_cell", "_law_seed"]
theorem sc__law_left : FnScope N__law_left ["_law_script", "_law_k"] (defScope s__law_left) := ⟨rfl, rfl, rfl, by decide +kernel, rfl, by decide +kernel, by decide +kernel⟩
abbrev N__law_pick : List Str := ["_law_left_here", "_law_many", "_law_digit"]
theorem sc__law_pick : FnScope N__law_pick ["_law_left_here", "_law_many"] (defScope s__law_pick) := ⟨rfl, rfl, rfl, by decide +kernel, rfl, by decide +kernel, by decide +kernel⟩
abbrev N__law_town : List Str := ["_law_left_here", "_law_most", "_law_clocks", "_law_house", "_law_pace"]
theorem sc__law_town : FnScope N__law_town ["_law_left_here", "_law_most"] (defScope s__law_town) := ⟨rfl, rfl, rfl, by decide +kernel, rfl, by decide +kernel, by decide +kernel⟩
abbrev N__law_names : List Str := ["_law_lacking", "_law_every", "_law_name"]
theorem sc__law_names : FnScope N__law_names ["_law_lacking"] (defScope s__law_names) := ⟨rfl, rfl, rfl, by decide +kernel, rfl, by decide +kernel, by decide +kernel⟩
abbrev N__law_rules : List Str := ["_law_left_here", "_law_others", "_law_wait", "_law_told", "_law_carry"]
theorem sc__law_rules : FnScope N__law_rules ["_law_left_here"] (defScope s__law_rules) := ⟨rfl, rfl, rfl, by decide +kernel, rfl, by decide +kernel, by decide +kernel⟩
abbrev N__law_lost : List Str := ["_law_left_here", "_law_most", "_law_way", "_law_some", "_law_k"]
theorem sc__law_lost : FnScope N__law_lost ["_law_left_here", "_law_most"] (defScope s__law_lost) := ⟨rfl, rfl, rfl, by decide +kernel, rfl, by decide +kernel, by decide +kernel⟩
abbrev N__law_cut_off : List Str := ["_law_drawn", "_law_town_here", "_law_state", "_law_one", "_law_other", "_law_most", "_law_lost_here", "_law_turn", "_law_letters", "_law_at", "_law_k", "_law_letter", "_law_through"]
theorem sc__law_cut_off : FnScope N__law_cut_off ["_law_drawn", "_law_town_here", "_law_state", "_law_one", "_law_other", "_law_most"] (defScope s__law_cut_off) := ⟨rfl, rfl, rfl, by decide +kernel, rfl, by decide +kernel, by decide +kernel⟩
abbrev N__law_lost_of : List Str := ["_law_letters", "_law_letter"]
theorem sc__law_lost_of : FnScope N__law_lost_of ["_law_letters"] (defScope s__law_lost_of) := ⟨rfl, rfl, rfl, by decide +kernel, rfl, by decide +kernel, by decide +kernel⟩
abbrev N__law_none_gone : List Str := ["_law_state", "_law_home", "_law_word"]
theorem sc__law_none_gone : FnScope N__law_none_gone ["_law_state"] (defScope s__law_none_gone) := ⟨rfl, rfl, rfl, by decide +kernel, rfl, by decide +kernel, by decide +kernel⟩
abbrev N_law : List Str := ["_law_script", "_law_k", "_law_left_here", "_law_drawn", "_law_town_here", "_law_one", "_law_other", "_law_state", "_law_may", "_law_aimed", "_law_turn", "_law_lost_here", "_law_letters", "_law_number"]
theorem sc_law : FnScope N_law ["_law_script"] (defScope s_law) := ⟨rfl, rfl, rfl, by decide +kernel, rfl, by decide +kernel, by decide +kernel⟩
def d_newer : He.DefD := ⟨("newer", none), "newer", "newer", defArgs s_newer, defBody s_newer, defScope s_newer, [], []⟩
def d_ticks : He.DefD := ⟨("ticks", none), "ticks", "ticks", defArgs s_ticks, defBody s_ticks, defScope s_ticks, [], []⟩
def d_ticks_by : He.DefD := ⟨("ticks_by", none), "ticks_by", "ticks_by", defArgs s_ticks_by, defBody s_ticks_by, defScope s_ticks_by, [], []⟩
def d_target : He.DefD := ⟨("target", none), "target", "target", defArgs s_target, defBody s_target, defScope s_target, [], []⟩
def d_helpers_most : He.DefD := ⟨("helpers_most", none), "helpers_most", "helpers_most", defArgs s_helpers_most, defBody s_helpers_most, defScope s_helpers_most, [], []⟩
def d_safe_number : He.DefD := ⟨("safe_number", none), "safe_number", "safe_number", defArgs s_safe_number, defBody s_safe_number, defScope s_safe_number, [], []⟩
def d_fresh_house : He.DefD := ⟨("fresh_house", none), "fresh_house", "fresh_house", defArgs s_fresh_house, defBody s_fresh_house, defScope s_fresh_house, [], []⟩
def d_begun : He.DefD := ⟨("begun", none), "begun", "begun", defArgs s_begun, defBody s_begun, defScope s_begun, [], []⟩
def d_houses_named : He.DefD := ⟨("houses_named", none), "houses_named", "houses_named", defArgs s_houses_named, defBody s_houses_named, defScope s_houses_named, [], []⟩
def d_news_of : He.DefD := ⟨("news_of", none), "news_of", "news_of", defArgs s_news_of, defBody s_news_of, defScope s_news_of, [], []⟩
def d_notes_of : He.DefD := ⟨("notes_of", none), "notes_of", "notes_of", defArgs s_notes_of, defBody s_notes_of, defScope s_notes_of, [], []⟩
def d_Reader___init__ : He.DefD := ⟨("Reader", some "__init__"), "__init__", "Reader.__init__", defArgs s_Reader___init__, defBody s_Reader___init__, defScope s_Reader___init__, [], []⟩
def d_Reader_put_word : He.DefD := ⟨("Reader", some "put_word"), "put_word", "Reader.put_word", defArgs s_Reader_put_word, defBody s_Reader_put_word, defScope s_Reader_put_word, [], []⟩
def d_Reader_take_own : He.DefD := ⟨("Reader", some "take_own"), "take_own", "Reader.take_own", defArgs s_Reader_take_own, defBody s_Reader_take_own, defScope s_Reader_take_own, [], []⟩
def d_Reader_take_other : He.DefD := ⟨("Reader", some "take_other"), "take_other", "Reader.take_other", defArgs s_Reader_take_other, defBody s_Reader_take_other, defScope s_Reader_take_other, [], []⟩
def d_Reader_take : He.DefD := ⟨("Reader", some "take"), "take", "Reader.take", defArgs s_Reader_take, defBody s_Reader_take, defScope s_Reader_take, [], []⟩
def d_Reader_as_house : He.DefD := ⟨("Reader", some "as_house"), "as_house", "Reader.as_house", defArgs s_Reader_as_house, defBody s_Reader_as_house, defScope s_Reader_as_house, [], []⟩
def d_taken : He.DefD := ⟨("taken", none), "taken", "taken", defArgs s_taken, defBody s_taken, defScope s_taken, [], []⟩
def d_Turn___init__ : He.DefD := ⟨("Turn", some "__init__"), "__init__", "Turn.__init__", defArgs s_Turn___init__, defBody s_Turn___init__, defScope s_Turn___init__, [], []⟩
def d_Turn_clause : He.DefD := ⟨("Turn", some "clause"), "clause", "Turn.clause", defArgs s_Turn_clause, defBody s_Turn_clause, defScope s_Turn_clause, [], []⟩
def d_Turn_is_up : He.DefD := ⟨("Turn", some "is_up"), "is_up", "Turn.is_up", defArgs s_Turn_is_up, defBody s_Turn_is_up, defScope s_Turn_is_up, [], []⟩
def d_Turn_word_of : He.DefD := ⟨("Turn", some "word_of"), "word_of", "Turn.word_of", defArgs s_Turn_word_of, defBody s_Turn_word_of, defScope s_Turn_word_of, [], []⟩
def d_Turn_timer_of : He.DefD := ⟨("Turn", some "timer_of"), "timer_of", "Turn.timer_of", defArgs s_Turn_timer_of, defBody s_Turn_timer_of, defScope s_Turn_timer_of, [], []⟩
def d_Turn_doubts : He.DefD := ⟨("Turn", some "doubts"), "doubts", "Turn.doubts", defArgs s_Turn_doubts, defBody s_Turn_doubts, defScope s_Turn_doubts, [], []⟩
def d_Turn_put_house : He.DefD := ⟨("Turn", some "put_house"), "put_house", "Turn.put_house", defArgs s_Turn_put_house, defBody s_Turn_put_house, defScope s_Turn_put_house, [], []⟩
def d_Turn_put_word : He.DefD := ⟨("Turn", some "put_word"), "put_word", "Turn.put_word", defArgs s_Turn_put_word, defBody s_Turn_put_word, defScope s_Turn_put_word, [], []⟩
def d_Turn_put_timer : He.DefD := ⟨("Turn", some "put_timer"), "put_timer", "Turn.put_timer", defArgs s_Turn_put_timer, defBody s_Turn_put_timer, defScope s_Turn_put_timer, [], []⟩
def d_Turn_send : He.DefD := ⟨("Turn", some "send"), "send", "Turn.send", defArgs s_Turn_send, defBody s_Turn_send, defScope s_Turn_send, [], []⟩
def d_Turn_be_down : He.DefD := ⟨("Turn", some "be_down"), "be_down", "Turn.be_down", defArgs s_Turn_be_down, defBody s_Turn_be_down, defScope s_Turn_be_down, [], []⟩
def d_Turn_come : He.DefD := ⟨("Turn", some "come"), "come", "Turn.come", defArgs s_Turn_come, defBody s_Turn_come, defScope s_Turn_come, [], []⟩
def d_Turn_leave : He.DefD := ⟨("Turn", some "leave"), "leave", "Turn.leave", defArgs s_Turn_leave, defBody s_Turn_leave, defScope s_Turn_leave, [], []⟩
def d_Turn_send_all : He.DefD := ⟨("Turn", some "send_all"), "send_all", "Turn.send_all", defArgs s_Turn_send_all, defBody s_Turn_send_all, defScope s_Turn_send_all, [], []⟩
def d_Turn_move : He.DefD := ⟨("Turn", some "move"), "move", "Turn.move", defArgs s_Turn_move, defBody s_Turn_move, defScope s_Turn_move, [], []⟩
def d_Turn_helpers : He.DefD := ⟨("Turn", some "helpers"), "helpers", "Turn.helpers", defArgs s_Turn_helpers, defBody s_Turn_helpers, defScope s_Turn_helpers, [], []⟩
def d_Turn_is_answered : He.DefD := ⟨("Turn", some "is_answered"), "is_answered", "Turn.is_answered", defArgs s_Turn_is_answered, defBody s_Turn_is_answered, defScope s_Turn_is_answered, [], []⟩
def d_Turn_ask : He.DefD := ⟨("Turn", some "ask"), "ask", "Turn.ask", defArgs s_Turn_ask, defBody s_Turn_ask, defScope s_Turn_ask, [], []⟩
def d_Turn_doubt : He.DefD := ⟨("Turn", some "doubt"), "doubt", "Turn.doubt", defArgs s_Turn_doubt, defBody s_Turn_doubt, defScope s_Turn_doubt, [], []⟩
def d_Turn_ask_all : He.DefD := ⟨("Turn", some "ask_all"), "ask_all", "Turn.ask_all", defArgs s_Turn_ask_all, defBody s_Turn_ask_all, defScope s_Turn_ask_all, [], []⟩
def d_Turn_go : He.DefD := ⟨("Turn", some "go"), "go", "Turn.go", defArgs s_Turn_go, defBody s_Turn_go, defScope s_Turn_go, [], []⟩
def d_Turn_state_behind : He.DefD := ⟨("Turn", some "state_behind"), "state_behind", "Turn.state_behind", defArgs s_Turn_state_behind, defBody s_Turn_state_behind, defScope s_Turn_state_behind, [], []⟩
def d_stepped : He.DefD := ⟨("stepped", none), "stepped", "stepped", defArgs s_stepped, defBody s_stepped, defScope s_stepped, [], []⟩
def d_houses_up : He.DefD := ⟨("houses_up", none), "houses_up", "houses_up", defArgs s_houses_up, defBody s_houses_up, defScope s_houses_up, [], []⟩
def d_marks_of : He.DefD := ⟨("marks_of", none), "marks_of", "marks_of", defArgs s_marks_of, defBody s_marks_of, defScope s_marks_of, [], []⟩
def d_gone_wrongly : He.DefD := ⟨("gone_wrongly", none), "gone_wrongly", "gone_wrongly", defArgs s_gone_wrongly, defBody s_gone_wrongly, defScope s_gone_wrongly, [], []⟩
def d__law_cell_at : He.DefD := ⟨("_law_cell_at", none), "_law_cell_at", "_law_cell_at", defArgs s__law_cell_at, defBody s__law_cell_at, defScope s__law_cell_at, [], []⟩
def d__law_left : He.DefD := ⟨("_law_left", none), "_law_left", "_law_left", defArgs s__law_left, defBody s__law_left, defScope s__law_left, [], []⟩
def d__law_pick : He.DefD := ⟨("_law_pick", none), "_law_pick", "_law_pick", defArgs s__law_pick, defBody s__law_pick, defScope s__law_pick, [], []⟩
def d__law_town : He.DefD := ⟨("_law_town", none), "_law_town", "_law_town", defArgs s__law_town, defBody s__law_town, defScope s__law_town, [], []⟩
def d__law_names : He.DefD := ⟨("_law_names", none), "_law_names", "_law_names", defArgs s__law_names, defBody s__law_names, defScope s__law_names, [], []⟩
def d__law_rules : He.DefD := ⟨("_law_rules", none), "_law_rules", "_law_rules", defArgs s__law_rules, defBody s__law_rules, defScope s__law_rules, [], []⟩
def d__law_lost : He.DefD := ⟨("_law_lost", none), "_law_lost", "_law_lost", defArgs s__law_lost, defBody s__law_lost, defScope s__law_lost, [], []⟩
def d__law_cut_off : He.DefD := ⟨("_law_cut_off", none), "_law_cut_off", "_law_cut_off", defArgs s__law_cut_off, defBody s__law_cut_off, defScope s__law_cut_off, [], []⟩
def d__law_lost_of : He.DefD := ⟨("_law_lost_of", none), "_law_lost_of", "_law_lost_of", defArgs s__law_lost_of, defBody s__law_lost_of, defScope s__law_lost_of, [], []⟩
def d__law_none_gone : He.DefD := ⟨("_law_none_gone", none), "_law_none_gone", "_law_none_gone", defArgs s__law_none_gone, defBody s__law_none_gone, defScope s__law_none_gone, [], []⟩
def d_law : He.DefD := ⟨("law", none), "law", "law", defArgs s_law, defBody s_law, defScope s_law, [], []⟩
def fn : List He.DefD := [d_newer, d_ticks, d_ticks_by, d_target, d_helpers_most, d_safe_number, d_fresh_house, d_begun, d_houses_named, d_news_of, d_notes_of, d_Reader___init__, d_Reader_put_word, d_Reader_take_own, d_Reader_take_other, d_Reader_take, d_Reader_as_house, d_taken, d_Turn___init__, d_Turn_clause, d_Turn_is_up, d_Turn_word_of, d_Turn_timer_of, d_Turn_doubts, d_Turn_put_house, d_Turn_put_word, d_Turn_put_timer, d_Turn_send, d_Turn_be_down, d_Turn_come, d_Turn_leave, d_Turn_send_all, d_Turn_move, d_Turn_helpers, d_Turn_is_answered, d_Turn_ask, d_Turn_doubt, d_Turn_ask_all, d_Turn_go, d_Turn_state_behind, d_stepped, d_houses_up, d_marks_of, d_gone_wrongly, d__law_cell_at, d__law_left, d__law_pick, d__law_town, d__law_names, d__law_rules, d__law_lost, d__law_cut_off, d__law_lost_of, d__law_none_gone, d_law]
def fa : List He.Fa := [.glo "newer", .glo "ticks", .glo "ticks_by", .glo "target", .glo "helpers_most", .glo "safe_number", .glo "fresh_house", .glo "begun", .glo "houses_named", .glo "news_of", .glo "notes_of", .glo "taken", .glo "stepped", .glo "houses_up", .glo "marks_of", .glo "gone_wrongly", .glo "_law_cell_at", .glo "_law_left", .glo "_law_pick", .glo "_law_town", .glo "_law_names", .glo "_law_rules", .glo "_law_lost", .glo "_law_cut_off", .glo "_law_lost_of", .glo "_law_none_gone", .glo "law", .glo "Reader", .glo "Turn", .free "len", .free "range", .free "sorted", .free "enumerate", .free "tuple", .free "list", .free "dict", .free "int", .free "min", .free "max", .free "any", .cls "Reader", .mkr "Reader", .noat "Reader" "clauses", .noat "Reader" "own", .noat "Reader" "up", .noat "Reader" "words", .noat "Reader" "told", .noat "Reader" "timers", .meth "Reader" "put_word", .meth "Reader" "take_own", .meth "Reader" "take_other", .meth "Reader" "take", .meth "Reader" "as_house", .cls "Turn", .mkr "Turn", .noat "Turn" "rules", .noat "Turn" "town", .noat "Turn" "turn", .noat "Turn" "houses", .noat "Turn" "lost_ones", .noat "Turn" "sent", .meth "Turn" "clause", .meth "Turn" "is_up", .meth "Turn" "word_of", .meth "Turn" "timer_of", .meth "Turn" "doubts", .meth "Turn" "put_house", .meth "Turn" "put_word", .meth "Turn" "put_timer", .meth "Turn" "send", .meth "Turn" "be_down", .meth "Turn" "come", .meth "Turn" "leave", .meth "Turn" "send_all", .meth "Turn" "move", .meth "Turn" "helpers", .meth "Turn" "is_answered", .meth "Turn" "ask", .meth "Turn" "doubt", .meth "Turn" "ask_all", .meth "Turn" "go", .meth "Turn" "state_behind"]
def exB (K : PySem.W.Frag) : Bool := He.tupB K "AWAY" [.int 2, .int 3] && Option.isSome ((PySem.W.nsIn K mainGlobals "AWAY").bind fun r => r.bind fun v => match v with | .ref a => if a = He.ga K "AWAY" then some () else none | _ => none)
structure Txt (K : PySem.W.Frag) (mg : Str → Option Value) : Prop where
  says : He.SaysD fa fn K
  glo : ∀ x, (He.Fa.glo x).ok K = true → mg x = some (.ref (He.ga K x))
  free : ∀ x, (He.Fa.free x).ok K = true → mg x = none
  away : mg "AWAY" = some (.ref (He.ga K "AWAY")) ∧ ∀ H, SqT K H (He.ga K "AWAY") [.int 2, .int 3]
abbrev RC (K : PySem.W.Frag) : Addr := He.ga K "Reader"
abbrev TC (K : PySem.W.Frag) : Addr := He.ga K "Turn"
section
variable {P : Program} {w : World} {K : PySem.W.Frag} {mg : Str → Option Value} {base : Heap}
theorem Txt.away_v (T : Txt K mg) : ∃ u, mg "AWAY" = some u ∧ RelV (.ref (He.ga K "AWAY")) u := ⟨_, T.away.1, rfl⟩
theorem Txt.g_newer (T : Txt K mg) : mg "newer" = some (.ref (He.ga K "newer")) := T.glo _ (T.says.fact 0 (f := .glo "newer"))
theorem Txt.g_ticks (T : Txt K mg) : mg "ticks" = some (.ref (He.ga K "ticks")) := T.glo _ (T.says.fact 1 (f := .glo "ticks"))
theorem Txt.g_ticks_by (T : Txt K mg) : mg "ticks_by" = some (.ref (He.ga K "ticks_by")) := T.glo _ (T.says.fact 2 (f := .glo "ticks_by"))
theorem Txt.g_target (T : Txt K mg) : mg "target" = some (.ref (He.ga K "target")) := T.glo _ (T.says.fact 3 (f := .glo "target"))
theorem Txt.g_helpers_most (T : Txt K mg) : mg "helpers_most" = some (.ref (He.ga K "helpers_most")) := T.glo _ (T.says.fact 4 (f := .glo "helpers_most"))
theorem Txt.g_safe_number (T : Txt K mg) : mg "safe_number" = some (.ref (He.ga K "safe_number")) := T.glo _ (T.says.fact 5 (f := .glo "safe_number"))
theorem Txt.g_fresh_house (T : Txt K mg) : mg "fresh_house" = some (.ref (He.ga K "fresh_house")) := T.glo _ (T.says.fact 6 (f := .glo "fresh_house"))
theorem Txt.g_begun (T : Txt K mg) : mg "begun" = some (.ref (He.ga K "begun")) := T.glo _ (T.says.fact 7 (f := .glo "begun"))
theorem Txt.g_houses_named (T : Txt K mg) : mg "houses_named" = some (.ref (He.ga K "houses_named")) := T.glo _ (T.says.fact 8 (f := .glo "houses_named"))
theorem Txt.g_news_of (T : Txt K mg) : mg "news_of" = some (.ref (He.ga K "news_of")) := T.glo _ (T.says.fact 9 (f := .glo "news_of"))
theorem Txt.g_notes_of (T : Txt K mg) : mg "notes_of" = some (.ref (He.ga K "notes_of")) := T.glo _ (T.says.fact 10 (f := .glo "notes_of"))
theorem Txt.g_taken (T : Txt K mg) : mg "taken" = some (.ref (He.ga K "taken")) := T.glo _ (T.says.fact 11 (f := .glo "taken"))
theorem Txt.g_stepped (T : Txt K mg) : mg "stepped" = some (.ref (He.ga K "stepped")) := T.glo _ (T.says.fact 12 (f := .glo "stepped"))
theorem Txt.g_houses_up (T : Txt K mg) : mg "houses_up" = some (.ref (He.ga K "houses_up")) := T.glo _ (T.says.fact 13 (f := .glo "houses_up"))
theorem Txt.g_marks_of (T : Txt K mg) : mg "marks_of" = some (.ref (He.ga K "marks_of")) := T.glo _ (T.says.fact 14 (f := .glo "marks_of"))
theorem Txt.g_gone_wrongly (T : Txt K mg) : mg "gone_wrongly" = some (.ref (He.ga K "gone_wrongly")) := T.glo _ (T.says.fact 15 (f := .glo "gone_wrongly"))
theorem Txt.g__law_cell_at (T : Txt K mg) : mg "_law_cell_at" = some (.ref (He.ga K "_law_cell_at")) := T.glo _ (T.says.fact 16 (f := .glo "_law_cell_at"))
theorem Txt.g__law_left (T : Txt K mg) : mg "_law_left" = some (.ref (He.ga K "_law_left")) := T.glo _ (T.says.fact 17 (f := .glo "_law_left"))
theorem Txt.g__law_pick (T : Txt K mg) : mg "_law_pick" = some (.ref (He.ga K "_law_pick")) := T.glo _ (T.says.fact 18 (f := .glo "_law_pick"))
theorem Txt.g__law_town (T : Txt K mg) : mg "_law_town" = some (.ref (He.ga K "_law_town")) := T.glo _ (T.says.fact 19 (f := .glo "_law_town"))
theorem Txt.g__law_names (T : Txt K mg) : mg "_law_names" = some (.ref (He.ga K "_law_names")) := T.glo _ (T.says.fact 20 (f := .glo "_law_names"))
theorem Txt.g__law_rules (T : Txt K mg) : mg "_law_rules" = some (.ref (He.ga K "_law_rules")) := T.glo _ (T.says.fact 21 (f := .glo "_law_rules"))
theorem Txt.g__law_lost (T : Txt K mg) : mg "_law_lost" = some (.ref (He.ga K "_law_lost")) := T.glo _ (T.says.fact 22 (f := .glo "_law_lost"))
theorem Txt.g__law_cut_off (T : Txt K mg) : mg "_law_cut_off" = some (.ref (He.ga K "_law_cut_off")) := T.glo _ (T.says.fact 23 (f := .glo "_law_cut_off"))
theorem Txt.g__law_lost_of (T : Txt K mg) : mg "_law_lost_of" = some (.ref (He.ga K "_law_lost_of")) := T.glo _ (T.says.fact 24 (f := .glo "_law_lost_of"))
theorem Txt.g__law_none_gone (T : Txt K mg) : mg "_law_none_gone" = some (.ref (He.ga K "_law_none_gone")) := T.glo _ (T.says.fact 25 (f := .glo "_law_none_gone"))
theorem Txt.g_law (T : Txt K mg) : mg "law" = some (.ref (He.ga K "law")) := T.glo _ (T.says.fact 26 (f := .glo "law"))
theorem Txt.g_Reader (T : Txt K mg) : mg "Reader" = some (.ref (He.ga K "Reader")) := T.glo _ (T.says.fact 27 (f := .glo "Reader"))
theorem Txt.g_Turn (T : Txt K mg) : mg "Turn" = some (.ref (He.ga K "Turn")) := T.glo _ (T.says.fact 28 (f := .glo "Turn"))
theorem Txt.n_len (T : Txt K mg) : mg "len" = none := T.free _ (T.says.fact 29 (f := .free "len"))
theorem Txt.n_range (T : Txt K mg) : mg "range" = none := T.free _ (T.says.fact 30 (f := .free "range"))
theorem Txt.n_sorted (T : Txt K mg) : mg "sorted" = none := T.free _ (T.says.fact 31 (f := .free "sorted"))
theorem Txt.n_enumerate (T : Txt K mg) : mg "enumerate" = none := T.free _ (T.says.fact 32 (f := .free "enumerate"))
theorem Txt.n_tuple (T : Txt K mg) : mg "tuple" = none := T.free _ (T.says.fact 33 (f := .free "tuple"))
theorem Txt.n_list (T : Txt K mg) : mg "list" = none := T.free _ (T.says.fact 34 (f := .free "list"))
theorem Txt.n_dict (T : Txt K mg) : mg "dict" = none := T.free _ (T.says.fact 35 (f := .free "dict"))
theorem Txt.n_int (T : Txt K mg) : mg "int" = none := T.free _ (T.says.fact 36 (f := .free "int"))
theorem Txt.n_min (T : Txt K mg) : mg "min" = none := T.free _ (T.says.fact 37 (f := .free "min"))
theorem Txt.n_max (T : Txt K mg) : mg "max" = none := T.free _ (T.says.fact 38 (f := .free "max"))
theorem Txt.n_any (T : Txt K mg) : mg "any" = none := T.free _ (T.says.fact 39 (f := .free "any"))
theorem Txt.c_Reader (T : Txt K mg) : Cls K (He.ga K "Reader") := He.cls_ok (T.says.fact 40 (f := .cls "Reader"))
theorem Txt.mk_Reader (T : Txt K mg) : Mk K (He.ga K "Reader") (He.ma K (He.ga K "Reader") "__init__") := He.mkr_ok (T.says.fact 41 (f := .mkr "Reader"))
theorem Txt.a_Reader_clauses (T : Txt K mg) : NoAttr K (He.ga K "Reader") "clauses" := He.noat_ok (T.says.fact 42 (f := .noat "Reader" "clauses"))
theorem Txt.a_Reader_own (T : Txt K mg) : NoAttr K (He.ga K "Reader") "own" := He.noat_ok (T.says.fact 43 (f := .noat "Reader" "own"))
theorem Txt.a_Reader_up (T : Txt K mg) : NoAttr K (He.ga K "Reader") "up" := He.noat_ok (T.says.fact 44 (f := .noat "Reader" "up"))
theorem Txt.a_Reader_words (T : Txt K mg) : NoAttr K (He.ga K "Reader") "words" := He.noat_ok (T.says.fact 45 (f := .noat "Reader" "words"))
theorem Txt.a_Reader_told (T : Txt K mg) : NoAttr K (He.ga K "Reader") "told" := He.noat_ok (T.says.fact 46 (f := .noat "Reader" "told"))
theorem Txt.a_Reader_timers (T : Txt K mg) : NoAttr K (He.ga K "Reader") "timers" := He.noat_ok (T.says.fact 47 (f := .noat "Reader" "timers"))
theorem Txt.m_Reader_put_word (T : Txt K mg) : Meth K (He.ga K "Reader") "put_word" (He.ma K (He.ga K "Reader") "put_word") := He.meth_ok (T.says.fact 48 (f := .meth "Reader" "put_word"))
theorem Txt.m_Reader_take_own (T : Txt K mg) : Meth K (He.ga K "Reader") "take_own" (He.ma K (He.ga K "Reader") "take_own") := He.meth_ok (T.says.fact 49 (f := .meth "Reader" "take_own"))
theorem Txt.m_Reader_take_other (T : Txt K mg) : Meth K (He.ga K "Reader") "take_other" (He.ma K (He.ga K "Reader") "take_other") := He.meth_ok (T.says.fact 50 (f := .meth "Reader" "take_other"))
theorem Txt.m_Reader_take (T : Txt K mg) : Meth K (He.ga K "Reader") "take" (He.ma K (He.ga K "Reader") "take") := He.meth_ok (T.says.fact 51 (f := .meth "Reader" "take"))
theorem Txt.m_Reader_as_house (T : Txt K mg) : Meth K (He.ga K "Reader") "as_house" (He.ma K (He.ga K "Reader") "as_house") := He.meth_ok (T.says.fact 52 (f := .meth "Reader" "as_house"))
theorem Txt.c_Turn (T : Txt K mg) : Cls K (He.ga K "Turn") := He.cls_ok (T.says.fact 53 (f := .cls "Turn"))
theorem Txt.mk_Turn (T : Txt K mg) : Mk K (He.ga K "Turn") (He.ma K (He.ga K "Turn") "__init__") := He.mkr_ok (T.says.fact 54 (f := .mkr "Turn"))
theorem Txt.a_Turn_rules (T : Txt K mg) : NoAttr K (He.ga K "Turn") "rules" := He.noat_ok (T.says.fact 55 (f := .noat "Turn" "rules"))
theorem Txt.a_Turn_town (T : Txt K mg) : NoAttr K (He.ga K "Turn") "town" := He.noat_ok (T.says.fact 56 (f := .noat "Turn" "town"))
theorem Txt.a_Turn_turn (T : Txt K mg) : NoAttr K (He.ga K "Turn") "turn" := He.noat_ok (T.says.fact 57 (f := .noat "Turn" "turn"))
theorem Txt.a_Turn_houses (T : Txt K mg) : NoAttr K (He.ga K "Turn") "houses" := He.noat_ok (T.says.fact 58 (f := .noat "Turn" "houses"))
theorem Txt.a_Turn_lost_ones (T : Txt K mg) : NoAttr K (He.ga K "Turn") "lost_ones" := He.noat_ok (T.says.fact 59 (f := .noat "Turn" "lost_ones"))
theorem Txt.a_Turn_sent (T : Txt K mg) : NoAttr K (He.ga K "Turn") "sent" := He.noat_ok (T.says.fact 60 (f := .noat "Turn" "sent"))
theorem Txt.m_Turn_clause (T : Txt K mg) : Meth K (He.ga K "Turn") "clause" (He.ma K (He.ga K "Turn") "clause") := He.meth_ok (T.says.fact 61 (f := .meth "Turn" "clause"))
theorem Txt.m_Turn_is_up (T : Txt K mg) : Meth K (He.ga K "Turn") "is_up" (He.ma K (He.ga K "Turn") "is_up") := He.meth_ok (T.says.fact 62 (f := .meth "Turn" "is_up"))
theorem Txt.m_Turn_word_of (T : Txt K mg) : Meth K (He.ga K "Turn") "word_of" (He.ma K (He.ga K "Turn") "word_of") := He.meth_ok (T.says.fact 63 (f := .meth "Turn" "word_of"))
theorem Txt.m_Turn_timer_of (T : Txt K mg) : Meth K (He.ga K "Turn") "timer_of" (He.ma K (He.ga K "Turn") "timer_of") := He.meth_ok (T.says.fact 64 (f := .meth "Turn" "timer_of"))
theorem Txt.m_Turn_doubts (T : Txt K mg) : Meth K (He.ga K "Turn") "doubts" (He.ma K (He.ga K "Turn") "doubts") := He.meth_ok (T.says.fact 65 (f := .meth "Turn" "doubts"))
theorem Txt.m_Turn_put_house (T : Txt K mg) : Meth K (He.ga K "Turn") "put_house" (He.ma K (He.ga K "Turn") "put_house") := He.meth_ok (T.says.fact 66 (f := .meth "Turn" "put_house"))
theorem Txt.m_Turn_put_word (T : Txt K mg) : Meth K (He.ga K "Turn") "put_word" (He.ma K (He.ga K "Turn") "put_word") := He.meth_ok (T.says.fact 67 (f := .meth "Turn" "put_word"))
theorem Txt.m_Turn_put_timer (T : Txt K mg) : Meth K (He.ga K "Turn") "put_timer" (He.ma K (He.ga K "Turn") "put_timer") := He.meth_ok (T.says.fact 68 (f := .meth "Turn" "put_timer"))
theorem Txt.m_Turn_send (T : Txt K mg) : Meth K (He.ga K "Turn") "send" (He.ma K (He.ga K "Turn") "send") := He.meth_ok (T.says.fact 69 (f := .meth "Turn" "send"))
theorem Txt.m_Turn_be_down (T : Txt K mg) : Meth K (He.ga K "Turn") "be_down" (He.ma K (He.ga K "Turn") "be_down") := He.meth_ok (T.says.fact 70 (f := .meth "Turn" "be_down"))
theorem Txt.m_Turn_come (T : Txt K mg) : Meth K (He.ga K "Turn") "come" (He.ma K (He.ga K "Turn") "come") := He.meth_ok (T.says.fact 71 (f := .meth "Turn" "come"))
theorem Txt.m_Turn_leave (T : Txt K mg) : Meth K (He.ga K "Turn") "leave" (He.ma K (He.ga K "Turn") "leave") := He.meth_ok (T.says.fact 72 (f := .meth "Turn" "leave"))
theorem Txt.m_Turn_send_all (T : Txt K mg) : Meth K (He.ga K "Turn") "send_all" (He.ma K (He.ga K "Turn") "send_all") := He.meth_ok (T.says.fact 73 (f := .meth "Turn" "send_all"))
theorem Txt.m_Turn_move (T : Txt K mg) : Meth K (He.ga K "Turn") "move" (He.ma K (He.ga K "Turn") "move") := He.meth_ok (T.says.fact 74 (f := .meth "Turn" "move"))
theorem Txt.m_Turn_helpers (T : Txt K mg) : Meth K (He.ga K "Turn") "helpers" (He.ma K (He.ga K "Turn") "helpers") := He.meth_ok (T.says.fact 75 (f := .meth "Turn" "helpers"))
theorem Txt.m_Turn_is_answered (T : Txt K mg) : Meth K (He.ga K "Turn") "is_answered" (He.ma K (He.ga K "Turn") "is_answered") := He.meth_ok (T.says.fact 76 (f := .meth "Turn" "is_answered"))
theorem Txt.m_Turn_ask (T : Txt K mg) : Meth K (He.ga K "Turn") "ask" (He.ma K (He.ga K "Turn") "ask") := He.meth_ok (T.says.fact 77 (f := .meth "Turn" "ask"))
theorem Txt.m_Turn_doubt (T : Txt K mg) : Meth K (He.ga K "Turn") "doubt" (He.ma K (He.ga K "Turn") "doubt") := He.meth_ok (T.says.fact 78 (f := .meth "Turn" "doubt"))
theorem Txt.m_Turn_ask_all (T : Txt K mg) : Meth K (He.ga K "Turn") "ask_all" (He.ma K (He.ga K "Turn") "ask_all") := He.meth_ok (T.says.fact 79 (f := .meth "Turn" "ask_all"))
theorem Txt.m_Turn_go (T : Txt K mg) : Meth K (He.ga K "Turn") "go" (He.ma K (He.ga K "Turn") "go") := He.meth_ok (T.says.fact 80 (f := .meth "Turn" "go"))
theorem Txt.m_Turn_state_behind (T : Txt K mg) : Meth K (He.ga K "Turn") "state_behind" (He.ma K (He.ga K "Turn") "state_behind") := He.meth_ok (T.says.fact 81 (f := .meth "Turn" "state_behind"))
/-- the body of a def, its promise -/
abbrev BodyOk (P : Program) (w : World) (K : PySem.W.Frag) (mg : Str → Option Value) (base : Heap) (k : Nat) (N : List Str) (qual : Str) (st : Stmt) (f : Addr) (sp : Sp) : Prop :=
  ∀ (cdv : Value) (A : Around) (outer : List Env) (s : Shared) (H : Hp) (vs : List V) (Q : VK) (E : XK), Room k (A.deeper (envOfC qual (defScope st) s.heap.objs.size f cdv)) → sp vs H Q E →
    ∃ t, PSs (cxOf C8.CX0 P w K mg base N qual (defScope st) f cdv A outer s H E).nox (defBody st) t ∧ t { nx := fun _ H' => Q .non H', rt := Q } (start N vs) H
theorem fn_by {x qual : Str} {st : Stmt} {f : Addr} {fd : FuncData} {N ps : List Str} {k : Nat} {sp : Sp} (F : FunD K x qual (defArgs st) (defBody st) (defScope st) [] [] f fd) (S : FnScope N ps (defScope st)) (len : ∀ vs H Q E, sp vs H Q E → vs.length = ps.length)
    (hb : BodyOk P w K mg base k N qual st f sp) : FnOk P w K mg base C8.CX0 (k + 1) f fd ps sp :=
  F.ok S len fun cdv A outer s H vs Q E hr h => by
    obtain ⟨t, h1, h2⟩ := hb cdv A outer s H vs Q E hr h
    exact ⟨t, h1.nox, h2⟩
theorem b_newer {f : Addr} {fd : FuncData} (F : FunD K "newer" "newer" (defArgs s_newer) (defBody s_newer) (defScope s_newer) [] [] f fd) : Binds K fd ["one", "other"] [] := F.bindsN fun _ _ _ _ _ _ us hl => match us, hl with | [_, _], _ => rfl
theorem mk_newer (T : Txt K mg) {k : Nat} {sp : Sp} (len : ∀ vs H Q E, sp vs H Q E → vs.length = 2) (hb : BodyOk P w K mg base k N_newer "newer" s_newer (He.ga K "newer") sp) : C8.Cal P w K mg base (k + 1) "newer" sp [] := by
  obtain ⟨fd, F⟩ := T.says.def_ 0 (d := d_newer)
  exact ⟨_, fd, _, [], fn_by F sc_newer len hb, T.g_newer, F.kp, b_newer F, .nil⟩
theorem b_ticks {f : Addr} {fd : FuncData} (F : FunD K "ticks" "ticks" (defArgs s_ticks) (defBody s_ticks) (defScope s_ticks) [] [] f fd) : Binds K fd ["town", "house", "turn"] [] := F.bindsN fun _ _ _ _ _ _ us hl => match us, hl with | [_, _, _], _ => rfl
theorem mk_ticks (T : Txt K mg) {k : Nat} {sp : Sp} (len : ∀ vs H Q E, sp vs H Q E → vs.length = 3) (hb : BodyOk P w K mg base k N_ticks "ticks" s_ticks (He.ga K "ticks") sp) : C8.Cal P w K mg base (k + 1) "ticks" sp [] := by
  obtain ⟨fd, F⟩ := T.says.def_ 1 (d := d_ticks)
  exact ⟨_, fd, _, [], fn_by F sc_ticks len hb, T.g_ticks, F.kp, b_ticks F, .nil⟩
theorem b_ticks_by {f : Addr} {fd : FuncData} (F : FunD K "ticks_by" "ticks_by" (defArgs s_ticks_by) (defBody s_ticks_by) (defScope s_ticks_by) [] [] f fd) : Binds K fd ["town", "house", "turn"] [] := F.bindsN fun _ _ _ _ _ _ us hl => match us, hl with | [_, _, _], _ => rfl
theorem mk_ticks_by (T : Txt K mg) {k : Nat} {sp : Sp} (len : ∀ vs H Q E, sp vs H Q E → vs.length = 3) (hb : BodyOk P w K mg base k N_ticks_by "ticks_by" s_ticks_by (He.ga K "ticks_by") sp) : C8.Cal P w K mg base (k + 1) "ticks_by" sp [] := by
  obtain ⟨fd, F⟩ := T.says.def_ 2 (d := d_ticks_by)
  exact ⟨_, fd, _, [], fn_by F sc_ticks_by len hb, T.g_ticks_by, F.kp, b_ticks_by F, .nil⟩
theorem b_target {f : Addr} {fd : FuncData} (F : FunD K "target" "target" (defArgs s_target) (defBody s_target) (defScope s_target) [] [] f fd) : Binds K fd ["town", "house", "turn"] [] := F.bindsN fun _ _ _ _ _ _ us hl => match us, hl with | [_, _, _], _ => rfl
theorem mk_target (T : Txt K mg) {k : Nat} {sp : Sp} (len : ∀ vs H Q E, sp vs H Q E → vs.length = 3) (hb : BodyOk P w K mg base k N_target "target" s_target (He.ga K "target") sp) : C8.Cal P w K mg base (k + 1) "target" sp [] := by
  obtain ⟨fd, F⟩ := T.says.def_ 3 (d := d_target)
  exact ⟨_, fd, _, [], fn_by F sc_target len hb, T.g_target, F.kp, b_target F, .nil⟩
theorem b_helpers_most {f : Addr} {fd : FuncData} (F : FunD K "helpers_most" "helpers_most" (defArgs s_helpers_most) (defBody s_helpers_most) (defScope s_helpers_most) [] [] f fd) : Binds K fd ["rules", "town"] [] := F.bindsN fun _ _ _ _ _ _ us hl => match us, hl with | [_, _], _ => rfl
theorem mk_helpers_most (T : Txt K mg) {k : Nat} {sp : Sp} (len : ∀ vs H Q E, sp vs H Q E → vs.length = 2) (hb : BodyOk P w K mg base k N_helpers_most "helpers_most" s_helpers_most (He.ga K "helpers_most") sp) : C8.Cal P w K mg base (k + 1) "helpers_most" sp [] := by
  obtain ⟨fd, F⟩ := T.says.def_ 4 (d := d_helpers_most)
  exact ⟨_, fd, _, [], fn_by F sc_helpers_most len hb, T.g_helpers_most, F.kp, b_helpers_most F, .nil⟩
theorem b_safe_number {f : Addr} {fd : FuncData} (F : FunD K "safe_number" "safe_number" (defArgs s_safe_number) (defBody s_safe_number) (defScope s_safe_number) [] [] f fd) : Binds K fd ["rules", "town"] [] := F.bindsN fun _ _ _ _ _ _ us hl => match us, hl with | [_, _], _ => rfl
theorem mk_safe_number (T : Txt K mg) {k : Nat} {sp : Sp} (len : ∀ vs H Q E, sp vs H Q E → vs.length = 2) (hb : BodyOk P w K mg base k N_safe_number "safe_number" s_safe_number (He.ga K "safe_number") sp) : C8.Cal P w K mg base (k + 1) "safe_number" sp [] := by
  obtain ⟨fd, F⟩ := T.says.def_ 5 (d := d_safe_number)
  exact ⟨_, fd, _, [], fn_by F sc_safe_number len hb, T.g_safe_number, F.kp, b_safe_number F, .nil⟩
theorem b_fresh_house {f : Addr} {fd : FuncData} (F : FunD K "fresh_house" "fresh_house" (defArgs s_fresh_house) (defBody s_fresh_house) (defScope s_fresh_house) [] [] f fd) : Binds K fd ["n", "told"] [] := F.bindsN fun _ _ _ _ _ _ us hl => match us, hl with | [_, _], _ => rfl
theorem mk_fresh_house (T : Txt K mg) {k : Nat} {sp : Sp} (len : ∀ vs H Q E, sp vs H Q E → vs.length = 2) (hb : BodyOk P w K mg base k N_fresh_house "fresh_house" s_fresh_house (He.ga K "fresh_house") sp) : C8.Cal P w K mg base (k + 1) "fresh_house" sp [] := by
  obtain ⟨fd, F⟩ := T.says.def_ 6 (d := d_fresh_house)
  exact ⟨_, fd, _, [], fn_by F sc_fresh_house len hb, T.g_fresh_house, F.kp, b_fresh_house F, .nil⟩
theorem b_begun {f : Addr} {fd : FuncData} (F : FunD K "begun" "begun" (defArgs s_begun) (defBody s_begun) (defScope s_begun) [] [] f fd) : Binds K fd ["rules", "town"] [] := F.bindsN fun _ _ _ _ _ _ us hl => match us, hl with | [_, _], _ => rfl
theorem mk_begun (T : Txt K mg) {k : Nat} {sp : Sp} (len : ∀ vs H Q E, sp vs H Q E → vs.length = 2) (hb : BodyOk P w K mg base k N_begun "begun" s_begun (He.ga K "begun") sp) : C8.Cal P w K mg base (k + 1) "begun" sp [] := by
  obtain ⟨fd, F⟩ := T.says.def_ 7 (d := d_begun)
  exact ⟨_, fd, _, [], fn_by F sc_begun len hb, T.g_begun, F.kp, b_begun F, .nil⟩
theorem b_houses_named {f : Addr} {fd : FuncData} (F : FunD K "houses_named" "houses_named" (defArgs s_houses_named) (defBody s_houses_named) (defScope s_houses_named) [] [] f fd) : Binds K fd ["rules", "town", "turn", "x", "y"] [] := F.bindsN fun _ _ _ _ _ _ us hl => match us, hl with | [_, _, _, _, _], _ => rfl
theorem mk_houses_named (T : Txt K mg) {k : Nat} {sp : Sp} (len : ∀ vs H Q E, sp vs H Q E → vs.length = 5) (hb : BodyOk P w K mg base k N_houses_named "houses_named" s_houses_named (He.ga K "houses_named") sp) : C8.Cal P w K mg base (k + 1) "houses_named" sp [] := by
  obtain ⟨fd, F⟩ := T.says.def_ 8 (d := d_houses_named)
  exact ⟨_, fd, _, [], fn_by F sc_houses_named len hb, T.g_houses_named, F.kp, b_houses_named F, .nil⟩
theorem b_news_of {f : Addr} {fd : FuncData} (F : FunD K "news_of" "news_of" (defArgs s_news_of) (defBody s_news_of) (defScope s_news_of) [] [] f fd) : Binds K fd ["rules", "told", "x", "named"] [] := F.bindsN fun _ _ _ _ _ _ us hl => match us, hl with | [_, _, _, _], _ => rfl
theorem mk_news_of (T : Txt K mg) {k : Nat} {sp : Sp} (len : ∀ vs H Q E, sp vs H Q E → vs.length = 4) (hb : BodyOk P w K mg base k N_news_of "news_of" s_news_of (He.ga K "news_of") sp) : C8.Cal P w K mg base (k + 1) "news_of" sp [] := by
  obtain ⟨fd, F⟩ := T.says.def_ 9 (d := d_news_of)
  exact ⟨_, fd, _, [], fn_by F sc_news_of len hb, T.g_news_of, F.kp, b_news_of F, .nil⟩
theorem b_notes_of {f : Addr} {fd : FuncData} (F : FunD K "notes_of" "notes_of" (defArgs s_notes_of) (defBody s_notes_of) (defScope s_notes_of) [] [] f fd) : Binds K fd ["rules", "town", "state", "x", "y"] [] := F.bindsN fun _ _ _ _ _ _ us hl => match us, hl with | [_, _, _, _, _], _ => rfl
theorem mk_notes_of (T : Txt K mg) {k : Nat} {sp : Sp} (len : ∀ vs H Q E, sp vs H Q E → vs.length = 5) (hb : BodyOk P w K mg base k N_notes_of "notes_of" s_notes_of (He.ga K "notes_of") sp) : C8.Cal P w K mg base (k + 1) "notes_of" sp [] := by
  obtain ⟨fd, F⟩ := T.says.def_ 10 (d := d_notes_of)
  exact ⟨_, fd, _, [], fn_by F sc_notes_of len hb, T.g_notes_of, F.kp, b_notes_of F, .nil⟩
theorem b_Reader___init__ {f : Addr} {fd : FuncData} (F : FunD K "__init__" "Reader.__init__" (defArgs s_Reader___init__) (defBody s_Reader___init__) (defScope s_Reader___init__) [] [] f fd) : Binds K fd ["self", "rules", "house", "own"] [] := F.bindsN fun _ _ _ _ _ _ us hl => match us, hl with | [_, _, _, _], _ => rfl
theorem mk_Reader___init__ (T : Txt K mg) {k : Nat} {sp : Sp} (len : ∀ vs H Q E, sp vs H Q E → vs.length = 4) (hb : BodyOk P w K mg base k N_Reader___init__ "Reader.__init__" s_Reader___init__ (He.ma K (He.ga K "Reader") "__init__") sp) : C8.Mak P w K mg base (k + 1) "Reader" (He.ga K "Reader") sp [] := by
  obtain ⟨fd, F⟩ := T.says.def_ 11 (d := d_Reader___init__)
  exact ⟨_, fd, _, [], T.mk_Reader, fn_by F sc_Reader___init__ len hb, T.g_Reader, b_Reader___init__ F, .nil⟩
theorem b_Reader_put_word {f : Addr} {fd : FuncData} (F : FunD K "put_word" "Reader.put_word" (defArgs s_Reader_put_word) (defBody s_Reader_put_word) (defScope s_Reader_put_word) [] [] f fd) : Binds K fd ["self", "house", "word"] [] := F.bindsN fun _ _ _ _ _ _ us hl => match us, hl with | [_, _, _], _ => rfl
theorem mk_Reader_put_word (T : Txt K mg) {k : Nat} {sp : Sp} (len : ∀ vs H Q E, sp vs H Q E → vs.length = 3) (hb : BodyOk P w K mg base k N_Reader_put_word "Reader.put_word" s_Reader_put_word (He.ma K (He.ga K "Reader") "put_word") sp) : C8.Met P w K mg base (k + 1) (He.ga K "Reader") "put_word" sp [] := by
  obtain ⟨fd, F⟩ := T.says.def_ 12 (d := d_Reader_put_word)
  exact ⟨_, fd, _, [], T.c_Reader, T.m_Reader_put_word, fn_by F sc_Reader_put_word len hb, b_Reader_put_word F, .nil⟩
theorem b_Reader_take_own {f : Addr} {fd : FuncData} (F : FunD K "take_own" "Reader.take_own" (defArgs s_Reader_take_own) (defBody s_Reader_take_own) (defScope s_Reader_take_own) [] [] f fd) : Binds K fd ["self", "word"] [] := F.bindsN fun _ _ _ _ _ _ us hl => match us, hl with | [_, _], _ => rfl
theorem mk_Reader_take_own (T : Txt K mg) {k : Nat} {sp : Sp} (len : ∀ vs H Q E, sp vs H Q E → vs.length = 2) (hb : BodyOk P w K mg base k N_Reader_take_own "Reader.take_own" s_Reader_take_own (He.ma K (He.ga K "Reader") "take_own") sp) : C8.Met P w K mg base (k + 1) (He.ga K "Reader") "take_own" sp [] := by
  obtain ⟨fd, F⟩ := T.says.def_ 13 (d := d_Reader_take_own)
  exact ⟨_, fd, _, [], T.c_Reader, T.m_Reader_take_own, fn_by F sc_Reader_take_own len hb, b_Reader_take_own F, .nil⟩
theorem b_Reader_take_other {f : Addr} {fd : FuncData} (F : FunD K "take_other" "Reader.take_other" (defArgs s_Reader_take_other) (defBody s_Reader_take_other) (defScope s_Reader_take_other) [] [] f fd) : Binds K fd ["self", "house", "word"] [] := F.bindsN fun _ _ _ _ _ _ us hl => match us, hl with | [_, _, _], _ => rfl
theorem mk_Reader_take_other (T : Txt K mg) {k : Nat} {sp : Sp} (len : ∀ vs H Q E, sp vs H Q E → vs.length = 3) (hb : BodyOk P w K mg base k N_Reader_take_other "Reader.take_other" s_Reader_take_other (He.ma K (He.ga K "Reader") "take_other") sp) : C8.Met P w K mg base (k + 1) (He.ga K "Reader") "take_other" sp [] := by
  obtain ⟨fd, F⟩ := T.says.def_ 14 (d := d_Reader_take_other)
  exact ⟨_, fd, _, [], T.c_Reader, T.m_Reader_take_other, fn_by F sc_Reader_take_other len hb, b_Reader_take_other F, .nil⟩
theorem b_Reader_take {f : Addr} {fd : FuncData} (F : FunD K "take" "Reader.take" (defArgs s_Reader_take) (defBody s_Reader_take) (defScope s_Reader_take) [] [] f fd) : Binds K fd ["self", "note"] [] := F.bindsN fun _ _ _ _ _ _ us hl => match us, hl with | [_, _], _ => rfl
theorem mk_Reader_take (T : Txt K mg) {k : Nat} {sp : Sp} (len : ∀ vs H Q E, sp vs H Q E → vs.length = 2) (hb : BodyOk P w K mg base k N_Reader_take "Reader.take" s_Reader_take (He.ma K (He.ga K "Reader") "take") sp) : C8.Met P w K mg base (k + 1) (He.ga K "Reader") "take" sp [] := by
  obtain ⟨fd, F⟩ := T.says.def_ 15 (d := d_Reader_take)
  exact ⟨_, fd, _, [], T.c_Reader, T.m_Reader_take, fn_by F sc_Reader_take len hb, b_Reader_take F, .nil⟩
theorem b_Reader_as_house {f : Addr} {fd : FuncData} (F : FunD K "as_house" "Reader.as_house" (defArgs s_Reader_as_house) (defBody s_Reader_as_house) (defScope s_Reader_as_house) [] [] f fd) : Binds K fd ["self"] [] := F.bindsN fun _ _ _ _ _ _ us hl => match us, hl with | [_], _ => rfl
theorem mk_Reader_as_house (T : Txt K mg) {k : Nat} {sp : Sp} (len : ∀ vs H Q E, sp vs H Q E → vs.length = 1) (hb : BodyOk P w K mg base k N_Reader_as_house "Reader.as_house" s_Reader_as_house (He.ma K (He.ga K "Reader") "as_house") sp) : C8.Met P w K mg base (k + 1) (He.ga K "Reader") "as_house" sp [] := by
  obtain ⟨fd, F⟩ := T.says.def_ 16 (d := d_Reader_as_house)
  exact ⟨_, fd, _, [], T.c_Reader, T.m_Reader_as_house, fn_by F sc_Reader_as_house len hb, b_Reader_as_house F, .nil⟩
theorem b_taken {f : Addr} {fd : FuncData} (F : FunD K "taken" "taken" (defArgs s_taken) (defBody s_taken) (defScope s_taken) [] [] f fd) : Binds K fd ["rules", "house", "y", "notes"] [] := F.bindsN fun _ _ _ _ _ _ us hl => match us, hl with | [_, _, _, _], _ => rfl
theorem mk_taken (T : Txt K mg) {k : Nat} {sp : Sp} (len : ∀ vs H Q E, sp vs H Q E → vs.length = 4) (hb : BodyOk P w K mg base k N_taken "taken" s_taken (He.ga K "taken") sp) : C8.Cal P w K mg base (k + 1) "taken" sp [] := by
  obtain ⟨fd, F⟩ := T.says.def_ 17 (d := d_taken)
  exact ⟨_, fd, _, [], fn_by F sc_taken len hb, T.g_taken, F.kp, b_taken F, .nil⟩
theorem b_Turn___init__ {f : Addr} {fd : FuncData} (F : FunD K "__init__" "Turn.__init__" (defArgs s_Turn___init__) (defBody s_Turn___init__) (defScope s_Turn___init__) [] [] f fd) : Binds K fd ["self", "rules", "town", "state", "lost"] [] := F.bindsN fun _ _ _ _ _ _ us hl => match us, hl with | [_, _, _, _, _], _ => rfl
theorem mk_Turn___init__ (T : Txt K mg) {k : Nat} {sp : Sp} (len : ∀ vs H Q E, sp vs H Q E → vs.length = 5) (hb : BodyOk P w K mg base k N_Turn___init__ "Turn.__init__" s_Turn___init__ (He.ma K (He.ga K "Turn") "__init__") sp) : C8.Mak P w K mg base (k + 1) "Turn" (He.ga K "Turn") sp [] := by
  obtain ⟨fd, F⟩ := T.says.def_ 18 (d := d_Turn___init__)
  exact ⟨_, fd, _, [], T.mk_Turn, fn_by F sc_Turn___init__ len hb, T.g_Turn, b_Turn___init__ F, .nil⟩
theorem b_Turn_clause {f : Addr} {fd : FuncData} (F : FunD K "clause" "Turn.clause" (defArgs s_Turn_clause) (defBody s_Turn_clause) (defScope s_Turn_clause) [] [] f fd) : Binds K fd ["self", "word"] [] := F.bindsN fun _ _ _ _ _ _ us hl => match us, hl with | [_, _], _ => rfl
theorem mk_Turn_clause (T : Txt K mg) {k : Nat} {sp : Sp} (len : ∀ vs H Q E, sp vs H Q E → vs.length = 2) (hb : BodyOk P w K mg base k N_Turn_clause "Turn.clause" s_Turn_clause (He.ma K (He.ga K "Turn") "clause") sp) : C8.Met P w K mg base (k + 1) (He.ga K "Turn") "clause" sp [] := by
  obtain ⟨fd, F⟩ := T.says.def_ 19 (d := d_Turn_clause)
  exact ⟨_, fd, _, [], T.c_Turn, T.m_Turn_clause, fn_by F sc_Turn_clause len hb, b_Turn_clause F, .nil⟩
theorem b_Turn_is_up {f : Addr} {fd : FuncData} (F : FunD K "is_up" "Turn.is_up" (defArgs s_Turn_is_up) (defBody s_Turn_is_up) (defScope s_Turn_is_up) [] [] f fd) : Binds K fd ["self", "house"] [] := F.bindsN fun _ _ _ _ _ _ us hl => match us, hl with | [_, _], _ => rfl
theorem mk_Turn_is_up (T : Txt K mg) {k : Nat} {sp : Sp} (len : ∀ vs H Q E, sp vs H Q E → vs.length = 2) (hb : BodyOk P w K mg base k N_Turn_is_up "Turn.is_up" s_Turn_is_up (He.ma K (He.ga K "Turn") "is_up") sp) : C8.Met P w K mg base (k + 1) (He.ga K "Turn") "is_up" sp [] := by
  obtain ⟨fd, F⟩ := T.says.def_ 20 (d := d_Turn_is_up)
  exact ⟨_, fd, _, [], T.c_Turn, T.m_Turn_is_up, fn_by F sc_Turn_is_up len hb, b_Turn_is_up F, .nil⟩
theorem b_Turn_word_of {f : Addr} {fd : FuncData} (F : FunD K "word_of" "Turn.word_of" (defArgs s_Turn_word_of) (defBody s_Turn_word_of) (defScope s_Turn_word_of) [] [] f fd) : Binds K fd ["self", "a", "b"] [] := F.bindsN fun _ _ _ _ _ _ us hl => match us, hl with | [_, _, _], _ => rfl
theorem mk_Turn_word_of (T : Txt K mg) {k : Nat} {sp : Sp} (len : ∀ vs H Q E, sp vs H Q E → vs.length = 3) (hb : BodyOk P w K mg base k N_Turn_word_of "Turn.word_of" s_Turn_word_of (He.ma K (He.ga K "Turn") "word_of") sp) : C8.Met P w K mg base (k + 1) (He.ga K "Turn") "word_of" sp [] := by
  obtain ⟨fd, F⟩ := T.says.def_ 21 (d := d_Turn_word_of)
  exact ⟨_, fd, _, [], T.c_Turn, T.m_Turn_word_of, fn_by F sc_Turn_word_of len hb, b_Turn_word_of F, .nil⟩
theorem b_Turn_timer_of {f : Addr} {fd : FuncData} (F : FunD K "timer_of" "Turn.timer_of" (defArgs s_Turn_timer_of) (defBody s_Turn_timer_of) (defScope s_Turn_timer_of) [] [] f fd) : Binds K fd ["self", "a", "b"] [] := F.bindsN fun _ _ _ _ _ _ us hl => match us, hl with | [_, _, _], _ => rfl
theorem mk_Turn_timer_of (T : Txt K mg) {k : Nat} {sp : Sp} (len : ∀ vs H Q E, sp vs H Q E → vs.length = 3) (hb : BodyOk P w K mg base k N_Turn_timer_of "Turn.timer_of" s_Turn_timer_of (He.ma K (He.ga K "Turn") "timer_of") sp) : C8.Met P w K mg base (k + 1) (He.ga K "Turn") "timer_of" sp [] := by
  obtain ⟨fd, F⟩ := T.says.def_ 22 (d := d_Turn_timer_of)
  exact ⟨_, fd, _, [], T.c_Turn, T.m_Turn_timer_of, fn_by F sc_Turn_timer_of len hb, b_Turn_timer_of F, .nil⟩
theorem b_Turn_doubts {f : Addr} {fd : FuncData} (F : FunD K "doubts" "Turn.doubts" (defArgs s_Turn_doubts) (defBody s_Turn_doubts) (defScope s_Turn_doubts) [] [] f fd) : Binds K fd ["self", "a", "b"] [] := F.bindsN fun _ _ _ _ _ _ us hl => match us, hl with | [_, _, _], _ => rfl
theorem mk_Turn_doubts (T : Txt K mg) {k : Nat} {sp : Sp} (len : ∀ vs H Q E, sp vs H Q E → vs.length = 3) (hb : BodyOk P w K mg base k N_Turn_doubts "Turn.doubts" s_Turn_doubts (He.ma K (He.ga K "Turn") "doubts") sp) : C8.Met P w K mg base (k + 1) (He.ga K "Turn") "doubts" sp [] := by
  obtain ⟨fd, F⟩ := T.says.def_ 23 (d := d_Turn_doubts)
  exact ⟨_, fd, _, [], T.c_Turn, T.m_Turn_doubts, fn_by F sc_Turn_doubts len hb, b_Turn_doubts F, .nil⟩
theorem b_Turn_put_house {f : Addr} {fd : FuncData} (F : FunD K "put_house" "Turn.put_house" (defArgs s_Turn_put_house) (defBody s_Turn_put_house) (defScope s_Turn_put_house) [] [] f fd) : Binds K fd ["self", "house", "up", "told", "timers"] [] := F.bindsN fun _ _ _ _ _ _ us hl => match us, hl with | [_, _, _, _, _], _ => rfl
theorem mk_Turn_put_house (T : Txt K mg) {k : Nat} {sp : Sp} (len : ∀ vs H Q E, sp vs H Q E → vs.length = 5) (hb : BodyOk P w K mg base k N_Turn_put_house "Turn.put_house" s_Turn_put_house (He.ma K (He.ga K "Turn") "put_house") sp) : C8.Met P w K mg base (k + 1) (He.ga K "Turn") "put_house" sp [] := by
  obtain ⟨fd, F⟩ := T.says.def_ 24 (d := d_Turn_put_house)
  exact ⟨_, fd, _, [], T.c_Turn, T.m_Turn_put_house, fn_by F sc_Turn_put_house len hb, b_Turn_put_house F, .nil⟩
theorem b_Turn_put_word {f : Addr} {fd : FuncData} (F : FunD K "put_word" "Turn.put_word" (defArgs s_Turn_put_word) (defBody s_Turn_put_word) (defScope s_Turn_put_word) [] [] f fd) : Binds K fd ["self", "a", "b", "word"] [] := F.bindsN fun _ _ _ _ _ _ us hl => match us, hl with | [_, _, _, _], _ => rfl
theorem mk_Turn_put_word (T : Txt K mg) {k : Nat} {sp : Sp} (len : ∀ vs H Q E, sp vs H Q E → vs.length = 4) (hb : BodyOk P w K mg base k N_Turn_put_word "Turn.put_word" s_Turn_put_word (He.ma K (He.ga K "Turn") "put_word") sp) : C8.Met P w K mg base (k + 1) (He.ga K "Turn") "put_word" sp [] := by
  obtain ⟨fd, F⟩ := T.says.def_ 25 (d := d_Turn_put_word)
  exact ⟨_, fd, _, [], T.c_Turn, T.m_Turn_put_word, fn_by F sc_Turn_put_word len hb, b_Turn_put_word F, .nil⟩
theorem b_Turn_put_timer {f : Addr} {fd : FuncData} (F : FunD K "put_timer" "Turn.put_timer" (defArgs s_Turn_put_timer) (defBody s_Turn_put_timer) (defScope s_Turn_put_timer) [] [] f fd) : Binds K fd ["self", "a", "b", "timer"] [] := F.bindsN fun _ _ _ _ _ _ us hl => match us, hl with | [_, _, _, _], _ => rfl
theorem mk_Turn_put_timer (T : Txt K mg) {k : Nat} {sp : Sp} (len : ∀ vs H Q E, sp vs H Q E → vs.length = 4) (hb : BodyOk P w K mg base k N_Turn_put_timer "Turn.put_timer" s_Turn_put_timer (He.ma K (He.ga K "Turn") "put_timer") sp) : C8.Met P w K mg base (k + 1) (He.ga K "Turn") "put_timer" sp [] := by
  obtain ⟨fd, F⟩ := T.says.def_ 26 (d := d_Turn_put_timer)
  exact ⟨_, fd, _, [], T.c_Turn, T.m_Turn_put_timer, fn_by F sc_Turn_put_timer len hb, b_Turn_put_timer F, .nil⟩
theorem b_Turn_send {f : Addr} {fd : FuncData} (F : FunD K "send" "Turn.send" (defArgs s_Turn_send) (defBody s_Turn_send) (defScope s_Turn_send) [] [] f fd) : Binds K fd ["self", "x", "y"] [] := F.bindsN fun _ _ _ _ _ _ us hl => match us, hl with | [_, _, _], _ => rfl
theorem mk_Turn_send (T : Txt K mg) {k : Nat} {sp : Sp} (len : ∀ vs H Q E, sp vs H Q E → vs.length = 3) (hb : BodyOk P w K mg base k N_Turn_send "Turn.send" s_Turn_send (He.ma K (He.ga K "Turn") "send") sp) : C8.Met P w K mg base (k + 1) (He.ga K "Turn") "send" sp [] := by
  obtain ⟨fd, F⟩ := T.says.def_ 27 (d := d_Turn_send)
  exact ⟨_, fd, _, [], T.c_Turn, T.m_Turn_send, fn_by F sc_Turn_send len hb, b_Turn_send F, .nil⟩
theorem b_Turn_be_down {f : Addr} {fd : FuncData} (F : FunD K "be_down" "Turn.be_down" (defArgs s_Turn_be_down) (defBody s_Turn_be_down) (defScope s_Turn_be_down) [] [] f fd) : Binds K fd ["self", "house"] [] := F.bindsN fun _ _ _ _ _ _ us hl => match us, hl with | [_, _], _ => rfl
theorem mk_Turn_be_down (T : Txt K mg) {k : Nat} {sp : Sp} (len : ∀ vs H Q E, sp vs H Q E → vs.length = 2) (hb : BodyOk P w K mg base k N_Turn_be_down "Turn.be_down" s_Turn_be_down (He.ma K (He.ga K "Turn") "be_down") sp) : C8.Met P w K mg base (k + 1) (He.ga K "Turn") "be_down" sp [] := by
  obtain ⟨fd, F⟩ := T.says.def_ 28 (d := d_Turn_be_down)
  exact ⟨_, fd, _, [], T.c_Turn, T.m_Turn_be_down, fn_by F sc_Turn_be_down len hb, b_Turn_be_down F, .nil⟩
theorem b_Turn_come {f : Addr} {fd : FuncData} (F : FunD K "come" "Turn.come" (defArgs s_Turn_come) (defBody s_Turn_come) (defScope s_Turn_come) [] [] f fd) : Binds K fd ["self", "house"] [] := F.bindsN fun _ _ _ _ _ _ us hl => match us, hl with | [_, _], _ => rfl
theorem mk_Turn_come (T : Txt K mg) {k : Nat} {sp : Sp} (len : ∀ vs H Q E, sp vs H Q E → vs.length = 2) (hb : BodyOk P w K mg base k N_Turn_come "Turn.come" s_Turn_come (He.ma K (He.ga K "Turn") "come") sp) : C8.Met P w K mg base (k + 1) (He.ga K "Turn") "come" sp [] := by
  obtain ⟨fd, F⟩ := T.says.def_ 29 (d := d_Turn_come)
  exact ⟨_, fd, _, [], T.c_Turn, T.m_Turn_come, fn_by F sc_Turn_come len hb, b_Turn_come F, .nil⟩
theorem b_Turn_leave {f : Addr} {fd : FuncData} (F : FunD K "leave" "Turn.leave" (defArgs s_Turn_leave) (defBody s_Turn_leave) (defScope s_Turn_leave) [] [] f fd) : Binds K fd ["self", "house"] [] := F.bindsN fun _ _ _ _ _ _ us hl => match us, hl with | [_, _], _ => rfl
theorem mk_Turn_leave (T : Txt K mg) {k : Nat} {sp : Sp} (len : ∀ vs H Q E, sp vs H Q E → vs.length = 2) (hb : BodyOk P w K mg base k N_Turn_leave "Turn.leave" s_Turn_leave (He.ma K (He.ga K "Turn") "leave") sp) : C8.Met P w K mg base (k + 1) (He.ga K "Turn") "leave" sp [] := by
  obtain ⟨fd, F⟩ := T.says.def_ 30 (d := d_Turn_leave)
  exact ⟨_, fd, _, [], T.c_Turn, T.m_Turn_leave, fn_by F sc_Turn_leave len hb, b_Turn_leave F, .nil⟩
theorem b_Turn_send_all {f : Addr} {fd : FuncData} (F : FunD K "send_all" "Turn.send_all" (defArgs s_Turn_send_all) (defBody s_Turn_send_all) (defScope s_Turn_send_all) [] [] f fd) : Binds K fd ["self", "x"] [] := F.bindsN fun _ _ _ _ _ _ us hl => match us, hl with | [_, _], _ => rfl
theorem mk_Turn_send_all (T : Txt K mg) {k : Nat} {sp : Sp} (len : ∀ vs H Q E, sp vs H Q E → vs.length = 2) (hb : BodyOk P w K mg base k N_Turn_send_all "Turn.send_all" s_Turn_send_all (He.ma K (He.ga K "Turn") "send_all") sp) : C8.Met P w K mg base (k + 1) (He.ga K "Turn") "send_all" sp [] := by
  obtain ⟨fd, F⟩ := T.says.def_ 31 (d := d_Turn_send_all)
  exact ⟨_, fd, _, [], T.c_Turn, T.m_Turn_send_all, fn_by F sc_Turn_send_all len hb, b_Turn_send_all F, .nil⟩
theorem b_Turn_move {f : Addr} {fd : FuncData} (F : FunD K "move" "Turn.move" (defArgs s_Turn_move) (defBody s_Turn_move) (defScope s_Turn_move) [] [] f fd) : Binds K fd ["self", "falls", "leaves", "comes"] [] := F.bindsN fun _ _ _ _ _ _ us hl => match us, hl with | [_, _, _, _], _ => rfl
theorem mk_Turn_move (T : Txt K mg) {k : Nat} {sp : Sp} (len : ∀ vs H Q E, sp vs H Q E → vs.length = 4) (hb : BodyOk P w K mg base k N_Turn_move "Turn.move" s_Turn_move (He.ma K (He.ga K "Turn") "move") sp) : C8.Met P w K mg base (k + 1) (He.ga K "Turn") "move" sp [] := by
  obtain ⟨fd, F⟩ := T.says.def_ 32 (d := d_Turn_move)
  exact ⟨_, fd, _, [], T.c_Turn, T.m_Turn_move, fn_by F sc_Turn_move len hb, b_Turn_move F, .nil⟩
theorem b_Turn_helpers {f : Addr} {fd : FuncData} (F : FunD K "helpers" "Turn.helpers" (defArgs s_Turn_helpers) (defBody s_Turn_helpers) (defScope s_Turn_helpers) [] [] f fd) : Binds K fd ["self", "a", "b"] [] := F.bindsN fun _ _ _ _ _ _ us hl => match us, hl with | [_, _, _], _ => rfl
theorem mk_Turn_helpers (T : Txt K mg) {k : Nat} {sp : Sp} (len : ∀ vs H Q E, sp vs H Q E → vs.length = 3) (hb : BodyOk P w K mg base k N_Turn_helpers "Turn.helpers" s_Turn_helpers (He.ma K (He.ga K "Turn") "helpers") sp) : C8.Met P w K mg base (k + 1) (He.ga K "Turn") "helpers" sp [] := by
  obtain ⟨fd, F⟩ := T.says.def_ 33 (d := d_Turn_helpers)
  exact ⟨_, fd, _, [], T.c_Turn, T.m_Turn_helpers, fn_by F sc_Turn_helpers len hb, b_Turn_helpers F, .nil⟩
theorem b_Turn_is_answered {f : Addr} {fd : FuncData} (F : FunD K "is_answered" "Turn.is_answered" (defArgs s_Turn_is_answered) (defBody s_Turn_is_answered) (defScope s_Turn_is_answered) [] [] f fd) : Binds K fd ["self", "a", "b"] [] := F.bindsN fun _ _ _ _ _ _ us hl => match us, hl with | [_, _, _], _ => rfl
theorem mk_Turn_is_answered (T : Txt K mg) {k : Nat} {sp : Sp} (len : ∀ vs H Q E, sp vs H Q E → vs.length = 3) (hb : BodyOk P w K mg base k N_Turn_is_answered "Turn.is_answered" s_Turn_is_answered (He.ma K (He.ga K "Turn") "is_answered") sp) : C8.Met P w K mg base (k + 1) (He.ga K "Turn") "is_answered" sp [] := by
  obtain ⟨fd, F⟩ := T.says.def_ 34 (d := d_Turn_is_answered)
  exact ⟨_, fd, _, [], T.c_Turn, T.m_Turn_is_answered, fn_by F sc_Turn_is_answered len hb, b_Turn_is_answered F, .nil⟩
theorem b_Turn_ask {f : Addr} {fd : FuncData} (F : FunD K "ask" "Turn.ask" (defArgs s_Turn_ask) (defBody s_Turn_ask) (defScope s_Turn_ask) [] [] f fd) : Binds K fd ["self", "a", "b"] [] := F.bindsN fun _ _ _ _ _ _ us hl => match us, hl with | [_, _, _], _ => rfl
theorem mk_Turn_ask (T : Txt K mg) {k : Nat} {sp : Sp} (len : ∀ vs H Q E, sp vs H Q E → vs.length = 3) (hb : BodyOk P w K mg base k N_Turn_ask "Turn.ask" s_Turn_ask (He.ma K (He.ga K "Turn") "ask") sp) : C8.Met P w K mg base (k + 1) (He.ga K "Turn") "ask" sp [] := by
  obtain ⟨fd, F⟩ := T.says.def_ 35 (d := d_Turn_ask)
  exact ⟨_, fd, _, [], T.c_Turn, T.m_Turn_ask, fn_by F sc_Turn_ask len hb, b_Turn_ask F, .nil⟩
theorem b_Turn_doubt {f : Addr} {fd : FuncData} (F : FunD K "doubt" "Turn.doubt" (defArgs s_Turn_doubt) (defBody s_Turn_doubt) (defScope s_Turn_doubt) [] [] f fd) : Binds K fd ["self", "a", "b"] [] := F.bindsN fun _ _ _ _ _ _ us hl => match us, hl with | [_, _, _], _ => rfl
theorem mk_Turn_doubt (T : Txt K mg) {k : Nat} {sp : Sp} (len : ∀ vs H Q E, sp vs H Q E → vs.length = 3) (hb : BodyOk P w K mg base k N_Turn_doubt "Turn.doubt" s_Turn_doubt (He.ma K (He.ga K "Turn") "doubt") sp) : C8.Met P w K mg base (k + 1) (He.ga K "Turn") "doubt" sp [] := by
  obtain ⟨fd, F⟩ := T.says.def_ 36 (d := d_Turn_doubt)
  exact ⟨_, fd, _, [], T.c_Turn, T.m_Turn_doubt, fn_by F sc_Turn_doubt len hb, b_Turn_doubt F, .nil⟩
theorem b_Turn_ask_all {f : Addr} {fd : FuncData} (F : FunD K "ask_all" "Turn.ask_all" (defArgs s_Turn_ask_all) (defBody s_Turn_ask_all) (defScope s_Turn_ask_all) [] [] f fd) : Binds K fd ["self", "a"] [] := F.bindsN fun _ _ _ _ _ _ us hl => match us, hl with | [_, _], _ => rfl
theorem mk_Turn_ask_all (T : Txt K mg) {k : Nat} {sp : Sp} (len : ∀ vs H Q E, sp vs H Q E → vs.length = 2) (hb : BodyOk P w K mg base k N_Turn_ask_all "Turn.ask_all" s_Turn_ask_all (He.ma K (He.ga K "Turn") "ask_all") sp) : C8.Met P w K mg base (k + 1) (He.ga K "Turn") "ask_all" sp [] := by
  obtain ⟨fd, F⟩ := T.says.def_ 37 (d := d_Turn_ask_all)
  exact ⟨_, fd, _, [], T.c_Turn, T.m_Turn_ask_all, fn_by F sc_Turn_ask_all len hb, b_Turn_ask_all F, .nil⟩
theorem b_Turn_go {f : Addr} {fd : FuncData} (F : FunD K "go" "Turn.go" (defArgs s_Turn_go) (defBody s_Turn_go) (defScope s_Turn_go) [] [] f fd) : Binds K fd ["self"] [] := F.bindsN fun _ _ _ _ _ _ us hl => match us, hl with | [_], _ => rfl
theorem mk_Turn_go (T : Txt K mg) {k : Nat} {sp : Sp} (len : ∀ vs H Q E, sp vs H Q E → vs.length = 1) (hb : BodyOk P w K mg base k N_Turn_go "Turn.go" s_Turn_go (He.ma K (He.ga K "Turn") "go") sp) : C8.Met P w K mg base (k + 1) (He.ga K "Turn") "go" sp [] := by
  obtain ⟨fd, F⟩ := T.says.def_ 38 (d := d_Turn_go)
  exact ⟨_, fd, _, [], T.c_Turn, T.m_Turn_go, fn_by F sc_Turn_go len hb, b_Turn_go F, .nil⟩
theorem b_Turn_state_behind {f : Addr} {fd : FuncData} (F : FunD K "state_behind" "Turn.state_behind" (defArgs s_Turn_state_behind) (defBody s_Turn_state_behind) (defScope s_Turn_state_behind) [] [] f fd) : Binds K fd ["self"] [] := F.bindsN fun _ _ _ _ _ _ us hl => match us, hl with | [_], _ => rfl
theorem mk_Turn_state_behind (T : Txt K mg) {k : Nat} {sp : Sp} (len : ∀ vs H Q E, sp vs H Q E → vs.length = 1) (hb : BodyOk P w K mg base k N_Turn_state_behind "Turn.state_behind" s_Turn_state_behind (He.ma K (He.ga K "Turn") "state_behind") sp) : C8.Met P w K mg base (k + 1) (He.ga K "Turn") "state_behind" sp [] := by
  obtain ⟨fd, F⟩ := T.says.def_ 39 (d := d_Turn_state_behind)
  exact ⟨_, fd, _, [], T.c_Turn, T.m_Turn_state_behind, fn_by F sc_Turn_state_behind len hb, b_Turn_state_behind F, .nil⟩
theorem b_stepped {f : Addr} {fd : FuncData} (F : FunD K "stepped" "stepped" (defArgs s_stepped) (defBody s_stepped) (defScope s_stepped) [] [] f fd) : Binds K fd ["rules", "town", "state", "doings"] [] := F.bindsN fun _ _ _ _ _ _ us hl => match us, hl with | [_, _, _, _], _ => rfl
theorem mk_stepped (T : Txt K mg) {k : Nat} {sp : Sp} (len : ∀ vs H Q E, sp vs H Q E → vs.length = 4) (hb : BodyOk P w K mg base k N_stepped "stepped" s_stepped (He.ga K "stepped") sp) : C8.Cal P w K mg base (k + 1) "stepped" sp [] := by
  obtain ⟨fd, F⟩ := T.says.def_ 40 (d := d_stepped)
  exact ⟨_, fd, _, [], fn_by F sc_stepped len hb, T.g_stepped, F.kp, b_stepped F, .nil⟩
theorem b_houses_up {f : Addr} {fd : FuncData} (F : FunD K "houses_up" "houses_up" (defArgs s_houses_up) (defBody s_houses_up) (defScope s_houses_up) [] [] f fd) : Binds K fd ["state"] [] := F.bindsN fun _ _ _ _ _ _ us hl => match us, hl with | [_], _ => rfl
theorem mk_houses_up (T : Txt K mg) {k : Nat} {sp : Sp} (len : ∀ vs H Q E, sp vs H Q E → vs.length = 1) (hb : BodyOk P w K mg base k N_houses_up "houses_up" s_houses_up (He.ga K "houses_up") sp) : C8.Cal P w K mg base (k + 1) "houses_up" sp [] := by
  obtain ⟨fd, F⟩ := T.says.def_ 41 (d := d_houses_up)
  exact ⟨_, fd, _, [], fn_by F sc_houses_up len hb, T.g_houses_up, F.kp, b_houses_up F, .nil⟩
theorem b_marks_of {f : Addr} {fd : FuncData} (F : FunD K "marks_of" "marks_of" (defArgs s_marks_of) (defBody s_marks_of) (defScope s_marks_of) [] [] f fd) : Binds K fd ["state", "house"] [] := F.bindsN fun _ _ _ _ _ _ us hl => match us, hl with | [_, _], _ => rfl
theorem mk_marks_of (T : Txt K mg) {k : Nat} {sp : Sp} (len : ∀ vs H Q E, sp vs H Q E → vs.length = 2) (hb : BodyOk P w K mg base k N_marks_of "marks_of" s_marks_of (He.ga K "marks_of") sp) : C8.Cal P w K mg base (k + 1) "marks_of" sp [] := by
  obtain ⟨fd, F⟩ := T.says.def_ 42 (d := d_marks_of)
  exact ⟨_, fd, _, [], fn_by F sc_marks_of len hb, T.g_marks_of, F.kp, b_marks_of F, .nil⟩
theorem b_gone_wrongly {f : Addr} {fd : FuncData} (F : FunD K "gone_wrongly" "gone_wrongly" (defArgs s_gone_wrongly) (defBody s_gone_wrongly) (defScope s_gone_wrongly) [] [] f fd) : Binds K fd ["state"] [] := F.bindsN fun _ _ _ _ _ _ us hl => match us, hl with | [_], _ => rfl
theorem mk_gone_wrongly (T : Txt K mg) {k : Nat} {sp : Sp} (len : ∀ vs H Q E, sp vs H Q E → vs.length = 1) (hb : BodyOk P w K mg base k N_gone_wrongly "gone_wrongly" s_gone_wrongly (He.ga K "gone_wrongly") sp) : C8.Cal P w K mg base (k + 1) "gone_wrongly" sp [] := by
  obtain ⟨fd, F⟩ := T.says.def_ 43 (d := d_gone_wrongly)
  exact ⟨_, fd, _, [], fn_by F sc_gone_wrongly len hb, T.g_gone_wrongly, F.kp, b_gone_wrongly F, .nil⟩
theorem b__law_cell_at {f : Addr} {fd : FuncData} (F : FunD K "_law_cell_at" "_law_cell_at" (defArgs s__law_cell_at) (defBody s__law_cell_at) (defScope s__law_cell_at) [] [] f fd) : Binds K fd ["_law_script", "_law_k"] [] := F.bindsN fun _ _ _ _ _ _ us hl => match us, hl with | [_, _], _ => rfl
theorem mk__law_cell_at (T : Txt K mg) {k : Nat} {sp : Sp} (len : ∀ vs H Q E, sp vs H Q E → vs.length = 2) (hb : BodyOk P w K mg base k N__law_cell_at "_law_cell_at" s__law_cell_at (He.ga K "_law_cell_at") sp) : C8.Cal P w K mg base (k + 1) "_law_cell_at" sp [] := by
  obtain ⟨fd, F⟩ := T.says.def_ 44 (d := d__law_cell_at)
  exact ⟨_, fd, _, [], fn_by F sc__law_cell_at len hb, T.g__law_cell_at, F.kp, b__law_cell_at F, .nil⟩
theorem b__law_left {f : Addr} {fd : FuncData} (F : FunD K "_law_left" "_law_left" (defArgs s__law_left) (defBody s__law_left) (defScope s__law_left) [] [] f fd) : Binds K fd ["_law_script", "_law_k"] [] := F.bindsN fun _ _ _ _ _ _ us hl => match us, hl with | [_, _], _ => rfl
theorem mk__law_left (T : Txt K mg) {k : Nat} {sp : Sp} (len : ∀ vs H Q E, sp vs H Q E → vs.length = 2) (hb : BodyOk P w K mg base k N__law_left "_law_left" s__law_left (He.ga K "_law_left") sp) : C8.Cal P w K mg base (k + 1) "_law_left" sp [] := by
  obtain ⟨fd, F⟩ := T.says.def_ 45 (d := d__law_left)
  exact ⟨_, fd, _, [], fn_by F sc__law_left len hb, T.g__law_left, F.kp, b__law_left F, .nil⟩
theorem b__law_pick {f : Addr} {fd : FuncData} (F : FunD K "_law_pick" "_law_pick" (defArgs s__law_pick) (defBody s__law_pick) (defScope s__law_pick) [] [] f fd) : Binds K fd ["_law_left_here", "_law_many"] [] := F.bindsN fun _ _ _ _ _ _ us hl => match us, hl with | [_, _], _ => rfl
theorem mk__law_pick (T : Txt K mg) {k : Nat} {sp : Sp} (len : ∀ vs H Q E, sp vs H Q E → vs.length = 2) (hb : BodyOk P w K mg base k N__law_pick "_law_pick" s__law_pick (He.ga K "_law_pick") sp) : C8.Cal P w K mg base (k + 1) "_law_pick" sp [] := by
  obtain ⟨fd, F⟩ := T.says.def_ 46 (d := d__law_pick)
  exact ⟨_, fd, _, [], fn_by F sc__law_pick len hb, T.g__law_pick, F.kp, b__law_pick F, .nil⟩
theorem b__law_town {f : Addr} {fd : FuncData} (F : FunD K "_law_town" "_law_town" (defArgs s__law_town) (defBody s__law_town) (defScope s__law_town) [] [] f fd) : Binds K fd ["_law_left_here", "_law_most"] [] := F.bindsN fun _ _ _ _ _ _ us hl => match us, hl with | [_, _], _ => rfl
theorem mk__law_town (T : Txt K mg) {k : Nat} {sp : Sp} (len : ∀ vs H Q E, sp vs H Q E → vs.length = 2) (hb : BodyOk P w K mg base k N__law_town "_law_town" s__law_town (He.ga K "_law_town") sp) : C8.Cal P w K mg base (k + 1) "_law_town" sp [] := by
  obtain ⟨fd, F⟩ := T.says.def_ 47 (d := d__law_town)
  exact ⟨_, fd, _, [], fn_by F sc__law_town len hb, T.g__law_town, F.kp, b__law_town F, .nil⟩
theorem b__law_names {f : Addr} {fd : FuncData} (F : FunD K "_law_names" "_law_names" (defArgs s__law_names) (defBody s__law_names) (defScope s__law_names) [] [] f fd) : Binds K fd ["_law_lacking"] [] := F.bindsN fun _ _ _ _ _ _ us hl => match us, hl with | [_], _ => rfl
theorem mk__law_names (T : Txt K mg) {k : Nat} {sp : Sp} (len : ∀ vs H Q E, sp vs H Q E → vs.length = 1) (hb : BodyOk P w K mg base k N__law_names "_law_names" s__law_names (He.ga K "_law_names") sp) : C8.Cal P w K mg base (k + 1) "_law_names" sp [] := by
  obtain ⟨fd, F⟩ := T.says.def_ 48 (d := d__law_names)
  exact ⟨_, fd, _, [], fn_by F sc__law_names len hb, T.g__law_names, F.kp, b__law_names F, .nil⟩
theorem b__law_rules {f : Addr} {fd : FuncData} (F : FunD K "_law_rules" "_law_rules" (defArgs s__law_rules) (defBody s__law_rules) (defScope s__law_rules) [] [] f fd) : Binds K fd ["_law_left_here"] [] := F.bindsN fun _ _ _ _ _ _ us hl => match us, hl with | [_], _ => rfl
theorem mk__law_rules (T : Txt K mg) {k : Nat} {sp : Sp} (len : ∀ vs H Q E, sp vs H Q E → vs.length = 1) (hb : BodyOk P w K mg base k N__law_rules "_law_rules" s__law_rules (He.ga K "_law_rules") sp) : C8.Cal P w K mg base (k + 1) "_law_rules" sp [] := by
  obtain ⟨fd, F⟩ := T.says.def_ 49 (d := d__law_rules)
  exact ⟨_, fd, _, [], fn_by F sc__law_rules len hb, T.g__law_rules, F.kp, b__law_rules F, .nil⟩
theorem b__law_lost {f : Addr} {fd : FuncData} (F : FunD K "_law_lost" "_law_lost" (defArgs s__law_lost) (defBody s__law_lost) (defScope s__law_lost) [] [] f fd) : Binds K fd ["_law_left_here", "_law_most"] [] := F.bindsN fun _ _ _ _ _ _ us hl => match us, hl with | [_, _], _ => rfl
theorem mk__law_lost (T : Txt K mg) {k : Nat} {sp : Sp} (len : ∀ vs H Q E, sp vs H Q E → vs.length = 2) (hb : BodyOk P w K mg base k N__law_lost "_law_lost" s__law_lost (He.ga K "_law_lost") sp) : C8.Cal P w K mg base (k + 1) "_law_lost" sp [] := by
  obtain ⟨fd, F⟩ := T.says.def_ 50 (d := d__law_lost)
  exact ⟨_, fd, _, [], fn_by F sc__law_lost len hb, T.g__law_lost, F.kp, b__law_lost F, .nil⟩
theorem b__law_cut_off {f : Addr} {fd : FuncData} (F : FunD K "_law_cut_off" "_law_cut_off" (defArgs s__law_cut_off) (defBody s__law_cut_off) (defScope s__law_cut_off) [] [] f fd) : Binds K fd ["_law_drawn", "_law_town_here", "_law_state", "_law_one", "_law_other", "_law_most"] [] := F.bindsN fun _ _ _ _ _ _ us hl => match us, hl with | [_, _, _, _, _, _], _ => rfl
theorem mk__law_cut_off (T : Txt K mg) {k : Nat} {sp : Sp} (len : ∀ vs H Q E, sp vs H Q E → vs.length = 6) (hb : BodyOk P w K mg base k N__law_cut_off "_law_cut_off" s__law_cut_off (He.ga K "_law_cut_off") sp) : C8.Cal P w K mg base (k + 1) "_law_cut_off" sp [] := by
  obtain ⟨fd, F⟩ := T.says.def_ 51 (d := d__law_cut_off)
  exact ⟨_, fd, _, [], fn_by F sc__law_cut_off len hb, T.g__law_cut_off, F.kp, b__law_cut_off F, .nil⟩
theorem b__law_lost_of {f : Addr} {fd : FuncData} (F : FunD K "_law_lost_of" "_law_lost_of" (defArgs s__law_lost_of) (defBody s__law_lost_of) (defScope s__law_lost_of) [] [] f fd) : Binds K fd ["_law_letters"] [] := F.bindsN fun _ _ _ _ _ _ us hl => match us, hl with | [_], _ => rfl
theorem mk__law_lost_of (T : Txt K mg) {k : Nat} {sp : Sp} (len : ∀ vs H Q E, sp vs H Q E → vs.length = 1) (hb : BodyOk P w K mg base k N__law_lost_of "_law_lost_of" s__law_lost_of (He.ga K "_law_lost_of") sp) : C8.Cal P w K mg base (k + 1) "_law_lost_of" sp [] := by
  obtain ⟨fd, F⟩ := T.says.def_ 52 (d := d__law_lost_of)
  exact ⟨_, fd, _, [], fn_by F sc__law_lost_of len hb, T.g__law_lost_of, F.kp, b__law_lost_of F, .nil⟩
theorem b__law_none_gone {f : Addr} {fd : FuncData} (F : FunD K "_law_none_gone" "_law_none_gone" (defArgs s__law_none_gone) (defBody s__law_none_gone) (defScope s__law_none_gone) [] [] f fd) : Binds K fd ["_law_state"] [] := F.bindsN fun _ _ _ _ _ _ us hl => match us, hl with | [_], _ => rfl
theorem mk__law_none_gone (T : Txt K mg) {k : Nat} {sp : Sp} (len : ∀ vs H Q E, sp vs H Q E → vs.length = 1) (hb : BodyOk P w K mg base k N__law_none_gone "_law_none_gone" s__law_none_gone (He.ga K "_law_none_gone") sp) : C8.Cal P w K mg base (k + 1) "_law_none_gone" sp [] := by
  obtain ⟨fd, F⟩ := T.says.def_ 53 (d := d__law_none_gone)
  exact ⟨_, fd, _, [], fn_by F sc__law_none_gone len hb, T.g__law_none_gone, F.kp, b__law_none_gone F, .nil⟩
theorem b_law {f : Addr} {fd : FuncData} (F : FunD K "law" "law" (defArgs s_law) (defBody s_law) (defScope s_law) [] [] f fd) : Binds K fd ["_law_script"] [] := F.bindsN fun _ _ _ _ _ _ us hl => match us, hl with | [_], _ => rfl
end
end Hb

set_option maxHeartbeats 4000000
/-! The data as they lie in the abstract heap, what stays, the mathematics. -/
namespace Hb
open PySem PySem.Spec PyProof.Rows L2 LamX
/-! ### what stays: all but the places ex; tuples always -/
structure Up (ex : List Addr) (H H' : Hp) : Prop where
  fr : ∀ b o, H b = some o → b ∉ ex → H' b = some o
  tu : ∀ b xs, H b = some (.tup xs) → H' b = some (.tup xs)
section
variable {ex ex' : List Addr} {H H' H'' : Hp} {p l : Addr} {o u : HO}
theorem Up.refl : Up ex H H := ⟨fun _ _ h _ => h, fun _ _ h => h⟩
theorem Up.trans (a : Up ex H H') (b : Up ex H' H'') : Up ex H H'' := ⟨fun c o h n => b.fr c o (a.fr c o h n) n, fun c xs h => b.tu c xs (a.tu c xs h)⟩
theorem Up.sub (a : Up ex H H') (h : ∀ e ∈ ex, H e = none ∨ e ∈ ex') : Up ex' H H' := ⟨fun c o z n => a.fr c o z fun m => (h c m).elim (fun q => by rw [q] at z; cases z) n, a.tu⟩
theorem Up.mono (a : Up ex H H') (h : ∀ e ∈ ex, e ∈ ex') : Up ex' H H' := a.sub fun e m => .inr (h e m)
theorem Up.of (a : Up [] H H') : Up ex H H' := a.mono fun e m => absurd m (by simp)
theorem Up.new (a : Up ex H H') (h : H' p = none) : Up ex H (upd H' p o) :=
  ⟨fun c u z n => by rw [upd_ne (ne_of_none (a.fr c u z n) h)]; exact a.fr c u z n, fun c xs z => by rw [upd_ne (ne_of_none (a.tu c xs z) h)]; exact a.tu c xs z⟩
theorem Up.new1 (h : H p = none) : Up ex H (upd H p o) := Up.refl.new h
theorem Up.set (a : Up ex H H') (h : H' l = some u) (hu : ∀ xs, u ≠ .tup xs) (hl : l ∈ ex) : Up ex H (upd H' l o) :=
  ⟨fun c v z n => by rw [upd_ne (fun q => n (by rw [q]; exact hl))]; exact a.fr c v z n, fun c xs z => by rw [upd_ne (ne_of (a.tu c xs z) h (hu xs).symm)]; exact a.tu c xs z⟩
theorem Up.none (a : Up ex H H') (h : H' p = Option.none) (n : p ∉ ex) : H p = Option.none := by
  cases q : H p with
  | none => rfl
  | some o => rw [a.fr p o q n] at h; cases h
theorem Up.lst {xs : List V} (a : Up ex H H') (h : H l = some (.lst xs)) (n : l ∉ ex) : H' l = some (.lst xs) := a.fr _ _ h n
theorem lst_ne_tup {xs ys : List V} : HO.lst xs ≠ .tup ys := fun z => by cases z
theorem dK_ne_tup {xs : List (Key × V)} {ys : List V} : HO.dK xs ≠ .tup ys := fun z => by cases z
theorem ins_ne_tup {C dx : Addr} {fs : List (Str × V)} {ys : List V} : HO.ins C dx fs ≠ .tup ys := fun z => by cases z
theorem own_ne_tup {x : Addr} {ys : List V} : HO.own x ≠ .tup ys := fun z => by cases z
theorem Same.up (a : L2.Same H H') : Up ex H H' := ⟨fun b o h _ => a b o h, fun b xs h => a b _ h⟩
end
/-! ### the table of news_of's code object -/
abbrev lamQ : Str := "news_of.<locals>." ++ "<lambda>"
def tabP (K : PySem.W.Frag) : Addr := (He.cT K ("news_of", none)).2
def tabC (K : PySem.W.Frag) : Addr := (He.cT K ("news_of", none)).1
abbrev Tab (K : PySem.W.Frag) (H : Hp) : Prop := LamX.Tabs [(tabP K, lamQ)] H
theorem Tab.at {K : PySem.W.Frag} {H : Hp} (t : Tab K H) : ∃ ps, H (tabP K) = some (.tbl ps) := by
  obtain ⟨ps, h, _⟩ := t (tabP K, lamQ) (List.mem_singleton.mpr rfl)
  exact ⟨ps, h⟩
/-- lists, dicts, instances: what is written by hand -/
def Hand : Option HO → Prop
  | some (.lst _) | some (.dK _) | some (.ins _ _ _) | none => True
  | _ => False
theorem Tab.up {K : PySem.W.Frag} {ex : List Addr} {H H' : Hp} (t : Tab K H) (u : Up ex H H') (h : ∀ e ∈ ex, Hand (H e)) : Tab K H' := fun p hp => by
  obtain ⟨ps, h1, h2, h3⟩ := t p hp
  refine ⟨ps, u.fr _ _ h1 fun m => ?_, h2, fun pos cv hc => ?_⟩
  · have z := h _ m
    rw [h1] at z; exact z
  · obtain ⟨c, e1, e2⟩ := h3 pos cv hc
    refine ⟨c, e1, u.fr _ _ e2 fun m => ?_⟩
    have z := h _ m
    rw [e2] at z
    exact z
theorem Tab.up0 {K : PySem.W.Frag} {H H' : Hp} (t : Tab K H) (u : Up [] H H') : Tab K H' := t.up u fun e m => absurd m (by simp)
/-! ### the parameters of a cell -/
structure Par where
  n : Nat
  oth : Int
  wt : Int
  tl : Int
  ca : Int
  hn2 : 2 ≤ n
  hn6 : n ≤ 6
  ho0 : 0 ≤ oth
  ho3 : oth ≤ 3
  hw1 : 1 ≤ wt
  hw9 : wt ≤ 9
  ht0 : 0 ≤ tl
  ht9 : tl ≤ 9
  hc0 : 0 ≤ ca
  hc8 : ca ≤ 8
/-- through how many helpers one is asked -/
def Par.h (p : Par) : Nat := min p.oth.toNat (p.n - 2)
/-- the letters that an asking in vain costs at least -/
def Par.c (p : Par) : Int := 1 + (p.h : Int)
def Par.safe (p : Par) : Int := (p.wt + 1) * p.c
/-! ### the data -/
def clauseVs : List V := [.str "about", .str "again", .str "newer", .str "others", .str "own", .str "refute", .str "wait"]
def RulesAt (H : Hp) (p : Par) (a : Addr) : Prop := ∃ nm, H a = some (.tup [.int p.oth, .int p.wt, .int p.tl, .int p.ca, .ref nm]) ∧ H nm = some (.tup clauseVs)
def ClockAt (H : Hp) (v : V) : Prop := ∃ (b : Addr) (k s : Int), v = .ref b ∧ H b = some (.tup [.int k, .int s]) ∧ 1 ≤ k ∧ k ≤ 4
def TownAt (H : Hp) (n : Nat) (a : Addr) : Prop := ∃ cs : List V, H a = some (.tup cs) ∧ cs.length = n ∧ ∀ v ∈ cs, ClockAt H v
def IsWord (H : Hp) (v : V) : Prop := ∃ (a : Addr) (n m : Int), v = .ref a ∧ H a = some (.tup [.int n, .int m]) ∧ (m = 0 ∨ m = 1)
def IsBook (H : Hp) (n : Nat) (a : Addr) : Prop := ∃ ws : List V, H a = some (.tup ws) ∧ ws.length = n ∧ ∀ v ∈ ws, IsWord H v
def IsInts (H : Hp) (n : Nat) (a : Addr) : Prop := ∃ ts : List Int, H a = some (.tup (ts.map V.int)) ∧ ts.length = n
def TimOk (p : Par) (L t : Int) : Prop := 0 ≤ t ∧ t ≤ p.wt ∧ (t ≠ 0 → (p.wt + 1 - t) * p.c ≤ L)
def TimsOk (p : Par) (L : Int) (i : Nat) (ts : List Int) : Prop := ts.length = p.n ∧ (∀ t ∈ ts, TimOk p L t) ∧ ts[i]? = some 0
def IsTims (H : Hp) (p : Par) (L : Int) (i : Nat) (a : Addr) : Prop := ∃ ts : List Int, H a = some (.tup (ts.map V.int)) ∧ TimsOk p L i ts
def IsHouse (H : Hp) (p : Par) (L : Int) (i : Nat) (v : V) : Prop := ∃ a b t m : Addr, v = .ref a ∧ H a = some (.tup [.int 1, .ref b, .ref t, .ref m]) ∧ IsBook H p.n b ∧ IsInts H p.n t ∧ IsTims H p L i m
def Houses (H : Hp) (p : Par) (L : Int) (hs : List V) : Prop := hs.length = p.n ∧ ∀ (i : Nat) (v : V), hs[i]? = some v → IsHouse H p L i v
def StateAt (H : Hp) (p : Par) (L : Int) (a : Addr) : Prop := ∃ (h : Addr) (tn : Int) (hs : List V), H a = some (.tup [.int tn, .ref h]) ∧ H h = some (.tup hs) ∧ Houses H p L hs
def Letters (H : Hp) (lost : List Int) (ss : List V) : Prop := ∀ (i : Nat) (v : V), ss[i]? = some v → ∃ (a : Addr) (x y : Int), v = .ref a ∧ H a = some (.tup [.int x, .int y, .bl (decide ((i : Int) ∈ lost))])
section
variable {ex : List Addr} {H H' : Hp} {p : Par} {L L' : Int} {n i : Nat} {a : Addr} {v : V} {hs ss : List V} {lost : List Int}
theorem RulesAt.up (h : RulesAt H p a) (u : Up ex H H') : RulesAt H' p a := let ⟨nm, h1, h2⟩ := h; ⟨nm, u.tu _ _ h1, u.tu _ _ h2⟩
theorem ClockAt.up (h : ClockAt H v) (u : Up ex H H') : ClockAt H' v := let ⟨b, k, s, h1, h2, h3⟩ := h; ⟨b, k, s, h1, u.tu _ _ h2, h3⟩
theorem TownAt.up (h : TownAt H n a) (u : Up ex H H') : TownAt H' n a := let ⟨cs, h1, h2, h3⟩ := h; ⟨cs, u.tu _ _ h1, h2, fun v m => (h3 v m).up u⟩
theorem IsWord.up (h : IsWord H v) (u : Up ex H H') : IsWord H' v := let ⟨b, k, s, h1, h2, h3⟩ := h; ⟨b, k, s, h1, u.tu _ _ h2, h3⟩
theorem IsBook.up (h : IsBook H n a) (u : Up ex H H') : IsBook H' n a := let ⟨cs, h1, h2, h3⟩ := h; ⟨cs, u.tu _ _ h1, h2, fun v m => (h3 v m).up u⟩
theorem IsInts.up (h : IsInts H n a) (u : Up ex H H') : IsInts H' n a := let ⟨cs, h1, h2⟩ := h; ⟨cs, u.tu _ _ h1, h2⟩
theorem IsTims.up (h : IsTims H p L i a) (u : Up ex H H') : IsTims H' p L i a := let ⟨cs, h1, h2⟩ := h; ⟨cs, u.tu _ _ h1, h2⟩
theorem IsHouse.up (h : IsHouse H p L i v) (u : Up ex H H') : IsHouse H' p L i v := let ⟨a, b, t, m, h1, h2, h3, h4, h5⟩ := h; ⟨a, b, t, m, h1, u.tu _ _ h2, h3.up u, h4.up u, h5.up u⟩
theorem Houses.up (h : Houses H p L hs) (u : Up ex H H') : Houses H' p L hs := ⟨h.1, fun i v e => (h.2 i v e).up u⟩
theorem StateAt.up (h : StateAt H p L a) (u : Up ex H H') : StateAt H' p L a := let ⟨b, t, hs, h1, h2, h3⟩ := h; ⟨b, t, hs, u.tu _ _ h1, u.tu _ _ h2, h3.up u⟩
theorem Letters.up (h : Letters H lost ss) (u : Up ex H H') : Letters H' lost ss := fun i v e => let ⟨a, x, y, h1, h2⟩ := h i v e; ⟨a, x, y, h1, u.tu _ _ h2⟩
theorem TimOk.mono {t : Int} (h : TimOk p L t) (hl : L ≤ L') : TimOk p L' t := ⟨h.1, h.2.1, fun z => Int.le_trans (h.2.2 z) hl⟩
theorem IsTims.mono (h : IsTims H p L i a) (hl : L ≤ L') : IsTims H p L' i a := let ⟨cs, h1, h2, h3, h4⟩ := h; ⟨cs, h1, h2, fun t m => (h3 t m).mono hl, h4⟩
theorem IsHouse.mono (h : IsHouse H p L i v) (hl : L ≤ L') : IsHouse H p L' i v := let ⟨a, b, t, m, h1, h2, h3, h4, h5⟩ := h; ⟨a, b, t, m, h1, h2, h3, h4, h5.mono hl⟩
theorem Houses.mono (h : Houses H p L hs) (hl : L ≤ L') : Houses H p L' hs := ⟨h.1, fun i v e => (h.2 i v e).mono hl⟩
theorem Houses.set (h : Houses H p L hs) {w : V} {j : Nat} (hw : IsHouse H p L j w) : Houses H p L (hs.set j w) := by
  refine ⟨by rw [List.length_set]; exact h.1, fun i v e => ?_⟩
  rw [List.getElem?_set] at e
  split at e
  · rename_i q
    split at e
    · cases e; rw [← q]; exact hw
    · cases e
  · exact h.2 i v e
theorem Houses.at (h : Houses H p L hs) {j : Nat} (hj : j < p.n) : ∃ v, hs[j]? = some v ∧ IsHouse H p L j v := by
  have hl : j < hs.length := by rw [h.1]; exact hj
  exact ⟨hs[j], List.getElem?_eq_getElem hl, h.2 j _ (List.getElem?_eq_getElem hl)⟩
theorem Letters.snoc (h : Letters H lost ss) {w : V} {x y : Int} (hw : ∃ a, w = .ref a ∧ H a = some (.tup [.int x, .int y, .bl (decide ((ss.length : Int) ∈ lost))])) : Letters H lost (ss ++ [w]) := fun i v e => by
  by_cases q : i < ss.length
  · rw [List.getElem?_append_left q] at e
    exact h i v e
  · rw [List.getElem?_append_right (Nat.le_of_not_lt q)] at e
    have hz : i - ss.length = 0 := by
      have := (List.getElem?_eq_some_iff.mp e).1
      simp at this
      omega
    rw [hz] at e
    obtain rfl : w = v := by simpa using e
    obtain ⟨a, h1, h2⟩ := hw
    have hi : i = ss.length := by omega
    subst hi
    exact ⟨a, x, y, h1, h2⟩
theorem Letters.nil : Letters H lost [] := fun i v e => by simp at e
theorem IsTims.set {H : Hp} {ts : List Int} (h : TimsOk p L i ts) {j : Nat} {t : Int} (ht : TimOk p L t) (hj : j = i → t = 0) : TimsOk p L i (ts.set j t) := by
  obtain ⟨h1, h2, h3⟩ := h
  refine ⟨by rw [List.length_set]; exact h1, fun x m => ?_, ?_⟩
  · rcases List.mem_or_eq_of_mem_set m with q | q
    · exact h2 x q
    · rw [q]; exact ht
  · rw [List.getElem?_set]
    split
    · rename_i q
      have hl : j < ts.length := by rw [q]; exact (List.getElem?_eq_some_iff.mp h3).1
      rw [if_pos hl, hj q]
    · exact h3
end
/-! ### letters lost among the first k of a turn -/
def cnt (lost : List Int) : Nat → Int
  | 0 => 0
  | k + 1 => cnt lost k + if ((k : Nat) : Int) ∈ lost then 1 else 0
theorem cnt_le_succ (lost : List Int) (k : Nat) : cnt lost k ≤ cnt lost (k + 1) := by
  show cnt lost k ≤ cnt lost k + _
  split <;> omega
theorem cnt_mono (lost : List Int) {j k : Nat} (h : j ≤ k) : cnt lost j ≤ cnt lost k := by
  induction h with
  | refl => exact Int.le_refl _
  | step _ ih => exact Int.le_trans ih (cnt_le_succ lost _)
theorem cnt_nonneg (lost : List Int) (k : Nat) : 0 ≤ cnt lost k := cnt_mono lost (Nat.zero_le k)
theorem cnt_cons (x : Int) (r : List Int) (k : Nat) : cnt (x :: r) k ≤ cnt r k + if 0 ≤ x ∧ x < k then 1 else 0 := by
  induction k with
  | zero => show (0 : Int) ≤ 0 + _; split <;> omega
  | succ k ih =>
    show cnt (x :: r) k + (if ((k : Nat) : Int) ∈ x :: r then 1 else 0) ≤ cnt r k + (if ((k : Nat) : Int) ∈ r then 1 else 0) + _
    by_cases h1 : ((k : Nat) : Int) = x
    · have e2 : ¬ (0 ≤ x ∧ x < (k : Int)) := by omega
      have e3 : 0 ≤ x ∧ x < ((k + 1 : Nat) : Int) := by omega
      rw [if_neg e2] at ih
      rw [if_pos e3]
      split <;> split <;> omega
    · have e4 : (((k : Nat) : Int) ∈ x :: r) ↔ ((k : Nat) : Int) ∈ r := by simp [h1]
      by_cases h2 : ((k : Nat) : Int) ∈ r
      · rw [if_pos (e4.mpr h2), if_pos h2]
        split at ih <;> split <;> omega
      · rw [if_neg (fun z => h2 (e4.mp z)), if_neg h2]
        split at ih <;> split <;> omega
theorem cnt_le_length : ∀ (lost : List Int) (k : Nat), cnt lost k ≤ lost.length
  | [], k => by
    have : cnt [] k = 0 := by
      induction k with
      | zero => rfl
      | succ k ih => show cnt [] k + _ = 0; rw [ih]; simp
    rw [this]; exact Int.le_refl _
  | x :: r, k => by
    have h1 := cnt_cons x r k
    have h2 := cnt_le_length r k
    have h3 : ((x :: r).length : Int) = (r.length : Int) + 1 := by simp
    rw [h3]
    split at h1 <;> omega
/-! ### timers -/
theorem Par.c_pos (p : Par) : 1 ≤ p.c := by unfold Par.c; omega
theorem tim_zero (p : Par) (L : Int) : TimOk p L 0 := ⟨Int.le_refl _, by have := p.hw1; omega, fun z => absurd rfl z⟩
/-- a timer of one would have been told gone -/
theorem tim_one {p : Par} {L L1 t : Int} (h : TimOk p L t) (h1 : L + p.c ≤ L1) (h2 : L1 < p.safe) : t ≠ 1 := fun e => by
  have h3 := h.2.2 (by omega)
  rw [e] at h3
  have e1 : (p.wt + 1 - 1) * p.c + p.c = p.safe := by
    unfold Par.safe
    rw [show p.wt + 1 - 1 = p.wt by omega, Int.add_mul, Int.one_mul]
  omega
theorem tim_start {p : Par} {L L1 : Int} (h0 : 0 ≤ L) (h1 : L + p.c ≤ L1) : TimOk p L1 p.wt := by
  refine ⟨by have := p.hw1; omega, Int.le_refl _, fun _ => ?_⟩
  rw [show p.wt + 1 - p.wt = 1 by omega, Int.one_mul]
  omega
theorem tim_down {p : Par} {L L1 t : Int} (h : TimOk p L t) (ht : t ≠ 0) (h1 : L + p.c ≤ L1) : TimOk p L1 (t - 1) := by
  have h3 := h.2.2 ht
  have h4 := h.1
  have h5 := h.2.1
  refine ⟨by omega, by omega, fun _ => ?_⟩
  have e : (p.wt + 1 - (t - 1)) * p.c = (p.wt + 1 - t) * p.c + p.c := by
    rw [show p.wt + 1 - (t - 1) = (p.wt + 1 - t) + 1 by omega, Int.add_mul, Int.one_mul]
  omega
/-! ### helpers: the others of a round -/
def others (n a b : Nat) : List Nat := ((List.range (n - 1)).map fun i => (a + 1 + i) % n).filter fun k => decide (k ≠ b)
theorem others_len : ∀ n : Fin 7, 2 ≤ n.val → ∀ a : Fin 6, a.val < n.val → ∀ b : Fin 6, b.val < n.val → a ≠ b → (others n.val a.val b.val).length = n.val - 2 := by decide +kernel
theorem others_length {n a b : Nat} (h2 : 2 ≤ n) (h6 : n ≤ 6) (ha : a < n) (hb : b < n) (hab : a ≠ b) : (others n a b).length = n - 2 :=
  others_len ⟨n, by omega⟩ h2 ⟨a, by omega⟩ ha ⟨b, by omega⟩ hb fun z => hab (congrArg Fin.val z)
end Hb

set_option maxHeartbeats 4000000
/-! The rules once more, where an object is made or written: the heap behind told by what holds of it (Up), not by its term. -/
namespace Hb
open PySem PySem.Spec PyProof.Rows L2
/-- a new object o, whatever the heap is then -/
def New (H : Hp) (o : HO) (Q : VK) : Prop := ∀ (p : Addr) (H' : Hp), H p = none → Up [] H H' → H' p = some o → Q (.ref p) H'
theorem New.old {H : Hp} {o : HO} {Q : VK} (n : New H o Q) : ∀ p, H p = none → Q (.ref p) (upd H p o) := fun p f => n p _ f (.new1 f) upd_same
/-- the object at l is o from now on -/
def Wrote (H : Hp) (l : Addr) (o : HO) (Q : Hp → Prop) : Prop := ∀ H', Up [l] H H' → H' l = some o → Q H'
theorem Wrote.lst {H : Hp} {l : Addr} {xs ys : List V} {Q : Hp → Prop} (h : H l = some (.lst xs)) (n : Wrote H l (.lst ys) Q) : Q (upd H l (.lst ys)) := n _ (Up.refl.set h (fun _ => lst_ne_tup) (List.mem_singleton.mpr rfl)) upd_same
theorem Up.f0 {H H' : Hp} {b : Addr} {o : HO} (u : Up [] H H') (h : H b = some o) : H' b = some o := u.fr _ _ h (by simp)
theorem Up.f1 {H H' : Hp} {b l : Addr} {o : HO} (u : Up [l] H H') (h : H b = some o) (n : b ≠ l) : H' b = some o := u.fr _ _ h (by simpa using n)
theorem sz_small {n : Nat} (h : n ≤ 1000) : n ≤ sizeLine := by rw [sizeLine_eq]; omega
theorem sz_smallL {n : Nat} (h : n ≤ 1000) : n < sizeLine := by rw [sizeLine_eq]; omega
section
variable {X : Cx} {es : List Expr} {t : TA} {pos : Pos}
def tTupU (t : TA) : TE := fun σ H Q => t σ H fun xs H1 => xs.length ≤ 1000 ∧ New H1 (.tup xs) Q
def tLstU (t : TA) : TE := fun σ H Q => t σ H fun xs H1 => xs.length ≤ 1000 ∧ New H1 (.lst xs) Q
theorem pe_tupU {x1} (h : PA X es t) : PE X (.Tuple es x1 pos) (tTupU t) := by
  refine ⟨fun pins s σ H Q I hq => wpAny_Tuple_spliced (thn (h.run pos pins s σ H _ I hq) fun us s1 ⟨xs, H1, I1, r, z, q⟩ => ?_)⟩
  have z' := sz_small z
  refine ⟨by rw [← r.length]; exact z', .ref s1.heap.objs.size, upd H1 s1.heap.objs.size (.tup xs), I1.laid (t' := s1.toks) (fun b u e => Heap.get?_push_of_some _ e) (Nat.le_refl _) ?_, rfl, q.old _ (I1.hok.fresh (Nat.le_refl _))⟩
  exact ⟨z', us, r, ⟨_, Heap.get?_push_size _ rfl, rfl, _, rfl⟩⟩
theorem pe_lstU (h : PA X es t) : PE X (.List es pos) (tLstU t) := by
  refine ⟨fun pins s σ H Q I hq => wpAny_List_spliced (thn (h.run pos pins s σ H _ I hq) fun us s1 ⟨xs, H1, I1, r, z, q⟩ => ?_)⟩
  have z' := sz_small z
  exact ⟨by rw [← r.length]; exact z', .ref s1.heap.objs.size, upd H1 s1.heap.objs.size (.lst xs), I1.laid (t' := s1.toks) (fun b u e => Heap.get?_push_of_some _ e) (Nat.le_refl _) ⟨z', us, 0, r, Heap.get?_push_size _ rfl⟩, rfl, q.old _ (I1.hok.fresh (Nat.le_refl _))⟩
theorem OpR.by {f : Value → Value → Sem Value} {r r' : R2} (h : OpR X f r) (i : ∀ x y H Q, r' x y H Q → r x y H Q) : OpR X f r' := fun pins s σ H x y v u Q I rx ry q => h pins s σ H x y v u Q I rx ry (i _ _ _ _ q)
theorem CallR.by {f : Value} {r r' : List V → Hp → VK → Prop} (h : CallR X f r) (i : ∀ xs H Q, r' xs H Q → r xs H Q) : CallR X f r' := fun pins s σ H xs us Q I rx q => h pins s σ H xs us Q I rx (i _ _ _ q)
theorem SlR.by {r r' : V → Option Int → Option Int → Hp → VK → Prop} (h : SlR X r) (i : ∀ x lo hi H Q, r' x lo hi H Q → r x lo hi H Q) : SlR X r' := fun pins s σ H x v vl vu lo hi sl Q I rx hs pl pu q => h pins s σ H x v vl vu lo hi sl Q I rx hs pl pu (i _ _ _ _ _ q)
theorem rep_flat (m : Nat) (x : V) : (List.replicate m [x]).flatten = List.replicate m x := by
  induction m with
  | zero => rfl
  | succ m ih => rw [List.replicate_succ, List.replicate_succ, List.flatten_cons, ih]; rfl
/-- (x,) * k -/
def rRepU : R2 := fun x y H Q => ∃ (l : Addr) (k : Nat) (v : V), x = .ref l ∧ y = .int k ∧ H l = some (.tup [v]) ∧ 2 ≤ k ∧ k ≤ 1000 ∧ New H (.tup (List.replicate k v)) Q
theorem op_repU : OpR X (binaryOp .Mult) rRepU := OpR.by op_repT fun x y H Q ⟨l, k, v, e1, e2, h, h2, h3, q⟩ => ⟨l, k, [v], e1, e2, SqT.of h, by simp, by omega, by omega, by simp, by
  rw [Int.toNat_natCast, rep_flat]
  exact q.old⟩
/-- t + u -/
def rCatU : R2 := fun x y H Q => ∃ (a b : Addr) (xs ys : List V), x = .ref a ∧ y = .ref b ∧ H a = some (.tup xs) ∧ H b = some (.tup ys) ∧ xs.length + ys.length ≤ 1000 ∧ ∀ (r : Addr) (H' : Hp), Up [] H H' → H' r = some (.tup (xs ++ ys)) → Q (.ref r) H'
theorem op_catU : OpR X (binaryOp .Add) rCatU := OpR.by op_catA fun x y H Q ⟨a, b, xs, ys, e1, e2, ha, hb, hz, q⟩ => ⟨a, b, xs, ys, e1, e2, SqT.of ha, SqT.of hb, sz_small hz,
  fun e => q b H .refl (by rw [e, List.nil_append]; exact hb), fun _ e => q a H .refl (by rw [e, List.append_nil]; exact ha), fun _ _ p f => q p _ (.new1 f) upd_same⟩
/-- t[lo:hi] -/
def rSlU : V → Option Int → Option Int → Hp → VK → Prop := fun x lo hi H Q => ∃ (a : Addr) (xs : List V), x = .ref a ∧ H a = some (.tup xs) ∧ ∀ (r : Addr) (H' : Hp), Up [] H H' → H' r = some (.tup (cutV xs lo hi)) → Q (.ref r) H'
theorem sl_tupU : SlR X rSlU := SlR.by sl_tupA fun x lo hi H Q ⟨a, xs, e1, ha, q⟩ => ⟨a, xs, e1, SqT.of ha, fun ⟨h1, h2⟩ => q a H .refl (by
  unfold cutV
  rw [h1, h2, List.drop_zero, Nat.sub_zero, List.take_length]
  exact ha), fun _ p f => q p _ (.new1 f) upd_same⟩
def rSlLU (K : PySem.W.Frag) : V → Option Int → Option Int → Hp → VK → Prop := fun x lo hi H Q => ∃ (a : Addr) (xs : List V), x = .ref a ∧ SqL K H a xs ∧ New H (.lst (cutV xs lo hi)) Q
theorem sl_listU : SlR X (rSlLU X.K) := SlR.by sl_list fun x lo hi H Q ⟨a, xs, e1, ha, q⟩ => ⟨a, xs, e1, ha, q.old⟩
/-- tuple(list), list(tuple), list(list) -/
theorem call_tupleU : CallR X (.type "tuple") (fun xs H Q => ∃ (p : Addr) (ys : List V), xs = [.ref p] ∧ H p = some (.lst ys) ∧ New H (.tup ys) Q) :=
  CallR.by call_tuple_of fun xs H Q ⟨p, ys, e, h, q⟩ => ⟨p, ys, e, .inl ⟨SqL.of h, q.old⟩⟩
theorem call_listU : CallR X (.type "list") (fun xs H Q => ∃ (p : Addr) (ys : List V), xs = [.ref p] ∧ H p = some (.tup ys) ∧ New H (.lst ys) Q) :=
  CallR.by call_list_of fun xs H Q ⟨p, ys, e, h, q⟩ => ⟨p, ys, e, .inr (SqT.of h), q.old⟩
theorem call_listDU (hc : X.calm = true) : CallR X (.type "list") (fun xs H Q => ∃ (p : Addr) (kvs : List (Key × V)), xs = [.ref p] ∧ H p = some (.dK kvs) ∧ New H (.lst (kvs.map fun kv => kV kv.1)) Q) :=
  CallR.by (call_list_dK hc) fun xs H Q ⟨p, kvs, e, h, q⟩ => ⟨p, kvs, e, h, q.old⟩
/-- sorted of ints: of a list, a tuple, a dict -/
theorem cr_sortedU : CallR X (.builtin "sorted") (fun xs H Q => ∃ (p : Addr) (ns : List Int), xs = [.ref p] ∧ H p = some (.lst (ns.map V.int)) ∧ ns.length < 64 ∧ ∀ ns' : List Int, ns'.Perm ns → New H (.lst (ns'.map V.int)) Q) :=
  CallR.by cr_sorted fun xs H Q ⟨p, ns, e, h, h64, q⟩ => ⟨p, ns, e, SqL.of h, h64, fun ns' r hp _ f => (q ns' hp).old r f⟩
theorem cr_sortedTU : CallR X (.builtin "sorted") (fun xs H Q => ∃ (p : Addr) (ns : List Int), xs = [.ref p] ∧ H p = some (.tup (ns.map V.int)) ∧ ns.length < 64 ∧ ∀ ns' : List Int, ns'.Perm ns → New H (.lst (ns'.map V.int)) Q) :=
  CallR.by cr_sortedT fun xs H Q ⟨p, ns, e, h, h64, q⟩ => ⟨p, ns, e, SqT.of h, h64, fun ns' r hp f => (q ns' hp).old r f⟩
theorem cr_sortedDU (hc : X.calm = true) : CallR X (.builtin "sorted") (fun xs H Q => ∃ (p : Addr) (kvs : List (Key × V)) (ks : List Int), xs = [.ref p] ∧ H p = some (.dK kvs) ∧ kvs.map (·.1) = ks.map Sum.inl ∧ ks.length < 64 ∧ ∀ ns' : List Int, ns'.Perm ks → New H (.lst (ns'.map V.int)) Q) :=
  CallR.by (call_sortedDI hc) fun xs H Q ⟨p, kvs, ks, e, h, hk, h64, q⟩ => ⟨p, kvs, ks, e, .inl h, hk, h64, fun ns' r hp _ f => (q ns' hp).old r f⟩
theorem op_catLU : OpR X (binaryOp .Add) (fun x y H Q => ∃ (a b : Addr) (xs ys : List V), x = .ref a ∧ y = .ref b ∧ H a = some (.lst xs) ∧ H b = some (.lst ys) ∧ xs.length + ys.length ≤ 1000 ∧ New H (.lst (xs ++ ys)) Q) :=
  OpR.by op_cat fun x y H Q ⟨a, b, xs, ys, e1, e2, ha, hb, hz, q⟩ => ⟨a, b, xs, ys, e1, e2, ha, hb, sz_small hz, q.old⟩
theorem call_dictPU (hc : X.calm = true) : CallR X (.type "dict") (fun xs H Q => ∃ (a : Addr) (ps : List Addr) (kvs : List (Key × V)), xs = [.ref a] ∧ H a = some (.lst (ps.map V.ref)) ∧ Paired (fun p kv => SqT X.K H p [kV kv.1, kv.2]) ps kvs ∧ New H (.dK (mergeK [] kvs)) Q) :=
  CallR.by (call_dictP hc) fun xs H Q ⟨a, ps, kvs, e, h, hp, q⟩ => ⟨a, ps, kvs, e, SqL.of h, hp, q.old⟩
/-- xs[i] = v, xs.append(v) -/
theorem set_listU : PSet X (fun o i v H Q => ∃ (p : Addr) (xs : List V) (j : Nat), o = .ref p ∧ i = .int j ∧ H p = some (.lst xs) ∧ j < xs.length ∧ Wrote H p (.lst (xs.set j v)) Q) := fun pins s σ H o i v ov iv u Q I r1 r2 r3 ⟨p, xs, j, e1, e2, h, hj, q⟩ =>
  set_list pins s σ H o i v ov iv u Q I r1 r2 r3 ⟨p, xs, j, j, e1, e2, h, by unfold ixN; rw [if_pos (by omega), if_pos (by omega), Int.toNat_natCast], q.lst h⟩
def rAppU : V → List V → Hp → VK → Prop := fun x vs H Q => ∃ (l : Addr) (xs : List V) (y : V), x = .ref l ∧ vs = [y] ∧ H l = some (.lst xs) ∧ xs.length ≤ 1000 ∧ Wrote H l (.lst (xs ++ [y])) (Q .non)
theorem mt_appU : MtR X "list.append" rAppU := fun pins s σ H x xs v us Q I rx rs ⟨l, ys, y, e1, e2, h, hz, q⟩ =>
  mt_append pins s σ H x xs v us Q I rx rs ⟨l, ys, y, e1, e2, h, sz_smallL hz, q.lst h⟩
/-- sorted(some, key=lambda ..) -/
def rSortU (K : PySem.W.Frag) (j : Nat) : List V → L2.St → Hp → VK → Prop := fun vs σ H1 Q => ∃ (a b : Addr) (ns ts : List Int), vs = [.ref a] ∧ H1 a = some (.lst (ns.map V.int)) ∧ σ[j]? = some (some (.ref b)) ∧ H1 b = some (.tup (ts.map V.int)) ∧
  (∀ k ∈ ns, 0 ≤ k ∧ k < ts.length) ∧ ns.length ≤ 1000 ∧ ts.length ≤ 1000 ∧ Tab K H1 ∧ ∀ (H2 : Hp) (ns' : List Int) (p : Addr), Up [tabP K] H1 H2 → Tab K H2 → ns'.Perm ns → (∀ b o, H1 b = some o → b ≠ tabP K → b ≠ p) → H2 p = some (.lst (ns'.map V.int)) → Q (.ref p) H2
theorem sortU {K : PySem.W.Frag} {j : Nat} {vs : List V} {σ : L2.St} {H1 : Hp} {Q : VK} (h : rSortU K j vs σ H1 Q) : rSortLam (tabP K) lamQ K j vs σ H1 Q := by
  obtain ⟨a, b, ns, ts, e, h1, h2, h3, h4, h5, h6, h7, q⟩ := h
  obtain ⟨ps, hP⟩ := h7.at
  refine ⟨a, b, ns, ts, e, SqL.of h1, h2, SqT.of h3, h4, h5, h6, h7 _ (List.mem_singleton.mpr rfl), fun H2 ns' p eN T2 hp f => ?_⟩
  have u : Up [tabP K] H1 H2 := ⟨fun b o hb n => eN b o hb (by simpa using n), fun b xs hb => eN b _ hb fun z => by rw [z, hP] at hb; cases hb⟩
  have T2' : Tab K H2 := fun p hp => by rw [List.mem_singleton.mp hp]; exact T2
  refine q _ ns' p (u.new f) (T2'.up0 (.new1 f)) hp (fun b o hb n => ne_of_none (eN b o hb n) f) upd_same
/-! ### comprehensions -/
/-- the list at D, what holds of it after i turns -/
def LcI (D : Addr) (I : Nat → List V → Hp → Prop) (i : Nat) (H : Hp) : Prop := ∃ acc, H D = some (.lst acc) ∧ acc.length ≤ i ∧ I i acc H
theorem lc_add {D : Addr} {I : Nat → List V → Hp → Prop} {i : Nat} {H : Hp} {acc : List V} {y : V} (h : H D = some (.lst acc)) (hl : acc.length ≤ i) (hi : i < 1000) (q : ∀ H', Up [D] H H' → H' D = some (.lst (acc ++ [y])) → I (i + 1) (acc ++ [y]) H') :
    ∃ acc, H D = some (.lst acc) ∧ acc.length < sizeLine ∧ LcI D I (i + 1) (upd H D (.lst (acc ++ [y]))) :=
  ⟨acc, h, by rw [sizeLine_eq]; omega, acc ++ [y], upd_same, by rw [List.length_append, List.length_singleton]; omega, q _ (Up.refl.set h (fun _ => lst_ne_tup) (List.mem_singleton.mpr rfl)) upd_same⟩
theorem lc_skip {D : Addr} {I : Nat → List V → Hp → Prop} {i : Nat} {H : Hp} {acc : List V} (h : H D = some (.lst acc)) (hl : acc.length ≤ i) (q : I (i + 1) acc H) : LcI D I (i + 1) H := ⟨acc, h, by omega, q⟩
theorem lc_start {D : Addr} {I : Nat → List V → Hp → Prop} {H : Hp} (f : H D = none) (q : ∀ H', Up [] H H' → H' D = some (.lst []) → I 0 [] H') : LcI D I 0 (upd H D (.lst [])) := ⟨[], upd_same, Nat.le_refl _, q _ (.new1 f) upd_same⟩
end
/-! ### in a block of a comprehension K must be said -/
section
variable (K : PySem.W.Frag) {X : Cx} {pos : Pos}
theorem ix_tupK (h : X.K = K) : IxR X (rIxT K) := by subst h; exact ix_tup
theorem ix_listK (h : X.K = K) : IxR X (rIxL K) := by subst h; exact ix_list
theorem in_seqK (h : X.K = K) : OpR X (compareOp .In) (rIn K false) := by subst h; exact op_in_seq
theorem notIn_seqK (h : X.K = K) : OpR X (compareOp .NotIn) (rIn K true) := by subst h; exact op_notIn_seq
theorem pg_tupK (h : X.K = K) {es : List Expr} {k : Nat} {t : TGs} {n : Nat} (hc : X.calm = true) (g : PGs X es t)
    (hn : (assignEach es X.env).length = n := by rfl) (hst : (assignEach es X.env).findIdx? (·.1) = none := by rfl) : PG X (.Tuple es k pos) (gTup K n t) := by subst h; exact pg_tup hc g hn hst
end
/-! ### the wiped slots of a comprehension -/
theorem wipe_get (σ : L2.St) (j : Nat) : ∀ vs : List Nat, (wipe σ vs)[j]? = if j ∈ vs then σ[j]?.map (fun _ => none) else σ[j]?
  | [] => by simp [wipe]
  | v :: vs => by
    unfold wipe
    have ih := wipe_get σ j vs
    rw [List.getElem?_set]
    by_cases e : v = j
    · subst e
      rw [if_pos rfl, wipe_length, if_pos (show v ∈ v :: vs from List.mem_cons_self)]
      by_cases hl : v < σ.length
      · rw [if_pos hl, List.getElem?_eq_getElem hl]; rfl
      · rw [if_neg hl, List.getElem?_eq_none (by omega)]; rfl
    · rw [if_neg e, ih]
      have e' : ¬ j = v := fun z => e z.symm
      simp only [List.mem_cons, e', false_or]
theorem wipe_set {σ : L2.St} {vs : List Nat} {i : Nat} {x : Option V} (h : i ∈ vs) : wipe (σ.set i x) vs = wipe σ vs := by
  apply List.ext_getElem?
  intro j
  rw [wipe_get, wipe_get, List.getElem?_set]
  by_cases hj : j ∈ vs
  · rw [if_pos hj, if_pos hj]
    by_cases e : i = j
    · subst e
      rw [if_pos rfl]
      by_cases hl : i < σ.length
      · rw [if_pos hl, List.getElem?_eq_getElem hl]; rfl
      · rw [if_neg hl, List.getElem?_eq_none (by omega)]
    · rw [if_neg e]
  · rw [if_neg hj, if_neg hj, if_neg (fun e => hj (by rw [← e]; exact h))]
theorem wipe_wipe {σ : L2.St} {vs : List Nat} : wipe (wipe σ vs) vs = wipe σ vs := by
  apply List.ext_getElem?
  intro j
  rw [wipe_get, wipe_get]
  by_cases hj : j ∈ vs
  · rw [if_pos hj, if_pos hj, Option.map_map]; rfl
  · rw [if_neg hj, if_neg hj]
theorem wipe1 {σ : L2.St} {vs : List Nat} {i : Nat} {x : Option V} (h : i ∈ vs) : wipe ((wipe σ vs).set i x) vs = wipe σ vs := (wipe_set h).trans wipe_wipe
theorem wipe2 {σ : L2.St} {vs : List Nat} {i j : Nat} {x y : Option V} (h : i ∈ vs) (h' : j ∈ vs) : wipe (((wipe σ vs).set i x).set j y) vs = wipe σ vs := (wipe_set h').trans (wipe1 h)
end Hb

set_option maxHeartbeats 4000000
/-! words, towns, bounds, the first state -/
namespace Hb
open PySem PySem.Spec PyProof.Rows L2
def spNewer : Sp := fun vs H Q _ => ∃ (a b : Addr) (n m n' m' : Int), vs = [.ref a, .ref b] ∧ H a = some (.tup [.int n, .int m]) ∧ H b = some (.tup [.int n', .int m']) ∧ ∀ k : Bool, Q (.bl k) H
/-- a town, a house of it, a turn: a truth | a number -/
def spTicks : Sp := fun vs H Q _ => ∃ (a : Addr) (n i : Nat) (t : Int), vs = [.ref a, .int i, .int t] ∧ TownAt H n a ∧ i < n ∧ ∀ k : Bool, Q (.bl k) H
def spTicksBy : Sp := fun vs H Q _ => ∃ (a : Addr) (n i : Nat) (t : Int), vs = [.ref a, .int i, .int t] ∧ TownAt H n a ∧ i < n ∧ ∀ k : Int, Q (.int k) H
def spTarget : Sp := fun vs H Q _ => ∃ (a : Addr) (n i : Nat) (t : Int), vs = [.ref a, .int i, .int t] ∧ TownAt H n a ∧ 2 ≤ n ∧ i < n ∧ ∀ k : Nat, k < n → k ≠ i → Q (.int k) H
def spHelpersMost : Sp := fun vs H Q _ => ∃ (a b : Addr) (p : Par), vs = [.ref a, .ref b] ∧ RulesAt H p a ∧ TownAt H p.n b ∧ Q (.int p.h) H
def spSafe : Sp := fun vs H Q _ => ∃ (a b : Addr) (p : Par), vs = [.ref a, .ref b] ∧ RulesAt H p a ∧ TownAt H p.n b ∧ Q (.int p.safe) H
def spFresh : Sp := fun vs H Q _ => ∃ (p : Par), vs = [.int p.n, .int p.tl] ∧ ∀ (H' : Hp) (r : Addr), Up [] H H' → (∀ i, i < p.n → IsHouse H' p 0 i (.ref r)) → Q (.ref r) H'
def spBegun : Sp := fun vs H Q _ => ∃ (a b : Addr) (p : Par), vs = [.ref a, .ref b] ∧ RulesAt H p a ∧ TownAt H p.n b ∧ ∀ (H' : Hp) (r : Addr), Up [] H H' → StateAt H' p 0 r → Q (.ref r) H'
section
variable {P : Program} {w : World} {K : PySem.W.Frag} {mg : Str → Option Value} {base : Heap}
theorem ok_newer (T : Txt K mg) : C8.Cal P w K mg base 1 "newer" spNewer [] := by
  refine mk_newer T (fun vs H Q E h => ?_) (fun cdv A outer s H vs Q E hr h => ?_)
  · obtain ⟨a, b, n, m, n', m', rfl, _⟩ := h; rfl
  · obtain ⟨a, b, n, m, n', m', rfl, h1, h2, k⟩ := h
    refine ⟨_, (pss_one (ps_ret (pe_cmpR (op_gtT hr.units0) (pv 0) (pv 1) (nomark _)))), ?_⟩
    exact ⟨_, rfl, _, rfl, a, b, [n, m], [n', m'], rfl, rfl, SqT.of h1, SqT.of h2, fun z => k z⟩
theorem clock_at {H : Hp} {cs : List V} {i : Nat} (h : ∀ v ∈ cs, ClockAt H v) (hi : i < cs.length) : ∃ (b : Addr) (k s : Int), cs[i]? = some (.ref b) ∧ H b = some (.tup [.int k, .int s]) ∧ 1 ≤ k ∧ k ≤ 4 := by
  obtain ⟨b, k, s, h1, h2⟩ := h cs[i] (List.getElem_mem hi)
  exact ⟨b, k, s, by rw [List.getElem?_eq_getElem hi, h1], h2⟩
theorem ok_ticks (T : Txt K mg) : C8.Cal P w K mg base 1 "ticks" spTicks [] := by
  refine mk_ticks T (fun vs H Q E h => ?_) (fun cdv A outer s H vs Q E hr h => ?_)
  · obtain ⟨a, n, i, t, rfl, _⟩ := h; rfl
  · obtain ⟨a, n, i, t, rfl, ⟨cs, h1, h2, h3⟩, hi, k⟩ := h
    obtain ⟨b, pc, st, e1, e2, e3, e4⟩ := clock_at h3 (by rw [h2]; exact hi)
    refine ⟨_, (pss_cons (ps_asg (pe_ix ix_tup (pv 0) (pv 1) (fun _ _ => rfl)) (pg_tup rfl (pgs_cons (pg_name (i := 3) sc_ticks.nd rfl (Or.inl rfl)) (pgs_cons (pg_name (i := 4) sc_ticks.nd rfl (Or.inl rfl)) pgs_nil))))
        (pss_one (ps_ret (pe_and (pe_cmpR op_ge (pv 2) (pv 4) (nomark _)) (pe_one (pe_cmpR op_eq (pe_op op_mod (pe_op op_sub (pv 2) (pv 4)) (pv 3)) pe_int (nomark _))))))), ?_⟩
    refine ⟨_, rfl, _, rfl, a, cs, _, _, rfl, rfl, SqT.of h1, atI_nat e1, b, _, rfl, SqT.of e2, rfl, _, _, rfl, _, _, rfl, rfl, ?_⟩
    refine ⟨_, rfl, _, rfl, t, st, rfl, rfl, _, rfl, ite2 (fun _ => ?_) (fun _ => ?_)⟩
    · exact ⟨_, rfl, _, rfl, _, _, rfl, rfl, _, rfl, _, _, rfl, rfl, show (0 : Int) < pc by omega, rfl, k _⟩
    · exact k _
theorem ok_ticks_by (T : Txt K mg) : C8.Cal P w K mg base 1 "ticks_by" spTicksBy [] := by
  refine mk_ticks_by T (fun vs H Q E h => ?_) (fun cdv A outer s H vs Q E hr h => ?_)
  · obtain ⟨a, n, i, t, rfl, _⟩ := h; rfl
  · obtain ⟨a, n, i, t, rfl, ⟨cs, h1, h2, h3⟩, hi, k⟩ := h
    obtain ⟨b, pc, st, e1, e2, e3, e4⟩ := clock_at h3 (by rw [h2]; exact hi)
    refine ⟨_, (pss_cons (ps_asg (pe_ix ix_tup (pv 0) (pv 1) (fun _ _ => rfl)) (pg_tup rfl (pgs_cons (pg_name (i := 3) sc_ticks_by.nd rfl (Or.inl rfl)) (pgs_cons (pg_name (i := 4) sc_ticks_by.nd rfl (Or.inl rfl)) pgs_nil))))
        (pss_cons (ps_if (pt_cmpR op_lt (pv 2) (pv 4) (nomark _)) (pss_one (ps_ret pe_int)) pss_nil)
        (pss_one (ps_ret (pe_op op_add (pe_op op_fdiv (pe_op op_sub (pv 2) (pv 4)) (pv 3)) pe_int))))), ?_⟩
    refine ⟨_, rfl, _, rfl, a, cs, _, _, rfl, rfl, SqT.of h1, atI_nat e1, b, _, rfl, SqT.of e2, rfl, _, _, rfl, _, _, rfl, rfl, ?_⟩
    refine ⟨_, rfl, _, rfl, t, st, rfl, rfl, _, rfl, ite2 (fun _ => ?_) (fun _ => ?_)⟩
    · exact k _
    · exact ⟨_, rfl, _, rfl, _, _, rfl, rfl, _, rfl, _, _, rfl, rfl, ⟨show (0 : Int) < pc by omega, show pc < 1073741824 by omega⟩, _, _, rfl, rfl, k _⟩
theorem target_ne {n i : Nat} {r : Int} (h2 : 2 ≤ n) (hi : i < n) (h0 : 0 ≤ r) (h1 : r < (n : Int) - 1) : ∃ k : Nat, ((i : Int) + 1 + r) % (n : Int) = (k : Int) ∧ k < n ∧ k ≠ i := by
  by_cases h : (i : Int) + 1 + r < n
  · refine ⟨((i : Int) + 1 + r).toNat, ?_, by omega, by omega⟩
    rw [Int.emod_eq_of_lt (by omega) h]; omega
  · refine ⟨((i : Int) + 1 + r - n).toNat, ?_, by omega, by omega⟩
    rw [← Int.emod_eq_of_lt (a := (i : Int) + 1 + r - n) (b := n) (by omega) (by omega)] 
    rw [Int.sub_emod_right]
    have := Int.emod_nonneg ((i : Int) + 1 + r) (show (n : Int) ≠ 0 by omega)
    omega
theorem ok_target (T : Txt K mg) : C8.Cal P w K mg base 2 "target" spTarget [] := by
  have k_ticks_by := ok_ticks_by (P := P) (w := w) (base := base) T
  refine mk_target T (fun vs H Q E h => ?_) (fun cdv A outer s H vs Q E hr h => ?_)
  · obtain ⟨a, n, i, t, rfl, _⟩ := h; rfl
  · obtain ⟨a, n, i, t, rfl, ht, h2, hi, k⟩ := h
    obtain ⟨cs, h1, hl, h3⟩ := id ht
    refine ⟨_, (pss_cons (ps_set (i := 3) sc_target.nd rfl (Or.inl rfl) (pe_callB call_len_seq (by rfl) T.n_len (by decide +kernel) (pa_cons (pv 0) pa_nil)))
        (pss_cons (ps_set (i := 4) sc_target.nd rfl (Or.inl rfl) (pe_op op_sub (C8.pe_c k_ticks_by hr (by decide) (by rfl) (pa_cons (pv 0) (pa_cons (pv 1) (pa_cons (pv 2) pa_nil)))) pe_int))
        (pss_one (ps_ret (pe_op op_mod (pe_op op_add (pe_op op_add (pv 1) pe_int) (pe_op op_mod (pv 4) (pe_op op_sub (pv 3) pe_int))) (pv 3)))))), ?_⟩
    refine ⟨_, rfl, a, cs, rfl, .inr (SqT.of h1), ?_⟩
    refine ⟨_, rfl, _, rfl, _, rfl, a, n, i, t, rfl, ht, hi, fun j => ?_⟩
    refine ⟨_, _, rfl, rfl, ?_⟩
    refine ⟨_, rfl, _, _, rfl, rfl, _, rfl, _, rfl, _, _, rfl, rfl, ?_⟩
    have hn : (0 : Int) < (cs.length : Int) - 1 := by omega
    refine ⟨_, _, rfl, rfl, hn, _, _, rfl, rfl, _, rfl, _, _, rfl, rfl, show (0 : Int) < (cs.length : Int) by omega, ?_⟩
    obtain ⟨m, e1, e2, e3⟩ := target_ne (r := (j - 1) % ((cs.length : Int) - 1)) h2 hi (Int.emod_nonneg _ (by omega)) (by rw [hl]; exact Int.emod_lt_of_pos _ (by omega))
    have z := k m e2 e3
    rw [← e1, ← hl] at z
    exact z
theorem ok_helpers_most (T : Txt K mg) : C8.Cal P w K mg base 1 "helpers_most" spHelpersMost [] := by
  refine mk_helpers_most T (fun vs H Q E h => ?_) (fun cdv A outer s H vs Q E hr h => ?_)
  · obtain ⟨a, b, p, rfl, _⟩ := h; rfl
  · obtain ⟨a, b, p, rfl, ⟨nm, r1, r2⟩, ⟨cs, h1, hl, h3⟩, k⟩ := h
    refine ⟨_, (pss_one (ps_ret (pe_callB (call_min2 rfl) (by rfl) T.n_min (by decide +kernel) (pa_cons (pe_ix ix_tup (pv 0) pe_int (fun _ _ => rfl)) (pa_cons (pe_op op_sub (pe_callB call_len_seq (by rfl) T.n_len (by decide +kernel) (pa_cons (pv 1) pa_nil)) pe_int) pa_nil))))), ?_⟩
    refine ⟨_, rfl, a, _, _, _, rfl, rfl, SqT.of r1, atI_nat (j := 0) rfl, _, rfl, b, cs, rfl, .inr (SqT.of h1), _, _, rfl, rfl, _, _, rfl, ?_⟩
    have e : (if (cs.length : Int) - 2 < p.oth then (cs.length : Int) - 2 else p.oth) = ((p.h : Nat) : Int) := by
      have := p.hn2; have := p.ho0
      unfold Par.h
      rw [hl]
      split <;> omega
    rw [e]
    exact k
theorem ok_safe_number (T : Txt K mg) : C8.Cal P w K mg base 2 "safe_number" spSafe [] := by
  have k_helpers_most := ok_helpers_most (P := P) (w := w) (base := base) T
  refine mk_safe_number T (fun vs H Q E h => ?_) (fun cdv A outer s H vs Q E hr h => ?_)
  · obtain ⟨a, b, p, rfl, _⟩ := h; rfl
  · obtain ⟨a, b, p, rfl, hR, hT, k⟩ := h
    obtain ⟨nm, r1, r2⟩ := id hR
    refine ⟨_, (pss_one (ps_ret (pe_op op_mul (pe_op op_add (pe_ix ix_tup (pv 0) pe_int (fun _ _ => rfl)) pe_int) (pe_op op_add pe_int (C8.pe_c k_helpers_most hr (by decide) (by rfl) (pa_cons (pv 0) (pa_cons (pv 1) pa_nil))))))), ?_⟩
    refine ⟨_, rfl, a, _, _, _, rfl, rfl, SqT.of r1, atI_nat (j := 1) rfl, _, _, rfl, rfl, ?_⟩
    refine ⟨_, rfl, _, rfl, a, b, p, rfl, hR, hT, ?_⟩
    have := p.hw1; have := p.hw9
    exact ⟨_, _, rfl, rfl, _, _, rfl, rfl, .inl ⟨by omega, by omega⟩, k⟩
theorem ok_fresh_house (T : Txt K mg) : C8.Cal P w K mg base 1 "fresh_house" spFresh [] := by
  refine mk_fresh_house T (fun vs H Q E h => ?_) (fun cdv A outer s H vs Q E hr h => ?_)
  · obtain ⟨p, rfl, _⟩ := h; rfl
  · obtain ⟨p, rfl, k⟩ := h
    have hn2 := p.hn2
    have hn6 := p.hn6
    refine ⟨_, (pss_one (ps_ret (pe_tupU (pa_cons pe_int (pa_cons (pe_op op_repU (pe_tupU (pa_cons (pe_tupU (pa_cons pe_int (pa_cons pe_int pa_nil))) pa_nil)) (pv 0)) (pa_cons (pe_op op_repU (pe_tupU (pa_cons (pv 1) pa_nil)) (pv 0)) (pa_cons (pe_op op_repU (pe_tupU (pa_cons pe_int pa_nil)) (pv 0)) pa_nil))))))), ?_⟩
    refine ⟨by simp, fun p0 H1 _ u1 e1 => ⟨by simp, fun q0 H2 _ u2 e2 => ?_⟩⟩
    refine ⟨_, rfl, q0, p.n, _, rfl, rfl, e2, by omega, by omega, fun r0 H3 _ u3 e3 => ?_⟩
    refine ⟨_, rfl, by simp, fun q1 H4 _ u4 e4 => ?_⟩
    refine ⟨_, rfl, q1, p.n, _, rfl, rfl, e4, by omega, by omega, fun r1 H5 _ u5 e5 => ?_⟩
    refine ⟨by simp, fun q2 H6 _ u6 e6 => ?_⟩
    refine ⟨_, rfl, q2, p.n, _, rfl, rfl, e6, by omega, by omega, fun r2 H7 _ u7 e7 => ?_⟩
    refine ⟨by simp, fun r H8 _ u8 e8 => ?_⟩
    have u48 := ((u4.trans u5).trans (u6.trans u7)).trans u8
    have u38 := u3.trans u48
    refine k _ r ((u1.trans u2).trans u38) fun i hi => ⟨r, r0, r1, r2, rfl, e8, ?_, ?_, ?_⟩
    · refine ⟨List.replicate p.n (.ref p0), u48.tu _ _ e3, List.length_replicate, fun v hv => ?_⟩
      rw [List.eq_of_mem_replicate hv]
      exact ⟨p0, 0, 0, rfl, (u2.trans u38).tu _ _ e1, .inl rfl⟩
    · exact ⟨List.replicate p.n p.tl, by rw [List.map_replicate]; exact ((u6.trans u7).trans u8).tu _ _ e5, List.length_replicate⟩
    · exact ⟨List.replicate p.n 0, by rw [List.map_replicate]; exact u8.tu _ _ e7, List.length_replicate, fun t ht => by rw [List.eq_of_mem_replicate ht]; exact tim_zero p 0, by rw [List.getElem?_replicate, if_pos hi]⟩
theorem ok_begun (T : Txt K mg) : C8.Cal P w K mg base 2 "begun" spBegun [] := by
  have k_fresh_house := ok_fresh_house (P := P) (w := w) (base := base) T
  refine mk_begun T (fun vs H Q E h => ?_) (fun cdv A outer s H vs Q E hr h => ?_)
  · obtain ⟨a, b, p, rfl, _⟩ := h; rfl
  · obtain ⟨a, b, p, rfl, ⟨nm, r1, r2⟩, ⟨cs, h1, hl, h3⟩, k⟩ := h
    have hn2 := p.hn2
    have hn6 := p.hn6
    refine ⟨_, (pss_one (ps_ret (pe_tupU (pa_cons pe_int (pa_cons (pe_op op_repU (pe_tupU (pa_cons (C8.pe_c k_fresh_house hr (by decide) (by rfl) (pa_cons (pe_callB call_len_seq (by rfl) T.n_len (by decide +kernel) (pa_cons (pv 1) pa_nil)) (pa_cons (pe_ix ix_tup (pv 0) pe_int (fun _ _ => rfl)) pa_nil))) pa_nil)) (pe_callB call_len_seq (by rfl) T.n_len (by decide +kernel) (pa_cons (pv 1) pa_nil))) pa_nil))))), ?_⟩
    refine ⟨_, rfl, b, cs, rfl, .inr (SqT.of h1), _, rfl, a, _, _, _, rfl, rfl, SqT.of r1, atI_nat (j := 2) rfl, p, by rw [hl]; rfl, fun H1 f u1 hf => ?_⟩
    refine ⟨by simp, fun q H2 _ u2 e2 => ?_⟩
    refine ⟨_, rfl, b, cs, rfl, .inr (SqT.of ((u1.trans u2).tu _ _ h1)), ?_⟩
    refine ⟨q, p.n, _, rfl, by rw [hl], e2, by omega, by omega, fun r H3 _ u3 e3 => ?_⟩
    refine ⟨by simp, fun z H4 _ u4 e4 => ?_⟩
    refine k _ z ((u1.trans u2).trans (u3.trans u4)) ⟨r, 0, List.replicate p.n (.ref f), e4, u4.tu _ _ e3, List.length_replicate, fun i v hv => ?_⟩
    rw [List.getElem?_replicate] at hv
    split at hv
    · rename_i hi
      cases hv
      exact (hf i hi).up ((u2.trans u3).trans u4)
    · cases hv
end
end Hb

set_option maxHeartbeats 4000000
/-! letters: houses_named, news_of -/
namespace Hb
open PySem PySem.Spec PyProof.Rows L2
/-- a dict whose keys are houses -/
def NamedAt (H : Hp) (n : Nat) (d : Addr) : Prop := ∃ kvs : List (Key × V), H d = some (.dK kvs) ∧ kvs.length ≤ 15 ∧ ∀ kv ∈ kvs, ∃ i : Nat, kv.1 = .inl (i : Int) ∧ i < n
def InHouses (n : Nat) (ns : List Int) : Prop := ∀ k ∈ ns, ∃ i : Nat, k = (i : Int) ∧ i < n
/-- notes: pairs of a house and a word -/
def NotesAt (H : Hp) (n : Nat) (a : Addr) : Prop := ∃ vs : List V, H a = some (.tup vs) ∧ vs.length ≤ 100 ∧ ∀ v ∈ vs, ∃ (b : Addr) (k : Nat) (x : V), v = .ref b ∧ H b = some (.tup [.int k, x]) ∧ k < n ∧ IsWord H x
theorem NotesAt.up {ex : List Addr} {H H' : Hp} {n : Nat} {a : Addr} (h : NotesAt H n a) (u : Up ex H H') : NotesAt H' n a := by
  obtain ⟨vs, h1, h2, h3⟩ := h
  refine ⟨vs, u.tu _ _ h1, h2, fun v m => ?_⟩
  obtain ⟨b, k, x, e1, e2, e3, e4⟩ := h3 v m
  exact ⟨b, k, x, e1, u.tu _ _ e2, e3, e4.up u⟩
theorem putK_len {kvs : List (Key × V)} {k : Key} {v : V} : (putK kvs k v).length ≤ kvs.length + 1 := by
  unfold putK
  split
  · rw [List.length_map]; omega
  · rw [List.length_append]; exact Nat.le_refl _
theorem putK_keys {kvs : List (Key × V)} {k : Key} {v : V} {q : Key × V} (h : q ∈ putK kvs k v) : q.1 = k ∨ ∃ r ∈ kvs, r.1 = q.1 := by
  unfold putK at h
  split at h
  · obtain ⟨r, hr, e⟩ := List.mem_map.mp h
    right
    refine ⟨r, hr, ?_⟩
    rw [← e]
    split <;> rfl
  · rcases List.mem_append.mp h with z | z
    · exact .inr ⟨q, z, rfl⟩
    · rw [List.mem_singleton.mp z]; exact .inl rfl
theorem NamedAt.put {H : Hp} {n i : Nat} {d : Addr} {v : V} (h : NamedAt H n d) (hi : i < n) : ∃ kvs, H d = some (.dK kvs) ∧ kvs.length < sizeLine ∧ (kvs.length ≤ 10 → NamedAt (upd H d (.dK (putK kvs (.inl (i : Int)) v))) n d) ∧ Up [d] H (upd H d (.dK (putK kvs (.inl (i : Int)) v))) := by
  obtain ⟨kvs, h1, h2, h3⟩ := h
  refine ⟨kvs, h1, by rw [sizeLine_eq]; omega, fun hl => ⟨_, upd_same, by have := putK_len (kvs := kvs) (k := .inl (i : Int)) (v := v); omega, fun q hq => ?_⟩, Up.refl.set h1 (fun _ => dK_ne_tup) (List.mem_singleton.mpr rfl)⟩
  rcases putK_keys hq with z | ⟨r, hr, e⟩
  · exact ⟨i, z, hi⟩
  · rw [← e]; exact h3 r hr
def spNamed : Sp := fun vs H Q _ => ∃ (ra ta : Addr) (p : Par) (t : Int) (x y : Nat), vs = [.ref ra, .ref ta, .int t, .int x, .int y] ∧ RulesAt H p ra ∧ TownAt H p.n ta ∧ x < p.n ∧ y < p.n ∧
  ∀ (H' : Hp) (d : Addr), Up [] H H' → H d = none → NamedAt H' p.n d → Q (.ref d) H'
def spNews (K : PySem.W.Frag) : Sp := fun vs H Q _ => ∃ (ra tl d : Addr) (p : Par) (ts : List Int) (x : Int), vs = [.ref ra, .ref tl, .int x, .ref d] ∧ RulesAt H p ra ∧ H tl = some (.tup (ts.map V.int)) ∧ ts.length = p.n ∧ NamedAt H p.n d ∧ Tab K H ∧
  ∀ (H' : Hp) (l : Addr) (ns : List Int), Up [tabP K] H H' → Tab K H' → H' l = some (.lst (ns.map V.int)) → InHouses p.n ns → ns.length ≤ p.n → (∀ b o, H b = some o → b ≠ tabP K → b ≠ l) → Q (.ref l) H'
def spNotes (K : PySem.W.Frag) : Sp := fun vs H Q _ => ∃ (ra ta sa h : Addr) (p : Par) (L tn : Int) (hs : List V) (x y : Nat), vs = [.ref ra, .ref ta, .ref sa, .int x, .int y] ∧ RulesAt H p ra ∧ TownAt H p.n ta ∧ H sa = some (.tup [.int tn, .ref h]) ∧ H h = some (.tup hs) ∧ Houses H p L hs ∧
  x < p.n ∧ y < p.n ∧ Tab K H ∧ ∀ (H' : Hp) (r nt bh : Addr), Up [tabP K] H H' → Tab K H' → H' r = some (.tup [.ref nt, .ref bh]) → NotesAt H' p.n nt → IsInts H' p.n bh → Q (.ref r) H'
theorem cl_own : inV (.str "own") clauseVs = true := by decide +kernel
theorem cl_about : inV (.str "about") clauseVs = true := by decide +kernel
theorem cl_flat : clauseVs.all flatV = true := by decide +kernel
section
variable {P : Program} {w : World} {K : PySem.W.Frag} {mg : Str → Option Value} {base : Heap}
theorem ok_houses_named (T : Txt K mg) : C8.Cal P w K mg base 2 "houses_named" spNamed [] := by
  have k_ticks_by := ok_ticks_by (P := P) (w := w) (base := base) T
  refine mk_houses_named T (fun vs H Q E h => ?_) (fun cdv A outer s H vs Q E hr h => ?_)
  · obtain ⟨ra, ta, p, t, x, y, rfl, _⟩ := h; rfl
  · obtain ⟨ra, ta, p, t, x, y, rfl, hR, hT, hx, hy, k⟩ := h
    obtain ⟨nm, r1, r2⟩ := id hR
    obtain ⟨cs, t1, t2, t3⟩ := id hT
    have hn2 := p.hn2
    refine ⟨_, (pss_cons (ps_set (i := 5) sc_houses_named.nd rfl (Or.inl rfl) (pe_disp (pps_cons (pv 4) pe_bl pps_nil) (by rfl) (by rfl) (fun z => by cases z) (by decide)))
        (pss_cons (ps_if (pt_cmpR op_in_seq pe_str (pe_ix ix_tup (pv 0) pe_int (fun _ _ => rfl)) (by rfl)) (pss_one (ps_dput (hu_of hr) (pv 5) (pv 3) pe_bl rfl)) pss_nil)
        (pss_cons (ps_set (i := 6) sc_houses_named.nd rfl (Or.inl rfl) (pe_op op_mod (C8.pe_c k_ticks_by hr (by decide) (by rfl) (pa_cons (pv 1) (pa_cons (pv 3) (pa_cons (pv 2) pa_nil)))) (pe_callB call_len_seq (by rfl) T.n_len (by decide +kernel) (pa_cons (pv 1) pa_nil))))
        (pss_cons (ps_if (PW.pt (pw_and (pt_cmpR op_in_seq pe_str (pe_ix ix_tup (pv 0) pe_int (fun _ _ => rfl)) (by rfl)) (pw_and1 (pt_cmpR op_ne (pv 6) (pv 3) (nomark _))))) (pss_one (ps_dput (hu_of hr) (pv 5) (pv 6) pe_bl rfl)) pss_nil)
        (pss_one (ps_ret (pv 5))))))), ?_⟩
    -- named = {y: True}
    intro d f
    refine ⟨_, rfl, upd_same, [(.inl (y : Int), .bl true)], rfl, by simp, ?_⟩
    rw [upd_upd]
    obtain ⟨H1, e1⟩ : ∃ H1, H1 = upd H d (.dK (mergeK [] [(.inl (y : Int), .bl true)])) := ⟨_, rfl⟩
    have u1 : Up [] H H1 := by rw [e1]; exact .new1 f
    have d1 : H1 d = some (.dK [(.inl (y : Int), .bl true)]) := by rw [e1]; exact upd_same
    rw [← e1]
    clear e1
    have N1 : NamedAt H1 p.n d := ⟨_, d1, by simp, fun kv hkv => ⟨y, by rw [List.mem_singleton.mp hkv], hy⟩⟩
    -- if 'own' in rules[4]: named[x] = True
    refine ⟨_, rfl, ra, _, _, _, rfl, rfl, SqT.of (u1.tu _ _ r1), atI_nat (j := 4) rfl, nm, clauseVs, rfl, .inr (SqT.of (u1.tu _ _ r2)), rfl, cl_flat, _, rfl, ?_⟩
    refine iteT ?_
    obtain ⟨kvs, g1, g2, g3, u2⟩ := N1.put (v := .bl true) hx
    obtain rfl : kvs = [(.inl (y : Int), .bl true)] := by rw [d1] at g1; cases g1; rfl
    refine ⟨_, rfl, _, rfl, d, _, rfl, DPut.k (k := Sum.inl (x : Int)) d1 g2, ?_⟩
    have N2 := g3 (by simp)
    obtain ⟨H2, e2⟩ : ∃ H2, H2 = upd H1 d (.dK (putK [(.inl (y : Int), .bl true)] (.inl (x : Int)) (.bl true))) := ⟨_, rfl⟩
    rw [← e2] at u2 N2
    have l2 : ∃ kvs, H2 d = some (.dK kvs) ∧ kvs.length ≤ 2 := ⟨_, by rw [e2]; exact upd_same, putK_len⟩
    rw [← e2]
    clear e2
    have u12 : Up [d] H H2 := u1.of.trans u2
    have hT2 := hT.up u12
    -- about
    refine ⟨_, rfl, _, rfl, _, rfl, ta, p.n, x, t, rfl, hT2, hx, fun j => ?_⟩
    refine ⟨_, rfl, ta, cs, rfl, .inr (SqT.of (u12.tu _ _ t1)), _, _, rfl, rfl, show (0 : Int) < (cs.length : Int) by omega, ?_⟩
    obtain ⟨m, em, hm⟩ : ∃ m : Nat, j % (cs.length : Int) = (m : Int) ∧ m < p.n := ⟨(j % (cs.length : Int)).toNat, by have := Int.emod_nonneg j (show (cs.length : Int) ≠ 0 by omega); omega, by
      have := Int.emod_lt_of_pos j (show (0 : Int) < (cs.length : Int) by omega)
      omega⟩
    have fin : ∀ {H' : Hp}, Up [d] H H' → NamedAt H' p.n d → Q (.ref d) H' := fun {H'} u N => k H' d (u.sub fun e m => .inl (by rw [List.mem_singleton.mp m]; exact f)) f N
    refine ⟨_, rfl, ra, _, _, _, rfl, rfl, SqT.of (u12.tu _ _ r1), atI_nat (j := 4) rfl, nm, clauseVs, rfl, .inr (SqT.of (u12.tu _ _ r2)), rfl, cl_flat, _, rfl, ?_⟩
    refine iteT ⟨_, rfl, _, rfl, rfl, _, rfl, ite2 (fun _ => ?_) (fun _ => ?_)⟩
    · obtain ⟨kvs, h1, h2⟩ := l2
      obtain ⟨kvs', g1, g2, g3, u3⟩ := N2.put (v := .bl true) hm
      obtain rfl : kvs' = kvs := by rw [h1] at g1; cases g1; rfl
      refine ⟨_, rfl, _, rfl, d, _, rfl, DPut.k (k := Sum.inl (j % (cs.length : Int))) h1 g2, _, rfl, ?_⟩
      show Q (.ref d) (upd H2 d (.dK (putK kvs' (.inl (j % (cs.length : Int))) (.bl true))))
      rw [em]
      exact fin (u12.trans u3) (g3 (by omega))
    · exact ⟨_, rfl, fin u12 N2⟩
theorem mkC_news_of (T : Txt K mg) {k : Nat} {sp : Sp} (len : ∀ vs H Q E, sp vs H Q E → vs.length = 4)
    (hb : ∀ (A : Around) (outer : List Env) (s : Shared) (H : Hp) (vs : List V) (Q : VK) (E : XK), Room k (A.deeper (envOfC "news_of" (defScope s_news_of) s.heap.objs.size (He.ga K "news_of") (.ref (tabC K)))) → sp vs H Q E →
      ∃ t, PSs (cxOf C8.CX0 P w K mg base N_news_of "news_of" (defScope s_news_of) (He.ga K "news_of") (.ref (tabC K)) A outer s H E).nox (defBody s_news_of) t ∧ t { nx := fun _ H' => Q .non H', rt := Q } (start N_news_of vs) H) : C8.Cal P w K mg base (k + 1) "news_of" sp [] := by
  obtain ⟨fd, F⟩ := T.says.def_ 9 (d := d_news_of)
  obtain ⟨oc, od, dV, kV, doc, pm, an, cdv, ct, osl, e, lk, hcd, _, _⟩ := F.ex
  subst e
  obtain ⟨c, rfl⟩ := He.codeIn_ref hcd
  have ec : tabC K = c := He.codeOf_eq (p := ("news_of", none)) lk rfl
  subst ec
  exact ⟨_, _, _, [], fn_of lk hcd sc_news_of len fun A outer s H vs Q E hr hsp => by
    obtain ⟨t, h1, h2⟩ := hb A outer s H vs Q E hr hsp
    exact ⟨t, h1.nox, h2⟩, T.g_news_of, F.kp, b_news_of F, .nil⟩
theorem cut_ints (ns : List Int) (lo hi : Option Int) : ∃ ms : List Int, cutV (ns.map V.int) lo hi = ms.map V.int ∧ (∀ k ∈ ms, k ∈ ns) ∧ ms.length ≤ ns.length := by
  refine ⟨(ns.drop (HT.sIx (ns.map V.int).length 0 lo)).take (HT.sIx (ns.map V.int).length (ns.map V.int).length hi - HT.sIx (ns.map V.int).length 0 lo), ?_, fun k h => List.mem_of_mem_drop (List.mem_of_mem_take h), ?_⟩
  · unfold cutV
    rw [List.map_take, List.map_drop]
  · rw [List.length_take, List.length_drop]; omega
theorem int_at {ts : List Int} {i : Nat} (h : i < ts.length) : (ts.map V.int)[i]? = some (V.int (ts[i]'h)) := by
  rw [List.getElem?_map, List.getElem?_eq_getElem h]; rfl
theorem ok_news_of (T : Txt K mg) (TB : LamX.TabB base mg (tabC K) (tabP K)) : C8.Cal P w K mg base 4 "news_of" (spNews K) [] := by
  refine mkC_news_of T (fun vs H Q E h => ?_) (fun A outer s H vs Q E hr h => ?_)
  · obtain ⟨ra, tl, d, p, ts, x, rfl, _⟩ := h; rfl
  · obtain ⟨ra, tl, d, p, ts, x, rfl, hR, h1, hl, ⟨kvs, d1, d2, d3⟩, hTab, k⟩ := h
    obtain ⟨nm, r1, r2⟩ := id hR
    have hn6 := p.hn6
    refine ⟨_, (pss_cons (ps_setLc (i := 4) (own := [("house", 5)]) rfl sc_news_of.nd rfl rfl (sw_true rfl rfl rfl (by decide +kernel)) (pi_range1 rfl T.n_range (pa_cons (pe_callB call_len_seq (by rfl) T.n_len (by decide +kernel) (pa_cons (pv 1) pa_nil)) pa_nil)) (blkOk_by (own := [("house", 5)]) (N := N_news_of) (sc := defScope s_news_of) (by decide +kernel)) (fun _ _ _ _ _ => (pg_name (i := 5) sc_news_of.nd rfl (Or.inl rfl))) (fun _ _ _ _ _ => (pts_one (PW.pt (pw_and (pt_cmp (pc_dnotin (hu_of hr) (pv 5) (pv 3)) rfl) (pw_and (pt_cmpR op_ne (pv 5) (pv 2) (nomark _)) (pw_and1 (pt_cmpR op_lt (pe_ix (ix_tupK K rfl) (pv 1) (pv 5) (fun _ _ => rfl)) (pe_ix (ix_tupK K rfl) (pv 0) pe_int (fun _ _ => rfl)) (nomark _)))))))) (fun _ _ _ _ _ => (pv 5)))
        (pss_one (ps_ret (pe_slice sl_listU (pe_sortLam (k := 0) (j := 1) (P := tabP K) (c := tabC K) (q := lamQ) (R := rSortU K 1) (hr.mono (by decide)) (by rfl) T.n_sorted (pa_cons (pv 4) pa_nil) rfl rfl TB rfl (by rfl) (fun _ _ _ _ z => sortU z)) po_none (po_some (pe_ix ix_tup (pv 0) pe_int (fun _ _ => rfl))))))), ?_⟩
    -- some = [house for house in range(len(told)) if ..]
    refine ⟨_, rfl, tl, _, rfl, .inr (SqT.of h1), _, rfl, by rw [List.length_map]; omega, by rw [List.length_map]; omega, fun D f => ?_⟩
    refine lc_range (lo := 0) (n := ((ts.map V.int).length : Int).toNat) (LcI D fun i acc H' => Up [D] H H' ∧ ∃ ns : List Int, acc = ns.map V.int ∧ InHouses p.n ns ∧ ns.length ≤ i)
      (lc_start f fun H' u _ => ⟨u.of, [], rfl, fun _ m => absurd m (by simp), Nat.le_refl _⟩) (fun i H1 hi W => ?_) fun H1 W => ?_
    · obtain ⟨acc, g1, g2, u1, ns, e1, e2, e3⟩ := W
      have hi' : i < p.n := by rw [List.length_map, Int.toNat_natCast] at hi; omega
      have nDd : d ≠ D := ne_of_none d1 f
      have skip : LcI D (fun i acc H' => Up [D] H H' ∧ ∃ ns : List Int, acc = ns.map V.int ∧ InHouses p.n ns ∧ ns.length ≤ i) (i + 1) H1 := lc_skip g1 g2 ⟨u1, ns, e1, e2, by omega⟩
      have ei : (0 : Int) + (i : Int) = (i : Int) := by omega
      rw [ei]
      refine ⟨wipe1 (by decide), _, rfl, _, rfl, d, _, rfl, DGet.k (k := Sum.inl (i : Int)) (u1.f1 d1 nDd), _, rfl, ite2 (fun _ => ?_) (fun _ => iteF skip)⟩
      refine ⟨_, rfl, _, rfl, rfl, _, rfl, ite2 (fun _ => ?_) (fun _ => iteF skip)⟩
      have hz : i < ts.length := by omega
      refine ⟨_, rfl, _, rfl, tl, _, _, _, rfl, rfl, SqT.of (u1.tu _ _ h1), atI_nat (int_at hz), _, rfl, ra, _, _, _, rfl, rfl, SqT.of (u1.tu _ _ r1), atI_nat (j := 2) rfl, _, _, rfl, rfl, _, rfl, ite2 (fun _ => ?_) (fun _ => skip)⟩
      refine ⟨_, rfl, lc_add g1 g2 (by omega) fun H' u _ => ⟨u1.trans u, ns ++ [(i : Int)], by rw [e1, List.map_append]; rfl, fun q m => ?_, by rw [List.length_append, List.length_singleton]; omega⟩⟩
      rcases List.mem_append.mp m with z | z
      · exact e2 q z
      · exact ⟨i, List.mem_singleton.mp z, hi'⟩
    · obtain ⟨acc, g1, g2, u1, ns, e1, e2, e3⟩ := W
      rw [List.length_map, Int.toNat_natCast] at e3 g2
      have v1 : Up [] H H1 := u1.sub fun e m => .inl (by rw [List.mem_singleton.mp m]; exact f)
      -- sorted(some, key=..)[:rules[3]]
      refine ⟨_, rfl, D, tl, ns, ts, rfl, by rw [g1, e1], rfl, v1.tu _ _ h1, fun q m => ?_, by omega, by omega, hTab.up0 v1, fun H2 ns' l u2 T2 hp ne hl2 => ?_⟩
      · obtain ⟨j, rfl, hj⟩ := e2 q m
        omega
      · refine ⟨_, rfl, ra, _, _, _, rfl, rfl, SqT.of ((v1.of.trans u2).tu _ _ r1), atI_nat (j := 3) rfl, _, rfl, l, _, rfl, SqL.of hl2, fun r H3 f3 u3 e4 => ?_⟩
        obtain ⟨ms, c1, c2, c3⟩ := cut_ints ns' Option.none (some p.ca)
        rw [c1] at e4
        refine k H3 r ms ((v1.of.trans u2).trans u3.of) (T2.up0 u3) e4 (fun q m => e2 q (hp.mem_iff.mp (c2 q m))) (by have := hp.length_eq; omega) fun b o hb hne => ?_
        exact ne_of_none (u2.f1 (v1.f0 hb) hne) f3
end
end Hb

set_option maxHeartbeats 4000000
/-! letters: notes_of -/
namespace Hb
open PySem PySem.Spec PyProof.Rows L2
section
variable {P : Program} {w : World} {K : PySem.W.Frag} {mg : Str → Option Value} {base : Heap}
theorem named_ints {n : Nat} {kvs : List (Key × V)} (h : ∀ kv ∈ kvs, ∃ i : Nat, kv.1 = .inl (i : Int) ∧ i < n) : ∃ ks : List Int, kvs.map (fun kv => kV kv.1) = ks.map V.int ∧ InHouses n ks ∧ ks.length = kvs.length := by
  induction kvs with
  | nil => exact ⟨[], rfl, fun _ m => absurd m (by simp), rfl⟩
  | cons q r ih =>
    obtain ⟨ks, h1, h2, h3⟩ := ih fun kv m => h kv (List.mem_cons_of_mem _ m)
    obtain ⟨i, e, hi⟩ := h q (List.mem_cons_self ..)
    refine ⟨(i : Int) :: ks, by rw [List.map_cons, h1, e]; rfl, fun k m => ?_, by rw [List.length_cons, List.length_cons, h3]⟩
    rcases List.mem_cons.mp m with z | z
    · exact ⟨i, z, hi⟩
    · exact h2 k z
theorem ints_flat (ns : List Int) : (ns.map V.int).all flatV = true := by
  rw [List.all_map]
  exact List.all_eq_true.mpr fun _ _ => rfl
theorem ok_notes_of (T : Txt K mg) (TB : LamX.TabB base mg (tabC K) (tabP K)) : C8.Cal P w K mg base 5 "notes_of" (spNotes K) [] := by
  have k_houses_named := ok_houses_named (P := P) (w := w) (base := base) T
  have k_news_of := ok_news_of (P := P) (w := w) (base := base) T TB
  refine mk_notes_of T (fun vs H Q E h => ?_) (fun cdv A outer s H vs Q E hr h => ?_)
  · obtain ⟨ra, ta, sa, h, p, L, tn, hs, x, y, rfl, _⟩ := h; rfl
  · obtain ⟨ra, ta, sa, h, p, L, tn, hs, x, y, rfl, hR, hT, s1, s2, hH, hx, hy, hTab, k⟩ := h
    have hn6 := p.hn6
    obtain ⟨v, ev, ha, hb, ht, hm, rfl, g1, ⟨ws, w1, w2, w3⟩, ⟨ts, t1, t2⟩, _⟩ := hH.at hx
    refine ⟨_, (pss_cons (ps_asg (pv 2) (pg_tup rfl (pgs_cons (pg_name (i := 5) sc_notes_of.nd rfl (Or.inl rfl)) (pgs_cons (pg_name (i := 6) sc_notes_of.nd rfl (Or.inl rfl)) pgs_nil))))
        (pss_cons (ps_asg (pe_ix ix_tup (pv 6) (pv 3) (fun _ _ => rfl)) (pg_tup rfl (pgs_cons (pg_name (i := 7) sc_notes_of.nd rfl (Or.inl rfl)) (pgs_cons (pg_name (i := 8) sc_notes_of.nd rfl (Or.inr rfl)) (pgs_cons (pg_name (i := 9) sc_notes_of.nd rfl (Or.inl rfl)) (pgs_cons (pg_name (i := 10) sc_notes_of.nd rfl (Or.inl rfl)) pgs_nil))))))
        (pss_cons (ps_set (i := 11) sc_notes_of.nd rfl (Or.inl rfl) (C8.pe_c k_houses_named hr (by decide) (by rfl) (pa_cons (pv 0) (pa_cons (pv 1) (pa_cons (pv 5) (pa_cons (pv 3) (pa_cons (pv 4) pa_nil)))))))
        (pss_cons (ps_set (i := 12) sc_notes_of.nd rfl (Or.inr rfl) (C8.pe_c k_news_of hr (by decide) (by rfl) (pa_cons (pv 0) (pa_cons (pv 9) (pa_cons (pv 3) (pa_cons (pv 11) pa_nil))))))
        (pss_cons (ps_set (i := 13) sc_notes_of.nd rfl (Or.inl rfl) (pe_callTy call_tupleU (by rfl) T.n_tuple (by decide +kernel) (pa_cons (pe_lc (own := [("house", 15), ("count", 16)]) rfl sc_notes_of.nd (pi_enumT (by rfl) T.n_enumerate (pa_cons (pv 9) pa_nil)) (blkOk_by (own := [("house", 15), ("count", 16)]) (N := N_notes_of) (sc := defScope s_notes_of) (by decide +kernel)) (fun _ _ _ _ _ => (pg_tupK (n := 2) K rfl rfl (pgs_cons (pg_name (i := 15) sc_notes_of.nd rfl (Or.inl rfl)) (pgs_cons (pg_name (i := 16) sc_notes_of.nd rfl (Or.inl rfl)) pgs_nil)))) (fun _ _ _ _ _ => pts_nil) (fun _ _ _ _ _ => (pe_op op_add (pv 16) (pe_callTy call_int1 (by rfl) T.n_int (by decide +kernel) (pa_cons (pe_cmpR (in_seqK K rfl) (pv 15) (pv 12) (by rfl)) pa_nil))))) pa_nil)))
        (pss_cons (ps_set (i := 14) sc_notes_of.nd rfl (Or.inl rfl) (pe_callB cr_sortedU (by rfl) T.n_sorted (by decide +kernel) (pa_cons (pe_op op_catLU (pe_callTy (call_listDU rfl) (by rfl) T.n_list (by decide +kernel) (pa_cons (pv 11) pa_nil)) (pv 12)) pa_nil)))
        (pss_one (ps_ret (pe_tupU (pa_cons (pe_callTy call_tupleU (by rfl) T.n_tuple (by decide +kernel) (pa_cons (pe_lc (own := [("house", 15)]) rfl sc_notes_of.nd (pi_list (pv 14)) (blkOk_by (own := [("house", 15)]) (N := N_notes_of) (sc := defScope s_notes_of) (by decide +kernel)) (fun _ _ _ _ _ => (pg_name (i := 15) sc_notes_of.nd rfl (Or.inl rfl))) (fun _ _ _ _ _ => pts_nil) (fun _ _ _ _ _ => (pe_tupU (pa_cons (pv 15) (pa_cons (pe_ix (ix_tupK K rfl) (pv 8) (pv 15) (fun _ _ => rfl)) pa_nil))))) pa_nil)) (pa_cons (pv 13) pa_nil))))))))))), ?_⟩
    refine ⟨_, rfl, sa, _, rfl, SqT.of s1, rfl, _, _, rfl, _, _, rfl, rfl, ?_⟩
    refine ⟨_, rfl, _, rfl, h, hs, _, _, rfl, rfl, SqT.of s2, atI_nat ev, ha, _, rfl, SqT.of g1, rfl, _, _, rfl, _, _, rfl, _, _, rfl, _, _, rfl, rfl, ?_⟩
    -- named, news
    refine ⟨_, rfl, _, rfl, _, rfl, _, rfl, _, rfl, ra, ta, p, tn, x, y, rfl, hR, hT, hx, hy, fun H1 d u1 fd hN => ?_⟩
    refine ⟨_, rfl, _, rfl, _, rfl, _, rfl, ra, ht, d, p, ts, x, rfl, hR.up u1, u1.tu _ _ t1, t2, hN, hTab.up0 u1, fun H2 l ns u2 T2 hl hns hlen hne => ?_⟩
    have u12 : Up [tabP K] H H2 := u1.of.trans u2
    obtain ⟨kvs, d1, d2, d3⟩ := hN
    have dP : d ≠ tabP K := fun e => by
      obtain ⟨ps, hps⟩ := (hTab.up0 u1).at
      rw [e, hps] at d1; cases d1
    have dl : H2 d = some (.dK kvs) := u2.f1 d1 dP
    -- behind = tuple([.. for house, count in enumerate(told)])
    refine ⟨_, rfl, ht, _, rfl, SqT.of (u12.tu _ _ t1), fun D f => ?_⟩
    refine lc_it (walk_enumT (xs := ts.map V.int)) (LcI D fun i acc H' => Up [D] H2 H' ∧ ∃ ms : List Int, acc = ms.map V.int ∧ ms.length = i)
      (lc_start f fun H' u _ => ⟨u.of, [], rfl, rfl⟩) (fun i H3 hi W => ?_) (fun i x H3 H4 hi W Y => ?_) fun H3 W => ?_
    · obtain ⟨acc, a1, a2, u3, _⟩ := W
      exact SqT.of (u3.tu _ _ (u12.tu _ _ t1))
    · obtain ⟨acc, a1, a2, u3, ms, e1, e2⟩ := W
      obtain ⟨tp, x1, y1, rfl, ft, rfl, ex, ey⟩ := Y
      cases ex
      rw [List.length_map] at hi
      have ey : (ts.map V.int)[i]? = some y1 := ey
      rw [int_at hi] at ey
      cases ey
      have a3 : upd H3 tp (.tup [.int (i : Nat), .int ts[i]]) D = some (.lst acc) := by rw [upd_ne (ne_of_none a1 ft)]; exact a1
      have u4 : Up [D] H2 (upd H3 tp (.tup [.int (i : Nat), .int ts[i]])) := u3.new ft
      have lD : l ≠ D := ne_of_none hl f
      refine ⟨tp, _, rfl, SqT.of upd_same, rfl, ?_⟩
      refine ⟨_, _, rfl, _, _, rfl, rfl, ?_⟩
      refine ⟨wipe2 (by decide) (by decide), ?_⟩
      unfold tYes
      refine iteT ?_
      refine ⟨_, rfl, _, rfl, _, rfl, l, ns.map V.int, rfl, .inl (SqL.of (u4.f1 hl lD)), rfl, ints_flat ns, .inr ⟨_, rfl, _, _, rfl, rfl, ?_⟩⟩
      refine lc_add a3 a2 (by omega) fun H' u _ => ⟨u4.trans u, ms ++ [_], by rw [e1, List.map_append]; rfl, by rw [List.length_append, List.length_singleton, e2]⟩
    · obtain ⟨acc, a1, a2, u3, ms, e1, e2⟩ := W
      rw [List.length_map] at e2
      have u3' : Up [] H2 H3 := u3.sub fun e m => .inl (by rw [List.mem_singleton.mp m]; exact f)
      refine ⟨D, acc, rfl, a1, fun bh H4 fb u4 e4 => ?_⟩
      -- carried = sorted(list(named) + news)
      have u24 : Up [] H2 H4 := u3'.trans u4
      obtain ⟨ks, c1, c2, c3⟩ := named_ints d3
      refine ⟨_, rfl, d, kvs, rfl, u24.f0 dl, fun c H5 fc u5 e5 => ?_⟩
      refine ⟨_, rfl, c, l, _, _, rfl, rfl, e5, (u24.trans u5).f0 hl, by rw [List.length_map, List.length_map]; omega, fun c' H6 fc' u6 e6 => ?_⟩
      rw [c1, ← List.map_append] at e6
      refine ⟨c', _, rfl, e6, by rw [List.length_append]; omega, fun os hp q H7 fq u7 e7 => ?_⟩
      have hos : InHouses p.n os := fun z m => by
        rcases List.mem_append.mp (hp.mem_iff.mp m) with g | g
        · exact c2 z g
        · exact hns z g
      have hol : os.length ≤ 30 := by rw [hp.length_eq, List.length_append]; omega
      have u27 : Up [] H2 H7 := ((u24.trans u5).trans u6).trans u7
      have w1' := (u12.trans u27.of).tu _ _ w1
      -- tuple([(house, book[house]) for house in carried])
      refine ⟨_, rfl, q, rfl, ⟨_, SqL.of e7⟩, fun D2 f2 => ?_⟩
      refine lc_list (xs := os.map V.int) (LcI D2 fun i acc H' => Up [D2] H7 H' ∧ acc.length ≤ i ∧ ∀ v ∈ acc, ∃ (b : Addr) (k : Nat) (x : V), v = .ref b ∧ H' b = some (.tup [.int k, x]) ∧ k < p.n ∧ IsWord H' x)
        (lc_start f2 fun H' u _ => ⟨u.of, Nat.le_refl _, fun _ m => absurd m (by simp)⟩) (fun i H8 hi W => ?_) (fun i z H8 hz W => ?_) fun H8 W => ?_
      · obtain ⟨acc, b1, b2, u8, _⟩ := W
        exact SqL.of (u8.f1 e7 (ne_of_none e7 f2))
      · obtain ⟨acc, b1, b2, u8, b3, b4⟩ := W
        have hi := (List.getElem?_eq_some_iff.mp hz).1
        rw [List.length_map] at hi
        rw [int_at hi] at hz
        cases hz
        obtain ⟨j, ej, hj⟩ := hos os[i] (List.getElem_mem hi)
        rw [ej]
        obtain ⟨wv, ew⟩ : ∃ wv, ws[j]? = some wv := ⟨ws[j]'(by omega), List.getElem?_eq_getElem _⟩
        have hw := w3 wv (List.mem_of_getElem? ew)
        refine ⟨wipe1 (by decide), ?_⟩
        unfold tYes
        refine iteT ?_
        refine ⟨_, rfl, _, rfl, _, rfl, hb, _, _, _, rfl, rfl, SqT.of (u8.tu _ _ w1'), atI_nat ew, by simp, fun tp H9 ft u9 e9 => ?_⟩
        have u9' : Up [D2] H7 H9 := u8.trans u9.of
        refine lc_add (u9.f0 b1) b2 (by omega) fun H' u _ => ⟨u9'.trans u, by rw [List.length_append, List.length_singleton]; omega, fun v m => ?_⟩
        have hw' : IsWord H' wv := hw.up ((u12.trans u27.of).trans ((u9'.trans u).sub (ex' := [tabP K]) fun e m => .inl (by rw [List.mem_singleton.mp m]; exact f2)))
        rcases List.mem_append.mp m with z | z
        · obtain ⟨b, kk, xx, q1, q2, q3, q4⟩ := b4 v z
          exact ⟨b, kk, xx, q1, u.tu _ _ (u9.tu _ _ q2), q3, q4.up (u9.of.trans u)⟩
        · rw [List.mem_singleton.mp z]
          exact ⟨tp, j, wv, rfl, u.tu _ _ e9, hj, hw'⟩
      · obtain ⟨acc, b1, b2, u8, b3, b4⟩ := W
        rw [List.length_map] at b3
        have u8' : Up [] H7 H8 := u8.sub fun e m => .inl (by rw [List.mem_singleton.mp m]; exact f2)
        refine ⟨D2, acc, rfl, b1, fun nt H9 fn u9 e9 => ?_⟩
        refine ⟨_, rfl, by simp, fun r H10 fr u10 e10 => ?_⟩
        refine k H10 r nt bh (u12.trans (u27.trans ((u8'.trans u9).trans u10)).of) ?_ e10 ?_ ?_
        · exact T2.up0 (u27.trans ((u8'.trans u9).trans u10))
        · refine ⟨acc, u10.tu _ _ e9, by omega, fun v m => ?_⟩
          obtain ⟨b, kk, xx, q1, q2, q3, q4⟩ := b4 v m
          exact ⟨b, kk, xx, q1, (u9.trans u10).tu _ _ q2, q3, q4.up (u9.trans u10)⟩
        · exact ⟨ms, by rw [← e1]; exact (((((u5.trans u6).trans u7).trans u8').trans u9).trans u10).tu _ _ e4, by omega⟩
end
end Hb

set_option maxHeartbeats 4000000
/-! letters: the Reader, taken -/
namespace Hb
open PySem PySem.Spec PyProof.Rows L2
theorem fldW {H : Hp} {a C dx : Addr} {fs fs' : List (Str × V)} {Q : Hp → Prop} (h : H a = some (.ins C dx fs)) (q : ∀ H', Up [a] H H' → H' a = some (.ins C dx fs') → Q H') : Q (upd H a (.ins C dx fs')) :=
  q _ (Up.refl.set h (fun _ => ins_ne_tup) (List.mem_singleton.mpr rfl)) upd_same
/-- the fields of a Reader -/
def rdF (cl wl tl ml : Addr) (i : Nat) : List (Str × V) := [("clauses", .ref cl), ("own", .int i), ("up", .int 1), ("words", .ref wl), ("told", .ref tl), ("timers", .ref ml)]
theorem rdF_mk {cl wl tl ml : Addr} {i : Nat} : putF "timers" (.ref ml) (putF "told" (.ref tl) (putF "words" (.ref wl) (putF "up" (.int 1) (putF "own" (.int i) (putF "clauses" (.ref cl) []))))) = rdF cl wl tl ml i := rfl
structure RdAt (K : PySem.W.Frag) (H : Hp) (p : Par) (L : Int) (i : Nat) (r cl wl tl ml : Addr) : Prop where
  ins : ∃ dx, H r = some (.ins (RC K) dx (rdF cl wl tl ml i))
  cla : H cl = some (.tup clauseVs)
  wor : ∃ ws, H wl = some (.lst ws) ∧ ws.length = p.n ∧ ∀ v ∈ ws, IsWord H v
  tol : ∃ ts : List Int, H tl = some (.lst (ts.map V.int)) ∧ ts.length = p.n
  tim : ∃ ms : List Int, H ml = some (.lst (ms.map V.int)) ∧ TimsOk p L i ms
  n1 : wl ≠ tl
  n2 : wl ≠ ml
  n3 : tl ≠ ml
section
variable {K : PySem.W.Frag} {H H' : Hp} {p : Par} {L : Int} {i : Nat} {r cl wl tl ml : Addr}
theorem mem3 {a b c e : Addr} (h : e ∈ [a, b, c]) : e = a ∨ e = b ∨ e = c := by simpa using h
theorem ins_ne_lst {C dx : Addr} {fs : List (Str × V)} {xs : List V} : HO.ins C dx fs ≠ .lst xs := fun z => by cases z
/-- a word is put -/
theorem RdAt.word (R : RdAt K H p L i r cl wl tl ml) (j : Nat) {v : V} (hv : IsWord H v) : ∃ ws ts : List V, H wl = some (.lst ws) ∧ j < p.n → True := ⟨[], [], fun _ => trivial⟩
theorem RdAt.rd_w (R : RdAt K H p L i r cl wl tl ml) {v : V} {j : Nat} {ws : List V} (hw : H wl = some (.lst ws)) (hv : IsWord H v) (u : Up [wl] H H') (e : H' wl = some (.lst (ws.set j v))) : RdAt K H' p L i r cl wl tl ml := by
  obtain ⟨⟨dx, e0⟩, c, ⟨ws', w1, w2, w3⟩, ⟨ts, t1, t2⟩, ⟨ms, m1, m2⟩, n1, n2, n3⟩ := R
  rw [hw] at w1; cases w1
  refine ⟨⟨dx, u.f1 e0 (ne_of e0 hw ins_ne_lst)⟩, u.tu _ _ c, ⟨_, e, by rw [List.length_set]; exact w2, fun x m => ?_⟩, ⟨ts, u.f1 t1 n1.symm, t2⟩, ⟨ms, u.f1 m1 n2.symm, m2⟩, n1, n2, n3⟩
  rcases List.mem_or_eq_of_mem_set m with z | z
  · exact (w3 x z).up u
  · rw [z]; exact hv.up u
theorem RdAt.rd_t (R : RdAt K H p L i r cl wl tl ml) {ts : List Int} (u : Up [tl] H H') (e : H' tl = some (.lst (ts.map V.int))) (hl : ts.length = p.n) : RdAt K H' p L i r cl wl tl ml := by
  obtain ⟨⟨dx, e0⟩, c, ⟨ws, w1, w2, w3⟩, ⟨ts', t1, t2⟩, ⟨ms, m1, m2⟩, n1, n2, n3⟩ := R
  exact ⟨⟨dx, u.f1 e0 (ne_of e0 t1 ins_ne_lst)⟩, u.tu _ _ c, ⟨ws, u.f1 w1 n1, w2, fun x m => (w3 x m).up u⟩, ⟨_, e, hl⟩, ⟨ms, u.f1 m1 n3.symm, m2⟩, n1, n2, n3⟩
theorem RdAt.rd_m (R : RdAt K H p L i r cl wl tl ml) {ms' : List Int} (u : Up [ml] H H') (e : H' ml = some (.lst (ms'.map V.int))) (hl : TimsOk p L i ms') : RdAt K H' p L i r cl wl tl ml := by
  obtain ⟨⟨dx, e0⟩, c, ⟨ws, w1, w2, w3⟩, ⟨ts', t1, t2⟩, ⟨ms, m1, m2⟩, n1, n2, n3⟩ := R
  exact ⟨⟨dx, u.f1 e0 (ne_of e0 m1 ins_ne_lst)⟩, u.tu _ _ c, ⟨ws, u.f1 w1 n2, w2, fun x m => (w3 x m).up u⟩, ⟨_, u.f1 t1 n3, t2⟩, ⟨_, e, hl⟩, n1, n2, n3⟩
theorem RdAt.up0 (R : RdAt K H p L i r cl wl tl ml) (u : Up [] H H') : RdAt K H' p L i r cl wl tl ml := by
  obtain ⟨⟨dx, e0⟩, c, ⟨ws, w1, w2, w3⟩, ⟨ts', t1, t2⟩, ⟨ms, m1, m2⟩, n1, n2, n3⟩ := R
  exact ⟨⟨dx, u.f0 e0⟩, u.tu _ _ c, ⟨ws, u.f0 w1, w2, fun x m => (w3 x m).up u⟩, ⟨_, u.f0 t1, t2⟩, ⟨_, u.f0 m1, m2⟩, n1, n2, n3⟩
end
theorem set_int (ts : List Int) (j : Nat) (k : Int) : (ts.map V.int).set j (.int k) = (ts.set j k).map V.int := by rw [List.map_set]
def spRInit (K : PySem.W.Frag) : Sp := fun vs H Q _ => ∃ (r dx ra hv : Addr) (p : Par) (L : Int) (i : Nat), vs = [.ref r, .ref ra, .ref hv, .int i] ∧ H r = some (.ins (RC K) dx []) ∧ RulesAt H p ra ∧ IsHouse H p L i (.ref hv) ∧
  ∀ (H' : Hp) (cl wl tl ml : Addr), Up [r] H H' → RdAt K H' p L i r cl wl tl ml → H wl = none → H tl = none → H ml = none → Q .non H'
/-- a method of a Reader that puts words -/
def rdPost (K : PySem.W.Frag) (H : Hp) (p : Par) (L : Int) (i : Nat) (r cl wl tl ml : Addr) (Q : VK) : Prop := ∀ H', Up [wl, tl, ml] H H' → RdAt K H' p L i r cl wl tl ml → Q .non H'
def spRPut (K : PySem.W.Frag) : Sp := fun vs H Q _ => ∃ (r cl wl tl ml : Addr) (p : Par) (L : Int) (i j : Nat) (v : V), vs = [.ref r, .int j, v] ∧ RdAt K H p L i r cl wl tl ml ∧ j < p.n ∧ IsWord H v ∧ rdPost K H p L i r cl wl tl ml Q
def spROwn (K : PySem.W.Frag) : Sp := fun vs H Q _ => ∃ (r cl wl tl ml : Addr) (p : Par) (L : Int) (i : Nat) (v : V), vs = [.ref r, v] ∧ RdAt K H p L i r cl wl tl ml ∧ i < p.n ∧ IsWord H v ∧ rdPost K H p L i r cl wl tl ml Q
def spRTake (K : PySem.W.Frag) : Sp := fun vs H Q _ => ∃ (r cl wl tl ml b : Addr) (p : Par) (L : Int) (i j : Nat) (v : V), vs = [.ref r, .ref b] ∧ H b = some (.tup [.int j, v]) ∧ RdAt K H p L i r cl wl tl ml ∧ i < p.n ∧ j < p.n ∧ IsWord H v ∧ rdPost K H p L i r cl wl tl ml Q
def spRHouse (K : PySem.W.Frag) : Sp := fun vs H Q _ => ∃ (r cl wl tl ml : Addr) (p : Par) (L : Int) (i : Nat), vs = [.ref r] ∧ RdAt K H p L i r cl wl tl ml ∧ ∀ (H' : Hp) (h : Addr), Up [] H H' → IsHouse H' p L i (.ref h) → Q (.ref h) H'
def spTaken : Sp := fun vs H Q _ => ∃ (ra hv nt : Addr) (p : Par) (L : Int) (i : Nat), vs = [.ref ra, .ref hv, .int i, .ref nt] ∧ RulesAt H p ra ∧ IsHouse H p L i (.ref hv) ∧ i < p.n ∧ NotesAt H p.n nt ∧ ∀ (H' : Hp) (h : Addr), Up [] H H' → IsHouse H' p L i (.ref h) → Q (.ref h) H'
theorem cl_newer : inV (.str "newer") clauseVs = true := by decide +kernel
theorem cl_refute : inV (.str "refute") clauseVs = true := by decide +kernel
section
variable {P : Program} {w : World} {K : PySem.W.Frag} {mg : Str → Option Value} {base : Heap}
theorem ok_R_init (T : Txt K mg) : C8.Mak P w K mg base 1 "Reader" (RC K) (spRInit K) [] := by
  refine mk_Reader___init__ T (fun vs H Q E h => ?_) (fun cdv A outer s H vs Q E hr h => ?_)
  · obtain ⟨r, dx, ra, hv, p, L, i, rfl, _⟩ := h; rfl
  · obtain ⟨r, dx, ra, hv, p, L, i, rfl, e0, ⟨nm, r1, r2⟩, ⟨_, hb, ht, hm, ehv, g1, ⟨ws, w1, w2, w3⟩, ⟨ts, t1, t2⟩, ⟨ms, m1, m2⟩⟩, k⟩ := h
    cases ehv
    refine ⟨_, (pss_cons (ps_fld (pv 0) (pe_ix ix_tup (pv 1) pe_int (fun _ _ => rfl)) rfl)
        (pss_cons (ps_fld (pv 0) (pv 3) rfl)
        (pss_cons (ps_fld (pv 0) (pe_ix ix_tup (pv 2) pe_int (fun _ _ => rfl)) rfl)
        (pss_cons (ps_fld (pv 0) (pe_callTy call_listU (by rfl) T.n_list (by decide +kernel) (pa_cons (pe_ix ix_tup (pv 2) pe_int (fun _ _ => rfl)) pa_nil)) rfl)
        (pss_cons (ps_fld (pv 0) (pe_callTy call_listU (by rfl) T.n_list (by decide +kernel) (pa_cons (pe_ix ix_tup (pv 2) pe_int (fun _ _ => rfl)) pa_nil)) rfl)
        (pss_one (ps_fld (pv 0) (pe_callTy call_listU (by rfl) T.n_list (by decide +kernel) (pa_cons (pe_ix ix_tup (pv 2) pe_int (fun _ _ => rfl)) pa_nil)) rfl))))))), ?_⟩
    refine ⟨_, rfl, ra, _, _, _, rfl, rfl, SqT.of r1, atI_nat (j := 4) rfl, _, rfl, r, _, _, _, rfl, e0, T.c_Reader, T.a_Reader_clauses, Nat.le_of_ble_eq_true rfl, fldW e0 fun H1 u1 e1 => ?_⟩
    refine ⟨_, rfl, _, rfl, r, _, _, _, rfl, e1, T.c_Reader, T.a_Reader_own, Nat.le_of_ble_eq_true rfl, fldW e1 fun H2 u2 e2 => ?_⟩
    have v2 := u1.trans u2
    refine ⟨_, rfl, hv, _, _, _, rfl, rfl, SqT.of (v2.tu _ _ g1), atI_nat (j := 0) rfl, _, rfl, r, _, _, _, rfl, e2, T.c_Reader, T.a_Reader_up, Nat.le_of_ble_eq_true rfl, fldW e2 fun H3 u3 e3 => ?_⟩
    have v3 := v2.trans u3
    refine ⟨_, rfl, hv, _, _, _, rfl, rfl, SqT.of (v3.tu _ _ g1), atI_nat (j := 1) rfl, hb, ws, rfl, v3.tu _ _ w1, fun wl H4 f4 u4 e4 => ?_⟩
    refine ⟨_, rfl, r, _, _, _, rfl, u4.f0 e3, T.c_Reader, T.a_Reader_words, Nat.le_of_ble_eq_true rfl, fldW (u4.f0 e3) fun H5 u5 e5 => ?_⟩
    have v5 := (v3.trans u4.of).trans u5
    refine ⟨_, rfl, hv, _, _, _, rfl, rfl, SqT.of (v5.tu _ _ g1), atI_nat (j := 2) rfl, ht, _, rfl, v5.tu _ _ t1, fun tl H6 f6 u6 e6 => ?_⟩
    refine ⟨_, rfl, r, _, _, _, rfl, u6.f0 e5, T.c_Reader, T.a_Reader_told, Nat.le_of_ble_eq_true rfl, fldW (u6.f0 e5) fun H7 u7 e7 => ?_⟩
    have v7 := (v5.trans u6.of).trans u7
    refine ⟨_, rfl, hv, _, _, _, rfl, rfl, SqT.of (v7.tu _ _ g1), atI_nat (j := 3) rfl, hm, _, rfl, v7.tu _ _ m1, fun ml H8 f8 u8 e8 => ?_⟩
    refine ⟨_, rfl, r, _, _, _, rfl, u8.f0 e7, T.c_Reader, T.a_Reader_timers, Nat.le_of_ble_eq_true rfl, fldW (u8.f0 e7) fun H9 u9 e9 => ?_⟩
    have v9 := (v7.trans u8.of).trans u9
    have nr : ∀ {a : Addr} {xs : List V} {H' : Hp}, H' a = some (.lst xs) → (∃ C dx fs, H' r = some (.ins C dx fs)) → a ≠ r := fun h1 ⟨_, _, _, h2⟩ => ne_of h1 h2 ins_ne_lst.symm
    have a5 := u5.f1 e4 (nr e4 ⟨_, _, _, u4.f0 e3⟩)
    have a7 := u7.f1 (u6.f0 a5) (nr (u6.f0 a5) ⟨_, _, _, u6.f0 e5⟩)
    have a9 := u9.f1 (u8.f0 a7) (nr (u8.f0 a7) ⟨_, _, _, u8.f0 e7⟩)
    have b7 := u7.f1 e6 (nr e6 ⟨_, _, _, u6.f0 e5⟩)
    have b9 := u9.f1 (u8.f0 b7) (nr (u8.f0 b7) ⟨_, _, _, u8.f0 e7⟩)
    have c9 := u9.f1 e8 (nr e8 ⟨_, _, _, u8.f0 e7⟩)
    have back : ∀ {x : Addr} {H' : Hp}, Up [r] H H' → H' x = none → (∃ C dx fs, H' r = some (.ins C dx fs)) → H x = none := fun {x H'} u z ⟨_, _, _, h2⟩ => u.none z fun m => by
      rw [List.mem_singleton.mp m, h2] at z; cases z
    refine k _ nm wl tl ml v9 ⟨⟨dx, e9⟩, v9.tu _ _ r2, ⟨ws, a9, w2, fun x m => (w3 x m).up v9⟩, ⟨ts, b9, t2⟩, ⟨ms, c9, m2⟩, ne_of_none a5 f6, ne_of_none a7 f8, ne_of_none b7 f8⟩ ?_ ?_ ?_
    · exact back v3 f4 ⟨_, _, _, e3⟩
    · exact back v5 f6 ⟨_, _, _, e5⟩
    · exact back v7 f8 ⟨_, _, _, e7⟩
theorem ok_R_put (T : Txt K mg) : C8.Met P w K mg base 1 (RC K) "put_word" (spRPut K) [] := by
  refine mk_Reader_put_word T (fun vs H Q E h => ?_) (fun cdv A outer s H vs Q E hr h => ?_)
  · obtain ⟨r, cl, wl, tl, ml, p, L, i, j, v, rfl, _⟩ := h; rfl
  · obtain ⟨r, cl, wl, tl, ml, p, L, i, j, v, rfl, R, hj, hv, k⟩ := h
    refine ⟨_, (pss_cons (ps_asg (pv 2) (pg_sub (pe_fld (pv 0) rfl) (pv 1) set_listU))
        (pss_one (ps_asg pe_int (pg_sub (pe_fld (pv 0) rfl) (pv 1) set_listU)))), ?_⟩
    obtain ⟨dx, e0⟩ := R.ins
    obtain ⟨ws, w1, w2, w3⟩ := R.wor
    refine ⟨_, rfl, _, rfl, r, _, _, _, _, rfl, e0, T.c_Reader, T.a_Reader_words, rfl, _, rfl, wl, ws, j, rfl, rfl, w1, by omega, fun H1 u1 e1 => ?_⟩
    have R1 := R.rd_w w1 hv u1 e1
    obtain ⟨dx1, e10⟩ := R1.ins
    obtain ⟨ts, t1, t2⟩ := R1.tol
    refine ⟨_, rfl, r, _, _, _, _, rfl, e10, T.c_Reader, T.a_Reader_told, rfl, _, rfl, tl, _, j, rfl, rfl, t1, by rw [List.length_map]; omega, fun H2 u2 e2 => ?_⟩
    rw [set_int] at e2
    refine k H2 ((u1.mono (by simp)).trans (u2.mono (by simp))) (R1.rd_t u2 e2 (by rw [List.length_set]; exact t2))
theorem ok_R_own (T : Txt K mg) : C8.Met P w K mg base 2 (RC K) "take_own" (spROwn K) [] := by
  have k_newer := ok_newer (P := P) (w := w) (base := base) T
  have k_Reader_put_word := ok_R_put (P := P) (w := w) (base := base) T
  refine mk_Reader_take_own T (fun vs H Q E h => ?_) (fun cdv A outer s H vs Q E hr h => ?_)
  · obtain ⟨r, cl, wl, tl, ml, p, L, i, v, rfl, _⟩ := h; rfl
  · obtain ⟨r, cl, wl, tl, ml, p, L, i, v, rfl, R, hi, hv, k⟩ := h
    refine ⟨_, (pss_one (ps_if (PW.pt (pw_and (pt_val (C8.pe_c k_newer hr (by decide) (by rfl) (pa_cons (pv 1) (pa_cons (pe_ix ix_list (pe_fld (pv 0) rfl) (pe_fld (pv 0) rfl) (fun _ _ => rfl)) pa_nil)))) (pw_and1 (pt_cmpR op_in_seq pe_str (pe_fld (pv 0) rfl) (by rfl))))) (pss_one (ps_expr (C8.pe_mt k_Reader_put_word hr (by decide) (pv 0) (pa_cons (pe_fld (pv 0) rfl) (pa_cons (pe_tupU (pa_cons (pe_op op_add (pe_ix ix_tup (pv 1) pe_int (fun _ _ => rfl)) pe_int) (pa_cons pe_int pa_nil))) pa_nil))))) pss_nil)), ?_⟩
    obtain ⟨dx, e0⟩ := R.ins
    obtain ⟨ws, w1, w2, w3⟩ := R.wor
    obtain ⟨a, num, mk, rfl, va, vm⟩ := id hv
    have hw := w3 (ws[i]'(by omega)) (List.getElem_mem _)
    obtain ⟨b, num', mk', ew, vb, _⟩ := id hw
    have ew' : ws[i]? = some (.ref b) := by rw [List.getElem?_eq_getElem (by omega), ew]
    refine ⟨_, rfl, _, rfl, r, _, _, _, _, rfl, e0, T.c_Reader, T.a_Reader_words, rfl, _, rfl, r, _, _, _, _, rfl, e0, T.c_Reader, T.a_Reader_own, rfl, wl, ws, _, _, rfl, rfl, SqL.of w1, atI_nat ew', ?_⟩
    refine ⟨a, b, _, _, _, _, rfl, va, vb, fun q => ⟨_, rfl, ite2 (fun _ => ?_) (fun _ => ?_)⟩⟩
    · refine ⟨_, rfl, r, _, _, _, _, rfl, e0, T.c_Reader, T.a_Reader_clauses, rfl, cl, clauseVs, rfl, .inr (SqT.of R.cla), rfl, cl_flat, _, rfl, ?_⟩
      refine iteT ?_
      refine ⟨_, rfl, r, _, _, rfl, e0, rfl, _, rfl, r, _, _, _, _, rfl, e0, T.c_Reader, T.a_Reader_own, rfl, ?_⟩
      refine ⟨_, rfl, a, _, _, _, rfl, rfl, SqT.of va, atI_nat (j := 0) rfl, _, _, rfl, rfl, ?_⟩
      refine ⟨by simp, fun q H1 _ u1 e1 => ?_⟩
      exact ⟨r, cl, wl, tl, ml, p, L, i, i, _, rfl, R.up0 u1, hi, ⟨q, _, 0, rfl, e1, .inl rfl⟩, fun H2 u2 R2 => k H2 (u1.of.trans u2) R2⟩
    · exact iteF (k H .refl R)
theorem ok_R_other (T : Txt K mg) : C8.Met P w K mg base 2 (RC K) "take_other" (spRPut K) [] := by
  have k_newer := ok_newer (P := P) (w := w) (base := base) T
  have k_Reader_put_word := ok_R_put (P := P) (w := w) (base := base) T
  refine mk_Reader_take_other T (fun vs H Q E h => ?_) (fun cdv A outer s H vs Q E hr h => ?_)
  · obtain ⟨r, cl, wl, tl, ml, p, L, i, j, v, rfl, _⟩ := h; rfl
  · obtain ⟨r, cl, wl, tl, ml, p, L, i, j, v, rfl, R, hj, hv, k⟩ := h
    refine ⟨_, (pss_cons (ps_set (i := 3) sc_Reader_take_other.nd rfl (Or.inl rfl) (pe_ix ix_list (pe_fld (pv 0) rfl) (pv 1) (fun _ _ => rfl)))
        (pss_one (ps_if (PW.pt (pw_or (pt_val (C8.pe_c k_newer hr (by decide) (by rfl) (pa_cons (pv 2) (pa_cons (pv 3) pa_nil)))) (pw_or1 (PW.pt (pw_and (pt_cmpR op_notIn_seq pe_str (pe_fld (pv 0) rfl) (by rfl)) (pw_and1 (pt_cmpR op_ne (pv 2) (pv 3) (nomark _)))))))) (pss_cons (ps_expr (C8.pe_mt k_Reader_put_word hr (by decide) (pv 0) (pa_cons (pv 1) (pa_cons (pv 2) pa_nil))))
        (pss_one (ps_if (pt_cmpR op_ne (pe_ix ix_tup (pv 2) pe_int (fun _ _ => rfl)) pe_int (nomark _)) (pss_one (ps_asg pe_int (pg_sub (pe_fld (pv 0) rfl) (pv 1) set_listU))) pss_nil))) pss_nil))), ?_⟩
    obtain ⟨dx, e0⟩ := R.ins
    obtain ⟨ws, w1, w2, w3⟩ := R.wor
    obtain ⟨a, num, mk, rfl, va, vm⟩ := id hv
    have hw := w3 (ws[j]'(by omega)) (List.getElem_mem _)
    obtain ⟨b, num', mk', ew, vb, _⟩ := id hw
    have ew' : ws[j]? = some (.ref b) := by rw [List.getElem?_eq_getElem (by omega), ew]
    refine ⟨_, rfl, r, _, _, _, _, rfl, e0, T.c_Reader, T.a_Reader_words, rfl, _, rfl, wl, ws, _, _, rfl, rfl, SqL.of w1, atI_nat ew', ?_⟩
    have go : ∀ {Q' : VK}, (∀ H', Up [wl, tl, ml] H H' → RdAt K H' p L i r cl wl tl ml → Q' .non H') → spRPut K [.ref r, .int j, .ref a] H Q' E := fun hq => ⟨r, cl, wl, tl, ml, p, L, i, j, _, rfl, R, hj, hv, hq⟩
    refine ⟨_, rfl, _, rfl, a, b, _, _, _, _, rfl, va, vb, fun q => ⟨_, rfl, ite2 (fun _ => ?_) (fun _ => ?_)⟩⟩
    · refine iteT ?_
      refine ⟨_, rfl, r, _, _, rfl, e0, rfl, _, rfl, _, rfl, go fun H1 u1 R1 => ?_⟩
      refine ⟨_, rfl, a, _, _, _, rfl, rfl, SqT.of (u1.tu _ _ va), atI_nat (j := 1) rfl, rfl, _, rfl, ite2 (fun _ => ?_) (fun _ => k H1 u1 R1)⟩
      obtain ⟨dx1, e10⟩ := R1.ins
      obtain ⟨ms, m1, m2⟩ := R1.tim
      refine ⟨_, rfl, r, _, _, _, _, rfl, e10, T.c_Reader, T.a_Reader_timers, rfl, _, rfl, ml, _, j, rfl, rfl, m1, by rw [List.length_map, m2.1]; omega, fun H2 u2 e2 => ?_⟩
      rw [set_int] at e2
      exact k H2 (u1.trans (u2.mono (by simp))) (R1.rd_m u2 e2 (IsTims.set (H := H) m2 (tim_zero p L) fun _ => rfl))
    · refine ⟨_, rfl, r, _, _, _, _, rfl, e0, T.c_Reader, T.a_Reader_clauses, rfl, cl, clauseVs, rfl, .inr (SqT.of R.cla), rfl, cl_flat, _, rfl, ?_⟩
      refine iteF ?_
      exact iteF (k H .refl R)
theorem ok_R_take (T : Txt K mg) : C8.Met P w K mg base 3 (RC K) "take" (spRTake K) [] := by
  have k_Reader_take_own := ok_R_own (P := P) (w := w) (base := base) T
  have k_Reader_take_other := ok_R_other (P := P) (w := w) (base := base) T
  refine mk_Reader_take T (fun vs H Q E h => ?_) (fun cdv A outer s H vs Q E hr h => ?_)
  · obtain ⟨r, cl, wl, tl, ml, b, p, L, i, j, v, rfl, _⟩ := h; rfl
  · obtain ⟨r, cl, wl, tl, ml, b, p, L, i, j, v, rfl, hb, R, hi, hj, hv, k⟩ := h
    refine ⟨_, (pss_cons (ps_asg (pv 1) (pg_tup rfl (pgs_cons (pg_name (i := 2) sc_Reader_take.nd rfl (Or.inl rfl)) (pgs_cons (pg_name (i := 3) sc_Reader_take.nd rfl (Or.inl rfl)) pgs_nil))))
        (pss_one (ps_if (pt_cmpR op_eq (pv 2) (pe_fld (pv 0) rfl) (nomark _)) (pss_one (ps_expr (C8.pe_mt k_Reader_take_own hr (by decide) (pv 0) (pa_cons (pv 3) pa_nil)))) (pss_one (ps_expr (C8.pe_mt k_Reader_take_other hr (by decide) (pv 0) (pa_cons (pv 2) (pa_cons (pv 3) pa_nil)))))))), ?_⟩
    obtain ⟨dx, e0⟩ := R.ins
    refine ⟨_, rfl, b, _, rfl, SqT.of hb, rfl, _, _, rfl, _, _, rfl, rfl, ?_⟩
    refine ⟨_, rfl, _, rfl, r, _, _, _, _, rfl, e0, T.c_Reader, T.a_Reader_own, rfl, rfl, _, rfl, ite2 (fun _ => ?_) (fun _ => ?_)⟩
    · refine ⟨_, rfl, r, _, _, rfl, e0, rfl, _, rfl, r, cl, wl, tl, ml, p, L, i, v, rfl, R, hi, hv, k⟩
    · refine ⟨_, rfl, r, _, _, rfl, e0, rfl, _, rfl, _, rfl, r, cl, wl, tl, ml, p, L, i, j, v, rfl, R, hj, hv, k⟩
theorem ok_R_house (T : Txt K mg) : C8.Met P w K mg base 1 (RC K) "as_house" (spRHouse K) [] := by
  refine mk_Reader_as_house T (fun vs H Q E h => ?_) (fun cdv A outer s H vs Q E hr h => ?_)
  · obtain ⟨r, cl, wl, tl, ml, p, L, i, rfl, _⟩ := h; rfl
  · obtain ⟨r, cl, wl, tl, ml, p, L, i, rfl, R, k⟩ := h
    refine ⟨_, (pss_one (ps_ret (pe_tupU (pa_cons (pe_fld (pv 0) rfl) (pa_cons (pe_callTy call_tupleU (by rfl) T.n_tuple (by decide +kernel) (pa_cons (pe_fld (pv 0) rfl) pa_nil)) (pa_cons (pe_callTy call_tupleU (by rfl) T.n_tuple (by decide +kernel) (pa_cons (pe_fld (pv 0) rfl) pa_nil)) (pa_cons (pe_callTy call_tupleU (by rfl) T.n_tuple (by decide +kernel) (pa_cons (pe_fld (pv 0) rfl) pa_nil)) pa_nil))))))), ?_⟩
    obtain ⟨dx, e0⟩ := R.ins
    obtain ⟨ws, w1, w2, w3⟩ := R.wor
    obtain ⟨ts, t1, t2⟩ := R.tol
    obtain ⟨ms, m1, m2⟩ := R.tim
    refine ⟨_, rfl, r, _, _, _, _, rfl, e0, T.c_Reader, T.a_Reader_up, rfl, ?_⟩
    refine ⟨_, rfl, r, _, _, _, _, rfl, e0, T.c_Reader, T.a_Reader_words, rfl, wl, _, rfl, w1, fun b H1 f1 u1 e1 => ?_⟩
    refine ⟨_, rfl, r, _, _, _, _, rfl, u1.f0 e0, T.c_Reader, T.a_Reader_told, rfl, tl, _, rfl, u1.f0 t1, fun t H2 f2 u2 e2 => ?_⟩
    have u12 := u1.trans u2
    refine ⟨_, rfl, r, _, _, _, _, rfl, u12.f0 e0, T.c_Reader, T.a_Reader_timers, rfl, ml, _, rfl, u12.f0 m1, fun m H3 f3 u3 e3 => ?_⟩
    refine ⟨by simp, fun h H4 f4 u4 e4 => ?_⟩
    have u14 := u12.trans (u3.trans u4)
    refine k H4 h u14 ⟨h, b, t, m, rfl, e4, ⟨ws, ((u2.trans u3).trans u4).tu _ _ e1, w2, fun x z => (w3 x z).up u14⟩, ⟨ts, (u3.trans u4).tu _ _ e2, t2⟩, ⟨ms, u4.tu _ _ e3, m2⟩⟩
theorem ok_taken (T : Txt K mg) : C8.Cal P w K mg base 4 "taken" spTaken [] := by
  have k_Reader := ok_R_init (P := P) (w := w) (base := base) T
  have k_Reader_take := ok_R_take (P := P) (w := w) (base := base) T
  have k_Reader_as_house := ok_R_house (P := P) (w := w) (base := base) T
  refine mk_taken T (fun vs H Q E h => ?_) (fun cdv A outer s H vs Q E hr h => ?_)
  · obtain ⟨ra, hv, nt, p, L, i, rfl, _⟩ := h; rfl
  · obtain ⟨ra, hv, nt, p, L, i, rfl, hR, hH, hi, hN, k⟩ := h
    refine ⟨_, (pss_cons (ps_set (i := 4) sc_taken.nd rfl (Or.inl rfl) (C8.pe_mk k_Reader hr (by decide) (by rfl) (pa_cons (pv 0) (pa_cons (pv 1) (pa_cons (pv 2) pa_nil)))))
        (pss_cons (ps_for PassesOwn.never rfl (pi_tup (pv 3)) (pg_name (i := 5) sc_taken.nd rfl (Or.inl rfl)) (pss_one (ps_expr (C8.pe_mt k_Reader_take hr (by decide) (pv 4) (pa_cons (pv 5) pa_nil)))))
        (pss_one (ps_ret (C8.pe_mt0 k_Reader_as_house hr (by decide) (pv 4)))))), ?_⟩
    refine ⟨_, rfl, _, rfl, _, rfl, fun r dx f1 f2 hne => ?_⟩
    have u0 : Up [] H (upd (upd H dx (.own r)) r (.ins (RC K) dx [])) := (Up.new1 f2).new (by rw [upd_ne hne.symm]; exact f1)
    refine ⟨r, dx, ra, hv, p, L, i, rfl, upd_same, hR.up u0, hH.up u0, fun H1 cl wl tl ml u1 R1 g1 g2 g3 => ⟨rfl, ?_⟩⟩
    have v1 : Up [r] H H1 := u0.of.trans u1
    have b0 : ∀ {x : Addr}, (upd (upd H dx (.own r)) r (.ins (RC K) dx [])) x = none → H x = none := fun {x} z => u0.none z (by simp)
    have nN : NotesAt H1 p.n nt := hN.up v1
    obtain ⟨vs, n1, n2, n3⟩ := nN
    refine ⟨_, rfl, nt, rfl, ⟨_, SqT.of n1⟩, ?_⟩
    refine for_tup (fun _ σ H' => (∃ z : Option V, σ = [some (.ref ra), some (.ref hv), some (.int i), some (.ref nt), some (.ref r), z]) ∧ Up [wl, tl, ml] H1 H' ∧ RdAt K H' p L i r cl wl tl ml)
      ⟨⟨none, rfl⟩, .refl, R1⟩ (fun _ σ H' _ h => SqT.of (h.2.1.tu _ _ n1)) (fun j x σ H' hx h => ?_) (fun σ H' h => ?_)
    · obtain ⟨⟨z, rfl⟩, u, R⟩ := h
      obtain ⟨b, kk, y, rfl, q1, q2, q3⟩ := n3 x (List.mem_of_getElem? hx)
      obtain ⟨dx', e0⟩ := R.ins
      refine ⟨_, rfl, r, _, _, rfl, e0, rfl, _, rfl, r, cl, wl, tl, ml, b, p, L, i, kk, y, rfl, u.tu _ _ q1, R, hi, q2, q3.up u, fun H2 u2 R2 => ?_⟩
      exact ⟨⟨_, rfl⟩, u.trans u2, R2⟩
    · obtain ⟨⟨z, rfl⟩, u, R⟩ := h
      obtain ⟨dx', e0⟩ := R.ins
      refine ⟨_, rfl, r, _, _, rfl, e0, rfl, r, cl, wl, tl, ml, p, L, i, rfl, R, fun H3 hh u3 hH3 => k H3 hh ?_ hH3⟩
      refine ((v1.mono (ex' := [r, wl, tl, ml]) (by simp)).trans ((u.mono (by simp)).trans u3.of)).sub fun e m => .inl ?_
      have m' : e = r ∨ e = wl ∨ e = tl ∨ e = ml := by simpa using m
      rcases m' with z | z | z | z <;> rw [z]
      · exact f1
      · exact b0 g1
      · exact b0 g2
      · exact b0 g3
end
end Hb

set_option maxHeartbeats 4000000
/-! turns: the Turn, what it reads and puts -/
namespace Hb
open PySem PySem.Spec PyProof.Rows L2
/-- what a Turn holds all its life -/
structure Tn where
  z : Addr
  ra : Addr
  ta : Addr
  hl : Addr
  lo : Addr
  sl : Addr
  t : Int
  lost : List Int
  p : Par
def tnF (t : Tn) : List (Str × V) := [("rules", .ref t.ra), ("town", .ref t.ta), ("turn", .int t.t), ("houses", .ref t.hl), ("lost_ones", .ref t.lo), ("sent", .ref t.sl)]
structure TnAt (K : PySem.W.Frag) (t : Tn) (L : Int) (k : Nat) (H : Hp) : Prop where
  ins : ∃ dx, H t.z = some (.ins (TC K) dx (tnF t))
  rul : RulesAt H t.p t.ra
  tow : TownAt H t.p.n t.ta
  hou : ∃ hs, H t.hl = some (.lst hs) ∧ Houses H t.p L hs
  los : H t.lo = some (.tup (t.lost.map V.int))
  sen : ∃ ss, H t.sl = some (.lst ss) ∧ ss.length = k ∧ Letters H t.lost ss
  ne : t.hl ≠ t.sl
  tab : Tab K H
section
variable {K : PySem.W.Frag} {H H' : Hp} {t : Tn} {L L' : Int} {k k' : Nat}
theorem TnAt.mono (R : TnAt K t L k H) (h : L ≤ L') : TnAt K t L' k H := ⟨R.ins, R.rul, R.tow, let ⟨hs, h1, h2⟩ := R.hou; ⟨hs, h1, h2.mono h⟩, R.los, R.sen, R.ne, R.tab⟩
theorem TnAt.upP (R : TnAt K t L k H) (u : Up [tabP K] H H') (hT : Tab K H') : TnAt K t L k H' := by
  obtain ⟨⟨dx, e0⟩, rl, tw, ⟨hs, h1, h2⟩, lo, ⟨ss, s1, s2, s3⟩, ne, tb⟩ := R
  obtain ⟨ps, hP⟩ := tb.at
  exact ⟨⟨dx, u.f1 e0 (ne_of e0 hP (fun z => by cases z))⟩, rl.up u, tw.up u, ⟨hs, u.f1 h1 (ne_of h1 hP (fun z => by cases z)), h2.up u⟩, u.tu _ _ lo, ⟨ss, u.f1 s1 (ne_of s1 hP (fun z => by cases z)), s2, s3.up u⟩, ne, hT⟩
theorem TnAt.up0 (R : TnAt K t L k H) (u : Up [] H H') : TnAt K t L k H' := R.upP u.of (R.tab.up0 u)
theorem hand_lst {a : Addr} {xs : List V} (h : H a = some (.lst xs)) : ∀ e ∈ [a], Hand (H e) := fun e m => by
  rw [List.mem_singleton.mp m, h]; trivial
theorem TnAt.putH (R : TnAt K t L k H) {hs : List V} (u : Up [t.hl] H H') (e : H' t.hl = some (.lst hs)) (hh : Houses H' t.p L' hs) : TnAt K t L' k H' := by
  obtain ⟨⟨dx, e0⟩, rl, tw, ⟨hs', h1, h2⟩, lo, ⟨ss, s1, s2, s3⟩, ne, tb⟩ := R
  exact ⟨⟨dx, u.f1 e0 (ne_of e0 h1 ins_ne_lst)⟩, rl.up u, tw.up u, ⟨hs, e, hh⟩, u.tu _ _ lo, ⟨ss, u.f1 s1 ne.symm, s2, s3.up u⟩, ne, tb.up u (hand_lst h1)⟩
theorem TnAt.putS (R : TnAt K t L k H) {ss : List V} (u : Up [t.sl] H H') (e : H' t.sl = some (.lst ss)) (hl : ss.length = k') (hh : Letters H' t.lost ss) : TnAt K t L k' H' := by
  obtain ⟨⟨dx, e0⟩, rl, tw, ⟨hs, h1, h2⟩, lo, ⟨ss', s1, s2, s3⟩, ne, tb⟩ := R
  exact ⟨⟨dx, u.f1 e0 (ne_of e0 s1 ins_ne_lst)⟩, rl.up u, tw.up u, ⟨hs, u.f1 h1 ne, h2.up u⟩, u.tu _ _ lo, ⟨ss, e, hl, hh⟩, ne, tb.up u (hand_lst s1)⟩
end
/-! slices around one place -/
theorem cut_take (xs : List V) {j : Nat} (h : j ≤ xs.length) : cutV xs none (some (j : Int)) = xs.take j := by
  unfold cutV
  rw [HT.sIx_none, HT.sIx_nat, List.drop_zero, Nat.sub_zero, Nat.min_eq_left h]
theorem cut_drop (xs : List V) {j : Nat} (h : j ≤ xs.length) : cutV xs (some (j : Int)) none = xs.drop j := by
  unfold cutV
  rw [HT.sIx_none, HT.sIx_nat, Nat.min_eq_left h, List.take_of_length_le (by rw [List.length_drop] <;> omega)]
theorem cut_set (xs : List V) (v : V) {j : Nat} (h : j < xs.length) : cutV xs none (some (j : Int)) ++ [v] ++ cutV xs (some ((j : Int) + 1)) none = xs.set j v := by
  rw [cut_take xs (by omega), show (j : Int) + 1 = ((j + 1 : Nat) : Int) by omega, cut_drop xs (by omega), List.set_eq_take_append_cons_drop, if_pos h, List.append_assoc]
  rfl
def spTInit (K : PySem.W.Frag) : Sp := fun vs H Q _ => ∃ (z dx ra ta sa lo : Addr) (p : Par) (L : Int) (lost : List Int), vs = [.ref z, .ref ra, .ref ta, .ref sa, .ref lo] ∧ H z = some (.ins (TC K) dx []) ∧ RulesAt H p ra ∧ TownAt H p.n ta ∧ StateAt H p L sa ∧ H lo = some (.tup (lost.map V.int)) ∧ Tab K H ∧
  ∀ (H' : Hp) (t : Tn), Up [z] H H' → t.z = z → t.lost = lost → t.p = p → H t.hl = none → H t.sl = none → TnAt K t L 0 H' → Q .non H'
def spClause (K : PySem.W.Frag) : Sp := fun vs H Q _ => ∃ (t : Tn) (L : Int) (k : Nat) (s : Str), vs = [.ref t.z, .str s] ∧ TnAt K t L k H ∧ Q (.bl (inV (.str s) clauseVs)) H
def spIsUp (K : PySem.W.Frag) : Sp := fun vs H Q _ => ∃ (t : Tn) (L : Int) (k i : Nat), vs = [.ref t.z, .int i] ∧ TnAt K t L k H ∧ i < t.p.n ∧ Q (.bl true) H
def spWordOf (K : PySem.W.Frag) : Sp := fun vs H Q _ => ∃ (t : Tn) (L : Int) (k i j : Nat), vs = [.ref t.z, .int i, .int j] ∧ TnAt K t L k H ∧ i < t.p.n ∧ j < t.p.n ∧ ∀ (a : Addr) (n m : Int), H a = some (.tup [.int n, .int m]) → (m = 0 ∨ m = 1) → Q (.ref a) H
def spTimerOf (K : PySem.W.Frag) : Sp := fun vs H Q _ => ∃ (t : Tn) (L : Int) (k i j : Nat), vs = [.ref t.z, .int i, .int j] ∧ TnAt K t L k H ∧ i < t.p.n ∧ j < t.p.n ∧ ∀ m : Int, TimOk t.p L m → (j = i → m = 0) → Q (.int m) H
def spDoubts (K : PySem.W.Frag) : Sp := fun vs H Q _ => ∃ (t : Tn) (L : Int) (k i j : Nat), vs = [.ref t.z, .int i, .int j] ∧ TnAt K t L k H ∧ i < t.p.n ∧ j < t.p.n ∧ Q (.bl true) H
def tnPut (K : PySem.W.Frag) (t : Tn) (L : Int) (k : Nat) (H : Hp) (Q : VK) : Prop := ∀ H', Up [t.hl] H H' → TnAt K t L k H' → Q .non H'
def spPutHouse (K : PySem.W.Frag) : Sp := fun vs H Q _ => ∃ (t : Tn) (L : Int) (k i : Nat) (th tm : Addr), vs = [.ref t.z, .int i, .int 1, .ref th, .ref tm] ∧ TnAt K t L k H ∧ i < t.p.n ∧ IsInts H t.p.n th ∧ IsTims H t.p L i tm ∧ tnPut K t L k H Q
def spPutWord (K : PySem.W.Frag) : Sp := fun vs H Q _ => ∃ (t : Tn) (L : Int) (k i j : Nat) (v : V), vs = [.ref t.z, .int i, .int j, v] ∧ TnAt K t L k H ∧ i < t.p.n ∧ j < t.p.n ∧ IsWord H v ∧ tnPut K t L k H Q
def spPutTimer (K : PySem.W.Frag) : Sp := fun vs H Q _ => ∃ (t : Tn) (L : Int) (k i j : Nat) (m : Int), vs = [.ref t.z, .int i, .int j, .int m] ∧ TnAt K t L k H ∧ i < t.p.n ∧ j < t.p.n ∧ TimOk t.p L m ∧ (j = i → m = 0) ∧ tnPut K t L k H Q
section
variable {P : Program} {w : World} {K : PySem.W.Frag} {mg : Str → Option Value} {base : Heap}
theorem ok_T_init (T : Txt K mg) : C8.Mak P w K mg base 1 "Turn" (TC K) (spTInit K) [] := by
  refine mk_Turn___init__ T (fun vs H Q E h => ?_) (fun cdv A outer s H vs Q E hr h => ?_)
  · obtain ⟨z, dx, ra, ta, sa, lo, p, L, lost, rfl, _⟩ := h; rfl
  · obtain ⟨z, dx, ra, ta, sa, lo, p, L, lost, rfl, e0, hR, hT, ⟨ha, tn, hs, s1, s2, s3⟩, hL, hTab, k⟩ := h
    refine ⟨_, (pss_cons (ps_fld (pv 0) (pv 1) rfl)
        (pss_cons (ps_fld (pv 0) (pv 2) rfl)
        (pss_cons (ps_fld (pv 0) (pe_ix ix_tup (pv 3) pe_int (fun _ _ => rfl)) rfl)
        (pss_cons (ps_fld (pv 0) (pe_callTy call_listU (by rfl) T.n_list (by decide +kernel) (pa_cons (pe_ix ix_tup (pv 3) pe_int (fun _ _ => rfl)) pa_nil)) rfl)
        (pss_cons (ps_fld (pv 0) (pv 4) rfl)
        (pss_one (ps_fld (pv 0) (pe_lstU pa_nil) rfl))))))), ?_⟩
    refine ⟨_, rfl, _, rfl, z, _, _, _, rfl, e0, T.c_Turn, T.a_Turn_rules, Nat.le_of_ble_eq_true rfl, fldW e0 fun H1 u1 e1 => ?_⟩
    refine ⟨_, rfl, _, rfl, z, _, _, _, rfl, e1, T.c_Turn, T.a_Turn_town, Nat.le_of_ble_eq_true rfl, fldW e1 fun H2 u2 e2 => ?_⟩
    have v2 := u1.trans u2
    refine ⟨_, rfl, sa, _, _, _, rfl, rfl, SqT.of (v2.tu _ _ s1), atI_nat (j := 0) rfl, _, rfl, z, _, _, _, rfl, e2, T.c_Turn, T.a_Turn_turn, Nat.le_of_ble_eq_true rfl, fldW e2 fun H3 u3 e3 => ?_⟩
    have v3 := v2.trans u3
    refine ⟨_, rfl, sa, _, _, _, rfl, rfl, SqT.of (v3.tu _ _ s1), atI_nat (j := 1) rfl, ha, hs, rfl, v3.tu _ _ s2, fun hl H4 f4 u4 e4 => ?_⟩
    refine ⟨_, rfl, z, _, _, _, rfl, u4.f0 e3, T.c_Turn, T.a_Turn_houses, Nat.le_of_ble_eq_true rfl, fldW (u4.f0 e3) fun H5 u5 e5 => ?_⟩
    have v5 := (v3.trans u4.of).trans u5
    refine ⟨_, rfl, _, rfl, z, _, _, _, rfl, e5, T.c_Turn, T.a_Turn_lost_ones, Nat.le_of_ble_eq_true rfl, fldW e5 fun H6 u6 e6 => ?_⟩
    have v6 := v5.trans u6
    refine ⟨by simp, fun sl H7 f7 u7 e7 => ?_⟩
    refine ⟨_, rfl, z, _, _, _, rfl, u7.f0 e6, T.c_Turn, T.a_Turn_sent, Nat.le_of_ble_eq_true rfl, fldW (u7.f0 e6) fun H8 u8 e8 => ?_⟩
    have v8 := (v6.trans u7.of).trans u8
    have nr : ∀ {a : Addr} {xs : List V} {H' : Hp}, H' a = some (.lst xs) → (∃ C dx fs, H' z = some (.ins C dx fs)) → a ≠ z := fun h1 ⟨_, _, _, h2⟩ => ne_of h1 h2 ins_ne_lst.symm
    have a5 := u5.f1 e4 (nr e4 ⟨_, _, _, u4.f0 e3⟩)
    have a6 := u6.f1 a5 (nr a5 ⟨_, _, _, e5⟩)
    have a8 := u8.f1 (u7.f0 a6) (nr (u7.f0 a6) ⟨_, _, _, u7.f0 e6⟩)
    have b8 := u8.f1 e7 (nr e7 ⟨_, _, _, u7.f0 e6⟩)
    have back : ∀ {x : Addr} {H' : Hp}, Up [z] H H' → H' x = none → (∃ C dx fs, H' z = some (.ins C dx fs)) → H x = none := fun {x H'} u z ⟨_, _, _, h2⟩ => u.none z fun m => by
      rw [List.mem_singleton.mp m, h2] at z; cases z
    refine k _ ⟨z, ra, ta, hl, lo, sl, tn, lost, p⟩ v8 rfl rfl rfl (back v3 f4 ⟨_, _, _, e3⟩) (back v6 f7 ⟨_, _, _, e6⟩)
      ⟨⟨dx, e8⟩, hR.up v8, hT.up v8, ⟨hs, a8, s3.up v8⟩, v8.tu _ _ hL, ⟨[], b8, rfl, Letters.nil⟩, ne_of_none a6 f7, hTab.up v8 fun e m => by rw [List.mem_singleton.mp m, e0]; trivial⟩
theorem ok_T_clause (T : Txt K mg) : C8.Met P w K mg base 1 (TC K) "clause" (spClause K) [] := by
  refine mk_Turn_clause T (fun vs H Q E h => ?_) (fun cdv A outer s H vs Q E hr h => ?_)
  · obtain ⟨t, L, k, s, rfl, _⟩ := h; rfl
  · obtain ⟨t, L, k, s, rfl, R, q⟩ := h
    refine ⟨_, (pss_one (ps_ret (pe_cmpR op_in_seq (pv 1) (pe_ix ix_tup (pe_fld (pv 0) rfl) pe_int (fun _ _ => rfl)) (by rfl)))), ?_⟩
    obtain ⟨dx, e0⟩ := R.ins
    obtain ⟨nm, r1, r2⟩ := R.rul
    exact ⟨_, rfl, _, rfl, t.z, _, _, _, _, rfl, e0, T.c_Turn, T.a_Turn_rules, rfl, t.ra, _, _, _, rfl, rfl, SqT.of r1, atI_nat (j := 4) rfl, nm, _, rfl, .inr (SqT.of r2), rfl, cl_flat, q⟩
theorem ok_T_is_up (T : Txt K mg) : C8.Met P w K mg base 1 (TC K) "is_up" (spIsUp K) [] := by
  refine mk_Turn_is_up T (fun vs H Q E h => ?_) (fun cdv A outer s H vs Q E hr h => ?_)
  · obtain ⟨t, L, k, i, rfl, _⟩ := h; rfl
  · obtain ⟨t, L, k, i, rfl, R, hi, q⟩ := h
    refine ⟨_, (pss_one (ps_ret (pe_cmpR op_eq (pe_ix ix_tup (pe_ix ix_list (pe_fld (pv 0) rfl) (pv 1) (fun _ _ => rfl)) pe_int (fun _ _ => rfl)) pe_int (nomark _)))), ?_⟩
    obtain ⟨dx, e0⟩ := R.ins
    obtain ⟨hs, h1, h2⟩ := R.hou
    obtain ⟨v, ev, ha, hb, ht, hm, rfl, g1, _⟩ := h2.at hi
    exact ⟨_, rfl, t.z, _, _, _, _, rfl, e0, T.c_Turn, T.a_Turn_houses, rfl, _, rfl, t.hl, hs, _, _, rfl, rfl, SqL.of h1, atI_nat ev, ha, _, _, _, rfl, rfl, SqT.of g1, atI_nat (j := 0) rfl, rfl, q⟩
theorem ok_T_word_of (T : Txt K mg) : C8.Met P w K mg base 1 (TC K) "word_of" (spWordOf K) [] := by
  refine mk_Turn_word_of T (fun vs H Q E h => ?_) (fun cdv A outer s H vs Q E hr h => ?_)
  · obtain ⟨t, L, k, i, j, rfl, _⟩ := h; rfl
  · obtain ⟨t, L, k, i, j, rfl, R, hi, hj, q⟩ := h
    refine ⟨_, (pss_one (ps_ret (pe_ix ix_tup (pe_ix ix_tup (pe_ix ix_list (pe_fld (pv 0) rfl) (pv 1) (fun _ _ => rfl)) pe_int (fun _ _ => rfl)) (pv 2) (fun _ _ => rfl)))), ?_⟩
    obtain ⟨dx, e0⟩ := R.ins
    obtain ⟨hs, h1, h2⟩ := R.hou
    obtain ⟨v, ev, ha, hb, ht, hm, rfl, g1, ⟨ws, w1, w2, w3⟩, _⟩ := h2.at hi
    obtain ⟨b, num, mk, ew, vb, vm⟩ := w3 (ws[j]'(by omega)) (List.getElem_mem _)
    have ew' : ws[j]? = some (.ref b) := by rw [List.getElem?_eq_getElem (by omega), ew]
    exact ⟨_, rfl, t.z, _, _, _, _, rfl, e0, T.c_Turn, T.a_Turn_houses, rfl, _, rfl, t.hl, hs, _, _, rfl, rfl, SqL.of h1, atI_nat ev, ha, _, _, _, rfl, rfl, SqT.of g1, atI_nat (j := 1) rfl, _, rfl, hb, ws, _, _, rfl, rfl, SqT.of w1, atI_nat ew', q b num mk vb vm⟩
theorem ok_T_timer_of (T : Txt K mg) : C8.Met P w K mg base 1 (TC K) "timer_of" (spTimerOf K) [] := by
  refine mk_Turn_timer_of T (fun vs H Q E h => ?_) (fun cdv A outer s H vs Q E hr h => ?_)
  · obtain ⟨t, L, k, i, j, rfl, _⟩ := h; rfl
  · obtain ⟨t, L, k, i, j, rfl, R, hi, hj, q⟩ := h
    refine ⟨_, (pss_one (ps_ret (pe_ix ix_tup (pe_ix ix_tup (pe_ix ix_list (pe_fld (pv 0) rfl) (pv 1) (fun _ _ => rfl)) pe_int (fun _ _ => rfl)) (pv 2) (fun _ _ => rfl)))), ?_⟩
    obtain ⟨dx, e0⟩ := R.ins
    obtain ⟨hs, h1, h2⟩ := R.hou
    obtain ⟨v, ev, ha, hb, ht, hm, rfl, g1, _, _, ⟨ms, m1, m2, m3, m4⟩⟩ := h2.at hi
    have hj' : j < ms.length := by omega
    refine ⟨_, rfl, t.z, _, _, _, _, rfl, e0, T.c_Turn, T.a_Turn_houses, rfl, _, rfl, t.hl, hs, _, _, rfl, rfl, SqL.of h1, atI_nat ev, ha, _, _, _, rfl, rfl, SqT.of g1, atI_nat (j := 3) rfl, _, rfl, hm, _, _, _, rfl, rfl, SqT.of m1, atI_nat (int_at hj'), q _ (m3 _ (List.getElem_mem _)) fun e => ?_⟩
    subst e
    rw [List.getElem?_eq_getElem hj'] at m4
    exact Option.some.inj m4
theorem ok_T_doubts (T : Txt K mg) : C8.Met P w K mg base 2 (TC K) "doubts" (spDoubts K) [] := by
  have k_Turn_word_of := ok_T_word_of (P := P) (w := w) (base := base) T
  refine mk_Turn_doubts T (fun vs H Q E h => ?_) (fun cdv A outer s H vs Q E hr h => ?_)
  · obtain ⟨t, L, k, i, j, rfl, _⟩ := h; rfl
  · obtain ⟨t, L, k, i, j, rfl, R, hi, hj, q⟩ := h
    refine ⟨_, (pss_one (ps_ret (pe_cmpR op_lt (pe_ix ix_tup (C8.pe_mt k_Turn_word_of hr (by decide) (pv 0) (pa_cons (pv 1) (pa_cons (pv 2) pa_nil))) pe_int (fun _ _ => rfl)) pe_int (nomark _)))), ?_⟩
    obtain ⟨dx, e0⟩ := R.ins
    refine ⟨_, rfl, t.z, _, _, rfl, e0, rfl, _, rfl, _, rfl, t, L, k, i, j, rfl, R, hi, hj, fun b num mk hb hm => ?_⟩
    refine ⟨b, _, _, _, rfl, rfl, SqT.of hb, atI_nat (j := 1) rfl, _, _, rfl, rfl, ?_⟩
    have e : decide (mk < 2) = true := decide_eq_true (by omega)
    show Q (.bl (decide (mk < 2))) H
    rw [e]
    exact q
theorem ok_T_put_house (T : Txt K mg) : C8.Met P w K mg base 1 (TC K) "put_house" (spPutHouse K) [] := by
  refine mk_Turn_put_house T (fun vs H Q E h => ?_) (fun cdv A outer s H vs Q E hr h => ?_)
  · obtain ⟨t, L, k, i, th, tm, rfl, _⟩ := h; rfl
  · obtain ⟨t, L, k, i, th, tm, rfl, R, hi, hth, htm, q⟩ := h
    refine ⟨_, (pss_one (ps_asg (pe_tupU (pa_cons (pv 2) (pa_cons (pe_ix ix_tup (pe_ix ix_list (pe_fld (pv 0) rfl) (pv 1) (fun _ _ => rfl)) pe_int (fun _ _ => rfl)) (pa_cons (pv 3) (pa_cons (pv 4) pa_nil))))) (pg_sub (pe_fld (pv 0) rfl) (pv 1) set_listU))), ?_⟩
    obtain ⟨dx, e0⟩ := R.ins
    obtain ⟨hs, h1, h2⟩ := R.hou
    obtain ⟨v, ev, ha, hb, ht, hm, rfl, g1, g2, _⟩ := h2.at hi
    have hl := h2.1
    refine ⟨_, rfl, _, rfl, t.z, _, _, _, _, rfl, e0, T.c_Turn, T.a_Turn_houses, rfl, _, rfl, t.hl, hs, _, _, rfl, rfl, SqL.of h1, atI_nat ev, ha, _, _, _, rfl, rfl, SqT.of g1, atI_nat (j := 1) rfl, _, rfl, _, rfl, by simp, fun r H1 _ u1 e1 => ?_⟩
    refine ⟨_, rfl, t.z, _, _, _, _, rfl, u1.f0 e0, T.c_Turn, T.a_Turn_houses, rfl, _, rfl, t.hl, hs, i, rfl, rfl, u1.f0 h1, by omega, fun H2 u2 e2 => ?_⟩
    have u12 : Up [t.hl] H H2 := u1.of.trans u2
    exact q H2 u12 (R.putH u12 e2 ((h2.up u12).set ⟨r, hb, th, tm, rfl, u2.tu _ _ e1, g2.up u12, hth.up u12, htm.up u12⟩))
theorem ok_T_put_word (T : Txt K mg) : C8.Met P w K mg base 1 (TC K) "put_word" (spPutWord K) [] := by
  refine mk_Turn_put_word T (fun vs H Q E h => ?_) (fun cdv A outer s H vs Q E hr h => ?_)
  · obtain ⟨t, L, k, i, j, v, rfl, _⟩ := h; rfl
  · obtain ⟨t, L, k, i, j, v, rfl, R, hi, hj, hv, q⟩ := h
    refine ⟨_, (pss_cons (ps_asg (pe_ix ix_list (pe_fld (pv 0) rfl) (pv 1) (fun _ _ => rfl)) (pg_tup rfl (pgs_cons (pg_name (i := 4) sc_Turn_put_word.nd rfl (Or.inl rfl)) (pgs_cons (pg_name (i := 5) sc_Turn_put_word.nd rfl (Or.inl rfl)) (pgs_cons (pg_name (i := 6) sc_Turn_put_word.nd rfl (Or.inl rfl)) (pgs_cons (pg_name (i := 7) sc_Turn_put_word.nd rfl (Or.inl rfl)) pgs_nil))))))
        (pss_one (ps_asg (pe_tupU (pa_cons (pv 4) (pa_cons (pe_op op_catU (pe_op op_catU (pe_slice sl_tupU (pv 5) po_none (po_some (pv 2))) (pe_tupU (pa_cons (pv 3) pa_nil))) (pe_slice sl_tupU (pv 5) (po_some (pe_op op_add (pv 2) pe_int)) po_none)) (pa_cons (pe_op op_catU (pe_op op_catU (pe_slice sl_tupU (pv 6) po_none (po_some (pv 2))) (pe_tupU (pa_cons pe_int pa_nil))) (pe_slice sl_tupU (pv 6) (po_some (pe_op op_add (pv 2) pe_int)) po_none)) (pa_cons (pv 7) pa_nil))))) (pg_sub (pe_fld (pv 0) rfl) (pv 1) set_listU)))), ?_⟩
    obtain ⟨dx, e0⟩ := R.ins
    obtain ⟨hs, h1, h2⟩ := R.hou
    obtain ⟨hv', ev, ha, hb, ht, hm, rfl, g1, ⟨ws, w1, w2, w3⟩, ⟨ts, t1, t2⟩, g4⟩ := h2.at hi
    have hl := h2.1
    have hn6 := t.p.hn6
    refine ⟨_, rfl, t.z, _, _, _, _, rfl, e0, T.c_Turn, T.a_Turn_houses, rfl, _, rfl, t.hl, hs, _, _, rfl, rfl, SqL.of h1, atI_nat ev, ha, _, rfl, SqT.of g1, rfl, _, _, rfl, _, _, rfl, _, _, rfl, _, _, rfl, rfl, ?_⟩
    -- (up, book.., told.., timers)
    refine ⟨_, rfl, _, rfl, _, rfl, _, rfl, hb, ws, rfl, w1, fun b1 H1 u1 e1 => ?_⟩
    refine ⟨_, rfl, by simp, fun b2 H2 _ u2 e2 => ?_⟩
    refine ⟨b1, b2, _, _, rfl, rfl, u2.tu _ _ e1, e2, by have := cutV_length ws none (some (j : Int)); simp only [List.length_singleton]; omega, fun b3 H3 u3 e3 => ?_⟩
    refine ⟨_, rfl, _, rfl, _, _, rfl, rfl, _, rfl, hb, ws, rfl, ((u1.trans u2).trans u3).tu _ _ w1, fun b4 H4 u4 e4 => ?_⟩
    refine ⟨b3, b4, _, _, rfl, rfl, u4.tu _ _ e3, e4, by have := cutV_length ws none (some (j : Int)); have := cutV_length ws (some ((j : Int) + 1)) none; simp only [List.length_append, List.length_singleton]; omega, fun b5 H5 u5 e5 => ?_⟩
    have u15 := ((u1.trans u2).trans u3).trans (u4.trans u5)
    refine ⟨_, rfl, _, rfl, _, rfl, ht, _, rfl, u15.tu _ _ t1, fun c1 H6 u6 k1 => ?_⟩
    refine ⟨by simp, fun c2 H7 _ u7 k2 => ?_⟩
    refine ⟨c1, c2, _, _, rfl, rfl, u7.tu _ _ k1, k2, by have := cutV_length (ts.map V.int) none (some (j : Int)); simp only [List.length_singleton, List.length_map] at *; omega, fun c3 H8 u8 k3 => ?_⟩
    refine ⟨_, rfl, _, rfl, _, _, rfl, rfl, _, rfl, ht, _, rfl, (u15.trans ((u6.trans u7).trans u8)).tu _ _ t1, fun c4 H9 u9 k4 => ?_⟩
    refine ⟨c3, c4, _, _, rfl, rfl, u9.tu _ _ k3, k4, by have := cutV_length (ts.map V.int) none (some (j : Int)); have := cutV_length (ts.map V.int) (some ((j : Int) + 1)) none; simp only [List.length_append, List.length_singleton, List.length_map] at *; omega, fun c5 H10 u10 k5 => ?_⟩
    have u610 := ((u6.trans u7).trans u8).trans (u9.trans u10)
    rw [cut_set ws _ (by omega)] at e5
    rw [cut_set _ _ (by rw [List.length_map]; omega), set_int] at k5
    refine ⟨_, rfl, by simp, fun r H11 _ u11 e11 => ?_⟩
    have v := (u15.trans u610).trans u11
    refine ⟨_, rfl, t.z, _, _, _, _, rfl, v.f0 e0, T.c_Turn, T.a_Turn_houses, rfl, _, rfl, t.hl, hs, i, rfl, rfl, v.f0 h1, by omega, fun H12 u12 e12 => ?_⟩
    have v12 : Up [t.hl] H H12 := v.of.trans u12
    refine q H12 v12 (R.putH v12 e12 ((h2.up v12).set ⟨r, b5, c5, hm, rfl, u12.tu _ _ e11, ⟨_, ((u610.of.trans u11.of).trans u12).tu _ _ e5, by rw [List.length_set]; exact w2, fun x m => ?_⟩, ⟨_, (u11.of.trans u12).tu _ _ k5, by rw [List.length_set]; exact t2⟩, g4.up v12⟩))
    rcases List.mem_or_eq_of_mem_set m with z | z
    · exact (w3 x z).up v12
    · rw [z]; exact hv.up v12
theorem ok_T_put_timer (T : Txt K mg) : C8.Met P w K mg base 1 (TC K) "put_timer" (spPutTimer K) [] := by
  refine mk_Turn_put_timer T (fun vs H Q E h => ?_) (fun cdv A outer s H vs Q E hr h => ?_)
  · obtain ⟨t, L, k, i, j, m, rfl, _⟩ := h; rfl
  · obtain ⟨t, L, k, i, j, m, rfl, R, hi, hj, hm1, hm2, q⟩ := h
    refine ⟨_, (pss_cons (ps_asg (pe_ix ix_list (pe_fld (pv 0) rfl) (pv 1) (fun _ _ => rfl)) (pg_tup rfl (pgs_cons (pg_name (i := 4) sc_Turn_put_timer.nd rfl (Or.inl rfl)) (pgs_cons (pg_name (i := 5) sc_Turn_put_timer.nd rfl (Or.inl rfl)) (pgs_cons (pg_name (i := 6) sc_Turn_put_timer.nd rfl (Or.inl rfl)) (pgs_cons (pg_name (i := 7) sc_Turn_put_timer.nd rfl (Or.inl rfl)) pgs_nil))))))
        (pss_one (ps_asg (pe_tupU (pa_cons (pv 4) (pa_cons (pv 5) (pa_cons (pv 6) (pa_cons (pe_op op_catU (pe_op op_catU (pe_slice sl_tupU (pv 7) po_none (po_some (pv 2))) (pe_tupU (pa_cons (pv 3) pa_nil))) (pe_slice sl_tupU (pv 7) (po_some (pe_op op_add (pv 2) pe_int)) po_none)) pa_nil))))) (pg_sub (pe_fld (pv 0) rfl) (pv 1) set_listU)))), ?_⟩
    obtain ⟨dx, e0⟩ := R.ins
    obtain ⟨hs, h1, h2⟩ := R.hou
    obtain ⟨hv', ev, ha, hb, ht, hm, rfl, g1, g2, g3, ⟨ms, m1, m2⟩⟩ := h2.at hi
    have hl := h2.1
    have hn6 := t.p.hn6
    have ml := m2.1
    refine ⟨_, rfl, t.z, _, _, _, _, rfl, e0, T.c_Turn, T.a_Turn_houses, rfl, _, rfl, t.hl, hs, _, _, rfl, rfl, SqL.of h1, atI_nat ev, ha, _, rfl, SqT.of g1, rfl, _, _, rfl, _, _, rfl, _, _, rfl, _, _, rfl, rfl, ?_⟩
    refine ⟨_, rfl, _, rfl, _, rfl, _, rfl, _, rfl, _, rfl, hm, _, rfl, m1, fun c1 H6 u6 k1 => ?_⟩
    refine ⟨_, rfl, by simp, fun c2 H7 _ u7 k2 => ?_⟩
    refine ⟨c1, c2, _, _, rfl, rfl, u7.tu _ _ k1, k2, by have := cutV_length (ms.map V.int) none (some (j : Int)); simp only [List.length_singleton, List.length_map] at *; omega, fun c3 H8 u8 k3 => ?_⟩
    refine ⟨_, rfl, _, rfl, _, _, rfl, rfl, _, rfl, hm, _, rfl, ((u6.trans u7).trans u8).tu _ _ m1, fun c4 H9 u9 k4 => ?_⟩
    refine ⟨c3, c4, _, _, rfl, rfl, u9.tu _ _ k3, k4, by have := cutV_length (ms.map V.int) none (some (j : Int)); have := cutV_length (ms.map V.int) (some ((j : Int) + 1)) none; simp only [List.length_append, List.length_singleton, List.length_map] at *; omega, fun c5 H10 u10 k5 => ?_⟩
    have u610 := ((u6.trans u7).trans u8).trans (u9.trans u10)
    rw [cut_set _ _ (by rw [List.length_map]; omega), set_int] at k5
    refine ⟨by simp, fun r H11 _ u11 e11 => ?_⟩
    have v := u610.trans u11
    refine ⟨_, rfl, t.z, _, _, _, _, rfl, v.f0 e0, T.c_Turn, T.a_Turn_houses, rfl, _, rfl, t.hl, hs, i, rfl, rfl, v.f0 h1, by omega, fun H12 u12 e12 => ?_⟩
    have v12 : Up [t.hl] H H12 := v.of.trans u12
    exact q H12 v12 (R.putH v12 e12 ((h2.up v12).set ⟨r, hb, ht, c5, rfl, u12.tu _ _ e11, g2.up v12, g3.up v12, ⟨_, (u11.of.trans u12).tu _ _ k5, IsTims.set (H := H) m2 hm1 hm2⟩⟩))
end
end Hb

set_option maxHeartbeats 4000000
/-! turns: a letter, the helpers, an asking -/
namespace Hb
open PySem PySem.Spec PyProof.Rows L2
abbrev UpT (K : PySem.W.Frag) (t : Tn) (H H' : Hp) : Prop := Up [tabP K, t.hl, t.sl] H H'
theorem in_lost {lost : List Int} {k : Int} : inV (.int k) (lost.map V.int) = decide (k ∈ lost) := by
  unfold inV
  rw [List.any_map, Bool.eq_iff_iff, List.any_eq_true, decide_eq_true_iff]
  constructor
  · rintro ⟨x, hx, e⟩
    have e' : x = k := eq_of_beq e
    rw [← e']; exact hx
  · intro h
    exact ⟨k, h, beq_self_eq_true k⟩
theorem cnt_in {lost : List Int} {k : Nat} (h : ((k : Nat) : Int) ∈ lost) : cnt lost (k + 1) = cnt lost k + 1 := by
  show cnt lost k + _ = _
  rw [if_pos h]
theorem ite_lost {A B : Prop} {c : Prop} [Decidable c] (h1 : c → B) (h2 : ¬ c → A) : if (!decide c) = true then A else B := by
  by_cases h : c
  · rw [decide_eq_true h]; exact iteF (h1 h)
  · rw [decide_eq_false h]; exact iteT (h2 h)
def spSend (K : PySem.W.Frag) : Sp := fun vs H Q _ => ∃ (t : Tn) (L : Int) (k x y : Nat), vs = [.ref t.z, .int x, .int y] ∧ TnAt K t L k H ∧ x < t.p.n ∧ y < t.p.n ∧ k ≤ 900 ∧ ∀ H', UpT K t H H' → TnAt K t L (k + 1) H' → Q (.bl (!decide (((k : Nat) : Int) ∈ t.lost))) H'
def spHelpers (K : PySem.W.Frag) : Sp := fun vs H Q _ => ∃ (t : Tn) (L : Int) (k a b : Nat), vs = [.ref t.z, .int a, .int b] ∧ TnAt K t L k H ∧ a < t.p.n ∧ b < t.p.n ∧ a ≠ b ∧ ∀ (H' : Hp) (l : Addr) (ns : List Int), Up [] H H' → H l = none → H' l = some (.lst (ns.map V.int)) → InHouses t.p.n ns → ns.length = t.p.h → Q (.ref l) H'
def spAnswered (K : PySem.W.Frag) : Sp := fun vs H Q _ => ∃ (t : Tn) (L : Int) (k a b : Nat), vs = [.ref t.z, .int a, .int b] ∧ TnAt K t L k H ∧ a < t.p.n ∧ b < t.p.n ∧ a ≠ b ∧ k ≤ 880 ∧
  ∀ (H' : Hp) (k' : Nat) (c : Bool), UpT K t H H' → TnAt K t L k' H' → k ≤ k' → k' ≤ k + 14 → (c = false → cnt t.lost k + t.p.c ≤ cnt t.lost k') → Q (.bl c) H'
theorem cut_len (xs : List V) {j : Nat} : (cutV xs none (some (j : Int))).length = min j xs.length := by
  unfold cutV
  rw [HT.sIx_none, HT.sIx_nat, List.drop_zero, Nat.sub_zero, List.length_take]
  omega
theorem eqV_nat (x y : Nat) : decide (V.int (x : Int) = V.int (y : Int)) = decide (x = y) := by
  rw [Bool.eq_iff_iff, decide_eq_true_iff, decide_eq_true_iff]
  constructor
  · intro h
    injection h with h
    omega
  · rintro rfl; rfl
section
variable {P : Program} {w : World} {K : PySem.W.Frag} {mg : Str → Option Value} {base : Heap}
theorem ok_T_send (T : Txt K mg) (TB : LamX.TabB base mg (tabC K) (tabP K)) : C8.Met P w K mg base 6 (TC K) "send" (spSend K) [] := by
  have k_notes_of := ok_notes_of (P := P) (w := w) (base := base) T TB
  have k_taken := ok_taken (P := P) (w := w) (base := base) T
  have k_Turn_put_house := ok_T_put_house (P := P) (w := w) (base := base) T
  have k_Turn_is_up := ok_T_is_up (P := P) (w := w) (base := base) T
  refine mk_Turn_send T (fun vs H Q E h => ?_) (fun cdv A outer s H vs Q E hr h => ?_)
  · obtain ⟨t, L, k, x, y, rfl, _⟩ := h; rfl
  · obtain ⟨t, L, k, x, y, rfl, R, hx, hy, hk, q⟩ := h
    refine ⟨_, (pss_cons (ps_asg (C8.pe_c k_notes_of hr (by decide) (by rfl) (pa_cons (pe_fld (pv 0) rfl) (pa_cons (pe_fld (pv 0) rfl) (pa_cons (pe_tupU (pa_cons (pe_fld (pv 0) rfl) (pa_cons (pe_callTy call_tupleU (by rfl) T.n_tuple (by decide +kernel) (pa_cons (pe_fld (pv 0) rfl) pa_nil)) pa_nil))) (pa_cons (pv 1) (pa_cons (pv 2) pa_nil)))))) (pg_tup rfl (pgs_cons (pg_name (i := 3) sc_Turn_send.nd rfl (Or.inl rfl)) (pgs_cons (pg_name (i := 4) sc_Turn_send.nd rfl (Or.inl rfl)) pgs_nil))))
        (pss_cons (ps_asg (pe_ix ix_list (pe_fld (pv 0) rfl) (pv 1) (fun _ _ => rfl)) (pg_tup rfl (pgs_cons (pg_name (i := 5) sc_Turn_send.nd rfl (Or.inl rfl)) (pgs_cons (pg_name (i := 6) sc_Turn_send.nd rfl (Or.inl rfl)) (pgs_cons (pg_name (i := 7) sc_Turn_send.nd rfl (Or.inl rfl)) (pgs_cons (pg_name (i := 8) sc_Turn_send.nd rfl (Or.inl rfl)) pgs_nil))))))
        (pss_cons (ps_expr (C8.pe_mt k_Turn_put_house hr (by decide) (pv 0) (pa_cons (pv 1) (pa_cons (pv 5) (pa_cons (pv 4) (pa_cons (pv 8) pa_nil))))))
        (pss_cons (ps_set (i := 9) sc_Turn_send.nd rfl (Or.inl rfl) (pe_cmpR op_in_seq (pe_callB call_len_seq (by rfl) T.n_len (by decide +kernel) (pa_cons (pe_fld (pv 0) rfl) pa_nil)) (pe_fld (pv 0) rfl) (by rfl)))
        (pss_cons (ps_expr (pe_bm PySem.F.plainAttrs_list PySem.F.slot_list_append PySem.F.type_list_append mt_appU (pe_fld (pv 0) rfl) (pa_cons (pe_tupU (pa_cons (pv 1) (pa_cons (pv 2) (pa_cons (pv 9) pa_nil)))) pa_nil)))
        (pss_cons (ps_if (PW.pt (pw_or (pt_val (pv 9)) (pw_or1 (pt_not (pt_val (C8.pe_mt k_Turn_is_up hr (by decide) (pv 0) (pa_cons (pv 2) pa_nil))))))) (pss_one (ps_ret pe_bl)) pss_nil)
        (pss_cons (ps_asg (C8.pe_c k_taken hr (by decide) (by rfl) (pa_cons (pe_fld (pv 0) rfl) (pa_cons (pe_ix ix_list (pe_fld (pv 0) rfl) (pv 2) (fun _ _ => rfl)) (pa_cons (pv 2) (pa_cons (pv 3) pa_nil))))) (pg_sub (pe_fld (pv 0) rfl) (pv 2) set_listU))
        (pss_one (ps_ret pe_bl))))))))), ?_⟩
    obtain ⟨dx, e0⟩ := R.ins
    obtain ⟨hs, h1, h2⟩ := R.hou
    refine ⟨_, rfl, t.z, _, _, _, _, rfl, e0, T.c_Turn, T.a_Turn_rules, rfl, _, rfl, t.z, _, _, _, _, rfl, e0, T.c_Turn, T.a_Turn_town, rfl, ?_⟩
    refine ⟨_, rfl, t.z, _, _, _, _, rfl, e0, T.c_Turn, T.a_Turn_turn, rfl, _, rfl, t.z, _, _, _, _, rfl, e0, T.c_Turn, T.a_Turn_houses, rfl, t.hl, hs, rfl, h1, fun hh H1 _ u1 e1 => ?_⟩
    refine ⟨by simp, fun sa H2 _ u2 e2 => ?_⟩
    have u12 : Up [] H H2 := u1.trans u2
    refine ⟨_, rfl, _, rfl, t.ra, t.ta, sa, hh, t.p, L, t.t, hs, x, y, rfl, R.rul.up u12, R.tow.up u12, e2, u2.tu _ _ e1, h2.up u12, hx, hy, R.tab.up0 u12, fun H3 r nt bh u3 T3 e3 n3 b3 => ?_⟩
    refine ⟨r, _, rfl, SqT.of e3, rfl, _, _, rfl, _, _, rfl, rfl, ?_⟩
    have R3 := (R.up0 u12).upP u3 T3
    have v3 : UpT K t H H3 := u12.of.trans (u3.mono (by simp))
    obtain ⟨dx3, e03⟩ := R3.ins
    obtain ⟨hs3, g1, g2⟩ := R3.hou
    obtain ⟨hv', ev, ha, hb, ht, hm, rfl, m1, m2, m3, m4⟩ := g2.at hx
    refine ⟨_, rfl, t.z, _, _, _, _, rfl, e03, T.c_Turn, T.a_Turn_houses, rfl, _, rfl, t.hl, hs3, _, _, rfl, rfl, SqL.of g1, atI_nat ev, ha, _, rfl, SqT.of m1, rfl, _, _, rfl, _, _, rfl, _, _, rfl, _, _, rfl, rfl, ?_⟩
    refine ⟨_, rfl, t.z, _, _, rfl, e03, rfl, _, rfl, _, rfl, _, rfl, _, rfl, t, L, k, x, bh, hm, rfl, R3, hx, b3, m4, fun H4 u4 R4 => ?_⟩
    have v4 : UpT K t H H4 := v3.trans (u4.mono (by simp))
    obtain ⟨dx4, e04⟩ := R4.ins
    obtain ⟨ss, s1, s2, s3⟩ := R4.sen
    refine ⟨_, rfl, t.z, _, _, _, _, rfl, e04, T.c_Turn, T.a_Turn_sent, rfl, t.sl, ss, rfl, .inl (SqL.of s1), _, rfl, t.z, _, _, _, _, rfl, e04, T.c_Turn, T.a_Turn_lost_ones, rfl, t.lo, _, rfl, .inr (SqT.of R4.los), rfl, ints_flat _, ?_⟩
    have eL : (if false = true then !inV (.int (ss.length : Nat)) (t.lost.map V.int) else inV (.int (ss.length : Nat)) (t.lost.map V.int)) = decide (((ss.length : Nat) : Int) ∈ t.lost) := by
      rw [if_neg Bool.false_ne_true]; exact in_lost
    rw [eL]
    subst s2
    obtain ⟨bl, hbl⟩ : ∃ bl : Bool, bl = decide (((ss.length : Nat) : Int) ∈ t.lost) := ⟨_, rfl⟩
    rw [← hbl]
    refine ⟨_, rfl, t.z, _, _, _, _, rfl, e04, T.c_Turn, T.a_Turn_sent, rfl, ?_⟩
    refine ⟨.inl ⟨rfl, _, SqL.of s1⟩, _, rfl, _, rfl, _, rfl, by simp, fun a H5 _ u5 e5 => ?_⟩
    refine ⟨t.sl, ss, _, rfl, rfl, u5.f0 s1, by omega, fun H6 u6 e6 => ?_⟩
    have w6 : Up [t.sl] H4 H6 := u5.of.trans u6
    have v6 : UpT K t H H6 := v4.trans (w6.mono (by simp))
    have R6 : TnAt K t L (ss.length + 1) H6 := R4.putS w6 e6 (by rw [List.length_append]; rfl) ((s3.up w6).snoc (x := x) (y := y) ⟨a, rfl, by rw [← hbl]; exact u6.tu _ _ e5⟩)
    refine ⟨_, rfl, _, rfl, ?_⟩
    cases bl with
    | true =>
      refine iteT (iteT ?_)
      have z := q H6 v6 R6
      rw [← hbl] at z
      exact z
    | false =>
      refine iteF ?_
      obtain ⟨dx6, e06⟩ := R6.ins
      refine ⟨_, rfl, t.z, _, _, rfl, e06, rfl, _, rfl, t, L, _, y, rfl, R6, hy, _, rfl, ?_⟩
      refine iteF ?_
      obtain ⟨hs6, j1, j2⟩ := R6.hou
      obtain ⟨hw, ew, hz⟩ := j2.at hy
      obtain ⟨ha', _, _, _, rfl, _⟩ := id hz
      have hl6 := j2.1
      refine ⟨_, rfl, t.z, _, _, _, _, rfl, e06, T.c_Turn, T.a_Turn_rules, rfl, _, rfl, t.z, _, _, _, _, rfl, e06, T.c_Turn, T.a_Turn_houses, rfl, _, rfl, t.hl, hs6, _, _, rfl, rfl, SqL.of j1, atI_nat ew, _, rfl, _, rfl, ?_⟩
      refine ⟨t.ra, ha', nt, t.p, L, y, rfl, R6.rul, hz, hy, n3.up ((u4.mono (ex' := [t.hl, t.sl]) (by simp)).trans (w6.mono (by simp))), fun H7 hh7 u7 h7 => ?_⟩
      refine ⟨_, rfl, t.z, _, _, _, _, rfl, u7.f0 e06, T.c_Turn, T.a_Turn_houses, rfl, _, rfl, t.hl, hs6, y, rfl, rfl, u7.f0 j1, by omega, fun H8 u8 e8 => ?_⟩
      have w8 : Up [t.hl] H6 H8 := u7.of.trans u8
      have z := q H8 (v6.trans (w8.mono (by simp))) (R6.putH w8 e8 ((j2.up w8).set (h7.up u8)))
      rw [← hbl] at z
      exact z
theorem ok_T_helpers (T : Txt K mg) : C8.Met P w K mg base 3 (TC K) "helpers" (spHelpers K) [] := by
  have k_Turn_doubts := ok_T_doubts (P := P) (w := w) (base := base) T
  refine mk_Turn_helpers T (fun vs H Q E h => ?_) (fun cdv A outer s H vs Q E hr h => ?_)
  · obtain ⟨t, L, k, a, b, rfl, _⟩ := h; rfl
  · obtain ⟨t, L, k, a, b, rfl, R, ha, hb, hab, q⟩ := h
    refine ⟨_, (pss_cons (ps_set (i := 3) sc_Turn_helpers.nd rfl (Or.inr rfl) (pe_callB call_len_seq (by rfl) T.n_len (by decide +kernel) (pa_cons (pe_fld (pv 0) rfl) pa_nil)))
        (pss_cons (ps_setLc (i := 4) (own := [("step", 5)]) rfl sc_Turn_helpers.nd rfl rfl (sw_true rfl rfl rfl (by decide +kernel)) (pi_range2 rfl T.n_range (pa_cons pe_int (pa_cons (pv 3) pa_nil))) (blkOk_by (own := [("step", 5)]) (N := N_Turn_helpers) (sc := defScope s_Turn_helpers) (by decide +kernel)) (fun _ _ _ _ _ => (pg_name (i := 5) sc_Turn_helpers.nd rfl (Or.inl rfl))) (fun _ _ _ _ _ => pts_nil) (fun _ _ _ _ _ => (pe_op op_mod (pe_op op_add (pv 1) (pv 5)) (pv 3))))
        (pss_one (ps_ret (pe_slice sl_listU (pe_lc (own := [("house", 6)]) rfl sc_Turn_helpers.nd (pi_list (pv 4)) (blkOk_by (own := [("house", 6)]) (N := N_Turn_helpers) (sc := defScope s_Turn_helpers) (by decide +kernel)) (fun _ _ _ _ _ => (pg_name (i := 6) sc_Turn_helpers.nd rfl (Or.inl rfl))) (fun _ _ _ _ _ => (pts_one (PW.pt (pw_and (pt_cmpR op_ne (pv 6) (pv 2) (nomark _)) (pw_and1 (pt_val (C8.pe_mt k_Turn_doubts hr (by decide) (pv 0) (pa_cons (pv 1) (pa_cons (pv 6) pa_nil))))))))) (fun _ _ _ _ _ => (pv 6))) po_none (po_some (pe_ix ix_tup (pe_fld (pv 0) rfl) pe_int (fun _ _ => rfl)))))))), ?_⟩
    obtain ⟨dx, e0⟩ := R.ins
    obtain ⟨hs, h1, h2⟩ := R.hou
    obtain ⟨hl, _⟩ := id h2
    have hn2 := t.p.hn2
    have hn6 := t.p.hn6
    refine ⟨_, rfl, t.z, _, _, _, _, rfl, e0, T.c_Turn, T.a_Turn_houses, rfl, t.hl, hs, rfl, .inl (SqL.of h1), ?_⟩
    refine ⟨_, rfl, _, _, rfl, ⟨by omega, by omega, by omega, by omega⟩, fun D f => ?_⟩
    have e1 : (((hs.length : Nat) : Int) - 1).toNat = t.p.n - 1 := by omega
    rw [e1]
    refine lc_range (lo := 1) (n := t.p.n - 1) (LcI D fun i acc H' => Up [D] H H' ∧ acc = (List.range i).map fun i => V.int (((a + 1 + i) % t.p.n : Nat) : Int))
      (lc_start f fun H' u _ => ⟨u.of, rfl⟩) (fun i H1 hi W => ?_) fun H1 W => ?_
    · obtain ⟨acc, g1, g2, u1, e2⟩ := W
      refine ⟨wipe1 (by decide), ?_⟩
      unfold tYes
      refine iteT ?_
      refine ⟨_, rfl, _, rfl, _, _, rfl, rfl, _, rfl, _, _, rfl, rfl, show (0 : Int) < (hs.length : Int) by omega, ?_⟩
      refine lc_add g1 g2 (by omega) fun H' u _ => ⟨u1.trans u, ?_⟩
      rw [e2, List.range_succ, List.map_append, List.map_singleton]
      congr 2
      rw [hl]
      show V.int (((a : Int) + (1 + (i : Int))) % (t.p.n : Int)) = _
      rw [show (a : Int) + (1 + (i : Int)) = ((a + 1 + i : Nat) : Int) by omega]
      rfl
    · obtain ⟨acc, g1, g2, u1, e2⟩ := W
      have v1 : Up [] H H1 := u1.sub fun e m => .inl (by rw [List.mem_singleton.mp m]; exact f)
      have R1 := R.up0 v1
      obtain ⟨dx1, e01⟩ := R1.ins
      have la : acc.length = t.p.n - 1 := by rw [e2, List.length_map, List.length_range]
      refine ⟨_, rfl, D, rfl, ⟨_, SqL.of g1⟩, fun D2 f2 => ?_⟩
      refine lc_list (xs := acc) (LcI D2 fun i acc' H' => Up [D2] H1 H' ∧ acc' = (((List.range i).map fun i => (a + 1 + i) % t.p.n).filter fun k => decide (k ≠ b)).map fun k => V.int ((k : Nat) : Int))
        (lc_start f2 fun H' u _ => ⟨u.of, rfl⟩) (fun i H2 hi W => ?_) (fun i z H2 hz W => ?_) fun H2 W => ?_
      · obtain ⟨acc', b1, b2, u2, _⟩ := W
        exact SqL.of (u2.f1 g1 (ne_of_none g1 f2))
      · obtain ⟨acc', b1, b2, u2, b3⟩ := W
        have hi := (List.getElem?_eq_some_iff.mp hz).1
        have hz' : z = V.int (((a + 1 + i) % t.p.n : Nat) : Int) := by
          rw [e2, List.getElem?_map, List.getElem?_range (by omega)] at hz
          exact (Option.some.inj hz).symm
        subst hz'
        have v2 : Up [] H1 H2 := u2.sub fun e m => .inl (by rw [List.mem_singleton.mp m]; exact f2)
        have R2 := R1.up0 v2
        obtain ⟨dx2, e02⟩ := R2.ins
        have hm : (a + 1 + i) % t.p.n < t.p.n := Nat.mod_lt _ (by omega)
        have nx : ((List.range (i + 1)).map fun i => (a + 1 + i) % t.p.n) = ((List.range i).map fun i => (a + 1 + i) % t.p.n) ++ [(a + 1 + i) % t.p.n] := by
          rw [List.range_succ, List.map_append, List.map_singleton]
        refine ⟨wipe1 (by decide), ?_⟩
        refine ⟨_, rfl, _, rfl, rfl, _, rfl, ite2 (fun c => ?_) (fun c => iteF ?_)⟩
        · refine ⟨_, rfl, t.z, _, _, rfl, e02, rfl, _, rfl, _, rfl, t, L, k, a, (a + 1 + i) % t.p.n, rfl, R2, ha, hm, _, rfl, ?_⟩
          refine iteT ?_
          refine ⟨_, rfl, lc_add b1 b2 (by omega) fun H' u _ => ⟨u2.trans u, ?_⟩⟩
          have c1 : (!decide (V.int (((a + 1 + i) % t.p.n : Nat) : Int) = V.int (b : Nat))) = true := c
          have c' : decide ((a + 1 + i) % t.p.n ≠ b) = true := by
            rw [eqV_nat] at c1
            simpa using c1
          rw [nx, List.filter_append, b3, List.filter_cons_of_pos (p := fun k => decide (k ≠ b)) c', List.filter_nil, List.map_append]
          rfl
        · refine lc_skip b1 b2 ⟨u2, ?_⟩
          have c1 : ¬ (!decide (V.int (((a + 1 + i) % t.p.n : Nat) : Int) = V.int (b : Nat))) = true := c
          have c' : ¬ decide ((a + 1 + i) % t.p.n ≠ b) = true := by
            rw [eqV_nat] at c1
            simpa using c1
          rw [nx, List.filter_append, b3, List.filter_cons_of_neg (p := fun k => decide (k ≠ b)) c', List.filter_nil, List.append_nil]
      · obtain ⟨acc', b1, b2, u2, b3⟩ := W
        have v2 : Up [] H1 H2 := u2.sub fun e m => .inl (by rw [List.mem_singleton.mp m]; exact f2)
        have v12 := v1.trans v2
        have R2 := R1.up0 v2
        obtain ⟨dx2, e02⟩ := R2.ins
        obtain ⟨nm, r1, r2⟩ := R2.rul
        rw [la] at b3
        have hlen : acc'.length = t.p.n - 2 := by
          rw [b3, List.length_map]
          exact others_length hn2 hn6 ha hb hab
        have ho : t.p.oth = ((t.p.oth.toNat : Nat) : Int) := by have := t.p.ho0; omega
        refine ⟨_, rfl, t.z, _, _, _, _, rfl, e02, T.c_Turn, T.a_Turn_rules, rfl, t.ra, _, _, _, rfl, rfl, SqT.of r1, atI_nat (j := 0) rfl, _, rfl, D2, _, rfl, SqL.of b1, fun r H3 f3 u3 e3 => ?_⟩
        obtain ⟨ms, c1, c2, c3⟩ := cut_ints ((((List.range (t.p.n - 1)).map fun i => (a + 1 + i) % t.p.n).filter fun k => decide (k ≠ b)).map fun k => ((k : Nat) : Int)) none (some t.p.oth)
        rw [List.map_map] at c1
        have e3' := e3
        rw [b3] at e3'
        rw [show (fun k : Nat => V.int ((k : Nat) : Int)) = (V.int ∘ fun k : Nat => ((k : Nat) : Int)) from rfl, c1] at e3'
        refine q H3 r ms (v12.trans u3) (v12.none f3 (by simp)) e3' (fun z m => ?_) ?_
        · obtain ⟨k', m', e'⟩ := List.mem_map.mp (c2 z m)
          obtain ⟨m'', _⟩ := List.mem_filter.mp m'
          obtain ⟨i, _, e''⟩ := List.mem_map.mp m''
          exact ⟨k', e'.symm, by rw [← e'']; exact Nat.mod_lt _ (by omega)⟩
        · have e4 : (cutV acc' none (some t.p.oth)).length = ms.length := by
            rw [b3, show (fun k : Nat => V.int ((k : Nat) : Int)) = (V.int ∘ fun k : Nat => ((k : Nat) : Int)) from rfl, c1, List.length_map]
          rw [ho, cut_len, hlen] at e4
          exact e4.symm
end
end Hb

set_option maxHeartbeats 4000000
/-! turns: an asking -/
namespace Hb
open PySem PySem.Spec PyProof.Rows L2
theorem send_go {K : PySem.W.Frag} {t : Tn} {L : Int} {k x y : Nat} {H : Hp} {Q : VK} {E : XK} (R : TnAt K t L k H) (hx : x < t.p.n) (hy : y < t.p.n) (hk : k ≤ 900) (q : ∀ H', UpT K t H H' → TnAt K t L (k + 1) H' → Q (.bl (!decide (((k : Nat) : Int) ∈ t.lost))) H') : spSend K [.ref t.z, .int x, .int y] H Q E := ⟨t, L, k, x, y, rfl, R, hx, hy, hk, q⟩
theorem cl_others : inV (.str "others") clauseVs = true := by decide +kernel
theorem cl_wait : inV (.str "wait") clauseVs = true := by decide +kernel
theorem cl_again : inV (.str "again") clauseVs = true := by decide +kernel
def spDoubt (K : PySem.W.Frag) : Sp := fun vs H Q _ => ∃ (t : Tn) (L L1 : Int) (k a b : Nat), vs = [.ref t.z, .int a, .int b] ∧ TnAt K t L k H ∧ a < t.p.n ∧ b < t.p.n ∧ a ≠ b ∧ 0 ≤ L ∧ L + t.p.c ≤ L1 ∧ L1 < t.p.safe ∧ tnPut K t L1 k H Q
/-- what an asking leaves behind -/
def tnAsk (K : PySem.W.Frag) (t : Tn) (L : Int) (k d : Nat) (H : Hp) (Q : VK) : Prop := ∀ (H' : Hp) (k' : Nat), UpT K t H H' → TnAt K t (L + cnt t.lost k') k' H' → k ≤ k' → k' ≤ k + d → Q .non H'
def Bud (t : Tn) (L : Int) : Prop := 0 ≤ L ∧ L + t.lost.length < t.p.safe
def spAsk (K : PySem.W.Frag) : Sp := fun vs H Q _ => ∃ (t : Tn) (L : Int) (k a b : Nat), vs = [.ref t.z, .int a, .int b] ∧ TnAt K t (L + cnt t.lost k) k H ∧ a < t.p.n ∧ b < t.p.n ∧ a ≠ b ∧ k ≤ 880 ∧ Bud t L ∧ tnAsk K t L k 14 H Q
def spAskAll (K : PySem.W.Frag) : Sp := fun vs H Q _ => ∃ (t : Tn) (L : Int) (k a : Nat), vs = [.ref t.z, .int a] ∧ TnAt K t (L + cnt t.lost k) k H ∧ a < t.p.n ∧ k ≤ 700 ∧ Bud t L ∧ tnAsk K t L k 98 H Q
def spGo (K : PySem.W.Frag) : Sp := fun vs H Q _ => ∃ (t : Tn) (L : Int), vs = [.ref t.z] ∧ TnAt K t (L + cnt t.lost 0) 0 H ∧ Bud t L ∧ tnAsk K t L 0 588 H Q
section
variable {P : Program} {w : World} {K : PySem.W.Frag} {mg : Str → Option Value} {base : Heap}
theorem ok_T_is_answered (T : Txt K mg) (TB : LamX.TabB base mg (tabC K) (tabP K)) : C8.Met P w K mg base 7 (TC K) "is_answered" (spAnswered K) [] := by
  have k_Turn_send := ok_T_send (P := P) (w := w) (base := base) T TB
  have k_Turn_helpers := ok_T_helpers (P := P) (w := w) (base := base) T
  have k_Turn_clause := ok_T_clause (P := P) (w := w) (base := base) T
  have k_Turn_doubts := ok_T_doubts (P := P) (w := w) (base := base) T
  refine mk_Turn_is_answered T (fun vs H Q E h => ?_) (fun cdv A outer s H vs Q E hr h => ?_)
  · obtain ⟨t, L, k, a, b, rfl, _⟩ := h; rfl
  · obtain ⟨t, L, k, a, b, rfl, R, ha, hb, hab, hk, q⟩ := h
    refine ⟨_, (C8.pss_cut (ps_if (PW.pt (pw_and (pt_val (C8.pe_mt k_Turn_send hr (by decide) (pv 0) (pa_cons (pv 1) (pa_cons (pv 2) pa_nil)))) (pw_and1 (pt_val (C8.pe_mt k_Turn_send hr (by decide) (pv 0) (pa_cons (pv 2) (pa_cons (pv 1) pa_nil))))))) (pss_one (ps_ret pe_bl)) pss_nil)
        (pss_cons (ps_if (PW.pt (pw_or (pt_not (pt_val (C8.pe_mt k_Turn_clause hr (by decide) (pv 0) (pa_cons pe_str pa_nil)))) (pw_or1 (pt_not (pt_val (C8.pe_mt k_Turn_doubts hr (by decide) (pv 0) (pa_cons (pv 1) (pa_cons (pv 2) pa_nil)))))))) (pss_one (ps_ret pe_bl)) pss_nil)
        (pss_cons (ps_for PassesOwn.never rfl (pi_list (C8.pe_mt k_Turn_helpers hr (by decide) (pv 0) (pa_cons (pv 1) (pa_cons (pv 2) pa_nil)))) (pg_name (i := 3) sc_Turn_is_answered.nd rfl (Or.inl rfl)) (pss_one (ps_if (PW.pt (pw_and (pt_val (C8.pe_mt k_Turn_send hr (by decide) (pv 0) (pa_cons (pv 1) (pa_cons (pv 3) pa_nil)))) (pw_and (pt_val (C8.pe_mt k_Turn_send hr (by decide) (pv 0) (pa_cons (pv 3) (pa_cons (pv 2) pa_nil)))) (pw_and (pt_val (C8.pe_mt k_Turn_send hr (by decide) (pv 0) (pa_cons (pv 2) (pa_cons (pv 3) pa_nil)))) (pw_and1 (pt_val (C8.pe_mt k_Turn_send hr (by decide) (pv 0) (pa_cons (pv 3) (pa_cons (pv 1) pa_nil))))))))) (pss_one (ps_ret pe_bl)) pss_nil)))
        (pss_one (ps_ret pe_bl))))), ?_⟩
    obtain ⟨dx, e0⟩ := R.ins
    have hh : t.p.h ≤ 3 := by have := t.p.ho3; unfold Par.h; omega
    refine ⟨fun σ' H' => σ' = start N_Turn_is_answered [.ref t.z, .int a, .int b] ∧ ∃ k1, UpT K t H H' ∧ TnAt K t L k1 H' ∧ k ≤ k1 ∧ k1 ≤ k + 2 ∧ cnt t.lost k + 1 ≤ cnt t.lost k1, ?_, ?_⟩
    · refine ⟨_, rfl, t.z, _, _, rfl, e0, rfl, _, rfl, _, rfl, t, L, k, a, b, rfl, R, ha, hb, by omega, fun H1 u1 R1 => ⟨_, rfl, ite_lost (fun c => ?_) (fun c => ?_)⟩⟩
      · exact iteF ⟨rfl, _, u1, R1, by omega, by omega, by rw [cnt_in c]; omega⟩
      · obtain ⟨dx1, e01⟩ := R1.ins
        refine ⟨_, rfl, t.z, _, _, rfl, e01, rfl, _, rfl, _, rfl, t, L, _, b, a, rfl, R1, hb, ha, by omega, fun H2 u2 R2 => ⟨_, rfl, ite_lost (fun c => ?_) (fun c => ?_)⟩⟩
        · exact ⟨rfl, _, u1.trans u2, R2, by omega, by omega, by have := cnt_le_succ t.lost k; rw [cnt_in c]; omega⟩
        · exact q H2 _ true (u1.trans u2) R2 (by omega) (by omega) fun z => by cases z
    rintro σ' H1 ⟨rfl, k1, u1, R1, k1a, k1b, hc⟩
    obtain ⟨dx1, e01⟩ := R1.ins
    refine ⟨_, rfl, t.z, _, _, rfl, e01, rfl, t, L, k1, "others", rfl, R1, _, rfl, ?_⟩
    refine iteF ?_
    refine ⟨_, rfl, t.z, _, _, rfl, e01, rfl, _, rfl, _, rfl, t, L, k1, a, b, rfl, R1, ha, hb, _, rfl, ?_⟩
    refine iteF ?_
    refine ⟨_, rfl, t.z, _, _, rfl, e01, rfl, _, rfl, _, rfl, t, L, k1, a, b, rfl, R1, ha, hb, hab, fun H2 l ns u2 f2 e2 hns hlen => ⟨l, rfl, ⟨_, SqL.of e2⟩, ?_⟩⟩
    have R2 := R1.up0 u2
    obtain ⟨hs1, h1, _⟩ := R1.hou
    obtain ⟨ss1, s1, _⟩ := R1.sen
    obtain ⟨ps, hP⟩ := R1.tab.at
    have nl : l ∉ [tabP K, t.hl, t.sl] := fun m => by
      have m' : l = tabP K ∨ l = t.hl ∨ l = t.sl := by simpa using m
      rcases m' with z | z | z <;> rw [z] at f2
      · rw [hP] at f2; cases f2
      · rw [h1] at f2; cases f2
      · rw [s1] at f2; cases f2
    refine for_list (xs := ns.map V.int) (fun i σ H' => (∃ z : Option V, σ = [some (.ref t.z), some (.int a), some (.int b), z]) ∧ ∃ k', UpT K t H2 H' ∧ TnAt K t L k' H' ∧ k ≤ k' ∧ k' ≤ k + 2 + 4 * i ∧ cnt t.lost k + 1 + (i : Int) ≤ cnt t.lost k')
      ⟨⟨none, rfl⟩, k1, .refl, R2, k1a, by omega, by omega⟩ (fun i σ H' _ h => ?_) (fun i x σ H' hx h => ?_) (fun σ H' h => ?_)
    · obtain ⟨_, k', u, _⟩ := h
      exact SqL.of (u.fr _ _ e2 nl)
    · obtain ⟨⟨z, rfl⟩, k', u, R', g1, g2, g3⟩ := h
      have hi := (List.getElem?_eq_some_iff.mp hx).1
      rw [List.length_map] at hi
      rw [int_at hi] at hx
      cases hx
      obtain ⟨j, ej, hj⟩ := hns ns[i] (List.getElem_mem hi)
      rw [ej]
      obtain ⟨dx', e0'⟩ := R'.ins
      have v : UpT K t H H' := u1.trans (u2.of.trans u)
      have m0 := cnt_le_succ t.lost k'
      have m1 := cnt_le_succ t.lost (k' + 1)
      have m2 := cnt_le_succ t.lost (k' + 1 + 1)
      refine ⟨_, rfl, t.z, _, _, rfl, e0', rfl, _, rfl, _, rfl, t, L, k', a, j, rfl, R', ha, hj, by omega, fun H3 u3 R3 => ⟨_, rfl, ite_lost (fun c => ?_) (fun c => ?_)⟩⟩
      · exact iteF ⟨⟨_, rfl⟩, _, u.trans u3, R3, by omega, by omega, by rw [cnt_in c]; omega⟩
      obtain ⟨dx3, e03⟩ := R3.ins
      refine ⟨_, rfl, t.z, _, _, rfl, e03, rfl, _, rfl, _, rfl, t, L, _, j, b, rfl, R3, hj, hb, by omega, fun H4 u4 R4 => ⟨_, rfl, ite_lost (fun c => ?_) (fun c => ?_)⟩⟩
      · exact iteF ⟨⟨_, rfl⟩, _, (u.trans u3).trans u4, R4, by omega, by omega, by rw [cnt_in c]; omega⟩
      obtain ⟨dx4, e04⟩ := R4.ins
      refine ⟨_, rfl, t.z, _, _, rfl, e04, rfl, _, rfl, _, rfl, t, L, _, b, j, rfl, R4, hb, hj, by omega, fun H5 u5 R5 => ⟨_, rfl, ite_lost (fun c => ?_) (fun c => ?_)⟩⟩
      · exact iteF ⟨⟨_, rfl⟩, _, ((u.trans u3).trans u4).trans u5, R5, by omega, by omega, by rw [cnt_in c]; omega⟩
      obtain ⟨dx5, e05⟩ := R5.ins
      refine ⟨_, rfl, t.z, _, _, rfl, e05, rfl, _, rfl, _, rfl, t, L, _, j, a, rfl, R5, hj, ha, by omega, fun H6 u6 R6 => ⟨_, rfl, ite_lost (fun c => ?_) (fun c => ?_)⟩⟩
      · exact ⟨⟨_, rfl⟩, _, (((u.trans u3).trans u4).trans u5).trans u6, R6, by omega, by omega, by rw [cnt_in c]; omega⟩
      · exact q H6 _ true (((v.trans u3).trans u4).trans (u5.trans u6)) R6 (by omega) (by omega) fun z => by cases z
    · obtain ⟨⟨z, rfl⟩, k', u, R', g1, g2, g3⟩ := h
      rw [List.length_map, hlen] at g2 g3
      exact q H' k' false (u1.trans (u2.of.trans u)) R' g1 (by omega) fun _ => by unfold Par.c; omega
theorem ok_T_doubt (T : Txt K mg) : C8.Met P w K mg base 2 (TC K) "doubt" (spDoubt K) [] := by
  have k_Turn_word_of := ok_T_word_of (P := P) (w := w) (base := base) T
  have k_Turn_timer_of := ok_T_timer_of (P := P) (w := w) (base := base) T
  have k_Turn_clause := ok_T_clause (P := P) (w := w) (base := base) T
  have k_Turn_put_word := ok_T_put_word (P := P) (w := w) (base := base) T
  have k_Turn_put_timer := ok_T_put_timer (P := P) (w := w) (base := base) T
  refine mk_Turn_doubt T (fun vs H Q E h => ?_) (fun cdv A outer s H vs Q E hr h => ?_)
  · obtain ⟨t, L, L1, k, a, b, rfl, _⟩ := h; rfl
  · obtain ⟨t, L, L1, k, a, b, rfl, R, ha, hb, hab, l0, l1, l2, q⟩ := h
    refine ⟨_, (pss_cons (ps_asg (C8.pe_mt k_Turn_word_of hr (by decide) (pv 0) (pa_cons (pv 1) (pa_cons (pv 2) pa_nil))) (pg_tup rfl (pgs_cons (pg_name (i := 3) sc_Turn_doubt.nd rfl (Or.inl rfl)) (pgs_cons (pg_name (i := 4) sc_Turn_doubt.nd rfl (Or.inl rfl)) pgs_nil))))
        (pss_cons (ps_set (i := 5) sc_Turn_doubt.nd rfl (Or.inl rfl) (C8.pe_mt k_Turn_timer_of hr (by decide) (pv 0) (pa_cons (pv 1) (pa_cons (pv 2) pa_nil))))
        (pss_one (ps_if (PW.pt (pw_or (pt_cmpR op_eq (pv 5) pe_int (nomark _)) (pw_or1 (pt_not (pt_val (C8.pe_mt k_Turn_clause hr (by decide) (pv 0) (pa_cons pe_str pa_nil))))))) (pss_cons (ps_expr (C8.pe_mt k_Turn_put_word hr (by decide) (pv 0) (pa_cons (pv 1) (pa_cons (pv 2) (pa_cons (pe_tupU (pa_cons (pv 3) (pa_cons pe_int pa_nil))) pa_nil)))))
        (pss_one (ps_expr (C8.pe_mt k_Turn_put_timer hr (by decide) (pv 0) (pa_cons (pv 1) (pa_cons (pv 2) (pa_cons pe_int pa_nil))))))) (pss_one (ps_if (pt_cmpR op_eq (pv 5) pe_int (nomark _)) (pss_cons (ps_if (pt_cmpR op_ne (pv 4) pe_int (nomark _)) (pss_one (ps_expr (C8.pe_mt k_Turn_put_word hr (by decide) (pv 0) (pa_cons (pv 1) (pa_cons (pv 2) (pa_cons (pe_tupU (pa_cons (pv 3) (pa_cons pe_int pa_nil))) pa_nil)))))) pss_nil)
        (pss_one (ps_expr (C8.pe_mt k_Turn_put_timer hr (by decide) (pv 0) (pa_cons (pv 1) (pa_cons (pv 2) (pa_cons (pe_ix ix_tup (pe_fld (pv 0) rfl) pe_int (fun _ _ => rfl)) pa_nil))))))) (pss_one (ps_expr (C8.pe_mt k_Turn_put_timer hr (by decide) (pv 0) (pa_cons (pv 1) (pa_cons (pv 2) (pa_cons (pe_op op_sub (pv 5) pe_int) pa_nil)))))))))))), ?_⟩
    obtain ⟨dx, e0⟩ := R.ins
    have hc := t.p.c_pos
    have hne : ∀ {x : Int}, b = a → x = 0 := fun {x} z => absurd z.symm hab
    refine ⟨_, rfl, t.z, _, _, rfl, e0, rfl, _, rfl, _, rfl, t, L, k, a, b, rfl, R, ha, hb, fun wd num mk hw hm => ?_⟩
    refine ⟨wd, _, rfl, SqT.of hw, rfl, _, _, rfl, _, _, rfl, rfl, ?_⟩
    refine ⟨_, rfl, t.z, _, _, rfl, e0, rfl, _, rfl, _, rfl, t, L, k, a, b, rfl, R, ha, hb, fun tm ht hta => ?_⟩
    have n1 : tm ≠ 1 := tim_one ht l1 l2
    refine ⟨_, rfl, rfl, _, rfl, ite2 (fun c => ?_) (fun _ => ?_)⟩
    · exact absurd (by have c' : decide (V.int tm = V.int 1) = true := c; simpa using c') n1
    refine ⟨_, rfl, t.z, _, _, rfl, e0, rfl, t, L, k, "wait", rfl, R, _, rfl, ?_⟩
    refine iteF ?_
    refine ⟨_, rfl, rfl, _, rfl, ite2 (fun c => ?_) (fun c => ?_)⟩
    · have z : tm = 0 := by have c' : decide (V.int tm = V.int 0) = true := c; simpa using c'
      have fin : ∀ {H' : Hp}, Up [t.hl] H H' → TnAt K t L1 k H' → ∀ {r5 : Addr}, True := fun _ _ _ => trivial
      refine ⟨_, rfl, rfl, _, rfl, ite2 (fun _ => ?_) (fun _ => ?_)⟩
      · refine ⟨_, rfl, t.z, _, _, rfl, e0, rfl, _, rfl, _, rfl, _, rfl, by simp, fun w' H1 _ u1 e1 => ?_⟩
        have R1 := R.up0 u1
        refine ⟨t, L, k, a, b, _, rfl, R1, ha, hb, ⟨w', _, 1, rfl, e1, .inr rfl⟩, fun H2 u2 R2 => ?_⟩
        obtain ⟨dx2, e02⟩ := R2.ins
        obtain ⟨nm, r1, r2⟩ := R2.rul
        refine ⟨_, rfl, t.z, _, _, rfl, e02, rfl, _, rfl, _, rfl, _, rfl, t.z, _, _, _, _, rfl, e02, T.c_Turn, T.a_Turn_rules, rfl, t.ra, _, _, _, rfl, rfl, SqT.of r1, atI_nat (j := 1) rfl, ?_⟩
        exact ⟨t, L1, k, a, b, t.p.wt, rfl, R2.mono (by omega), ha, hb, tim_start l0 l1, hne, fun H3 u3 R3 => q H3 (u1.of.trans (u2.trans u3)) R3⟩
      · obtain ⟨nm, r1, r2⟩ := R.rul
        refine ⟨_, rfl, t.z, _, _, rfl, e0, rfl, _, rfl, _, rfl, _, rfl, t.z, _, _, _, _, rfl, e0, T.c_Turn, T.a_Turn_rules, rfl, t.ra, _, _, _, rfl, rfl, SqT.of r1, atI_nat (j := 1) rfl, ?_⟩
        exact ⟨t, L1, k, a, b, t.p.wt, rfl, R.mono (by omega), ha, hb, tim_start l0 l1, hne, fun H3 u3 R3 => q H3 u3 R3⟩
    · have z : tm ≠ 0 := by have c' : ¬ decide (V.int tm = V.int 0) = true := c; simpa using c'
      refine ⟨_, rfl, t.z, _, _, rfl, e0, rfl, _, rfl, _, rfl, _, rfl, _, _, rfl, rfl, ?_⟩
      exact ⟨t, L1, k, a, b, tm - 1, rfl, R.mono (by omega), ha, hb, tim_down ht z l1, hne, fun H3 u3 R3 => q H3 u3 R3⟩
theorem ok_T_ask (T : Txt K mg) (TB : LamX.TabB base mg (tabC K) (tabP K)) : C8.Met P w K mg base 8 (TC K) "ask" (spAsk K) [] := by
  have k_Turn_is_answered := ok_T_is_answered (P := P) (w := w) (base := base) T TB
  have k_Turn_put_timer := ok_T_put_timer (P := P) (w := w) (base := base) T
  have k_Turn_doubts := ok_T_doubts (P := P) (w := w) (base := base) T
  have k_Turn_doubt := ok_T_doubt (P := P) (w := w) (base := base) T
  refine mk_Turn_ask T (fun vs H Q E h => ?_) (fun cdv A outer s H vs Q E hr h => ?_)
  · obtain ⟨t, L, k, a, b, rfl, _⟩ := h; rfl
  · obtain ⟨t, L, k, a, b, rfl, R, ha, hb, hab, hk, ⟨b0, b1⟩, q⟩ := h
    refine ⟨_, (pss_one (ps_if (pt_val (C8.pe_mt k_Turn_is_answered hr (by decide) (pv 0) (pa_cons (pv 1) (pa_cons (pv 2) pa_nil)))) (pss_one (ps_expr (C8.pe_mt k_Turn_put_timer hr (by decide) (pv 0) (pa_cons (pv 1) (pa_cons (pv 2) (pa_cons pe_int pa_nil)))))) (pss_one (ps_if (pt_val (C8.pe_mt k_Turn_doubts hr (by decide) (pv 0) (pa_cons (pv 1) (pa_cons (pv 2) pa_nil)))) (pss_one (ps_expr (C8.pe_mt k_Turn_doubt hr (by decide) (pv 0) (pa_cons (pv 1) (pa_cons (pv 2) pa_nil))))) pss_nil)))), ?_⟩
    obtain ⟨dx, e0⟩ := R.ins
    refine ⟨_, rfl, t.z, _, _, rfl, e0, rfl, _, rfl, _, rfl, t, _, k, a, b, rfl, R, ha, hb, hab, hk, fun H1 k1 c u1 R1 c1 c2 c3 => ⟨_, rfl, ?_⟩⟩
    obtain ⟨dx1, e01⟩ := R1.ins
    have hm := cnt_mono t.lost c1
    cases c with
    | true =>
      refine iteT ?_
      refine ⟨_, rfl, t.z, _, _, rfl, e01, rfl, _, rfl, _, rfl, t, L + cnt t.lost k1, k1, a, b, 0, rfl, R1.mono (by omega), ha, hb, tim_zero _ _, fun _ => rfl, fun H2 u2 R2 => ?_⟩
      exact q H2 k1 (u1.trans (u2.mono (by simp))) R2 c1 c2
    | false =>
      refine iteF ?_
      refine ⟨_, rfl, t.z, _, _, rfl, e01, rfl, _, rfl, _, rfl, t, _, k1, a, b, rfl, R1, ha, hb, _, rfl, ?_⟩
      refine iteT ?_
      have hl := cnt_le_length t.lost k1
      have c4 := c3 rfl
      have c5 := cnt_nonneg t.lost k
      refine ⟨_, rfl, t.z, _, _, rfl, e01, rfl, _, rfl, _, rfl, t, L + cnt t.lost k, L + cnt t.lost k1, k1, a, b, rfl, R1, ha, hb, hab, by omega, by omega, by omega, fun H2 u2 R2 => ?_⟩
      exact q H2 k1 (u1.trans (u2.mono (by simp))) R2 c1 c2
end
end Hb

set_option maxHeartbeats 4000000
/-! turns: a turn of a town -/
namespace Hb
open PySem PySem.Spec PyProof.Rows L2
def spMove (K : PySem.W.Frag) : Sp := fun vs H Q _ => ∃ (t : Tn) (e1 e2 e3 : Addr), vs = [.ref t.z, .ref e1, .ref e2, .ref e3] ∧ H e1 = some (.tup []) ∧ H e2 = some (.tup []) ∧ H e3 = some (.tup []) ∧ ∀ H', Up [] H H' → Q .non H'
def spBehind (K : PySem.W.Frag) : Sp := fun vs H Q _ => ∃ (t : Tn) (L : Int) (k : Nat), vs = [.ref t.z] ∧ TnAt K t L k H ∧ ∀ (H' : Hp) (r : Addr), Up [] H H' → StateAt H' t.p L r → Q (.ref r) H'
/-- the doings of a turn without falls, leaves, comes -/
def Doings (H : Hp) (lost : List Int) (a : Addr) : Prop := ∃ lo e1 e2 e3 : Addr, H a = some (.tup [.ref lo, .ref e1, .ref e2, .ref e3]) ∧ H lo = some (.tup (lost.map V.int)) ∧ H e1 = some (.tup []) ∧ H e2 = some (.tup []) ∧ H e3 = some (.tup [])
def spStepped (K : PySem.W.Frag) : Sp := fun vs H Q _ => ∃ (ra ta sa da : Addr) (p : Par) (L : Int) (lost : List Int), vs = [.ref ra, .ref ta, .ref sa, .ref da] ∧ RulesAt H p ra ∧ TownAt H p.n ta ∧ StateAt H p L sa ∧ Doings H lost da ∧ Tab K H ∧ 0 ≤ L ∧ L + lost.length < p.safe ∧
  ∀ (H' : Hp) (r st le : Addr) (ss : List V), Up [tabP K] H H' → Tab K H' → H' r = some (.tup [.ref st, .ref le]) → H' le = some (.tup ss) → Letters H' lost ss → StateAt H' p (L + cnt lost ss.length) st → ss.length ≤ 588 → Q (.ref r) H'
section
variable {P : Program} {w : World} {K : PySem.W.Frag} {mg : Str → Option Value} {base : Heap}
theorem ok_T_ask_all (T : Txt K mg) (TB : LamX.TabB base mg (tabC K) (tabP K)) : C8.Met P w K mg base 9 (TC K) "ask_all" (spAskAll K) [] := by
  have k_target := ok_target (P := P) (w := w) (base := base) T
  have k_Turn_clause := ok_T_clause (P := P) (w := w) (base := base) T
  have k_Turn_doubts := ok_T_doubts (P := P) (w := w) (base := base) T
  have k_Turn_timer_of := ok_T_timer_of (P := P) (w := w) (base := base) T
  have k_Turn_ask := ok_T_ask (P := P) (w := w) (base := base) T TB
  refine mk_Turn_ask_all T (fun vs H Q E h => ?_) (fun cdv A outer s H vs Q E hr h => ?_)
  · obtain ⟨t, L, k, a, rfl, _⟩ := h; rfl
  · obtain ⟨t, L, k, a, rfl, R, ha, hk, B, q⟩ := h
    refine ⟨_, (pss_cons (ps_set (i := 2) sc_Turn_ask_all.nd rfl (Or.inl rfl) (C8.pe_c k_target hr (by decide) (by rfl) (pa_cons (pe_fld (pv 0) rfl) (pa_cons (pv 1) (pa_cons (pe_fld (pv 0) rfl) pa_nil)))))
        (C8.pss_cut (ps_if (PW.pt (pw_or (pt_val (C8.pe_mt k_Turn_clause hr (by decide) (pv 0) (pa_cons pe_str pa_nil))) (pw_or1 (pt_val (C8.pe_mt k_Turn_doubts hr (by decide) (pv 0) (pa_cons (pv 1) (pa_cons (pv 2) pa_nil))))))) (pss_one (ps_expr (C8.pe_mt k_Turn_ask hr (by decide) (pv 0) (pa_cons (pv 1) (pa_cons (pv 2) pa_nil))))) pss_nil)
        (pss_one (ps_for PassesOwn.never rfl (pi_range1 rfl T.n_range (pa_cons (pe_callB call_len_seq (by rfl) T.n_len (by decide +kernel) (pa_cons (pe_fld (pv 0) rfl) pa_nil)) pa_nil)) (pg_name (i := 3) sc_Turn_ask_all.nd rfl (Or.inl rfl)) (pss_one (ps_if (PW.pt (pw_and (pt_cmpR op_ne (pv 3) (pv 2) (nomark _)) (pw_and1 (pt_cmpR op_gt (C8.pe_mt k_Turn_timer_of hr (by decide) (pv 0) (pa_cons (pv 1) (pa_cons (pv 3) pa_nil))) pe_int (nomark _))))) (pss_one (ps_expr (C8.pe_mt k_Turn_ask hr (by decide) (pv 0) (pa_cons (pv 1) (pa_cons (pv 3) pa_nil))))) pss_nil)))))), ?_⟩
    obtain ⟨dx, e0⟩ := R.ins
    have hn2 := t.p.hn2
    have hn6 := t.p.hn6
    refine ⟨_, rfl, t.z, _, _, _, _, rfl, e0, T.c_Turn, T.a_Turn_town, rfl, _, rfl, _, rfl, t.z, _, _, _, _, rfl, e0, T.c_Turn, T.a_Turn_turn, rfl, t.ta, t.p.n, a, t.t, rfl, R.tow, hn2, ha, fun f hf hne => ?_⟩
    refine ⟨fun σ' H' => σ' = [some (.ref t.z), some (.int a), some (.int f), none] ∧ ∃ k1, UpT K t H H' ∧ TnAt K t (L + cnt t.lost k1) k1 H' ∧ k ≤ k1 ∧ k1 ≤ k + 14, ?_, ?_⟩
    · refine ⟨_, rfl, t.z, _, _, rfl, e0, rfl, t, _, k, "again", rfl, R, _, rfl, ?_⟩
      refine iteT (iteT ?_)
      refine ⟨_, rfl, t.z, _, _, rfl, e0, rfl, _, rfl, _, rfl, t, L, k, a, f, rfl, R, ha, hf, fun z => hne z.symm, by omega, B, fun H1 k1 u1 R1 c1 c2 => ?_⟩
      exact ⟨rfl, k1, u1, R1, c1, c2⟩
    rintro σ' H1 ⟨rfl, k1, u1, R1, c1, c2⟩
    obtain ⟨dx1, e01⟩ := R1.ins
    obtain ⟨hs, h1, h2, _⟩ := R1.hou
    refine ⟨_, rfl, t.z, _, _, _, _, rfl, e01, T.c_Turn, T.a_Turn_houses, rfl, t.hl, hs, rfl, .inl (SqL.of h1), ?_⟩
    refine ⟨_, rfl, by omega, by omega, ?_⟩
    have en : ((hs.length : Nat) : Int).toNat = t.p.n := by omega
    rw [en]
    refine for_range (lo := 0) (n := t.p.n) (fun i σ H' => (∃ z : Option V, σ = [some (.ref t.z), some (.int a), some (.int f), z]) ∧ ∃ k', UpT K t H H' ∧ TnAt K t (L + cnt t.lost k') k' H' ∧ k ≤ k' ∧ k' ≤ k + 14 + 14 * i)
      ⟨⟨none, rfl⟩, k1, u1, R1, c1, by omega⟩ (fun i σ H' hi h => ?_) (fun σ H' h => ?_)
    · obtain ⟨⟨z, rfl⟩, k', u, R', g1, g2⟩ := h
      rw [show (0 : Int) + (i : Int) = (i : Int) by omega]
      obtain ⟨dx', e0'⟩ := R'.ins
      refine ⟨_, rfl, _, rfl, rfl, _, rfl, ite2 (fun _ => ?_) (fun _ => iteF ⟨⟨_, rfl⟩, k', u, R', g1, by omega⟩)⟩
      refine ⟨_, rfl, t.z, _, _, rfl, e0', rfl, _, rfl, _, rfl, t, _, k', a, i, rfl, R', ha, hi, fun m hm hma => ?_⟩
      refine ⟨_, _, rfl, rfl, _, rfl, ite2 (fun c => ?_) (fun _ => ⟨⟨_, rfl⟩, k', u, R', g1, by omega⟩)⟩
      have hia : a ≠ i := fun z => by
        have e := hma z.symm
        rw [e] at c
        exact absurd c (by decide)
      refine ⟨_, rfl, t.z, _, _, rfl, e0', rfl, _, rfl, _, rfl, t, L, k', a, i, rfl, R', ha, hi, hia, by omega, B, fun H2 k2 u2 R2 d1 d2 => ?_⟩
      exact ⟨⟨_, rfl⟩, k2, u.trans u2, R2, by omega, by omega⟩
    · obtain ⟨⟨z, rfl⟩, k', u, R', g1, g2⟩ := h
      exact q H' k' u R' g1 (by omega)
theorem ok_T_go (T : Txt K mg) (TB : LamX.TabB base mg (tabC K) (tabP K)) : C8.Met P w K mg base 10 (TC K) "go" (spGo K) [] := by
  have k_ticks := ok_ticks (P := P) (w := w) (base := base) T
  have k_Turn_is_up := ok_T_is_up (P := P) (w := w) (base := base) T
  have k_Turn_ask_all := ok_T_ask_all (P := P) (w := w) (base := base) T TB
  refine mk_Turn_go T (fun vs H Q E h => ?_) (fun cdv A outer s H vs Q E hr h => ?_)
  · obtain ⟨t, L, rfl, _⟩ := h; rfl
  · obtain ⟨t, L, rfl, R, B, q⟩ := h
    refine ⟨_, (pss_one (ps_for PassesOwn.never rfl (pi_range1 rfl T.n_range (pa_cons (pe_callB call_len_seq (by rfl) T.n_len (by decide +kernel) (pa_cons (pe_fld (pv 0) rfl) pa_nil)) pa_nil)) (pg_name (i := 1) sc_Turn_go.nd rfl (Or.inl rfl)) (pss_one (ps_if (PW.pt (pw_and (pt_val (C8.pe_mt k_Turn_is_up hr (by decide) (pv 0) (pa_cons (pv 1) pa_nil))) (pw_and1 (pt_val (C8.pe_c k_ticks hr (by decide) (by rfl) (pa_cons (pe_fld (pv 0) rfl) (pa_cons (pv 1) (pa_cons (pe_fld (pv 0) rfl) pa_nil)))))))) (pss_one (ps_expr (C8.pe_mt k_Turn_ask_all hr (by decide) (pv 0) (pa_cons (pv 1) pa_nil)))) pss_nil)))), ?_⟩
    obtain ⟨dx, e0⟩ := R.ins
    have hn6 := t.p.hn6
    obtain ⟨hs, h1, h2, _⟩ := R.hou
    refine ⟨_, rfl, t.z, _, _, _, _, rfl, e0, T.c_Turn, T.a_Turn_houses, rfl, t.hl, hs, rfl, .inl (SqL.of h1), ?_⟩
    refine ⟨_, rfl, by omega, by omega, ?_⟩
    have en : ((hs.length : Nat) : Int).toNat = t.p.n := by omega
    rw [en]
    refine for_range (lo := 0) (n := t.p.n) (fun i σ H' => (∃ z : Option V, σ = [some (.ref t.z), z]) ∧ ∃ k', UpT K t H H' ∧ TnAt K t (L + cnt t.lost k') k' H' ∧ k' ≤ 98 * i)
      ⟨⟨none, rfl⟩, 0, .refl, R, by omega⟩ (fun i σ H' hi h => ?_) (fun σ H' h => ?_)
    · obtain ⟨⟨z, rfl⟩, k', u, R', g2⟩ := h
      rw [show (0 : Int) + (i : Int) = (i : Int) by omega]
      obtain ⟨dx', e0'⟩ := R'.ins
      refine ⟨_, rfl, t.z, _, _, rfl, e0', rfl, _, rfl, t, _, k', i, rfl, R', hi, _, rfl, ?_⟩
      refine iteT ?_
      refine ⟨_, rfl, t.z, _, _, _, _, rfl, e0', T.c_Turn, T.a_Turn_town, rfl, _, rfl, _, rfl, t.z, _, _, _, _, rfl, e0', T.c_Turn, T.a_Turn_turn, rfl, t.ta, t.p.n, i, t.t, rfl, R'.tow, hi, fun c => ⟨_, rfl, ite2 (fun _ => ?_) (fun _ => ⟨⟨_, rfl⟩, k', u, R', by omega⟩)⟩⟩
      refine ⟨_, rfl, t.z, _, _, rfl, e0', rfl, _, rfl, t, L, k', i, rfl, R', hi, by omega, B, fun H2 k2 u2 R2 d1 d2 => ?_⟩
      exact ⟨⟨_, rfl⟩, k2, u.trans u2, R2, by omega⟩
    · obtain ⟨⟨z, rfl⟩, k', u, R', g2⟩ := h
      exact q H' k' u R' (by omega) (by omega)
theorem ok_T_move (T : Txt K mg) : C8.Met P w K mg base 1 (TC K) "move" (spMove K) [] := by
  refine mk_Turn_move T (fun vs H Q E h => ?_) (fun cdv A outer s H vs Q E hr h => ?_)
  · obtain ⟨t, e1, e2, e3, rfl, _⟩ := h; rfl
  · obtain ⟨t, e1, e2, e3, rfl, h1, h2, h3, q⟩ := h
    refine ⟨_, (pss_cons (ps_for PassesOwn.never rfl (pi_tup (pv 1)) (pg_name (i := 4) sc_Turn_move.nd rfl (Or.inl rfl)) pss_never)
        (pss_cons (ps_for PassesOwn.never rfl (pi_tup (pv 3)) (pg_name (i := 4) sc_Turn_move.nd rfl (Or.inl rfl)) pss_never)
        (pss_cons (ps_for PassesOwn.never rfl (pi_tup (pv 2)) (pg_name (i := 4) sc_Turn_move.nd rfl (Or.inl rfl)) pss_never)
        (C8.pss_cut (ps_for PassesOwn.never rfl (pi_tup (pe_op op_catU (pv 2) (pv 3))) (pg_name (i := 4) sc_Turn_move.nd rfl (Or.inl rfl)) pss_never)
        (pss_one (ps_for PassesOwn.never rfl (pi_tup (pv 2)) (pg_name (i := 4) sc_Turn_move.nd rfl (Or.inl rfl)) pss_never)))))), ?_⟩
    have go : ∀ {e : Addr} {H' : Hp} {g : TG} {tb : TS} {D : Ends} {σ : L2.St}, H' e = some (.tup []) → D.nx σ H' → ∃ W : Nat → Nat → L2.St → Hp → Prop, (∃ m, W 0 m σ H') ∧ ∀ i m σ H, W i m σ H →
      ((Itt K e).stop i H ∧ D.nx σ H) ∨ ((Itt K e).go i H ∧ ∃ N : L2.St → Hp → Prop, (∀ σ' H', N σ' H' → ∃ m', m' < m ∧ W (i + 1) m' σ' H') ∧ ∀ x H', (Itt K e).yld i H x H' → g x σ H' fun σ2 H2 => tb { D with nx := N, ct := N, bk := D.nx } σ2 H2) := fun {e H' g tb D σ} he hq =>
      for_tup (xs := []) (fun _ σ' H'' => σ' = σ ∧ H'' = H') ⟨rfl, rfl⟩ (fun _ _ _ _ z => by rw [z.2]; exact SqT.of he) (fun _ x _ _ hx _ => by simp at hx) (fun σ' H'' z => by rw [z.1, z.2]; exact hq)
    refine ⟨_, rfl, e1, rfl, ⟨_, SqT.of h1⟩, go h1 ?_⟩
    refine ⟨_, rfl, e3, rfl, ⟨_, SqT.of h3⟩, go h3 ?_⟩
    refine ⟨_, rfl, e2, rfl, ⟨_, SqT.of h2⟩, go h2 ?_⟩
    refine ⟨fun σ' H' => σ' = start N_Turn_move [.ref t.z, .ref e1, .ref e2, .ref e3] ∧ Up [] H H', ?_, ?_⟩
    · refine ⟨_, rfl, _, rfl, e2, e3, _, _, rfl, rfl, h2, h3, by simp, fun r H1 u1 e => ?_⟩
      exact ⟨r, rfl, ⟨_, SqT.of e⟩, go e ⟨rfl, u1⟩⟩
    · rintro σ' H1 ⟨rfl, u1⟩
      have h2' := u1.tu _ _ h2
      exact ⟨_, rfl, e2, rfl, ⟨_, SqT.of h2'⟩, go h2' (q H1 u1)⟩
theorem ok_T_behind (T : Txt K mg) : C8.Met P w K mg base 1 (TC K) "state_behind" (spBehind K) [] := by
  refine mk_Turn_state_behind T (fun vs H Q E h => ?_) (fun cdv A outer s H vs Q E hr h => ?_)
  · obtain ⟨t, L, k, rfl, _⟩ := h; rfl
  · obtain ⟨t, L, k, rfl, R, q⟩ := h
    refine ⟨_, (pss_one (ps_ret (pe_tupU (pa_cons (pe_op op_add (pe_fld (pv 0) rfl) pe_int) (pa_cons (pe_callTy call_tupleU (by rfl) T.n_tuple (by decide +kernel) (pa_cons (pe_fld (pv 0) rfl) pa_nil)) pa_nil))))), ?_⟩
    obtain ⟨dx, e0⟩ := R.ins
    obtain ⟨hs, h1, h2⟩ := R.hou
    refine ⟨_, rfl, t.z, _, _, _, _, rfl, e0, T.c_Turn, T.a_Turn_turn, rfl, _, _, rfl, rfl, ?_⟩
    refine ⟨_, rfl, t.z, _, _, _, _, rfl, e0, T.c_Turn, T.a_Turn_houses, rfl, t.hl, hs, rfl, h1, fun b H1 _ u1 e1 => ?_⟩
    refine ⟨by simp, fun r H2 _ u2 e2 => ?_⟩
    exact q H2 r (u1.trans u2) ⟨b, _, hs, e2, u2.tu _ _ e1, h2.up (u1.trans u2)⟩
theorem ok_stepped (T : Txt K mg) (TB : LamX.TabB base mg (tabC K) (tabP K)) : C8.Cal P w K mg base 11 "stepped" (spStepped K) [] := by
  have k_Turn := ok_T_init (P := P) (w := w) (base := base) T
  have k_Turn_move := ok_T_move (P := P) (w := w) (base := base) T
  have k_Turn_go := ok_T_go (P := P) (w := w) (base := base) T TB
  have k_Turn_state_behind := ok_T_behind (P := P) (w := w) (base := base) T
  refine mk_stepped T (fun vs H Q E h => ?_) (fun cdv A outer s H vs Q E hr h => ?_)
  · obtain ⟨ra, ta, sa, da, p, L, lost, rfl, _⟩ := h; rfl
  · obtain ⟨ra, ta, sa, da, p, L, lost, rfl, hR, hT, hS, ⟨lo, e1, e2, e3, d0, d1, d2, d3, d4⟩, hTab, b0, b1, q⟩ := h
    refine ⟨_, (pss_cons (ps_asg (pv 3) (pg_tup rfl (pgs_cons (pg_name (i := 4) sc_stepped.nd rfl (Or.inl rfl)) (pgs_cons (pg_name (i := 5) sc_stepped.nd rfl (Or.inl rfl)) (pgs_cons (pg_name (i := 6) sc_stepped.nd rfl (Or.inl rfl)) (pgs_cons (pg_name (i := 7) sc_stepped.nd rfl (Or.inl rfl)) pgs_nil))))))
        (pss_cons (ps_set (i := 8) sc_stepped.nd rfl (Or.inl rfl) (C8.pe_mk k_Turn hr (by decide) (by rfl) (pa_cons (pv 0) (pa_cons (pv 1) (pa_cons (pv 2) (pa_cons (pv 4) pa_nil))))))
        (pss_cons (ps_expr (C8.pe_mt k_Turn_move hr (by decide) (pv 8) (pa_cons (pv 5) (pa_cons (pv 6) (pa_cons (pv 7) pa_nil)))))
        (pss_cons (ps_expr (C8.pe_mt0 k_Turn_go hr (by decide) (pv 8)))
        (pss_one (ps_ret (pe_tupU (pa_cons (C8.pe_mt0 k_Turn_state_behind hr (by decide) (pv 8)) (pa_cons (pe_callTy call_tupleU (by rfl) T.n_tuple (by decide +kernel) (pa_cons (pe_fld (pv 8) rfl) pa_nil)) pa_nil))))))))), ?_⟩
    refine ⟨_, rfl, da, _, rfl, SqT.of d0, rfl, _, _, rfl, _, _, rfl, _, _, rfl, _, _, rfl, rfl, ?_⟩
    refine ⟨_, rfl, _, rfl, _, rfl, _, rfl, fun z dx f1 f2 hne => ?_⟩
    have u0 : Up [] H (upd (upd H dx (.own z)) z (.ins (TC K) dx [])) := (Up.new1 f2).new (by rw [upd_ne hne.symm]; exact f1)
    have b00 : ∀ {x : Addr}, (upd (upd H dx (.own z)) z (.ins (TC K) dx [])) x = none → H x = none := fun {x} z => u0.none z (by simp)
    refine ⟨z, dx, ra, ta, sa, lo, p, L, lost, rfl, upd_same, hR.up u0, hT.up u0, hS.up u0, u0.tu _ _ d1, hTab.up0 u0, fun H1 t u1 tz tl tp hf sf R => ⟨rfl, ?_⟩⟩
    subst tz tl tp
    have v1 : Up [t.z] H H1 := u0.of.trans u1
    obtain ⟨dx1, e01⟩ := R.ins
    refine ⟨_, rfl, t.z, _, _, rfl, e01, rfl, _, rfl, _, rfl, _, rfl, t, e1, e2, e3, rfl, v1.tu _ _ d2, v1.tu _ _ d3, v1.tu _ _ d4, fun H2 u2 => ?_⟩
    have R2 := R.up0 u2
    obtain ⟨dx2, e02⟩ := R2.ins
    refine ⟨_, rfl, t.z, _, _, rfl, e02, rfl, t, L, rfl, R2.mono (by have := cnt_nonneg t.lost 0; omega), ⟨b0, b1⟩, fun H3 k u3 R3 c1 c2 => ?_⟩
    obtain ⟨dx3, e03⟩ := R3.ins
    refine ⟨_, rfl, t.z, _, _, rfl, e03, rfl, t, _, k, rfl, R3, fun H4 st u4 h4 => ?_⟩
    have R4 := R3.up0 u4
    obtain ⟨dx4, e04⟩ := R4.ins
    obtain ⟨ss, s1, s2, s3⟩ := R4.sen
    refine ⟨_, rfl, t.z, _, _, _, _, rfl, e04, T.c_Turn, T.a_Turn_sent, rfl, t.sl, ss, rfl, s1, fun le H5 _ u5 e5 => ?_⟩
    refine ⟨by simp, fun r H6 _ u6 e6 => ?_⟩
    have u46 : Up [] H3 H6 := (u4.trans u5).trans u6
    have v6 : Up [t.z, tabP K, t.hl, t.sl] H H6 := ((v1.mono (by simp)).trans u2.of).trans ((u3.mono (fun e m => List.mem_cons_of_mem _ m)).trans u46.of)
    have v6' : Up [tabP K] H H6 := v6.sub fun e m => by
      have m' : e = t.z ∨ e = tabP K ∨ e = t.hl ∨ e = t.sl := by simpa using m
      rcases m' with z | z | z | z <;> rw [z]
      · exact .inl f1
      · exact .inr (by simp)
      · exact .inl (b00 hf)
      · exact .inl (b00 sf)
    refine q H6 r st le ss v6' ((R4.tab.up0 u5).up0 u6) e6 (u6.tu _ _ e5) (s3.up (u5.trans u6)) ?_ (by omega)
    rw [s2]
    exact h4.up (u5.trans u6)
end
end Hb

set_option maxHeartbeats 4000000
/-! views; what the law counts and looks at -/
namespace Hb
open PySem PySem.Spec PyProof.Rows L2
def spUps : Sp := fun vs H Q _ => ∃ (a : Addr) (p : Par) (L : Int), vs = [.ref a] ∧ StateAt H p L a ∧ ∀ (H' : Hp) (l : Addr) (ns : List Int), Up [] H H' → H' l = some (.lst (ns.map V.int)) → InHouses p.n ns → ns.length ≤ p.n → Q (.ref l) H'
def spMarks : Sp := fun vs H Q _ => ∃ (a : Addr) (p : Par) (L : Int) (i : Nat), vs = [.ref a, .int i] ∧ StateAt H p L a ∧ i < p.n ∧ ∀ (H' : Hp) (l : Addr) (ms : List Int), Up [] H H' → H' l = some (.tup (ms.map V.int)) → ms.length = p.n → (∀ m ∈ ms, m = 0 ∨ m = 1) → Q (.ref l) H'
def spGone : Sp := fun vs H Q _ => ∃ (a : Addr) (p : Par) (L : Int), vs = [.ref a] ∧ StateAt H p L a ∧ ∀ H', Up [] H H' → Q (.bl false) H'
def spNone : Sp := fun vs H Q _ => ∃ (a : Addr) (p : Par) (L : Int), vs = [.ref a] ∧ StateAt H p L a ∧ ∀ H', Up [] H H' → Q (.bl true) H'
def spLostOf : Sp := fun vs H Q _ => ∃ (a : Addr) (lost : List Int) (ss : List V), vs = [.ref a] ∧ H a = some (.tup ss) ∧ Letters H lost ss ∧ ss.length ≤ 900 ∧ ∀ H', Up [] H H' → Q (.int (cnt lost ss.length)) H'
theorem any_false {n : Nat} : (List.replicate n false).any id = false := by
  induction n with
  | zero => rfl
  | succ n ih => rw [List.replicate_succ, List.any_cons, ih]; rfl
theorem rep_snoc {n : Nat} : (List.replicate n false).map V.bl ++ [V.bl false] = (List.replicate (n + 1) false).map V.bl := by
  rw [List.replicate_succ', List.map_append]; rfl
section
variable {P : Program} {w : World} {K : PySem.W.Frag} {mg : Str → Option Value} {base : Heap}
theorem ok_houses_up (T : Txt K mg) : C8.Cal P w K mg base 1 "houses_up" spUps [] := by
  refine mk_houses_up T (fun vs H Q E h => ?_) (fun cdv A outer s H vs Q E hr h => ?_)
  · obtain ⟨a, p, L, rfl, _⟩ := h; rfl
  · obtain ⟨a, p, L, rfl, ⟨h, tn, hs, s1, s2, s3⟩, q⟩ := h
    have hn6 := p.hn6
    have hl := s3.1
    refine ⟨_, (pss_one (ps_ret (pe_lc (own := [("house", 1), ("home", 2)]) rfl sc_houses_up.nd (pi_enumT (by rfl) T.n_enumerate (pa_cons (pe_ix ix_tup (pv 0) pe_int (fun _ _ => rfl)) pa_nil)) (blkOk_by (own := [("house", 1), ("home", 2)]) (N := N_houses_up) (sc := defScope s_houses_up) (by decide +kernel)) (fun _ _ _ _ _ => (pg_tupK (n := 2) K rfl rfl (pgs_cons (pg_name (i := 1) sc_houses_up.nd rfl (Or.inl rfl)) (pgs_cons (pg_name (i := 2) sc_houses_up.nd rfl (Or.inl rfl)) pgs_nil)))) (fun _ _ _ _ _ => (pts_one (pt_cmpR op_eq (pe_ix (ix_tupK K rfl) (pv 2) pe_int (fun _ _ => rfl)) pe_int (nomark _)))) (fun _ _ _ _ _ => (pv 1))))), ?_⟩
    refine ⟨_, rfl, a, _, _, _, rfl, rfl, SqT.of s1, atI_nat (j := 1) rfl, h, _, rfl, SqT.of s2, fun D f => ?_⟩
    refine lc_it (walk_enumT (xs := hs)) (LcI D fun i acc H' => Up [D] H H' ∧ ∃ ns : List Int, acc = ns.map V.int ∧ InHouses p.n ns)
      (lc_start f fun H' u _ => ⟨u.of, [], rfl, fun _ m => absurd m (by simp)⟩) (fun i H3 hi W => ?_) (fun i x H3 H4 hi W Y => ?_) fun H3 W => ?_
    · obtain ⟨acc, a1, a2, u3, _⟩ := W
      exact SqT.of (u3.tu _ _ s2)
    · obtain ⟨acc, a1, a2, u3, ms, e1, e2⟩ := W
      obtain ⟨tp, x1, y1, rfl, ft, rfl, ex, ey⟩ := Y
      cases ex
      have ey : hs[i]? = some y1 := ey
      obtain ⟨ha, _, _, _, rfl, g1, _⟩ := s3.2 i y1 ey
      have a3 : upd H3 tp (.tup [.int (i : Nat), .ref ha]) D = some (.lst acc) := by rw [upd_ne (ne_of_none a1 ft)]; exact a1
      have u4 : Up [D] H (upd H3 tp (.tup [.int (i : Nat), .ref ha])) := u3.new ft
      refine ⟨tp, _, rfl, SqT.of upd_same, rfl, ?_⟩
      refine ⟨_, _, rfl, _, _, rfl, rfl, ?_⟩
      refine ⟨wipe2 (by decide) (by decide), ?_⟩
      refine ⟨_, rfl, ha, _, _, _, rfl, rfl, SqT.of (u4.tu _ _ g1), atI_nat (j := 0) rfl, rfl, _, rfl, ?_⟩
      refine iteT ?_
      refine ⟨_, rfl, lc_add a3 a2 (by omega) fun H' u _ => ⟨u4.trans u, ms ++ [(i : Int)], by rw [e1, List.map_append]; rfl, fun z m => ?_⟩⟩
      rcases List.mem_append.mp m with m | m
      · exact e2 z m
      · exact ⟨i, List.mem_singleton.mp m, by omega⟩
    · obtain ⟨acc, a1, a2, u3, ms, e1, e2⟩ := W
      exact q H3 D ms (u3.sub fun e m => .inl (by rw [List.mem_singleton.mp m]; exact f)) (by rw [← e1]; exact a1) e2 (by rw [e1, List.length_map] at a2; omega)
theorem ok_marks_of (T : Txt K mg) : C8.Cal P w K mg base 1 "marks_of" spMarks [] := by
  refine mk_marks_of T (fun vs H Q E h => ?_) (fun cdv A outer s H vs Q E hr h => ?_)
  · obtain ⟨a, p, L, i, rfl, _⟩ := h; rfl
  · obtain ⟨a, p, L, j, rfl, ⟨h, tn, hs, s1, s2, s3⟩, hj, q⟩ := h
    have hn6 := p.hn6
    obtain ⟨v, ev, ha, hb, _, _, rfl, g1, ⟨ws, w1, w2, w3⟩, _⟩ := s3.at hj
    refine ⟨_, (pss_one (ps_ret (pe_callTy call_tupleU (by rfl) T.n_tuple (by decide +kernel) (pa_cons (pe_lc (own := [("number", 2), ("mark", 3)]) rfl sc_marks_of.nd (pi_tup (pe_ix ix_tup (pe_ix ix_tup (pe_ix ix_tup (pv 0) pe_int (fun _ _ => rfl)) (pv 1) (fun _ _ => rfl)) pe_int (fun _ _ => rfl))) (blkOk_by (own := [("number", 2), ("mark", 3)]) (N := N_marks_of) (sc := defScope s_marks_of) (by decide +kernel)) (fun _ _ _ _ _ => (pg_tupK (n := 2) K rfl rfl (pgs_cons (pg_name (i := 2) sc_marks_of.nd rfl (Or.inl rfl)) (pgs_cons (pg_name (i := 3) sc_marks_of.nd rfl (Or.inl rfl)) pgs_nil)))) (fun _ _ _ _ _ => pts_nil) (fun _ _ _ _ _ => (pv 3))) pa_nil)))), ?_⟩
    refine ⟨_, rfl, a, _, _, _, rfl, rfl, SqT.of s1, atI_nat (j := 1) rfl, _, rfl, h, _, _, _, rfl, rfl, SqT.of s2, atI_nat ev, ha, _, _, _, rfl, rfl, SqT.of g1, atI_nat (j := 1) rfl, hb, rfl, ⟨_, SqT.of w1⟩, fun D f => ?_⟩
    refine lc_tup (xs := ws) (LcI D fun i acc H' => Up [D] H H' ∧ ∃ ms : List Int, acc = ms.map V.int ∧ ms.length = i ∧ ∀ m ∈ ms, m = 0 ∨ m = 1)
      (lc_start f fun H' u _ => ⟨u.of, [], rfl, rfl, fun _ m => absurd m (by simp)⟩) (fun i H3 hi W => ?_) (fun i x H3 hx W => ?_) fun H3 W => ?_
    · obtain ⟨acc, a1, a2, u3, _⟩ := W
      exact SqT.of (u3.tu _ _ w1)
    · obtain ⟨acc, a1, a2, u3, ms, e1, e2, e3⟩ := W
      obtain ⟨b, n, m, rfl, hb', hm⟩ := w3 x (List.mem_of_getElem? hx)
      have hi := (List.getElem?_eq_some_iff.mp hx).1
      refine ⟨b, _, rfl, SqT.of (u3.tu _ _ hb'), rfl, ?_⟩
      refine ⟨_, _, rfl, _, _, rfl, rfl, ?_⟩
      refine ⟨wipe2 (by decide) (by decide), ?_⟩
      unfold tYes
      refine iteT ?_
      refine ⟨_, rfl, lc_add a1 a2 (by omega) fun H' u _ => ⟨u3.trans u, ms ++ [m], by rw [e1, List.map_append]; rfl, by rw [List.length_append, e2]; rfl, fun z mz => ?_⟩⟩
      rcases List.mem_append.mp mz with mz | mz
      · exact e3 z mz
      · rw [List.mem_singleton.mp mz]; exact hm
    · obtain ⟨acc, a1, a2, u3, ms, e1, e2, e3⟩ := W
      have u3' : Up [] H H3 := u3.sub fun e m => .inl (by rw [List.mem_singleton.mp m]; exact f)
      exact ⟨D, acc, rfl, a1, fun l H4 _ u4 e4 => q H4 l ms (u3'.trans u4) (by rw [← e1]; exact e4) (by omega) e3⟩
theorem ok_gone_wrongly (T : Txt K mg) : C8.Cal P w K mg base 2 "gone_wrongly" spGone [] := by
  have k_houses_up := ok_houses_up (P := P) (w := w) (base := base) T
  have k_marks_of := ok_marks_of (P := P) (w := w) (base := base) T
  refine mk_gone_wrongly T (fun vs H Q E h => ?_) (fun cdv A outer s H vs Q E hr h => ?_)
  · obtain ⟨a, p, L, rfl, _⟩ := h; rfl
  · obtain ⟨a, p, L, rfl, hS, q⟩ := h
    have hn6 := p.hn6
    refine ⟨_, (pss_cons (ps_set (i := 1) sc_gone_wrongly.nd rfl (Or.inl rfl) (C8.pe_c k_houses_up hr (by decide) (by rfl) (pa_cons (pv 0) pa_nil)))
        (pss_cons (ps_for PassesOwn.never rfl (pi_list (pv 1)) (pg_name (i := 2) sc_gone_wrongly.nd rfl (Or.inr rfl)) (pss_cons (ps_set (i := 3) sc_gone_wrongly.nd rfl (Or.inr rfl) (C8.pe_c k_marks_of hr (by decide) (by rfl) (pa_cons (pv 0) (pa_cons (pv 2) pa_nil))))
        (pss_one (ps_if (pt_val (pe_callB (cr_any rfl) (by rfl) T.n_any (by decide +kernel) (pa_cons (pe_lc (own := [("other", 4)]) rfl sc_gone_wrongly.nd (pi_list (pv 1)) (blkOk_by (own := [("other", 4)]) (N := N_gone_wrongly) (sc := defScope s_gone_wrongly) (by decide +kernel)) (fun _ _ _ _ _ => (pg_name (i := 4) sc_gone_wrongly.nd rfl (Or.inl rfl))) (fun _ _ _ _ _ => (pts_one (pt_cmpR op_ne (pv 4) (pv 2) (nomark _)))) (fun _ _ _ _ _ => (pe_cmpR (in_seqK K rfl) (pe_ix (ix_tupK K rfl) (pv 3) (pv 4) (fun _ _ => rfl)) (C8.pe_gc (by rfl) T.away_v) (by rfl)))) pa_nil))) (pss_one (ps_ret pe_bl)) pss_nil))))
        (pss_one (ps_ret pe_bl)))), ?_⟩
    refine ⟨_, rfl, a, p, L, rfl, hS, fun H1 l ns u1 e1 hns hnl => ?_⟩
    refine ⟨_, rfl, l, rfl, ⟨_, SqL.of e1⟩, ?_⟩
    refine for_list (xs := ns.map V.int) (fun _ σ H' => (∃ x y : Option V, σ = [some (.ref a), some (.ref l), x, y, none]) ∧ Up [] H1 H')
      ⟨⟨none, none, rfl⟩, .refl⟩ (fun i σ H' _ h => SqL.of (h.2.f0 e1)) (fun i x σ H2 hx h => ?_) (fun σ H' h => ?_)
    · obtain ⟨⟨x', y', rfl⟩, u2⟩ := h
      have hi := (List.getElem?_eq_some_iff.mp hx).1
      rw [List.length_map] at hi
      rw [int_at hi] at hx
      cases hx
      obtain ⟨j, ej, hj⟩ := hns ns[i] (List.getElem_mem hi)
      rw [ej]
      refine ⟨_, rfl, _, rfl, a, p, L, j, rfl, hS.up (u1.trans u2), hj, fun H3 mk ms u3 e3 hm1 hm2 => ?_⟩
      have u13 : Up [] H1 H3 := u2.trans u3
      -- any([marks[other] in AWAY for other in some if other != house])
      refine ⟨_, rfl, l, rfl, ⟨_, SqL.of (u13.f0 e1)⟩, fun D f => ?_⟩
      have nl : l ≠ D := ne_of_none (u13.f0 e1) f
      refine lc_list (xs := ns.map V.int) (fun k H' => ∃ m, m ≤ k ∧ H' D = some (.lst ((List.replicate m false).map V.bl)) ∧ Up [D] H3 H')
        ⟨0, Nat.le_refl _, upd_same, (Up.new1 f)⟩ (fun k H4 _ W => ?_) (fun k x H4 hx W => ?_) fun H4 W => ?_
      · obtain ⟨m, _, _, u4⟩ := W
        exact SqL.of (u4.f1 (u13.f0 e1) nl)
      · obtain ⟨m, m1, m2, u4⟩ := W
        have hk := (List.getElem?_eq_some_iff.mp hx).1
        rw [List.length_map] at hk
        rw [int_at hk] at hx
        cases hx
        obtain ⟨o, eo, ho⟩ := hns ns[k] (List.getElem_mem hk)
        rw [eo]
        refine ⟨wipe1 (by decide), ?_⟩
        refine ⟨_, rfl, _, rfl, rfl, _, rfl, ite2 (fun _ => ?_) (fun _ => ⟨m, by omega, m2, u4⟩)⟩
        have ho' : o < ms.length := by omega
        refine ⟨_, rfl, _, rfl, mk, _, _, _, rfl, rfl, SqT.of (u4.tu _ _ e3), atI_nat (int_at ho'), He.ga K "AWAY", _, rfl, .inr (T.away.2 _), rfl, rfl, ?_⟩
        have hz : (if false = true then !inV (.int ms[o]) [.int 2, .int 3] else inV (.int ms[o]) [.int 2, .int 3]) = false := by
          rcases hm2 ms[o] (List.getElem_mem ho') with z | z <;> rw [z] <;> decide
        rw [hz]
        refine ⟨_, m2, by rw [List.length_map, List.length_replicate, sizeLine_eq]; omega, m + 1, by omega, ?_, u4.trans (Up.refl.set m2 (fun _ => lst_ne_tup) (List.mem_singleton.mpr rfl))⟩
        rw [rep_snoc]
        exact upd_same
      · obtain ⟨m, m1, m2, u4⟩ := W
        have u4' : Up [] H3 H4 := u4.sub fun e m => .inl (by rw [List.mem_singleton.mp m]; exact f)
        refine ⟨D, _, rfl, SqL.of m2, _, rfl, ite2 (fun c => ?_) (fun _ => ⟨⟨_, _, rfl⟩, u13.trans u4'⟩)⟩
        rw [any_false] at c
        cases c
    · obtain ⟨⟨x', y', rfl⟩, u2⟩ := h
      exact q H' (u1.trans u2)
theorem ok_none_gone (T : Txt K mg) : C8.Cal P w K mg base 1 "_law_none_gone" spNone [] := by
  refine mk__law_none_gone T (fun vs H Q E h => ?_) (fun cdv A outer s H vs Q E hr h => ?_)
  · obtain ⟨a, p, L, rfl, _⟩ := h; rfl
  · obtain ⟨a, p, L, rfl, ⟨h, tn, hs, s1, s2, s3⟩, q⟩ := h
    have hn6 := p.hn6
    refine ⟨_, (pss_cons (ps_for PassesOwn.never rfl (pi_tup (pe_ix ix_tup (pv 0) pe_int (fun _ _ => rfl))) (pg_name (i := 1) sc__law_none_gone.nd rfl (Or.inl rfl)) (pss_one (ps_if (pt_val (pe_callB (cr_any rfl) (by rfl) T.n_any (by decide +kernel) (pa_cons (pe_lc (own := [("_law_word", 2)]) rfl sc__law_none_gone.nd (pi_tup (pe_ix ix_tup (pv 1) pe_int (fun _ _ => rfl))) (blkOk_by (own := [("_law_word", 2)]) (N := N__law_none_gone) (sc := defScope s__law_none_gone) (by decide +kernel)) (fun _ _ _ _ _ => (pg_name (i := 2) sc__law_none_gone.nd rfl (Or.inl rfl))) (fun _ _ _ _ _ => pts_nil) (fun _ _ _ _ _ => (pe_cmpR op_gt (pe_ix (ix_tupK K rfl) (pv 2) pe_int (fun _ _ => rfl)) pe_int (nomark _)))) pa_nil))) (pss_one (ps_ret pe_bl)) pss_nil)))
        (pss_one (ps_ret pe_bl))), ?_⟩
    refine ⟨_, rfl, a, _, _, _, rfl, rfl, SqT.of s1, atI_nat (j := 1) rfl, h, rfl, ⟨_, SqT.of s2⟩, ?_⟩
    refine for_tup (xs := hs) (fun _ σ H' => (∃ x : Option V, σ = [some (.ref a), x, none]) ∧ Up [] H H')
      ⟨⟨none, rfl⟩, .refl⟩ (fun i σ H' _ h => SqT.of (h.2.tu _ _ s2)) (fun i x σ H2 hx h => ?_) (fun σ H' h => ?_)
    · obtain ⟨⟨x', rfl⟩, u2⟩ := h
      obtain ⟨ha, hb, _, _, rfl, g1, ⟨ws, w1, w2, w3⟩, _⟩ := s3.2 i x hx
      refine ⟨_, rfl, ha, _, _, _, rfl, rfl, SqT.of (u2.tu _ _ g1), atI_nat (j := 1) rfl, hb, rfl, ⟨_, SqT.of (u2.tu _ _ w1)⟩, fun D f => ?_⟩
      refine lc_tup (xs := ws) (fun k H' => ∃ m, m ≤ k ∧ H' D = some (.lst ((List.replicate m false).map V.bl)) ∧ Up [D] H2 H')
        ⟨0, Nat.le_refl _, upd_same, (Up.new1 f)⟩ (fun k H4 _ W => ?_) (fun k x H4 hx W => ?_) fun H4 W => ?_
      · obtain ⟨m, _, _, u4⟩ := W
        exact SqT.of (u4.tu _ _ (u2.tu _ _ w1))
      · obtain ⟨m, m1, m2, u4⟩ := W
        obtain ⟨b, n, mk, rfl, hb', hm⟩ := w3 x (List.mem_of_getElem? hx)
        have hk := (List.getElem?_eq_some_iff.mp hx).1
        refine ⟨wipe1 (by decide), ?_⟩
        unfold tYes
        refine iteT ?_
        refine ⟨_, rfl, b, _, _, _, rfl, rfl, SqT.of (u4.tu _ _ (u2.tu _ _ hb')), atI_nat (j := 1) rfl, _, _, rfl, rfl, ?_⟩
        have hz : decide (mk > 1) = false := decide_eq_false (by omega)
        refine ⟨_, m2, by rw [List.length_map, List.length_replicate, sizeLine_eq]; omega, m + 1, by omega, ?_, u4.trans (Up.refl.set m2 (fun _ => lst_ne_tup) (List.mem_singleton.mpr rfl))⟩
        show upd H4 D (.lst ((List.replicate m false).map V.bl ++ [V.bl (decide (mk > 1))])) D = _
        rw [hz, rep_snoc]
        exact upd_same
      · obtain ⟨m, m1, m2, u4⟩ := W
        have u4' : Up [] H2 H4 := u4.sub fun e m => .inl (by rw [List.mem_singleton.mp m]; exact f)
        refine ⟨D, _, rfl, SqL.of m2, _, rfl, ite2 (fun c => ?_) (fun _ => ⟨⟨_, rfl⟩, u2.trans u4'⟩)⟩
        rw [any_false] at c
        cases c
    · obtain ⟨⟨x', rfl⟩, u2⟩ := h
      exact q H' u2
theorem ok_lost_of (T : Txt K mg) : C8.Cal P w K mg base 1 "_law_lost_of" spLostOf [] := by
  refine mk__law_lost_of T (fun vs H Q E h => ?_) (fun cdv A outer s H vs Q E hr h => ?_)
  · obtain ⟨a, lost, ss, rfl, _⟩ := h; rfl
  · obtain ⟨a, lost, ss, rfl, s1, s2, hs, q⟩ := h
    refine ⟨_, (pss_one (ps_ret (pe_callB call_len_seq (by rfl) T.n_len (by decide +kernel) (pa_cons (pe_lc (own := [("_law_letter", 1)]) rfl sc__law_lost_of.nd (pi_tup (pv 0)) (blkOk_by (own := [("_law_letter", 1)]) (N := N__law_lost_of) (sc := defScope s__law_lost_of) (by decide +kernel)) (fun _ _ _ _ _ => (pg_name (i := 1) sc__law_lost_of.nd rfl (Or.inl rfl))) (fun _ _ _ _ _ => (pts_one (pt_val (pe_ix (ix_tupK K rfl) (pv 1) pe_int (fun _ _ => rfl))))) (fun _ _ _ _ _ => (pv 1))) pa_nil)))), ?_⟩
    refine ⟨_, rfl, a, rfl, ⟨_, SqT.of s1⟩, fun D f => ?_⟩
    refine lc_tup (xs := ss) (LcI D fun i acc H' => Up [D] H H' ∧ (acc.length : Int) = cnt lost i)
      (lc_start f fun H' u _ => ⟨u.of, rfl⟩) (fun i H3 hi W => ?_) (fun i x H3 hx W => ?_) fun H3 W => ?_
    · obtain ⟨acc, a1, a2, u3, _⟩ := W
      exact SqT.of (u3.tu _ _ s1)
    · obtain ⟨acc, a1, a2, u3, e1⟩ := W
      obtain ⟨b, x1, y1, rfl, hb⟩ := s2 i x hx
      have hi := (List.getElem?_eq_some_iff.mp hx).1
      refine ⟨wipe1 (by decide), ?_⟩
      refine ⟨_, rfl, b, _, _, _, rfl, rfl, SqT.of (u3.tu _ _ hb), atI_nat (j := 2) rfl, _, rfl, ite2 (fun c => ?_) (fun c => ?_)⟩
      · have c' := of_decide_eq_true c
        refine ⟨_, rfl, lc_add a1 a2 (by omega) fun H' u _ => ⟨u3.trans u, ?_⟩⟩
        rw [cnt_in c', List.length_append, List.length_singleton]
        omega
      · have c' : ¬ ((i : Int) ∈ lost) := fun z => c (decide_eq_true z)
        refine lc_skip a1 a2 ⟨u3, ?_⟩
        show _ = cnt lost i + _
        rw [if_neg c']
        omega
    · obtain ⟨acc, a1, a2, u3, e1⟩ := W
      refine ⟨D, acc, rfl, .inl (SqL.of a1), ?_⟩
      rw [e1]
      exact q H3 (u3.sub fun e m => .inl (by rw [List.mem_singleton.mp m]; exact f))
end
end Hb

set_option maxHeartbeats 4000000
/-! what the law draws -/
namespace Hb
open PySem PySem.Spec PyProof.Rows L2
def LeftAt (H : Hp) (l : Addr) : Prop := ∃ a b c : Int, H l = some (.lst [.int a, .int b, .int c]) ∧ 0 ≤ b ∧ b < 2147483647
theorem LeftAt.up0 {H H' : Hp} {l : Addr} (h : LeftAt H l) (u : Up [] H H') : LeftAt H' l := let ⟨a, b, c, h1, h2⟩ := h; ⟨a, b, c, u.f0 h1, h2⟩
theorem LeftAt.upP {K : PySem.W.Frag} {H H' : Hp} {l : Addr} (h : LeftAt H l) (hT : Tab K H) (u : Up [tabP K] H H') : LeftAt H' l := by
  obtain ⟨a, b, c, h1, h2⟩ := h
  obtain ⟨ps, hP⟩ := hT.at
  exact ⟨a, b, c, u.f1 h1 (ne_of h1 hP fun z => by cases z), h2⟩
theorem LeftAt.hand {H : Hp} {l : Addr} (h : LeftAt H l) : ∀ e ∈ [l], Hand (H e) := let ⟨_, _, _, h1, _⟩ := h; hand_lst h1
def spCellL (K : PySem.W.Frag) : Sp := fun vs H Q _ => ∃ (l : Addr) (ns : List Int) (k : Nat), vs = [.ref l, .int k] ∧ SqL K H l (ns.map V.int) ∧ ∀ c : Int, Q (.int c) H
def spLeft (K : PySem.W.Frag) : Sp := fun vs H Q _ => ∃ (l : Addr) (ns : List Int) (k : Nat), vs = [.ref l, .int k] ∧ SqL K H l (ns.map V.int) ∧ k ≤ 3 ∧ ∀ (H' : Hp) (q : Addr), Up [] H H' → H q = none → LeftAt H' q → Q (.ref q) H'
def spPick : Sp := fun vs H Q _ => ∃ (l : Addr) (m : Nat), vs = [.ref l, .int m] ∧ LeftAt H l ∧ 1 ≤ m ∧ m ≤ 1000 ∧ ∀ (H' : Hp) (r : Nat), Up [l] H H' → LeftAt H' l → r < m → Q (.int r) H'
def spTownL : Sp := fun vs H Q _ => ∃ (l : Addr) (m : Nat), vs = [.ref l, .int m] ∧ LeftAt H l ∧ 3 ≤ m ∧ m ≤ 6 ∧ ∀ (H' : Hp) (n : Nat) (ta : Addr), Up [l] H H' → LeftAt H' l → TownAt H' n ta → 2 ≤ n → n ≤ 6 → Q (.ref ta) H'
def spNames : Sp := fun vs H Q _ => vs = [.non] ∧ ∀ (H' : Hp) (nm : Addr), Up [] H H' → H' nm = some (.tup clauseVs) → Q (.ref nm) H'
def spRules : Sp := fun vs H Q _ => ∃ (l : Addr), vs = [.ref l] ∧ LeftAt H l ∧ ∀ (H' : Hp) (ra nm : Addr) (o w t c : Int), Up [l] H H' → LeftAt H' l → 0 ≤ o → o ≤ 3 → 1 ≤ w → w ≤ 9 → 0 ≤ t → t ≤ 9 → 0 ≤ c → c ≤ 8 →
  H' ra = some (.tup [.int o, .int w, .int t, .int c, .ref nm]) → H' nm = some (.tup clauseVs) → Q (.ref ra) H'
def spLost : Sp := fun vs H Q _ => ∃ (l : Addr) (m : Nat), vs = [.ref l, .int m] ∧ LeftAt H l ∧ 1 ≤ m ∧ m ≤ 100 ∧ ∀ (H' : Hp) (a : Addr) (ns : List Int), Up [l] H H' → LeftAt H' l → H' a = some (.tup (ns.map V.int)) → ns.length ≤ 900 → Q (.ref a) H'
theorem nat_mod {a m : Int} (h : 0 < m) : ∃ r : Nat, a % m = (r : Int) ∧ (r : Int) < m := ⟨(a % m).toNat, by have := Int.emod_nonneg a (show m ≠ 0 by omega); omega, by have := Int.emod_nonneg a (show m ≠ 0 by omega); have := Int.emod_lt_of_pos a h; omega⟩
theorem four {a b c d : Int} {P : Int → Prop} (ha : P a) (hb : P b) (hc : P c) (hd : P d) {r : Nat} (hr : r < 4) : ∃ v : Int, [V.int a, V.int b, V.int c, V.int d][r]? = some (.int v) ∧ P v := by
  match r, hr with
  | 0, _ => exact ⟨a, rfl, ha⟩
  | 1, _ => exact ⟨b, rfl, hb⟩
  | 2, _ => exact ⟨c, rfl, hc⟩
  | 3, _ => exact ⟨d, rfl, hd⟩
theorem merge_keys : ∀ (more kvs : List (Key × V)), (∀ kv ∈ more, ∃ i : Int, kv.1 = .inl i) → (∀ kv ∈ kvs, ∃ i : Int, kv.1 = .inl i) → (∀ kv ∈ mergeK kvs more, ∃ i : Int, kv.1 = .inl i) ∧ (mergeK kvs more).length ≤ kvs.length + more.length
  | [], kvs, _, h => ⟨h, by show kvs.length ≤ _; omega⟩
  | q :: r, kvs, h1, h2 => by
    have e : mergeK kvs (q :: r) = mergeK (putK kvs q.1 q.2) r := rfl
    rw [e]
    have ih := merge_keys r (putK kvs q.1 q.2) (fun kv m => h1 kv (List.mem_cons_of_mem _ m)) fun kv m => by
      rcases putK_keys m with z | ⟨x, hx, ex⟩
      · rw [z]; exact h1 q (List.mem_cons_self ..)
      · rw [← ex]; exact h2 x hx
    have := putK_len (kvs := kvs) (k := q.1) (v := q.2)
    exact ⟨ih.1, by rw [List.length_cons]; omega⟩
theorem keys_inl : ∀ (kvs : List (Key × V)), (∀ kv ∈ kvs, ∃ i : Int, kv.1 = .inl i) → ∃ ks : List Int, kvs.map (·.1) = ks.map Sum.inl ∧ ks.length = kvs.length
  | [], _ => ⟨[], rfl, rfl⟩
  | q :: r, h => by
    obtain ⟨ks, h1, h2⟩ := keys_inl r fun kv m => h kv (List.mem_cons_of_mem _ m)
    obtain ⟨i, e⟩ := h q (List.mem_cons_self ..)
    exact ⟨i :: ks, by rw [List.map_cons, List.map_cons, h1, e], by rw [List.length_cons, List.length_cons, h2]⟩
theorem paired_imp {α β : Type} {F G : α → β → Prop} (f : ∀ a b, F a b → G a b) : ∀ {l₁ : List α} {l₂ : List β}, Paired F l₁ l₂ → Paired G l₁ l₂
  | _, _, .nil => .nil
  | _, _, .cons h t => .cons (f _ _ h) (paired_imp f t)
section
variable {P : Program} {w : World} {K : PySem.W.Frag} {mg : Str → Option Value} {base : Heap}
theorem ok_cell_at (T : Txt K mg) : C8.Cal P w K mg base 1 "_law_cell_at" (spCellL K) [] := by
  refine mk__law_cell_at T (fun vs H Q E h => ?_) (fun cdv A outer s H vs Q E hr h => ?_)
  · obtain ⟨l, ns, k, rfl, _⟩ := h; rfl
  · obtain ⟨l, ns, k, rfl, h1, q⟩ := h
    refine ⟨_, (pss_cons (ps_if (pt_cmpR op_lt (pv 1) (pe_callB call_len_seq (by rfl) T.n_len (by decide +kernel) (pa_cons (pv 0) pa_nil)) (nomark _)) (pss_one (ps_ret (pe_ix ix_list (pv 0) (pv 1) (fun _ _ => rfl)))) pss_nil)
        (pss_one (ps_ret pe_int))), ?_⟩
    refine ⟨_, rfl, _, rfl, l, _, rfl, .inl h1, _, _, rfl, rfl, _, rfl, ite2 (fun c => ?_) (fun _ => q 0)⟩
    have c' : k < ns.length := by
      have := of_decide_eq_true c
      rw [List.length_map] at this
      omega
    exact ⟨_, rfl, _, rfl, l, _, _, _, rfl, rfl, h1, atI_nat (int_at c'), q _⟩
theorem ok_left (T : Txt K mg) : C8.Cal P w K mg base 2 "_law_left" (spLeft K) [] := by
  have k__law_cell_at := ok_cell_at (P := P) (w := w) (base := base) T
  refine mk__law_left T (fun vs H Q E h => ?_) (fun cdv A outer s H vs Q E hr h => ?_)
  · obtain ⟨l, ns, k, rfl, _⟩ := h; rfl
  · obtain ⟨l, ns, k, rfl, h1, hk, q⟩ := h
    refine ⟨_, (pss_cons (ps_set (i := 2) sc__law_left.nd rfl (Or.inl rfl) (C8.pe_c k__law_cell_at hr (by decide) (by rfl) (pa_cons (pv 0) (pa_cons (pe_op op_mod (pv 1) (pe_callB (call_max2 rfl) (by rfl) T.n_max (by decide +kernel) (pa_cons pe_int (pa_cons (pe_callB call_len_seq (by rfl) T.n_len (by decide +kernel) (pa_cons (pv 0) pa_nil)) pa_nil)))) pa_nil))))
        (pss_cons (ps_set (i := 3) sc__law_left.nd rfl (Or.inl rfl) (pe_op op_mod (pe_op op_mul (pe_op op_add (pe_op op_add (pe_op op_mod (pv 2) pe_int) (pe_op op_mul (pe_op op_mul pe_int (pv 1)) (pv 1))) pe_int) pe_int) pe_int))
        (pss_cons (ps_set (i := 3) sc__law_left.nd rfl (Or.inl rfl) (pe_op op_mod (pe_op op_add (pe_op op_add (pe_op op_mul (pv 3) pe_int) (pe_op op_mul pe_int (pv 1))) pe_int) pe_int))
        (pss_cons (ps_if (pt_cmpR op_lt (pv 2) (pe_op op_pow pe_int pe_int) (nomark _)) (pss_one (ps_set (i := 2) sc__law_left.nd rfl (Or.inl rfl) pe_int)) pss_nil)
        (pss_one (ps_ret (pe_lstU (pa_cons (pv 2) (pa_cons (pv 3) (pa_cons pe_int pa_nil)))))))))), ?_⟩
    refine ⟨_, rfl, _, rfl, _, rfl, l, _, rfl, .inl h1, _, _, rfl, ?_⟩
    have hm : (0 : Int) < (if ((ns.map V.int).length : Int) > 1 then ((ns.map V.int).length : Int) else 1) := by split <;> omega
    obtain ⟨r, er, _⟩ := nat_mod (a := (k : Int)) hm
    refine ⟨_, _, rfl, rfl, hm, ?_⟩
    refine ⟨l, ns, r, congrArg (fun z => [V.ref l, V.int z]) er, h1, fun c => ?_⟩
    refine ⟨_, rfl, _, _, rfl, rfl, show (0 : Int) < 2147483629 by decide, _, rfl, _, _, rfl, rfl, .inl (by decide), _, rfl, _, _, rfl, rfl, .inr ⟨by omega, by omega⟩, _, _, rfl, rfl, _, _, rfl, rfl, _, _, rfl, rfl, .inr (by decide), _, _, rfl, rfl, show (0 : Int) < 2147483647 by decide, ?_⟩
    refine ⟨_, rfl, _, _, rfl, rfl, .inr (by decide), _, rfl, _, _, rfl, rfl, .inl (by decide), _, _, rfl, rfl, _, _, rfl, rfl, _, _, rfl, rfl, show (0 : Int) < 2147483629 by decide, ?_⟩
    have fin : ∀ (c' sd : Int), 0 ≤ sd → sd < 2147483647 → New H (.lst [.int c', .int sd, .int 60]) Q := fun c' sd s1 s2 p H' f u e => q H' p u f ⟨c', sd, 60, e, s1, s2⟩
    have sb : ∀ x : Int, 0 ≤ x % 2147483629 ∧ x % 2147483629 < 2147483647 := fun x => by omega
    refine ⟨_, rfl, _, _, rfl, rfl, ⟨by decide, by decide, by decide⟩, _, _, rfl, rfl, _, rfl, ite2 (fun _ => ?_) (fun _ => ?_)⟩
    · exact ⟨_, rfl, _, rfl, by simp, fin _ _ (sb _).1 (sb _).2⟩
    · exact ⟨_, rfl, _, rfl, by simp, fin _ _ (sb _).1 (sb _).2⟩
theorem ok_pick (T : Txt K mg) : C8.Cal P w K mg base 1 "_law_pick" spPick [] := by
  refine mk__law_pick T (fun vs H Q E h => ?_) (fun cdv A outer s H vs Q E hr h => ?_)
  · obtain ⟨l, m, rfl, _⟩ := h; rfl
  · obtain ⟨l, m, rfl, ⟨a, b, c, h1, b0, b1⟩, m1, m2, q⟩ := h
    refine ⟨_, (C8.pss_cut (ps_if (PW.pt (pw_and (pt_cmpR op_gt (pe_ix ix_list (pv 0) pe_int (fun _ _ => rfl)) pe_int (nomark _)) (pw_and1 (pt_cmpR op_gt (pe_ix ix_list (pv 0) pe_int (fun _ _ => rfl)) pe_int (nomark _))))) (pss_cons (ps_set (i := 2) sc__law_pick.nd rfl (Or.inl rfl) (pe_op op_mod (pe_ix ix_list (pv 0) pe_int (fun _ _ => rfl)) (pv 1)))
        (pss_cons (ps_asg (pe_op op_fdiv (pe_ix ix_list (pv 0) pe_int (fun _ _ => rfl)) (pv 1)) (pg_sub (pv 0) pe_int set_listU))
        (pss_cons (ps_asg (pe_op op_sub (pe_ix ix_list (pv 0) pe_int (fun _ _ => rfl)) pe_int) (pg_sub (pv 0) pe_int set_listU))
        (pss_one (ps_ret (pv 2)))))) pss_nil)
        (pss_cons (ps_asg (pe_op op_mod (pe_op op_add (pe_op op_mul (pe_ix ix_list (pv 0) pe_int (fun _ _ => rfl)) pe_int) pe_int) pe_int) (pg_sub (pv 0) pe_int set_listU))
        (pss_one (ps_ret (pe_op op_mod (pe_op op_mod (pe_op op_mul (pe_ix ix_list (pv 0) pe_int (fun _ _ => rfl)) (pe_ix ix_list (pv 0) pe_int (fun _ _ => rfl))) pe_int) (pv 1)))))), ?_⟩
    refine ⟨fun σ' H' => σ' = start N__law_pick [.ref l, .int m] ∧ H' = H, ?_, ?_⟩
    · refine ⟨_, rfl, l, _, _, _, rfl, rfl, SqL.of h1, atI_nat (j := 0) rfl, _, _, rfl, rfl, _, rfl, ite2 (fun _ => ?_) (fun _ => iteF ⟨rfl, rfl⟩)⟩
      refine ⟨_, rfl, l, _, _, _, rfl, rfl, SqL.of h1, atI_nat (j := 2) rfl, _, _, rfl, rfl, _, rfl, ite2 (fun _ => ?_) (fun _ => ⟨rfl, rfl⟩)⟩
      have hm : (0 : Int) < (m : Int) := by omega
      obtain ⟨r, er, hr'⟩ := nat_mod (a := a) hm
      refine ⟨_, rfl, l, _, _, _, rfl, rfl, SqL.of h1, atI_nat (j := 0) rfl, _, rfl, _, _, rfl, rfl, hm, ?_⟩
      refine ⟨_, rfl, l, _, _, _, rfl, rfl, SqL.of h1, atI_nat (j := 0) rfl, _, rfl, _, _, rfl, rfl, ⟨hm, by omega⟩, ?_⟩
      refine ⟨_, rfl, l, _, 0, rfl, rfl, h1, by simp, fun H1 u1 e1 => ?_⟩
      refine ⟨_, rfl, l, _, _, _, rfl, rfl, SqL.of e1, atI_nat (j := 2) rfl, _, _, rfl, rfl, ?_⟩
      refine ⟨_, rfl, l, _, 2, rfl, rfl, e1, by simp, fun H2 u2 e2 => ?_⟩
      have z := q H2 r (u1.trans u2) ⟨_, b, _, e2, b0, b1⟩ (by omega)
      rw [← er] at z
      exact ⟨_, rfl, z⟩
    · rintro σ' H' ⟨rfl, rfl⟩
      refine ⟨_, rfl, l, _, _, _, rfl, rfl, SqL.of h1, atI_nat (j := 1) rfl, _, _, rfl, rfl, .inr (by decide), _, _, rfl, rfl, _, _, rfl, rfl, show (0 : Int) < 2147483647 by decide, ?_⟩
      refine ⟨_, rfl, l, _, 1, rfl, rfl, h1, by simp, fun H1 u1 e1 => ?_⟩
      have s1 : 0 ≤ (b * 48271 + 12345) % 2147483647 := by omega
      have s2 : (b * 48271 + 12345) % 2147483647 < 2147483647 := by omega
      have hm : (0 : Int) < (m : Int) := by omega
      obtain ⟨r, er, hr'⟩ := nat_mod (a := ((b * 48271 + 12345) % 2147483647 * ((b * 48271 + 12345) % 2147483647)) % 1999999973) hm
      refine ⟨_, rfl, l, _, _, _, rfl, rfl, SqL.of e1, atI_nat (j := 1) rfl, _, rfl, l, _, _, _, rfl, rfl, SqL.of e1, atI_nat (j := 1) rfl, _, _, rfl, rfl, .inr ⟨by omega, by omega⟩, _, _, rfl, rfl, show (0 : Int) < 1999999973 by decide, _, rfl, _, _, rfl, rfl, hm, ?_⟩
      have z := q H1 r u1 ⟨a, _, c, e1, s1, s2⟩ (by omega)
      rw [← er] at z
      exact z
theorem ok_names (T : Txt K mg) : C8.Cal P w K mg base 1 "_law_names" spNames [] := by
  refine mk__law_names T (fun vs H Q E h => ?_) (fun cdv A outer s H vs Q E hr h => ?_)
  · obtain ⟨rfl, _⟩ := h; rfl
  · obtain ⟨rfl, q⟩ := h
    refine ⟨_, (pss_cons (ps_set (i := 1) sc__law_names.nd rfl (Or.inl rfl) (pe_tupU (pa_cons pe_str (pa_cons pe_str (pa_cons pe_str (pa_cons pe_str (pa_cons pe_str (pa_cons pe_str (pa_cons pe_str pa_nil)))))))))
        (pss_one (ps_ret (pe_callTy call_tupleU (by rfl) T.n_tuple (by decide +kernel) (pa_cons (pe_lc (own := [("_law_name", 2)]) rfl sc__law_names.nd (pi_tup (pv 1)) (blkOk_by (own := [("_law_name", 2)]) (N := N__law_names) (sc := defScope s__law_names) (by decide +kernel)) (fun _ _ _ _ _ => (pg_name (i := 2) sc__law_names.nd rfl (Or.inl rfl))) (fun _ _ _ _ _ => (pts_one (pt_cmpR op_ne (pv 2) (pv 0) (nomark _)))) (fun _ _ _ _ _ => (pv 2))) pa_nil))))), ?_⟩
    refine ⟨by simp, fun ev H1 _ u1 e1 => ?_⟩
    refine ⟨_, rfl, ev, rfl, ⟨_, SqT.of e1⟩, fun D f => ?_⟩
    refine lc_tup (xs := clauseVs) (LcI D fun i acc H' => Up [D] H1 H' ∧ acc = clauseVs.take i)
      (lc_start f fun H' u _ => ⟨u.of, rfl⟩) (fun i H3 hi W => ?_) (fun i x H3 hx W => ?_) fun H3 W => ?_
    · obtain ⟨acc, a1, a2, u3, _⟩ := W
      exact SqT.of (u3.tu _ _ e1)
    · obtain ⟨acc, a1, a2, u3, e2⟩ := W
      have hi := (List.getElem?_eq_some_iff.mp hx).1
      have hi' : i < 7 := hi
      obtain ⟨sx, rfl⟩ : ∃ sx, x = V.str sx := by
        match i, hi' with
        | 0, _ | 1, _ | 2, _ | 3, _ | 4, _ | 5, _ | 6, _ => exact ⟨_, (Option.some.inj hx).symm⟩
      refine ⟨wipe1 (by decide), ?_⟩
      refine ⟨_, rfl, _, rfl, rfl, _, rfl, ?_⟩
      refine iteT ?_
      refine ⟨_, rfl, lc_add a1 a2 (by omega) fun H' u _ => ⟨u3.trans u, ?_⟩⟩
      rw [e2, List.take_succ, hx]
      rfl
    · obtain ⟨acc, a1, a2, u3, e2⟩ := W
      have u3' : Up [] H1 H3 := u3.sub fun e m => .inl (by rw [List.mem_singleton.mp m]; exact f)
      exact ⟨D, acc, rfl, a1, fun nm H4 _ u4 e4 => q H4 nm (u1.trans (u3'.trans u4)) (by rw [e4, e2, List.take_length])⟩
end
end Hb

set_option maxHeartbeats 4000000
/-! what the law draws: rules, towns, lost letters -/
namespace Hb
open PySem PySem.Spec PyProof.Rows L2
theorem three {a b c : Int} {P : Int → Prop} (ha : P a) (hb : P b) (hc : P c) {r : Nat} (hr : r < 3) : ∃ v : Int, [V.int a, V.int b, V.int c][r]? = some (.int v) ∧ P v := by
  match r, hr with
  | 0, _ => exact ⟨a, rfl, ha⟩
  | 1, _ => exact ⟨b, rfl, hb⟩
  | 2, _ => exact ⟨c, rfl, hc⟩
section
variable {P : Program} {w : World} {K : PySem.W.Frag} {mg : Str → Option Value} {base : Heap}
theorem LeftAt.ne {H : Hp} {l q : Addr} (h : LeftAt H l) (f : H q = none) : q ≠ l := by
  obtain ⟨_, _, _, h1, _⟩ := h
  exact (ne_of_none h1 f).symm
theorem ok_rules (T : Txt K mg) : C8.Cal P w K mg base 2 "_law_rules" spRules [] := by
  have k__law_pick := ok_pick (P := P) (w := w) (base := base) T
  have k__law_names := ok_names (P := P) (w := w) (base := base) T
  refine mk__law_rules T (fun vs H Q E h => ?_) (fun cdv A outer s H vs Q E hr h => ?_)
  · obtain ⟨l, rfl, _⟩ := h; rfl
  · obtain ⟨l, rfl, hL, q⟩ := h
    refine ⟨_, (pss_cons (ps_set (i := 1) sc__law_rules.nd rfl (Or.inl rfl) (pe_ix ix_list (pe_lstU (pa_cons pe_int (pa_cons pe_int (pa_cons pe_int (pa_cons pe_int pa_nil))))) (C8.pe_c k__law_pick hr (by decide) (by rfl) (pa_cons (pv 0) (pa_cons pe_int pa_nil))) (fun _ _ => rfl)))
        (pss_cons (ps_set (i := 2) sc__law_rules.nd rfl (Or.inl rfl) (pe_ix ix_list (pe_lstU (pa_cons pe_int (pa_cons pe_int (pa_cons pe_int (pa_cons (pe_op op_add pe_int (C8.pe_c k__law_pick hr (by decide) (by rfl) (pa_cons (pv 0) (pa_cons pe_int pa_nil)))) pa_nil))))) (C8.pe_c k__law_pick hr (by decide) (by rfl) (pa_cons (pv 0) (pa_cons pe_int pa_nil))) (fun _ _ => rfl)))
        (pss_cons (ps_set (i := 3) sc__law_rules.nd rfl (Or.inl rfl) (pe_ix ix_list (pe_lstU (pa_cons pe_int (pa_cons pe_int (pa_cons pe_int (pa_cons (C8.pe_c k__law_pick hr (by decide) (by rfl) (pa_cons (pv 0) (pa_cons pe_int pa_nil))) pa_nil))))) (C8.pe_c k__law_pick hr (by decide) (by rfl) (pa_cons (pv 0) (pa_cons pe_int pa_nil))) (fun _ _ => rfl)))
        (pss_cons (ps_set (i := 4) sc__law_rules.nd rfl (Or.inl rfl) (pe_ix ix_list (pe_lstU (pa_cons pe_int (pa_cons pe_int (pa_cons pe_int (pa_cons (C8.pe_c k__law_pick hr (by decide) (by rfl) (pa_cons (pv 0) (pa_cons pe_int pa_nil))) pa_nil))))) (C8.pe_c k__law_pick hr (by decide) (by rfl) (pa_cons (pv 0) (pa_cons pe_int pa_nil))) (fun _ _ => rfl)))
        (pss_one (ps_ret (pe_tupU (pa_cons (pv 1) (pa_cons (pv 2) (pa_cons (pv 3) (pa_cons (pv 4) (pa_cons (C8.pe_c k__law_names hr (by decide) (by rfl) (pa_cons pe_non pa_nil)) pa_nil)))))))))))), ?_⟩
    refine ⟨by simp, fun q1 H1 f1 u1 e1 => ?_⟩
    refine ⟨_, rfl, l, 4, rfl, hL.up0 u1, by omega, by omega, fun H2 r2 u2 L2 hr2 => ?_⟩
    obtain ⟨o, eo, o1, o2⟩ := four (P := fun v => 0 ≤ v ∧ v ≤ 3) (a := 0) (b := 1) (c := 2) (d := 3) (by omega) (by omega) (by omega) (by omega) hr2
    refine ⟨q1, _, _, _, rfl, rfl, SqL.of (u2.f1 e1 (hL.ne f1)), atI_nat eo, ?_⟩
    have v2 : Up [l] H H2 := u1.of.trans u2
    -- wait
    refine ⟨_, rfl, l, 9, rfl, L2, by omega, by omega, fun H3 r3 u3 L3 hr3 => ?_⟩
    refine ⟨_, _, rfl, rfl, by simp, fun q4 H4 f4 u4 e4 => ?_⟩
    refine ⟨_, rfl, l, 4, rfl, L3.up0 u4, by omega, by omega, fun H5 r5 u5 L5 hr5 => ?_⟩
    obtain ⟨w, ew, w1, w2⟩ := four (P := fun v => 1 ≤ v ∧ v ≤ 9) (a := 1) (b := 2) (c := 3) (d := 1 + (r3 : Int)) (by omega) (by omega) (by omega) (by omega) hr5
    refine ⟨q4, _, _, _, rfl, rfl, SqL.of (u5.f1 e4 (L3.ne f4)), atI_nat ew, ?_⟩
    have v5 : Up [l] H H5 := v2.trans (u3.trans (u4.of.trans u5))
    -- told
    refine ⟨_, rfl, l, 10, rfl, L5, by omega, by omega, fun H6 r6 u6 L6 hr6 => ?_⟩
    refine ⟨by simp, fun q7 H7 f7 u7 e7 => ?_⟩
    refine ⟨_, rfl, l, 4, rfl, L6.up0 u7, by omega, by omega, fun H8 r8 u8 L8 hr8 => ?_⟩
    obtain ⟨t, et, t1, t2⟩ := four (P := fun v => 0 ≤ v ∧ v ≤ 9) (a := 0) (b := 1) (c := 2) (d := (r6 : Int)) (by omega) (by omega) (by omega) (by omega) hr8
    refine ⟨q7, _, _, _, rfl, rfl, SqL.of (u8.f1 e7 (L6.ne f7)), atI_nat et, ?_⟩
    have v8 : Up [l] H H8 := v5.trans (u6.trans (u7.of.trans u8))
    -- carry
    refine ⟨_, rfl, l, 9, rfl, L8, by omega, by omega, fun H9 r9 u9 L9 hr9 => ?_⟩
    refine ⟨by simp, fun qa Ha fa ua ea => ?_⟩
    refine ⟨_, rfl, l, 4, rfl, L9.up0 ua, by omega, by omega, fun Hb rb ub Lb hrb => ?_⟩
    obtain ⟨c, ec, c1, c2⟩ := four (P := fun v => 0 ≤ v ∧ v ≤ 8) (a := 0) (b := 1) (c := 2) (d := (r9 : Int)) (by omega) (by omega) (by omega) (by omega) hrb
    refine ⟨qa, _, _, _, rfl, rfl, SqL.of (ub.f1 ea (L9.ne fa)), atI_nat ec, ?_⟩
    have vb : Up [l] H Hb := v8.trans (u9.trans (ua.of.trans ub))
    refine ⟨_, rfl, _, rfl, _, rfl, _, rfl, rfl, fun Hc nm uc ec' => ?_⟩
    refine ⟨by simp, fun ra Hd fd ud ed => ?_⟩
    exact q Hd ra nm o w t c (vb.trans (uc.trans ud).of) (Lb.up0 (uc.trans ud)) o1 o2 w1 w2 t1 t2 c1 c2 ed (ud.tu _ _ ec')
theorem ok_town (T : Txt K mg) : C8.Cal P w K mg base 2 "_law_town" spTownL [] := by
  have k__law_pick := ok_pick (P := P) (w := w) (base := base) T
  refine mk__law_town T (fun vs H Q E h => ?_) (fun cdv A outer s H vs Q E hr h => ?_)
  · obtain ⟨l, m, rfl, _⟩ := h; rfl
  · obtain ⟨l, m, rfl, hL, m1, m2, q⟩ := h
    refine ⟨_, (pss_cons (ps_set (i := 2) sc__law_town.nd rfl (Or.inl rfl) (pe_lstU pa_nil))
        (pss_cons (ps_for PassesOwn.never rfl (pi_range1 rfl T.n_range (pa_cons (pe_op op_add pe_int (C8.pe_c k__law_pick hr (by decide) (by rfl) (pa_cons (pv 0) (pa_cons (pe_op op_sub (pv 1) pe_int) pa_nil)))) pa_nil)) (pg_name (i := 3) sc__law_town.nd rfl (Or.inl rfl)) (pss_cons (ps_set (i := 4) sc__law_town.nd rfl (Or.inl rfl) (pe_ix ix_list (pe_lstU (pa_cons pe_int (pa_cons pe_int (pa_cons pe_int (pa_cons (pe_op op_add pe_int (C8.pe_c k__law_pick hr (by decide) (by rfl) (pa_cons (pv 0) (pa_cons pe_int pa_nil)))) pa_nil))))) (C8.pe_c k__law_pick hr (by decide) (by rfl) (pa_cons (pv 0) (pa_cons pe_int pa_nil))) (fun _ _ => rfl)))
        (pss_one (ps_expr (pe_bm PySem.F.plainAttrs_list PySem.F.slot_list_append PySem.F.type_list_append mt_appU (pv 2) (pa_cons (pe_tupU (pa_cons (pv 4) (pa_cons (C8.pe_c k__law_pick hr (by decide) (by rfl) (pa_cons (pv 0) (pa_cons (pv 4) pa_nil))) pa_nil))) pa_nil))))))
        (pss_one (ps_ret (pe_callTy call_tupleU (by rfl) T.n_tuple (by decide +kernel) (pa_cons (pv 2) pa_nil)))))), ?_⟩
    refine ⟨by simp, fun cl H1 f1 u1 e1 => ?_⟩
    have ncl : cl ≠ l := hL.ne f1
    refine ⟨_, rfl, _, rfl, _, _, rfl, rfl, l, m - 1, congrArg (fun z => [V.ref l, V.int z]) (show (m : Int) - 1 = ((m - 1 : Nat) : Int) by omega), hL.up0 u1, by omega, by omega, fun H2 r u2 L2 hr2 => ?_⟩
    refine ⟨_, _, rfl, rfl, _, rfl, by omega, by omega, ?_⟩
    have en : ((2 : Int) + (r : Int)).toNat = 2 + r := by omega
    rw [en]
    refine for_range (lo := 0) (n := 2 + r) (fun i σ H' => (∃ x y : Option V, σ = [some (.ref l), some (.int m), some (.ref cl), x, y]) ∧ Up [l, cl] H1 H' ∧ LeftAt H' l ∧ ∃ cs, H' cl = some (.lst cs) ∧ cs.length = i ∧ ∀ v ∈ cs, ClockAt H' v)
      ⟨⟨none, none, rfl⟩, u2.mono (by simp), L2, [], u2.f1 e1 ncl, rfl, fun _ m => absurd m (by simp)⟩ (fun i σ H3 hi h => ?_) (fun σ H' h => ?_)
    · obtain ⟨⟨x', y', rfl⟩, u3, L3, cs, g1, g2, g3⟩ := h
      refine ⟨_, rfl, l, 4, rfl, L3, by omega, by omega, fun H4 r4 u4 L4 hr4 => ?_⟩
      refine ⟨_, _, rfl, rfl, by simp, fun q5 H5 f5 u5 e5 => ?_⟩
      refine ⟨_, rfl, l, 4, rfl, L4.up0 u5, by omega, by omega, fun H6 r6 u6 L6 hr6 => ?_⟩
      obtain ⟨pc, ep, pn, rfl, p1, p2⟩ := four (P := fun v => ∃ n : Nat, v = (n : Int) ∧ 1 ≤ n ∧ n ≤ 4) (a := 1) (b := 1) (c := 2) (d := 1 + (r4 : Int)) ⟨1, rfl, by omega, by omega⟩ ⟨1, rfl, by omega, by omega⟩ ⟨2, rfl, by omega, by omega⟩ ⟨1 + r4, by omega, by omega, by omega⟩ hr6
      refine ⟨q5, _, _, _, rfl, rfl, SqL.of (u6.f1 e5 (L4.ne f5)), atI_nat ep, ?_⟩
      have v6 : Up [l] H3 H6 := u4.trans (u5.of.trans u6)
      refine ⟨_, rfl, .inl ⟨rfl, _, SqL.of (v6.f1 g1 ncl)⟩, _, rfl, _, rfl, _, rfl, l, pn, rfl, L6, p1, by omega, fun H7 r7 u7 L7 hr7 => ?_⟩
      refine ⟨by simp, fun c H8 f8 u8 e8 => ?_⟩
      have v8 : Up [l] H3 H8 := v6.trans (u7.trans u8.of)
      refine ⟨cl, cs, _, rfl, rfl, v8.f1 g1 ncl, by omega, fun H9 u9 e9 => ?_⟩
      have v9 : Up [l, cl] H3 H9 := (v8.mono (by simp)).trans (u9.mono (by simp))
      obtain ⟨la, lb, lc, l1, l2⟩ := L7.up0 u8
      refine ⟨⟨_, _, rfl⟩, u3.trans v9, ⟨la, lb, lc, u9.f1 l1 ncl.symm, l2⟩, _, e9, by rw [List.length_append, g2]; rfl, fun v hv => ?_⟩
      rcases List.mem_append.mp hv with z | z
      · exact (g3 v z).up v9
      · rw [List.mem_singleton.mp z]
        exact ⟨c, pn, r7, rfl, u9.tu _ _ e8, by omega, by omega⟩
    · obtain ⟨⟨x', y', rfl⟩, u3, L3, cs, g1, g2, g3⟩ := h
      refine ⟨_, rfl, cl, cs, rfl, g1, fun ta H4 f4 u4 e4 => ?_⟩
      refine q H4 (2 + r) ta ?_ (L3.up0 u4) ⟨cs, e4, g2, fun v hv => (g3 v hv).up u4⟩ (by omega) (by omega)
      refine ((u1.of.trans u3).trans u4.of).sub fun e me => ?_
      rcases (show e = l ∨ e = cl by simpa using me) with z | z <;> rw [z]
      · exact .inr (by simp)
      · exact .inl f1
theorem ok_lost (T : Txt K mg) : C8.Cal P w K mg base 2 "_law_lost" spLost [] := by
  have k__law_pick := ok_pick (P := P) (w := w) (base := base) T
  refine mk__law_lost T (fun vs H Q E h => ?_) (fun cdv A outer s H vs Q E hr h => ?_)
  · obtain ⟨l, m, rfl, _⟩ := h; rfl
  · obtain ⟨l, m, rfl, hL, m1, m2, q⟩ := h
    refine ⟨_, (pss_cons (ps_set (i := 2) sc__law_lost.nd rfl (Or.inl rfl) (C8.pe_c k__law_pick hr (by decide) (by rfl) (pa_cons (pv 0) (pa_cons pe_int pa_nil))))
        (pss_cons (ps_if (pt_cmpR op_eq (pv 2) pe_int (nomark _)) (pss_one (ps_ret (pe_tupU pa_nil))) pss_nil)
        (pss_cons (ps_if (pt_cmpR op_eq (pv 2) pe_int (nomark _)) (pss_one (ps_ret (pe_tupRg rfl (by rfl) T.n_tuple (prg_1 (by rfl) T.n_range (C8.pe_c k__law_pick hr (by decide) (by rfl) (pa_cons (pv 0) (pa_cons (pv 1) pa_nil))))))) pss_nil)
        (pss_cons (ps_set (i := 3) sc__law_lost.nd rfl (Or.inl rfl) (pe_callTy (call_dictPU rfl) (by rfl) T.n_dict (by decide +kernel) (pa_cons (pe_lc (own := [("_law_k", 4)]) rfl sc__law_lost.nd (pi_range1 rfl T.n_range (pa_cons (C8.pe_c k__law_pick hr (by decide) (by rfl) (pa_cons (pv 0) (pa_cons (pe_ix ix_list (pe_lstU (pa_cons pe_int (pa_cons pe_int (pa_cons pe_int pa_nil)))) (pe_op op_sub (pv 2) pe_int) (fun _ _ => rfl)) pa_nil))) pa_nil)) (blkOk_by (own := [("_law_k", 4)]) (N := N__law_lost) (sc := defScope s__law_lost) (by decide +kernel)) (fun _ _ _ _ _ => (pg_name (i := 4) sc__law_lost.nd rfl (Or.inl rfl))) (fun _ _ _ _ _ => pts_nil) (fun _ _ _ _ _ => (pe_tupU (pa_cons (C8.pe_c k__law_pick hr (by decide) (by rfl) (pa_cons (pv 0) (pa_cons (pv 1) pa_nil))) (pa_cons pe_bl pa_nil))))) pa_nil)))
        (pss_one (ps_ret (pe_callTy call_tupleU (by rfl) T.n_tuple (by decide +kernel) (pa_cons (pe_callB (cr_sortedDU rfl) (by rfl) T.n_sorted (by decide +kernel) (pa_cons (pv 3) pa_nil)) pa_nil)))))))), ?_⟩
    refine ⟨_, rfl, l, 5, rfl, hL, by omega, by omega, fun H1 wy u1 L1 hwy => ?_⟩
    refine ⟨_, rfl, rfl, _, rfl, ite2 (fun _ => ?_) (fun n0 => ?_)⟩
    · exact ⟨by simp, fun a H2 _ u2 e2 => q H2 a [] (u1.trans u2.of) (L1.up0 u2) e2 (by simp)⟩
    refine ⟨_, rfl, rfl, _, rfl, ite2 (fun _ => ?_) (fun n1 => ?_)⟩
    · refine ⟨_, rfl, _, rfl, l, m, rfl, L1, by omega, by omega, fun H2 r u2 L2 hr2 => ⟨_, rfl, RgOk.of_le (by omega) (by omega) (by omega) (by omega), fun a f => ?_⟩⟩
      refine q _ a ((List.range ((r : Int) - 0).toNat).map fun i => (0 : Int) + (i : Nat)) (u1.trans (u2.new f)) (L2.up0 (.new1 f)) ?_ (by rw [List.length_map, List.length_range]; omega)
      rw [upd_same]
      unfold rgV
      rw [List.map_map]
      rfl
    have k0 : wy ≠ 0 := fun z => n0 (by rw [z]; rfl)
    have k1 : wy ≠ 1 := fun z => n1 (by rw [z]; rfl)
    -- some = dict([(pick, True) for .. in range(pick(left, [3, 6, 30][way - 2]))])
    obtain ⟨bn, eb, nb, rfl, b1, b2⟩ := three (P := fun v => ∃ n : Nat, v = (n : Int) ∧ 1 ≤ n ∧ n ≤ 30) (a := 3) (b := 6) (c := 30) ⟨3, rfl, by omega, by omega⟩ ⟨6, rfl, by omega, by omega⟩ ⟨30, rfl, by omega, by omega⟩ (r := wy - 2) (by omega)
    have ei : (wy : Int) - 2 = ((wy - 2 : Nat) : Int) := by omega
    refine ⟨_, rfl, by simp, fun q2 H2 f2 u2 e2 => ?_⟩
    refine ⟨_, rfl, _, _, rfl, rfl, q2, _, _, _, rfl, rfl, SqL.of e2, (congrArg (atI _) ei).trans (atI_nat eb), ?_⟩
    refine ⟨l, nb, rfl, L1.up0 u2, b1, by omega, fun H3 r u3 L3 hr3 => ?_⟩
    refine ⟨_, rfl, by omega, by omega, fun D f => ?_⟩
    have nD : D ≠ l := L3.ne f
    have v3 : Up [l] H H3 := u1.trans (u2.of.trans u3)
    have en : ((r : Nat) : Int).toNat = r := by omega
    rw [en]
    refine lc_range (lo := 0) (n := r) (LcI D fun i acc H' => Up [D, l] H3 H' ∧ LeftAt H' l ∧ ∃ (ps : List Addr) (kvs : List (Key × V)), acc = ps.map V.ref ∧ Paired (fun p kv => H' p = some (.tup [kV kv.1, kv.2])) ps kvs ∧ (∀ kv ∈ kvs, ∃ j : Int, kv.1 = .inl j) ∧ kvs.length = i)
      (lc_start f fun H' u _ => ⟨u.of, L3.up0 u, [], [], rfl, .nil, fun _ m => absurd m (by simp), rfl⟩) (fun i H4 hi W => ?_) fun H4 W => ?_
    · obtain ⟨acc, g1, g2, u4, L4, ps, kvs, p1, p2, p3, p4⟩ := W
      refine ⟨wipe1 (by decide), ?_⟩
      unfold tYes
      refine iteT ?_
      refine ⟨_, rfl, _, rfl, l, m, rfl, L4, by omega, by omega, fun H5 r5 u5 L5 hr5 => ?_⟩
      refine ⟨by simp, fun tp H6 f6 u6 e6 => ?_⟩
      have v6 : Up [l] H4 H6 := u5.trans u6.of
      refine lc_add (v6.f1 g1 nD) g2 (by omega) fun H' u _ => ?_
      have v7 : Up [D, l] H4 H' := (v6.mono (by simp)).trans (u.mono (by simp))
      obtain ⟨la, lb, lc, l1, l2⟩ := L5.up0 u6
      refine ⟨u4.trans v7, ⟨la, lb, lc, u.f1 l1 nD.symm, l2⟩, ps ++ [tp], kvs ++ [(.inl (r5 : Int), .bl true)], by rw [p1, List.map_append]; rfl, (paired_imp (fun p kv z => v7.tu _ _ z) p2).snoc (b := ((Sum.inl (r5 : Int) : Key), V.bl true)) (u.tu _ _ (show H6 tp = some (.tup [V.int r5, V.bl true]) from e6)), fun kv hkv => ?_, by rw [List.length_append, p4]; rfl⟩
      rcases List.mem_append.mp hkv with z | z
      · exact p3 kv z
      · rw [List.mem_singleton.mp z]; exact ⟨_, rfl⟩
    · obtain ⟨acc, g1, g2, u4, L4, ps, kvs, p1, p2, p3, p4⟩ := W
      obtain ⟨k1, k2⟩ := merge_keys kvs [] p3 fun _ m => absurd m (by simp)
      obtain ⟨ks, k3, k4⟩ := keys_inl _ k1
      have hk : ks.length ≤ 30 := by
        rw [List.length_nil] at k2
        omega
      refine ⟨D, ps, kvs, rfl, by rw [g1, p1], paired_imp (fun p kv z => SqT.of z) p2, fun d H5 f5 u5 e5 => ?_⟩
      refine ⟨_, rfl, d, _, ks, rfl, e5, k3, by omega, fun os hp q6 H6 f6 u6 e6 => ?_⟩
      refine ⟨q6, _, rfl, e6, fun a H7 f7 u7 e7 => ?_⟩
      have u57 := (u5.trans u6).trans u7
      have v4 : Up [l] H3 H4 := u4.sub fun e me => by
        rcases (show e = D ∨ e = l by simpa using me) with z | z <;> rw [z]
        · exact .inl f
        · exact .inr (by simp)
      exact q H7 a os (v3.trans (v4.trans u57.of)) (L4.up0 u57) e7 (by rw [hp.length_eq]; omega)
end
end Hb

set_option maxHeartbeats 4000000
/-! the aimed losses -/
namespace Hb
open PySem PySem.Spec PyProof.Rows L2
theorem Par.h_le (p : Par) : p.h ≤ 3 := by have := p.ho3; unfold Par.h; omega
theorem Par.safe_le (p : Par) : p.safe ≤ 40 := by
  have h := p.h_le
  have w1 := p.hw1
  have w9 := p.hw9
  unfold Par.safe Par.c
  have h1 : (p.wt + 1) * (1 + (p.h : Int)) ≤ 10 * (1 + (p.h : Int)) := Int.mul_le_mul_of_nonneg_right (by omega) (by omega)
  omega
theorem Par.safe_pos (p : Par) : 1 ≤ p.safe := by
  have w1 := p.hw1
  unfold Par.safe Par.c
  have h1 : 1 * (1 + (p.h : Int)) ≤ (p.wt + 1) * (1 + (p.h : Int)) := Int.mul_le_mul_of_nonneg_right (by omega) (by omega)
  omega
def spCut (K : PySem.W.Frag) : Sp := fun vs H Q _ => ∃ (ra ta sa : Addr) (p : Par) (L one other mo : Int), vs = [.ref ra, .ref ta, .ref sa, .int one, .int other, .int mo] ∧ RulesAt H p ra ∧ TownAt H p.n ta ∧ StateAt H p L sa ∧ Tab K H ∧ 0 ≤ L ∧ 0 ≤ mo ∧ L + mo < p.safe ∧
  ∀ (H' : Hp) (la : Addr) (lost : List Int), Up [tabP K] H H' → Tab K H' → H' la = some (.tup (lost.map V.int)) → (lost.length : Int) ≤ mo → Q (.ref la) H'
section
variable {P : Program} {w : World} {K : PySem.W.Frag} {mg : Str → Option Value} {base : Heap}
theorem ok_cut_off (T : Txt K mg) (TB : LamX.TabB base mg (tabC K) (tabP K)) : C8.Cal P w K mg base 12 "_law_cut_off" (spCut K) [] := by
  have k_stepped := ok_stepped (P := P) (w := w) (base := base) T TB
  refine mk__law_cut_off T (fun vs H Q E h => ?_) (fun cdv A outer s H vs Q E hr h => ?_)
  · obtain ⟨ra, ta, sa, p, L, one, other, mo, rfl, _⟩ := h; rfl
  · obtain ⟨ra, ta, sa, p, L, one, other, mo, rfl, hR, hT, hS, hTab, l0, m0, lm, q⟩ := h
    have hs40 := p.safe_le
    refine ⟨_, (pss_cons (ps_set (i := 6) sc__law_cut_off.nd rfl (Or.inl rfl) (pe_tupU pa_nil))
        (pss_cons (ps_for PassesOwn.never rfl (pi_range1 rfl T.n_range (pa_cons (pv 5) pa_nil)) (pg_name (i := 7) sc__law_cut_off.nd rfl (Or.inl rfl)) (pss_cons (ps_set (i := 8) sc__law_cut_off.nd rfl (Or.inl rfl) (pe_ix ix_tup (C8.pe_c k_stepped hr (by decide) (by rfl) (pa_cons (pv 0) (pa_cons (pv 1) (pa_cons (pv 2) (pa_cons (pe_tupU (pa_cons (pv 6) (pa_cons (pe_tupU pa_nil) (pa_cons (pe_tupU pa_nil) (pa_cons (pe_tupU pa_nil) pa_nil))))) pa_nil))))) pe_int (fun _ _ => rfl)))
        (pss_cons (ps_set (i := 9) sc__law_cut_off.nd rfl (Or.inl rfl) pe_non)
        (pss_cons (ps_for PassesOwn.never rfl (pi_enumT (by rfl) T.n_enumerate (pa_cons (pv 8) pa_nil)) (pg_tup rfl (pgs_cons (pg_name (i := 10) sc__law_cut_off.nd rfl (Or.inl rfl)) (pgs_cons (pg_name (i := 11) sc__law_cut_off.nd rfl (Or.inl rfl)) pgs_nil))) (C8.pss_cut (ps_set (i := 12) sc__law_cut_off.nd rfl (Or.inl rfl) (pe_and (pe_cmpR op_gt (pv 10) pe_int (nomark _)) (pe_and (pe_cmpR op_eq (pe_ix ix_tup (pe_ix ix_tup (pv 8) (pe_op op_sub (pv 10) pe_int) (fun _ _ => rfl)) pe_int (fun _ _ => rfl)) (pv 3) (nomark _)) (pe_one (pe_cmpR op_eq (pe_ix ix_tup (pv 11) pe_int (fun _ _ => rfl)) (pe_ix ix_tup (pe_ix ix_tup (pv 8) (pe_op op_sub (pv 10) pe_int) (fun _ _ => rfl)) pe_int (fun _ _ => rfl)) (nomark _))))))
        (pss_one (ps_if (PW.pt (pw_and (pt_cmp (pc_isN (pv 9)) rfl) (pw_and (pt_not (pt_val (pe_ix ix_tup (pv 11) pe_int (fun _ _ => rfl)))) (pw_and (pt_cmpR op_eq (pe_ix ix_tup (pv 11) pe_int (fun _ _ => rfl)) (pv 4) (nomark _)) (pw_and1 (PW.pt (pw_or (pt_cmpR op_eq (pe_ix ix_tup (pv 11) pe_int (fun _ _ => rfl)) (pv 3) (nomark _)) (pw_or1 (pt_val (pv 12)))))))))) (pss_one (ps_set (i := 9) sc__law_cut_off.nd rfl (Or.inl rfl) (pv 10))) pss_nil))))
        (pss_cons (ps_if (pt_cmp (pc_isN (pv 9)) rfl) (pss_one (ps_ret (pv 6))) pss_nil)
        (pss_one (ps_set (i := 6) sc__law_cut_off.nd rfl (Or.inl rfl) (pe_callTy call_tupleU (by rfl) T.n_tuple (by decide +kernel) (pa_cons (pe_callB cr_sortedTU (by rfl) T.n_sorted (by decide +kernel) (pa_cons (pe_op op_catU (pv 6) (pe_tupU (pa_cons (pv 9) pa_nil))) pa_nil)) pa_nil)))))))))
        (pss_one (ps_ret (pv 6))))), ?_⟩
    refine ⟨by simp, fun a0 H1 f1 u1 e1 => ?_⟩
    refine ⟨_, rfl, _, rfl, by omega, by omega, ?_⟩
    refine for_range (lo := 0) (n := mo.toNat) (fun i σ H' => (∃ (la : Addr) (lost : List Int) (x7 x8 x9 x10 x11 x12 : Option V), σ = [some (.ref ra), some (.ref ta), some (.ref sa), some (.int one), some (.int other), some (.int mo), some (.ref la), x7, x8, x9, x10, x11, x12] ∧ H' la = some (.tup (lost.map V.int)) ∧ lost.length = i) ∧ Up [tabP K] H H' ∧ Tab K H')
      ⟨⟨a0, [], none, none, none, none, none, none, rfl, e1, rfl⟩, u1.of, hTab.up0 u1⟩ (fun i σ H2 hi h => ?_) (fun σ H' h => ?_)
    · obtain ⟨⟨la, lost, x7, x8, x9, x10, x11, x12, rfl, hla, hlen⟩, u2, T2⟩ := h
      refine ⟨_, rfl, _, rfl, _, rfl, _, rfl, by simp, fun b1 H3 _ u3 e3 => ?_⟩
      refine ⟨by simp, fun b2 H4 _ u4 e4 => ?_⟩
      refine ⟨by simp, fun b3 H5 _ u5 e5 => ?_⟩
      refine ⟨by simp, fun da H6 _ u6 e6 => ?_⟩
      have u26 : Up [] H2 H6 := (u3.trans u4).trans (u5.trans u6)
      have v6 : Up [tabP K] H H6 := u2.trans u26.of
      refine ⟨ra, ta, sa, da, p, L, lost, rfl, hR.up v6, hT.up v6, hS.up v6, ⟨la, b1, b2, b3, e6, u26.tu _ _ hla, ((u4.trans u5).trans u6).tu _ _ e3, (u5.trans u6).tu _ _ e4, u6.tu _ _ e5⟩, T2.up0 u26, l0, by omega, fun H7 r st le ss u7 T7 er ele hlt hst hsl => ?_⟩
      refine ⟨r, _, _, _, rfl, rfl, SqT.of er, atI_nat (j := 1) rfl, ?_⟩
      have v7 : Up [tabP K] H H7 := v6.trans u7
      have hla7 : H7 la = some (.tup (lost.map V.int)) := (u26.of.trans u7).tu _ _ hla
      -- for k, letter in enumerate(letters)
      refine ⟨_, rfl, le, ss, rfl, SqT.of ele, ?_⟩
      refine for_it (walk_enumT (xs := ss)) (fun k σ H' => (∃ (at_ : V) (y7 x10 x11 x12 : Option V), σ = [some (.ref ra), some (.ref ta), some (.ref sa), some (.int one), some (.int other), some (.int mo), some (.ref la), y7, some (.ref le), some at_, x10, x11, x12] ∧ (at_ = .non ∨ ∃ j : Int, at_ = .int j)) ∧ Up [] H7 H')
        ⟨⟨.non, _, _, _, _, rfl, .inl rfl⟩, .refl⟩ (fun k σ H8 _ h => SqT.of (h.2.tu _ _ ele)) (fun k x σ H8 H9 hk h Y => ?_) (fun σ H8 h => ?_)
      · obtain ⟨⟨at_, y7, y10, y11, y12, rfl, hat⟩, u8⟩ := h
        obtain ⟨tp, x1, y1, rfl, ft, rfl, ex, ey⟩ := Y
        cases ex
        have ey : ss[k]? = some y1 := ey
        obtain ⟨b, lx, ly, rfl, hb⟩ := hlt k y1 ey
        have u9 : Up [] H7 (upd H8 tp (.tup [.int (k : Nat), .ref b])) := u8.new ft
        refine ⟨tp, _, rfl, SqT.of upd_same, rfl, ?_⟩
        refine ⟨_, _, rfl, _, _, rfl, rfl, ?_⟩
        obtain ⟨H9, e9⟩ : ∃ H9, H9 = upd H8 tp (.tup [.int (k : Nat), .ref b]) := ⟨_, rfl⟩
        rw [← e9] at u9 ⊢
        clear e9
        refine ⟨fun σ' H' => H' = H9 ∧ ∃ c : Bool, σ' = [some (.ref ra), some (.ref ta), some (.ref sa), some (.int one), some (.int other), some (.int mo), some (.ref la), y7, some (.ref le), some at_, some (.int (k : Nat)), some (.ref b), some (.bl c)], ?_, ?_⟩
        · refine ⟨_, rfl, _, _, rfl, rfl, _, rfl, ite2 (fun c => ?_) (fun _ => ⟨rfl, _, rfl⟩)⟩
          have k0 : 0 < k := by have := of_decide_eq_true c; omega
          have ek : (k : Int) - 1 = ((k - 1 : Nat) : Int) := by omega
          have hk' : k < ss.length := (List.getElem?_eq_some_iff.mp ey).1
          obtain ⟨b', lx', ly', eb', hb'⟩ := hlt (k - 1) ss[k - 1] (List.getElem?_eq_getElem (by omega))
          have es : ss[k - 1]? = some (.ref b') := by rw [List.getElem?_eq_getElem (by omega), eb']
          refine ⟨_, rfl, _, rfl, _, _, rfl, rfl, le, _, _, _, rfl, rfl, SqT.of (u9.tu _ _ ele), (congrArg (atI _) ek).trans (atI_nat es), b', _, _, _, rfl, rfl, SqT.of (u9.tu _ _ hb'), atI_nat (j := 0) rfl, _, rfl, rfl, _, rfl, ite2 (fun _ => ?_) (fun _ => ⟨rfl, _, rfl⟩)⟩
          refine ⟨_, rfl, b, _, _, _, rfl, rfl, SqT.of (u9.tu _ _ hb), atI_nat (j := 0) rfl, _, rfl, _, rfl, _, _, rfl, rfl, le, _, _, _, rfl, rfl, SqT.of (u9.tu _ _ ele), (congrArg (atI _) ek).trans (atI_nat es), b', _, _, _, rfl, rfl, SqT.of (u9.tu _ _ hb'), atI_nat (j := 1) rfl, rfl, rfl, _, rfl⟩
        · rintro σ' H' ⟨rfl, c, rfl⟩
          have no : (fun k σ H' => (∃ (at_ : V) (y7 x10 x11 x12 : Option V), σ = [some (.ref ra), some (.ref ta), some (.ref sa), some (.int one), some (.int other), some (.int mo), some (.ref la), y7, some (.ref le), some at_, x10, x11, x12] ∧ (at_ = .non ∨ ∃ j : Int, at_ = .int j)) ∧ Up [] H7 H') (k + 1) [some (.ref ra), some (.ref ta), some (.ref sa), some (.int one), some (.int other), some (.int mo), some (.ref la), y7, some (.ref le), some at_, some (.int (k : Nat)), some (.ref b), some (.bl c)] H' := ⟨⟨at_, _, _, _, _, rfl, hat⟩, u9⟩
          have yes : (fun k σ H' => (∃ (at_ : V) (y7 x10 x11 x12 : Option V), σ = [some (.ref ra), some (.ref ta), some (.ref sa), some (.int one), some (.int other), some (.int mo), some (.ref la), y7, some (.ref le), some at_, x10, x11, x12] ∧ (at_ = .non ∨ ∃ j : Int, at_ = .int j)) ∧ Up [] H7 H') (k + 1) [some (.ref ra), some (.ref ta), some (.ref sa), some (.int one), some (.int other), some (.int mo), some (.ref la), y7, some (.ref le), some (.int (k : Nat)), some (.int (k : Nat)), some (.ref b), some (.bl c)] H' := ⟨⟨.int (k : Nat), _, _, _, _, rfl, .inr ⟨_, rfl⟩⟩, u9⟩
          refine ⟨_, rfl, _, rfl, ite2 (fun _ => ?_) (fun _ => iteF no)⟩
          refine ⟨_, rfl, b, _, _, _, rfl, rfl, SqT.of (u9.tu _ _ hb), atI_nat (j := 2) rfl, _, rfl, ite2 (fun _ => ?_) (fun _ => iteF no)⟩
          refine ⟨_, rfl, b, _, _, _, rfl, rfl, SqT.of (u9.tu _ _ hb), atI_nat (j := 1) rfl, _, rfl, rfl, _, rfl, ite2 (fun _ => ?_) (fun _ => iteF no)⟩
          refine ⟨_, rfl, b, _, _, _, rfl, rfl, SqT.of (u9.tu _ _ hb), atI_nat (j := 0) rfl, _, rfl, rfl, _, rfl, ite2 (fun _ => ?_) (fun _ => ?_)⟩
          · exact iteT ⟨_, rfl, yes⟩
          · exact ⟨_, rfl, _, rfl, ite2 (fun _ => ⟨_, rfl, yes⟩) (fun _ => no)⟩
      · obtain ⟨⟨at_, y7, y10, y11, y12, rfl, hat⟩, u8⟩ := h
        have v8 : Up [tabP K] H H8 := v7.trans u8.of
        rcases hat with rfl | ⟨j, rfl⟩
        · refine ⟨_, rfl, _, rfl, ?_⟩
          refine iteT ?_
          exact ⟨_, rfl, q H8 la lost v8 (T7.up0 u8) (u8.tu _ _ hla7) (by omega)⟩
        · refine ⟨_, rfl, _, rfl, ?_⟩
          refine iteF ?_
          refine ⟨_, rfl, _, rfl, by simp, fun c H9 _ u9 e9 => ?_⟩
          refine ⟨la, c, _, _, rfl, rfl, (u8.trans u9).tu _ _ hla7, e9, by rw [List.length_map]; simp only [List.length_singleton]; omega, fun d Ha ua ea => ?_⟩
          have ea' : Ha d = some (.tup ((lost ++ [j]).map V.int)) := by rw [ea, List.map_append]; rfl
          refine ⟨d, lost ++ [j], rfl, ea', by rw [List.length_append, List.length_singleton]; omega, fun os hp qd Hb fb ub eb => ?_⟩
          refine ⟨qd, _, rfl, eb, fun la' Hc fc uc ec => ?_⟩
          have u8c : Up [] H8 Hc := ((u9.trans ua).trans (ub.trans uc))
          exact ⟨⟨la', os, _, _, _, _, _, _, rfl, ec, by rw [hp.length_eq, List.length_append, hlen]; rfl⟩, v8.trans u8c.of, (T7.up0 u8).up0 u8c⟩
    · obtain ⟨⟨la, lost, x7, x8, x9, x10, x11, x12, rfl, hla, hlen⟩, u2, T2⟩ := h
      exact ⟨_, rfl, q H' la lost u2 T2 hla (by omega)⟩
end
end Hb

set_option maxHeartbeats 4000000
/-! the law itself -/
namespace Hb
open PySem PySem.Spec PyProof.Rows L2
theorem SqL.upP {K : PySem.W.Frag} {H H' : Hp} {a : Addr} {xs : List V} (h : SqL K H a xs) (hT : Tab K H) (u : Up [tabP K] H H') : SqL K H' a xs := by
  obtain ⟨ps, hP⟩ := hT.at
  rcases h with (h | ⟨o, h⟩) | h
  · exact .inl (.inl (u.f1 h (ne_of h hP fun z => by cases z)))
  · exact .inl (.inr ⟨o, u.f1 h (ne_of h hP fun z => by cases z)⟩)
  · exact .inr h
def spLaw (K : PySem.W.Frag) : Sp := fun vs H Q _ => ∃ (a : Addr) (ns : List Int), vs = [.ref a] ∧ ns.length ≤ 63 ∧ SqL K H a (ns.map V.int) ∧ Tab K H ∧ ∀ H', Q (.bl true) H'
theorem LeftAt.upL {K : PySem.W.Frag} {H H' : Hp} {l : Addr} (hT : Tab K H) (hL : LeftAt H l) (u : Up [l] H H') : Tab K H' := hT.up u hL.hand
section
variable {P : Program} {w : World} {K : PySem.W.Frag} {mg : Str → Option Value} {base : Heap}
theorem law_body (T : Txt K mg) (TB : LamX.TabB base mg (tabC K) (tabP K)) (q : Str) (f : Addr) : BodyOk P w K mg base 13 N_law q s_law f (spLaw K) := by
  have k__law_left := ok_left (P := P) (w := w) (base := base) T
  have k__law_rules := ok_rules (P := P) (w := w) (base := base) T
  have k__law_town := ok_town (P := P) (w := w) (base := base) T
  have k__law_pick := ok_pick (P := P) (w := w) (base := base) T
  have k_begun := ok_begun (P := P) (w := w) (base := base) T
  have k_safe_number := ok_safe_number (P := P) (w := w) (base := base) T
  have k__law_lost := ok_lost (P := P) (w := w) (base := base) T
  have k__law_cut_off := ok_cut_off (P := P) (w := w) (base := base) T TB
  have k_stepped := ok_stepped (P := P) (w := w) (base := base) T TB
  have k__law_lost_of := ok_lost_of (P := P) (w := w) (base := base) T
  have k__law_none_gone := ok_none_gone (P := P) (w := w) (base := base) T
  have k_gone_wrongly := ok_gone_wrongly (P := P) (w := w) (base := base) T
  intro cdv A outer s H vs Q E hr h
  obtain ⟨a, ns, rfl, hn, hS, hTab, q⟩ := h
  refine ⟨_, (pss_cons (ps_for PassesOwn.never rfl (pi_range1 rfl T.n_range (pa_cons (pe_op op_add pe_int (pe_callB (call_min2 rfl) (by rfl) T.n_min (by decide +kernel) (pa_cons pe_int (pa_cons (pe_callB call_len_seq (by rfl) T.n_len (by decide +kernel) (pa_cons (pv 0) pa_nil)) pa_nil)))) pa_nil)) (pg_name (i := 1) sc_law.nd rfl (Or.inl rfl)) (pss_cons (ps_set (i := 2) sc_law.nd rfl (Or.inl rfl) (C8.pe_c k__law_left hr (by decide) (by rfl) (pa_cons (pv 0) (pa_cons (pv 1) pa_nil))))
        (pss_cons (ps_set (i := 3) sc_law.nd rfl (Or.inl rfl) (C8.pe_c k__law_rules hr (by decide) (by rfl) (pa_cons (pv 2) pa_nil)))
        (pss_cons (ps_set (i := 4) sc_law.nd rfl (Or.inl rfl) (C8.pe_c k__law_town hr (by decide) (by rfl) (pa_cons (pv 2) (pa_cons (pe_ix ix_list (pe_lstU (pa_cons pe_int (pa_cons pe_int (pa_cons pe_int (pa_cons pe_int pa_nil))))) (C8.pe_c k__law_pick hr (by decide) (by rfl) (pa_cons (pv 2) (pa_cons pe_int pa_nil))) (fun _ _ => rfl)) pa_nil))))
        (pss_cons (ps_set (i := 5) sc_law.nd rfl (Or.inl rfl) (C8.pe_c k__law_pick hr (by decide) (by rfl) (pa_cons (pv 2) (pa_cons (pe_callB call_len_seq (by rfl) T.n_len (by decide +kernel) (pa_cons (pv 4) pa_nil)) pa_nil))))
        (pss_cons (ps_set (i := 6) sc_law.nd rfl (Or.inl rfl) (pe_op op_mod (pe_op op_add (pe_op op_add (pv 5) pe_int) (C8.pe_c k__law_pick hr (by decide) (by rfl) (pa_cons (pv 2) (pa_cons (pe_op op_sub (pe_callB call_len_seq (by rfl) T.n_len (by decide +kernel) (pa_cons (pv 4) pa_nil)) pe_int) pa_nil)))) (pe_callB call_len_seq (by rfl) T.n_len (by decide +kernel) (pa_cons (pv 4) pa_nil))))
        (pss_cons (ps_set (i := 7) sc_law.nd rfl (Or.inl rfl) (C8.pe_c k_begun hr (by decide) (by rfl) (pa_cons (pv 3) (pa_cons (pv 4) pa_nil))))
        (pss_cons (ps_set (i := 8) sc_law.nd rfl (Or.inl rfl) (pe_op op_sub (C8.pe_c k_safe_number hr (by decide) (by rfl) (pa_cons (pv 3) (pa_cons (pv 4) pa_nil))) pe_int))
        (pss_cons (ps_set (i := 9) sc_law.nd rfl (Or.inl rfl) (pe_cmpR op_gt (C8.pe_c k__law_pick hr (by decide) (by rfl) (pa_cons (pv 2) (pa_cons pe_int pa_nil))) pe_int (nomark _)))
        (pss_one (ps_for PassesOwn.never rfl (pi_range1 rfl T.n_range (pa_cons (pe_op op_add pe_int (C8.pe_c k__law_pick hr (by decide) (by rfl) (pa_cons (pv 2) (pa_cons pe_int pa_nil)))) pa_nil)) (pg_name (i := 10) sc_law.nd rfl (Or.inl rfl)) (pss_cons (ps_set (i := 11) sc_law.nd rfl (Or.inl rfl) (pe_callTy call_tupleU (by rfl) T.n_tuple (by decide +kernel) (pa_cons (pe_slice sl_listU (pe_lc (own := [("_law_number", 13)]) rfl sc_law.nd (pi_tup (C8.pe_c k__law_lost hr (by decide) (by rfl) (pa_cons (pv 2) (pa_cons pe_int pa_nil)))) (blkOk_by (own := [("_law_number", 13)]) (N := N_law) (sc := defScope s_law) (by decide +kernel)) (fun _ _ _ _ _ => (pg_name (i := 13) sc_law.nd rfl (Or.inl rfl))) (fun _ _ _ _ _ => pts_nil) (fun _ _ _ _ _ => (pv 13))) po_none (po_some (pv 8))) pa_nil)))
        (C8.pss_cut (ps_if (pt_val (pv 9)) (pss_one (ps_set (i := 11) sc_law.nd rfl (Or.inl rfl) (C8.pe_c k__law_cut_off hr (by decide) (by rfl) (pa_cons (pv 3) (pa_cons (pv 4) (pa_cons (pv 7) (pa_cons (pv 5) (pa_cons (pv 6) (pa_cons (pv 8) pa_nil))))))))) pss_nil)
        (pss_cons (ps_asg (C8.pe_c k_stepped hr (by decide) (by rfl) (pa_cons (pv 3) (pa_cons (pv 4) (pa_cons (pv 7) (pa_cons (pe_tupU (pa_cons (pv 11) (pa_cons (pe_tupU pa_nil) (pa_cons (pe_tupU pa_nil) (pa_cons (pe_tupU pa_nil) pa_nil))))) pa_nil))))) (pg_tup rfl (pgs_cons (pg_name (i := 7) sc_law.nd rfl (Or.inl rfl)) (pgs_cons (pg_name (i := 12) sc_law.nd rfl (Or.inl rfl)) pgs_nil))))
        (pss_cons (ps_set (i := 8) sc_law.nd rfl (Or.inl rfl) (pe_op op_sub (pv 8) (C8.pe_c k__law_lost_of hr (by decide) (by rfl) (pa_cons (pv 12) pa_nil))))
        (pss_one (ps_if (PW.pt (pw_or (pt_cmpR op_lt (pv 8) pe_int (nomark _)) (pw_or (pt_not (pt_val (C8.pe_c k__law_none_gone hr (by decide) (by rfl) (pa_cons (pv 7) pa_nil)))) (pw_or1 (pt_cmpR op_notBl (C8.pe_c k_gone_wrongly hr (by decide) (by rfl) (pa_cons (pv 7) pa_nil)) pe_bl (nomark _)))))) (pss_one (ps_ret pe_bl)) pss_nil)))))))))))))))))
        (pss_one (ps_ret pe_bl))), ?_⟩
  refine ⟨_, rfl, a, _, rfl, .inl hS, _, _, rfl, _, _, rfl, rfl, ?_⟩
  obtain ⟨mn, em, m1⟩ : ∃ mn : Nat, (if ((ns.map V.int).length : Int) < 3 then ((ns.map V.int).length : Int) else 3) = (mn : Int) ∧ mn ≤ 3 := by
    split
    · exact ⟨(ns.map V.int).length, rfl, by omega⟩
    · exact ⟨3, rfl, by omega⟩
  refine ⟨(1 + mn : Nat), congrArg (fun z => [V.int z]) ((congrArg (fun z => 1 + z) em).trans (by omega)), by omega, by omega, ?_⟩
  rw [Int.toNat_natCast]
  refine for_range (lo := 0) (n := 1 + mn) (fun _ σ H' => (∃ (x1 x2 x3 x4 x5 x6 x7 x8 x9 x10 x11 x12 x13 : Option V), σ = [some (.ref a), x1, x2, x3, x4, x5, x6, x7, x8, x9, x10, x11, x12, x13]) ∧ Up [tabP K] H H' ∧ Tab K H')
    ⟨⟨none, none, none, none, none, none, none, none, none, none, none, none, none, rfl⟩, .refl, hTab⟩ (fun i σ H0 hi h => ?_) (fun σ H' h => ?_)
  · obtain ⟨⟨x1, x2, x3, x4, x5, x6, x7, x8, x9, x10, x11, x12, x13, rfl⟩, u0, T0⟩ := h
    rw [show (0 : Int) + (i : Int) = (i : Int) by omega]
    refine ⟨_, rfl, _, rfl, a, ns, i, rfl, SqL.upP hS hTab u0, by omega, fun H1 l u1 fl L1 => ?_⟩
    have T1 := T0.up0 u1
    -- rules
    refine ⟨_, rfl, l, rfl, L1, fun H2 ra nm o w t c u2 L2 o1 o2 w1 w2 t1 t2 c1 c2 er en => ?_⟩
    have T2 := L1.upL T1 u2
    -- the town
    refine ⟨_, rfl, by simp, fun q3 H3 f3 u3 e3 => ?_⟩
    refine ⟨_, rfl, l, 4, rfl, L2.up0 u3, by omega, by omega, fun H4 r4 u4 L4 hr4 => ?_⟩
    have T4 := (L2.up0 u3).upL (T2.up0 u3) u4
    obtain ⟨mv, ev, mm, rfl, mm1, mm2⟩ := four (P := fun v => ∃ n : Nat, v = (n : Int) ∧ 3 ≤ n ∧ n ≤ 6) (a := 3) (b := 3) (c := 3) (d := 6) ⟨3, rfl, by omega, by omega⟩ ⟨3, rfl, by omega, by omega⟩ ⟨3, rfl, by omega, by omega⟩ ⟨6, rfl, by omega, by omega⟩ hr4
    refine ⟨q3, _, _, _, rfl, rfl, SqL.of (u4.f1 e3 (L2.ne f3)), atI_nat ev, l, mm, rfl, L4, mm1, mm2, fun H5 n ta u5 L5 hT n1 n2 => ?_⟩
    have T5 := L4.upL T4 u5
    obtain ⟨p, hp⟩ : ∃ p : Par, p = ⟨n, o, w, t, c, n1, n2, o1, o2, w1, w2, t1, t2, c1, c2⟩ := ⟨_, rfl⟩
    have hTp : TownAt H5 p.n ta := by rw [hp]; exact hT
    have hRp : RulesAt H2 p ra := ⟨nm, by rw [hp]; exact er, en⟩
    have v5 : Up [l] H2 H5 := u3.of.trans (u4.trans u5)
    have hR5 := hRp.up v5
    clear hp er en hT hRp
    obtain ⟨cs, hc1, hc2, hc3⟩ := id hTp
    have pn2 := p.hn2
    have pn6 := p.hn6
    -- one, other
    refine ⟨_, rfl, _, rfl, ta, cs, rfl, .inr (SqT.of hc1), l, cs.length, rfl, L5, by omega, by omega, fun H6 one u6 L6 hone => ?_⟩
    have T6 := L5.upL T5 u6
    have hc6 := u6.tu _ _ hc1
    refine ⟨_, rfl, _, _, rfl, rfl, _, rfl, _, rfl, ta, cs, rfl, .inr (SqT.of hc6), _, _, rfl, rfl, l, cs.length - 1, congrArg (fun z => [V.ref l, V.int z]) (show (cs.length : Int) - 1 = ((cs.length - 1 : Nat) : Int) by omega), L6, by omega, by omega, fun H7 r7 u7 L7 hr7 => ?_⟩
    have T7 := L6.upL T6 u7
    have hc7 := u7.tu _ _ hc6
    refine ⟨_, _, rfl, rfl, _, rfl, ta, cs, rfl, .inr (SqT.of hc7), _, _, rfl, rfl, show (0 : Int) < (cs.length : Int) by omega, ?_⟩
    have v7 : Up [l] H5 H7 := u6.trans u7
    -- the first state, the losses that may be
    refine ⟨_, rfl, _, rfl, ra, ta, p, rfl, hR5.up v7, hTp.up v7, fun H8 st u8 hst => ?_⟩
    have v8 : Up [l] H5 H8 := v7.trans u8.of
    refine ⟨_, rfl, _, rfl, ra, ta, p, rfl, hR5.up v8, hTp.up v8, _, _, rfl, rfl, ?_⟩
    have L8 := L7.up0 u8
    have T8 := T7.up0 u8
    refine ⟨_, rfl, l, 4, rfl, L8, by omega, by omega, fun H9 r9 u9 L9 hr9 => ?_⟩
    have T9 := L8.upL T8 u9
    refine ⟨_, _, rfl, rfl, ?_⟩
    refine ⟨_, rfl, l, 25, rfl, L9, by omega, by omega, fun Ha ra' ua La hra => ?_⟩
    have Ta := L9.upL T9 ua
    refine ⟨_, _, rfl, rfl, _, rfl, by omega, by omega, ?_⟩
    have va : Up [l] H5 Ha := v8.trans (u9.trans ua)
    have hRa := hR5.up va
    have hTa := hTp.up va
    have wa : Up [tabP K] H Ha := by
      refine ((u0.trans u1.of).mono (ex' := [tabP K, l]) (by simp)).trans (((u2.mono (by simp)).trans ((v5.trans va).mono (by simp)))) |>.sub fun e m => ?_
      rcases (show e = tabP K ∨ e = l by simpa using m) with z | z <;> rw [z]
      · exact .inr (by simp)
      · refine .inl ((u0.none fl fun m => ?_))
        obtain ⟨ps, hP⟩ := T0.at
        rw [List.mem_singleton.mp m, hP] at fl
        cases fl
    have hsp := p.safe_pos
    refine for_range (lo := 0) (fun _ σ H' => (∃ (st : Addr) (may : Int) (x10 x11 x12 x13 : Option V), σ = [some (.ref a), some (.int i), some (.ref l), some (.ref ra), some (.ref ta), some (.int one), some (.int (((one : Int) + 1 + (r7 : Int)) % (cs.length : Int))), some (.ref st), some (.int may), some (.bl (decide (0 < (r9 : Int)))), x10, x11, x12, x13] ∧ 0 ≤ may ∧ ∃ L, 0 ≤ L ∧ L + may = p.safe - 1 ∧ StateAt H' p L st) ∧ Up [tabP K, l] Ha H' ∧ Tab K H' ∧ LeftAt H' l)
      ⟨⟨st, p.safe - 1, _, _, _, _, rfl, by omega, 0, by omega, by omega, hst.up (u9.trans ua)⟩, .refl, Ta, La⟩ (fun j σ Hb hj h => ?_) (fun σ H' h => ?_)
    · obtain ⟨⟨st, may, x10, x11, x12, x13, rfl, y0, L, y1, y2, hStb⟩, ub, Tb, Lb⟩ := h
      have hs40 := p.safe_le
      -- the lost letters drawn
      refine ⟨_, rfl, l, 12, rfl, Lb, by omega, by omega, fun Hc la lost uc Lc ec lc => ⟨la, rfl, ⟨_, SqT.of ec⟩, fun D f => ?_⟩⟩
      have Tc := Lb.upL Tb uc
      refine lc_tup (xs := lost.map V.int) (LcI D fun i acc H' => Up [D] Hc H' ∧ acc = (lost.map V.int).take i)
        (lc_start f fun H' u _ => ⟨u.of, rfl⟩) (fun i H3 hi W => ?_) (fun i x H3 hx W => ?_) fun Hd W => ?_
      · obtain ⟨acc, a1, a2, u3, _⟩ := W
        exact SqT.of (u3.tu _ _ ec)
      · obtain ⟨acc, a1, a2, u3, e2⟩ := W
        have hi := (List.getElem?_eq_some_iff.mp hx).1
        rw [List.length_map] at hi
        refine ⟨wipe1 (by decide), ?_⟩
        unfold tYes
        refine iteT ?_
        refine ⟨_, rfl, lc_add a1 a2 (by omega) fun H' u _ => ⟨u3.trans u, ?_⟩⟩
        rw [e2, List.take_succ, hx]
        rfl
      obtain ⟨acc, a1, a2, ud, e2⟩ := W
      rw [List.take_length] at e2
      have ud' : Up [] Hc Hd := ud.sub fun e m => .inl (by rw [List.mem_singleton.mp m]; exact f)
      refine ⟨_, rfl, _, rfl, D, _, rfl, SqL.of a1, fun q1 He _ ue ee => ?_⟩
      refine ⟨q1, _, rfl, ee, fun lh Hf _ uf ef => ?_⟩
      obtain ⟨ms, g1, _, _⟩ := cut_ints lost none (some may)
      have hml : (ms.length : Int) ≤ may := by
        have z := cut_len (lost.map V.int) (j := may.toNat)
        rw [show ((may.toNat : Nat) : Int) = may by omega, g1, List.length_map, List.length_map] at z
        omega
      rw [e2, g1] at ef
      have ucf : Up [] Hc Hf := ud'.trans (ue.trans uf)
      have vf : Up [tabP K, l] Hb Hf := (uc.mono (by simp)).trans ucf.of
      -- if aimed
      refine ⟨fun σ' H' => (∃ (lh : Addr) (ms : List Int) (x12 x13 : Option V), σ' = [some (.ref a), some (.int i), some (.ref l), some (.ref ra), some (.ref ta), some (.int one), some (.int (((one : Int) + 1 + (r7 : Int)) % (cs.length : Int))), some (.ref st), some (.int may), some (.bl (decide (0 < (r9 : Int)))), some (.int ((0 : Int) + (j : Nat))), some (.ref lh), x12, x13] ∧ H' lh = some (.tup (ms.map V.int)) ∧ (ms.length : Int) ≤ may) ∧ Up [tabP K, l] Hb H' ∧ Tab K H' ∧ LeftAt H' l, ?_, ?_⟩
      · refine ⟨_, rfl, _, rfl, ite2 (fun _ => ?_) (fun _ => ⟨⟨lh, ms, _, _, rfl, ef, hml⟩, vf, Tc.up0 ucf, Lc.up0 ucf⟩)⟩
        have vaf := ub.trans vf
        refine ⟨_, rfl, _, rfl, _, rfl, _, rfl, _, rfl, _, rfl, ra, ta, st, p, L, _, _, may, rfl, hRa.up vaf, hTa.up vaf, hStb.up vf, Tc.up0 ucf, y1, y0, by omega, fun Hg lg lost' ug Tg eg lg' => ?_⟩
        exact ⟨⟨lg, lost', _, _, rfl, eg, lg'⟩, vf.trans (ug.mono (by simp)), Tg, (Lc.up0 ucf).upP (Tc.up0 ucf) ug⟩
      rintro σ' Hg ⟨⟨lh', ms', x12', x13', rfl, eg, hml'⟩, ug, Tg, Lg⟩
      -- state, letters = stepped(..)
      refine ⟨_, rfl, _, rfl, _, rfl, _, rfl, by simp, fun b1 H3 _ u3 e3 => ?_⟩
      refine ⟨by simp, fun b2 H4 _ u4 e4 => ?_⟩
      refine ⟨by simp, fun b3 H5 _ u5 e5 => ?_⟩
      refine ⟨by simp, fun da H6 _ u6 e6 => ?_⟩
      have u36 : Up [] Hg H6 := (u3.trans u4).trans (u5.trans u6)
      have v6 : Up [tabP K, l] Hb H6 := ug.trans u36.of
      have va6 := ub.trans v6
      refine ⟨ra, ta, st, da, p, L, ms', rfl, hRa.up va6, hTa.up va6, hStb.up v6, ⟨lh', b1, b2, b3, e6, u36.tu _ _ eg, ((u4.trans u5).trans u6).tu _ _ e3, (u5.trans u6).tu _ _ e4, u6.tu _ _ e5⟩, Tg.up0 u36, y1, by omega, fun H7 r st' le ss u7 T7 er ele hlt hst' hsl => ?_⟩
      refine ⟨r, _, rfl, SqT.of er, rfl, _, _, rfl, _, _, rfl, rfl, ?_⟩
      have L7' : LeftAt H7 l := (Lg.up0 u36).upP (Tg.up0 u36) u7
      refine ⟨_, rfl, _, rfl, le, ms', ss, rfl, ele, hlt, by omega, fun H8 u8 => ?_⟩
      refine ⟨_, _, rfl, rfl, ?_⟩
      have hc := cnt_le_length ms' ss.length
      have hc0 := cnt_nonneg ms' ss.length
      have hst8 := hst'.up u8
      refine ⟨_, rfl, _, _, rfl, rfl, _, rfl, ite2 (fun c => ?_) (fun _ => ?_)⟩
      · have := of_decide_eq_true c
        omega
      refine ⟨_, rfl, st', p, _, rfl, hst8, fun H9 u9 => ⟨_, rfl, ?_⟩⟩
      refine iteF ?_
      refine ⟨_, rfl, st', p, _, rfl, hst8.up u9, fun H10 u10 => ⟨_, _, rfl, rfl, _, rfl, ?_⟩⟩
      refine iteF ?_
      have u810 : Up [] H7 H10 := (u8.trans u9).trans u10
      exact ⟨⟨st', may - cnt ms' ss.length, _, _, _, _, rfl, by omega, L + cnt ms' ss.length, by omega, by omega, hst8.up (u9.trans u10)⟩, ((va6.trans (u7.mono (by simp))).trans u810.of), T7.up0 u810, L7'.up0 u810⟩
    · obtain ⟨⟨st, may, x10, x11, x12, x13, rfl, _⟩, ub, Tb, Lb⟩ := h
      refine ⟨⟨_, _, _, _, _, _, _, _, _, _, _, _, _, rfl⟩, ?_, Tb⟩
      refine ((wa.mono (ex' := [tabP K, l]) (by simp)).trans ub).sub fun e m => ?_
      rcases (show e = tabP K ∨ e = l by simpa using m) with z | z <;> rw [z]
      · exact .inr (by simp)
      · refine .inl ((u0.none fl fun m => ?_))
        obtain ⟨ps, hP⟩ := T0.at
        rw [List.mem_singleton.mp m, hP] at fl
        cases fl
  · obtain ⟨⟨x1, x2, x3, x4, x5, x6, x7, x8, x9, x10, x11, x12, x13, rfl⟩, u0, T0⟩ := h
    exact q H'
end
end Hb

set_option maxHeartbeats 0
/-! the head: the top run once, the facts told, the law at hand -/
namespace Hb
open PySem PySem.Spec PyProof.Rows L2
abbrev R : PySem.W.OpenRow := PySem.W.OpenLaw.row PySem.Challenge.rw_hearsaybook_k92_whole_so_few_losses
abbrev hk : PySem.W.Hook := He.hookX 6 fa fn [] [("news_of", none)] exB
def ob (s : PySem.W.SharedT) : He.AlX := He.obsX 6 fa fn [] [("news_of", none)] exB (HandSHeadRun.getT s)
theorem ob_eq (s : PySem.W.SharedT) : ob s = hk.obs s.abs := He.obsX_eq (HandSHeadRun.getT_eq s)
def loose : List PySem.Str := ["newer", "ticks", "ticks_by", "target", "helpers_most", "safe_number", "fresh_house", "begun", "houses_named", "news_of", "notes_of", "Reader", "taken", "Turn", "stepped", "AWAY", "houses_up", "marks_of", "gone_wrongly", "_law_cell_at", "_law_left", "_law_pick", "_law_town", "_law_names", "_law_rules", "_law_lost", "_law_cut_off", "_law_lost_of", "_law_none_gone"]
theorem run (w : World) : HandSHeadRun.RunEq R (PySem.W.view R.prog [37]) hk ob 2600 loose w := by
  intro os
  kernel_rfl
end Hb

set_option maxHeartbeats 0
/-! what the head's facts give -/
namespace Hb
open PySem PySem.Spec PyProof.Rows L2
theorem away_of {K : PySem.W.Frag} (h : exB K = true) : He.tupB K "AWAY" [.int 2, .int 3] = true ∧ PySem.W.nsIn K mainGlobals "AWAY" = some (some (.ref (He.ga K "AWAY"))) := by
  unfold exB at h
  rw [Bool.and_eq_true] at h
  refine ⟨h.1, ?_⟩
  have h2 := h.2
  cases e : PySem.W.nsIn K mainGlobals "AWAY" with
  | none => rw [e] at h2; cases h2
  | some r =>
    cases r with
    | none => rw [e] at h2; cases h2
    | some v =>
      rw [e] at h2
      cases v with
      | ref a =>
        have h3 : Option.isSome (if a = He.ga K "AWAY" then some () else none) = true := h2
        by_cases q : a = He.ga K "AWAY"
        · rw [q]
        · rw [if_neg q] at h3; cases h3
      | _ => cases h2
theorem txt_of {w : World} {K : PySem.W.Frag} {h : Heap} {mg : Str → Option Value} (X : K.In h) (G : h.Ns mainGlobals mg) (c : He.SaysX fa fn [] [("news_of", none)] exB w h K) : Txt K mg :=
  ⟨c.t.d, fun _ z => He.glo_ok X G z, fun _ z => He.free_ok X G z, PySem.W.mg_of X G (away_of c.more).2, fun H => He.tupB_ok (away_of c.more).1 H⟩
theorem facts (w : World) (mg : Str → Option Value) (f : Addr) (h : Heap) (Y : ∃ K : PySem.W.Frag, K.In h ∧ He.SaysX fa fn [] [("news_of", none)] exB w h K) (G : h.Ns mainGlobals mg) (hfa : mg ("law" : Str) = some (.ref f)) :
    ∃ K : PySem.W.Frag, K.In h ∧ LamX.LawAtS PySem.Challenge.rw_hearsaybook_k92_whole_so_few_losses w K C8.CX0 14 63 "_law_script" mg f h := by
  obtain ⟨K, X, c⟩ := Y
  have T := txt_of X G c
  obtain ⟨fd, F⟩ := T.says.def_ 54 (d := d_law)
  have e := hfa.symm.trans T.g_law
  cases e
  have b := FunD.bindsA (ps := ["_law_script"]) F fun _ _ _ _ _ _ us hl => match us, hl with | [_], _ => rfl
  refine ⟨K, X, fd, [He.cT K ("news_of", none)], spLaw K, fun p hp => ?_, fun p hp => ?_, fun p hp => ?_, fun s v => b s [v] rfl, fun H a ns hl _ hT hS => ?_, fun base Xb Gb TB => ?_⟩
  · rw [List.mem_singleton.mp hp]; exact c.empty _ (List.mem_singleton.mpr rfl)
  · rw [List.mem_singleton.mp hp]; exact c.out _ (List.mem_singleton.mpr rfl)
  · rw [List.mem_singleton.mp hp]; exact PySem.W.codeHd_of_K X (c.hd _ (List.mem_singleton.mpr rfl))
  · refine ⟨a, ns, rfl, hl, hS, fun p hp => ?_, fun _ => rfl⟩
    rw [List.mem_singleton.mp hp]
    exact LamX.TabS.nil (hT _ (List.mem_singleton.mpr rfl))
  · exact fn_by F sc_law (fun vs H Q E h => by obtain ⟨a, ns, rfl, _⟩ := h; rfl) (law_body T (TB _ (List.mem_singleton.mpr rfl)) _ _)
end Hb

set_option maxHeartbeats 0
/-! the row holds -/
open PySem PySem.W PySem.Calls PyProof.Rows
theorem PySem.Challenge.cw_hearsaybook_k92_whole_so_few_losses_holds : PySem.Challenge.rw_hearsaybook_k92_whole_so_few_losses.Holds := by
  w_on; o_law
  refine HandSHeadRun.head_any (r := Hb.R) (q := view Hb.R.prog [37]) (H := Hb.hk) (ob := Hb.ob) (M := 2600) (loose := Hb.loose) (d := HandSHeadRun.topDef Hb.R.prog 37) (kwd := []) Hb.ob_eq
    (by kernel_rfl) (fun s => by kernel_rfl) Hb.run (by kernel_rfl) (by kernel_rfl) (by kernel_rfl) (by rfl) (by first | assumption | decide +kernel) (by decide +kernel) ⟨rfl, rfl, rfl, rfl, rfl, by decide +kernel⟩ ?hw ?hc
  case hw => w_witness2
  case hc =>
    refine LamX.walk_ofTsE (l := PySem.Challenge.rw_hearsaybook_k92_whole_so_few_losses) (n := 63) (k := 14) (x := "_law_script") (CX := fun _ => C8.CX0) rfl (by decide) (by kernel_rfl) ⟨rfl, by decide, by decide⟩ (fun w mg f h Y G hmg => ?_) (fun _ _ _ _ _ z => z)
    have e : (HandSHeadRun.topDef Hb.R.prog 37).name = ("law" : PySem.Str) := by kernel_rfl
    exact Hb.facts w mg f h Y G (by rw [← e]; exact hmg)

