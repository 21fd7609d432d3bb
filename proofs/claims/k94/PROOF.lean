import PyProof.Rows.All
import Wide.All
import OpenK.AllK
import Wide.FinOn
import KE.KStateDown
import KE.GoesEnum
import KE.KSuper
import HandS.ForMost
import HandS.Conv
import HandS.Zip
import HandS.Style
import HandS.Flow
import HandS.IsInst
import HandS.TupAny
import HandS.Walk
import HandS.Deep
import HandS.Nested
import HandS.Defaults
import HandS.Ends
import HandS.More
import HandS.Words
import HandS.WordsExc
import HandS.Head0
import HandS.Head1
import HandS.Head2
import HandS.HeadEnd
import HandS.HeadHook1
import HandS.HeadHook2
import HandS.SetFor
import PyProof.SeqIndex
import PySem.Challenge.RW_turnmaps_k94_recast_papers_judged
set_option Elab.async false
set_option linter.all false
set_option maxRecDepth 100001
set_option maxHeartbeats 4000001
namespace Tm
open L2 PySem PySem.Spec PyProof.Rows
/-! enumerate(t) over a tuple -/
theorem enum1_meets {v : Value} {o : Obj} {Hh : Heap → Prop} (B : Begins v o Hh) :
    Meets (Builtin.«enumerate.__new__» ⟨[.type "enumerate", v], []⟩) (fun _ R s =>
      Hh s.heap ∧ R (.ok (.ret (.ref (s.heap.push o).objs.size))) { s with
        heap := (s.heap.push o).push { cls := .type "enumerate", data := .fields #[.none, .bool false, .ref s.heap.objs.size, rawInt 0, .none, .none] } }) :=
  .of_wp fun prog w A R s hs => by
    obtain ⟨hh, gg, dd, tt, oo⟩ := s
    obtain ⟨h0, hR⟩ := hs
    have sb := sub_enumerate
    have it : ∀ {A' : Around} {E' : Value → Shared → Prop} {Q' : Value → Shared → Prop},
        Q' (.ref hh.objs.size) ⟨hh.push o, gg, dd, tt, oo⟩ → wpAny (model prog w) A' (pyIter v) Q' E' ⟨hh, gg, dd, tt, oo⟩ :=
      fun z => B.iter prog w _ _ ⟨hh, gg, dd, tt, oo⟩ _ h0 z
    wp_walk using it
    refine wpAny_stack_any fun stk => wpAny_pure ?_
    split
    · rename_i cc _ _ _ _ _
      cases (cc == Value.type "enumerate")
      all_goals
        wp_walk using it
        exact ⟨_, rfl, hR⟩
    · wp_walk using it
      exact ⟨_, rfl, hR⟩
theorem enum1_call {prog : Program} {w : World} {A : Around} {E : Value → Shared → Prop} {s : Shared} {v : Value} {o : Obj} {Hh : Heap → Prop} {Q : Value → Shared → Prop}
    (B : Begins v o Hh) (h0 : Hh s.heap)
    (hQ : ∀ h', IsEnum h' (s.heap.objs.size + 1) s.heap.objs.size 0 .none → h'.get? s.heap.objs.size = some o →
      (∀ b u, s.heap.get? b = some u → h'.get? b = some u) → Q (.ref (s.heap.objs.size + 1)) { s with heap := h' }) :
    wpAny (model prog w) A (call (.type "enumerate") [v]) Q E s := by
  refine callType_new F.called_enumerate (by decide) (F.typeCall_enumerate_1 _) (F.newCall_enumerate_1 _)
    (fun ob => F.args_object_init_2 ob _) F.entry_enumerate_new (enum1_meets B) ⟨h0, ?_⟩
  have sz : (s.heap.push o).objs.size = s.heap.objs.size + 1 := Heap.size_push ..
  show _ ∧ _
  rw [sz]
  have hE : IsEnum ((s.heap.push o).push { cls := .type "enumerate", data := .fields #[.none, .bool false, .ref s.heap.objs.size, rawInt 0, .none, .none] })
      (s.heap.objs.size + 1) s.heap.objs.size 0 .none := by
    have z := Heap.get?_push_size (s.heap.push o)
      (o := { cls := .type "enumerate", data := .fields #[.none, .bool false, .ref s.heap.objs.size, rawInt 0, .none, .none] }) rfl
    rw [sz] at z
    exact z
  exact ⟨⟨_, hE, rfl⟩, hQ _ hE (Heap.get?_push_of_some _ (Heap.get?_push_size _ B.free)) fun b u z =>
    Heap.get?_push_of_some _ (Heap.get?_push_of_some _ z)⟩
/-- the tuple at a, each item in a new pair with its place -/
def Iet (K : PySem.W.Frag) (a : Addr) : It where
  go i H := ∃ (xs : List V) (x : V), SqT K H a xs ∧ xs[i]? = some x
  yld i H v H' := ∃ T x, v = .ref T ∧ H T = none ∧ H' = upd H T (.tup [.int (i : Nat), x]) ∧ ∀ xs, SqT K H a xs → xs[i]? = some x
  stop i H := ∃ xs : List V, SqT K H a xs ∧ xs.length ≤ i
theorem drw {P : Program} {w : World} {A : Around} (hh : A.handled = none) {it a : Addr} (hne : a ≠ it) (its : Array Value) :
    Draws P w A it [it, a] its.size (fun i v => its[i]? = some v) (fun i h => h.IsTupleIter it a i ∧ h.IsTuple a its) := Draws.tuple hh it a hne its
theorem turn_enumT {P : Program} {w : World} {K : PySem.W.Frag} {elts : List Expr} {kk : Nat} {tpos : Pos} (a e it : Addr) :
    Turn P w K (.Tuple elts kk tpos) (Iet K a) [e, it] e
      (fun i h => (∃ old, IsEnum h e it ((i : Nat) : Int) old) ∧ h.IsTupleIter it a i ∧ e ≠ it ∧ a ≠ it ∧ e ≠ a) where
  mem := by simp
  obj := fun i h st b hb => by
    obtain ⟨⟨old, he⟩, ⟨o, ho, hc, hd⟩, _⟩ := st
    rcases (show b = e ∨ b = it by simpa using hb) with rfl | rfl
    · exact ⟨_, he, fun v q => nomatch q⟩
    · exact ⟨o, ho, fun v q => by rw [hd] at q; cases q⟩
  keep := fun i h h' st k => by
    obtain ⟨⟨old, he⟩, hi, hne⟩ := st
    exact ⟨⟨old, k e (by simp) _ he⟩, hi.at fun o q => k it (by simp) o q, hne⟩
  item := by
    intro X hP hw hK hc i pins s σ H E I hf st hg
    subst hP hw hK
    obtain ⟨⟨old, he⟩, hit, hne, hai, hea⟩ := st
    obtain ⟨xs, x, hq, hx⟩ := hg
    obtain ⟨its, rv, p, hz⟩ := I.tuple hq
    obtain ⟨u, hu, ru⟩ := rv.get hx
    have hel : e < s.heap.objs.size := Heap.lt_size he
    have hil : it < s.heap.objs.size := by
      obtain ⟨_, q, _⟩ := hit
      exact Heap.lt_size q
    have hlt : i < its.toArray.size := by
      obtain ⟨z, _⟩ := List.getElem?_eq_some_iff.mp hu
      simpa using z
    refine wpAny_pyNext_enum_itemD (drw (A := X.A.in1) (I.ok.hd hc) hai its.toArray) he
      ⟨hit, (show s.heap.IsTuple a its.toArray from p)⟩ hlt hne (by simp [hne, hea]) fun u' h' tk hu' ho hst hT hsz hk => ?_
    have eu : u' = u := by
      have q1 : its[i]? = some u' := by simpa using hu'
      rw [hu] at q1
      exact (Option.some.inj q1).symm
    subst eu
    refine ⟨_, rfl, wpAny_letOwnedTupleGo_enum (s := { s with heap := h', toks := tk + 1 }) ho fun h'' he' sb => ?_⟩
    have hT2 : h''.get? s.heap.objs.size = some { cls := .type "tuple", data := .seq #[.int i tk, u'] } :=
      (sb.2 _ (Nat.ne_of_gt hel)).trans hT
    have new : ObjOk X.prog X.w (upd H s.heap.objs.size (.tup [.int (i : Nat), x])) h'' s.heap.objs.size (.tup [.int (i : Nat), x]) :=
      ⟨by show 2 ≤ sizeLine; decide, [.int i tk, u'], .cons ⟨_, rfl⟩ (.cons ru .nil), ⟨_, hT2, rfl, _, rfl⟩⟩
    have I1 : Inv X pins σ (upd H s.heap.objs.size (.tup [.int (i : Nat), x])) { s with heap := h'', toks := tk + 1 } :=
      I.turnedNew (ch := [e, it]) (fun b ob hb q => by
        have n1 : b ≠ e := fun z => hb (by simp [z])
        have n2 : b ≠ it := fun z => hb (by simp [z])
        exact (sb.2 b n1).trans (hk b ob n1 n2 q)) hf (Nat.le_refl _) new
    refine ⟨.ref s.heap.objs.size, _, I1, rfl, ⟨_, x, rfl, I.hok.fresh (Nat.le_refl _), rfl, fun ys hy => ?_⟩,
      ⟨⟨u', ?_⟩, hst.1.at fun o q => (sb.2 it (Ne.symm hne)).trans q, hne, hai, hea⟩, fun b hb => ?_⟩
    · rw [I.tuple_inj hy hq]
      exact hx
    · have e1 : ((i + 1 : Nat) : Int) = (i : Int) + 1 := by omega
      rw [e1]
      exact he'
    · have hb' : b < s.heap.objs.size := by
        rcases (show b = e ∨ b = it by simpa using hb) with rfl | rfl
        · exact hel
        · exact hil
      rw [upd_ne (Nat.ne_of_lt hb')]
      exact (hf b hb).1
  done := by
    intro X hP hw hK hc i pins s σ H E I hf st hg
    subst hP hw hK
    obtain ⟨⟨old, he⟩, hit, hne, hai, hea⟩ := st
    obtain ⟨xs, hq, hx⟩ := hg
    obtain ⟨its, rv, p, hz⟩ := I.tuple hq
    obtain ⟨f0, f1, f2, f3, f4, f5⟩ := hf it (by simp)
    have hl := rv.length
    have pt : s.heap.IsTuple a its.toArray := p
    unfold pyNext
    have hT : s.TypeIs (.ref e) "enumerate" := ⟨_, he, rfl⟩
    refine wpAny_bind (wpAny_attempt (wpAny_callSpecial?_slot (name := Str.ofString "__next__") hT F.slot_enumerate_next
      (wpAny_call_entry F.slot_enumerate_next hT F.entry_enumerate_next ?_ (F.args_enumerate_next_1 _))))
    show wpAny _ _ (field (.ref e) 2 >>= _) _ _ _
    refine wpAny_bind (wpAny_field he rfl (x := .ref it) rfl ?_)
    refine wpAny_bind (wpAny_nextOf_tuple_end (show X.A.in1.handled = none from I.ok.hd hc) hit pt (by simp; omega) fun h' x he' hx' => ?_)
    obtain ⟨o, ho, hc'⟩ := hx'
    refine wpAny_bind (wpAny_isInstance (T := "StopIteration") (b := true) ⟨o, ho, hc'⟩ isSubtype_stop ?_)
    exact wpAny_pure ⟨rfl, I.turned (t' := s.toks) (fun b o hb q => he' b o hb q) f0 f1 f3 f4 f5⟩
  self := fun A i s Q E st h => by
    obtain ⟨⟨_, he⟩, _⟩ := st
    exact wpAny_pyIter_enum he h
def iEnT (K : PySem.W.Frag) (ta : TA) : TI := fun σ H R => ta σ H fun vs H1 => ∃ a xs, vs = [.ref a] ∧ SqT K H1 a xs ∧ R (Iet K a) H1
theorem pi_enumT {X : Cx} {e : Expr} {ta : TA} {p pos tpos : Pos} {elts : List Expr} {kk : Nat}
    (hg : Gl X "enumerate") (hm : X.mg "enumerate" = none) (ha : PA X [e] ta)
    (hs : starEach [e] X.env = [(false, eval e X.env)] := by rfl) :
    PI X (.Tuple elts kk tpos) (.Call (.Name "enumerate" p) [e] [] pos) (iEnT X.K ta) := by
  refine ⟨fun pins s σ H R I h => ?_⟩
  refine Call_ (ld_blt I hg hm boot_enumerate (PyProof.Rows.callWith_type1 (thn (ha.run pos pins s σ H _ I h)
    fun us s1 ⟨vs, H1, I1, r1, q1⟩ => ?_) hs rfl))
  obtain ⟨a, xs, ex, hq, q⟩ := q1
  subst ex
  cases r1 with
  | cons r rr =>
    cases rr
    cases r
    obtain ⟨its, rv, p', hz⟩ := I1.tuple hq
    have pt : s1.heap.IsTuple a its.toArray := p'
    refine enum1_call (begins_tuple a its.toArray) pt fun h' he hit hk => wpAny_pyIter_enum he ?_
    have I2 : Inv X pins σ H1 { s1 with heap := h' } := I1.kept (t' := s1.toks) hk
    have al : a < s1.heap.objs.size := p'.lt
    refine ⟨s1.heap.objs.size + 1, [s1.heap.objs.size + 1, s1.heap.objs.size], _, _, H1, rfl, I2,
      turn_enumT a (s1.heap.objs.size + 1) s1.heap.objs.size,
      ⟨⟨.none, he⟩, ⟨_, hit, rfl, rfl⟩, Nat.succ_ne_self _, Nat.ne_of_lt al, Nat.ne_of_gt (Nat.lt_succ_of_lt al)⟩, fun b hb => ?_, q⟩
    have hle : s1.heap.objs.size ≤ b := by
      rcases (show b = s1.heap.objs.size + 1 ∨ b = s1.heap.objs.size by simpa using hb) with rfl | rfl
      · exact Nat.le_succ _
      · exact Nat.le_refl _
    exact I1.fpOk hle (I1.hok.fresh hle)
theorem walk_enumT {K : PySem.W.Frag} {a : Addr} {xs : List V} :
    Walk (Iet K a) xs.length (fun H => SqT K H a xs) (YPair (fun i => some (.int (i : Nat))) (fun i => xs[i]?)) := by
  refine ⟨fun i _ hi q => ⟨xs, xs[i], q, by simp [hi]⟩, fun _ q => ⟨xs, q, Nat.le_refl _⟩, fun i H v H' _ q y => ?_⟩
  obtain ⟨T, x, h1, h2, h3, h4⟩ := y
  exact ⟨T, .int (i : Nat), x, h1, h2, h3, rfl, h4 xs q⟩
end Tm

namespace Tm
open L2 PySem PySem.Spec PyProof.Rows
/-! repr of a bool -/
section
variable {X : Cx}
def rReprB : List V → Hp → VK → Prop := fun xs H Q => ∃ b : Bool, xs = [.bl b] ∧ Q (.str (if b then "True" else "False")) H
theorem call_reprB : CallR X (.builtin "repr") rReprB := by
  intro pins s σ H xs us Q I r h
  obtain ⟨b, rfl, q⟩ := h
  obtain ⟨u, rfl, ru⟩ := vals1 r
  cases (show u = Value.bool b from ru)
  cases b with
  | true => exact PySem.P.repr_of_bool ⟨.str _, H, I.tok _, ⟨_, rfl⟩, q⟩
  | false => exact PySem.P.repr_of_bool ⟨.str _, H, I.tok _, ⟨_, rfl⟩, q⟩
end
/-! x in a tuple of data -/
section
variable {X : Cx}
def rInT (K : PySem.W.Frag) : R2 := fun x y H Q => ∃ d ds, Dp K H x d ∧ Dp K H y (.tuple ds) ∧ SeqAt.shaped d = true ∧
  SeqAt.shaped (.tuple ds) = true ∧ Q (.bl (ds.any fun z => PyData.eqv z d)) H
theorem op_inT (hu : X.A.units + 65 < cLine) : OpR X (compareOp .In) (rInT X.K) := by
  intro pins s σ H x y v u Q I rx ry h
  obtain ⟨d, ds, hd, he, sd, se, q⟩ := h
  obtain ⟨as, r1⟩ := Dp.reads I d x v hd rx
  obtain ⟨bs, r2⟩ := Dp.reads I (.tuple ds) y u he ry
  exact SeqAt.in_tuple_reads r2 r1 (SeqAt.canLay_of_shaped se) (SeqAt.canLay_of_shaped sd)
    (PyProof.Rows.room_in_shaped sd hu) ⟨.bl _, H, I, rfl, q⟩
end
/-! len(set(t)), t a tuple of ints -/
def tLenSetT (K : PySem.W.Frag) (ta : TE) : TE := fun σ H Q => ta σ H fun x H1 => ∃ (l : Addr) (ns : List Int), x = .ref l ∧
  SqT K H1 l (ns.map V.int) ∧ ns.length ≤ 4000 ∧ ∀ ks : List Int, ks.Nodup → (∀ k, k ∈ ks ↔ k ∈ ns) → Q (.int (ks.length : Nat)) H1
theorem intsAre_of : ∀ {ns : List Int} {us : List Value}, Vals (ns.map V.int) us → PyProof.Rows.IntsAre us ns
  | [], us, h => by
    cases h
    exact .nil
  | n :: r, us, h => by
    cases h with
    | cons h1 h2 =>
      obtain ⟨k, rfl⟩ := h1
      exact .cons n k (intsAre_of h2)
theorem pe_lenSetT {X : Cx} {a : Expr} {ta : TE} {p p2 q pos : Pos} (hc : X.calm = true) (hg : Gl X "len") (hm : X.mg "len" = none)
    (hg2 : Gl X "set") (hm2 : X.mg "set" = none) (ha : PE X a ta)
    (na : starEach [a] X.env = (false, eval a X.env) :: starEach [] X.env := by rfl) :
    PE X (.Call (.Name "len" p) [.Call (.Name "set" p2) [a] [] q] [] pos) (tLenSetT X.K ta) := by
  refine ⟨fun pins s σ H Q I h => Call_ (ld_blt I hg hm boot_len ?_)⟩
  refine PyProof.Rows.callWith_builtin1 (PyProof.Rows.args_cons (Call_ (ld_blt I hg2 hm2 boot_set ?_)) rfl) rfl rfl
  refine PyProof.Rows.callWith_type1 (PyProof.Rows.args_cons (thn (ha.run pins s σ H _ I h)
    fun v s1 ⟨x, H1, I1, r1, q1⟩ => PyProof.Rows.args_nil ?_) na) na rfl
  obtain ⟨l, ns, rfl, hq, hl, q1⟩ := q1
  cases r1
  obtain ⟨its, r, pt, hz⟩ := I1.tuple hq
  refine call_set_tupI ns (I1.ok.hd hc) pt (by simpa using intsAre_of r) (by unfold scanBound; omega) fun h' tk c hS hcl hk => ?_
  refine PyProof.Rows.args_nil ?_
  obtain ⟨o, es, ep, t, ho, hex, hd, g1, nd, mem, _, hf, hn, _⟩ := hS
  have I2 : Inv X pins σ H1 { s1 with heap := h', toks := tk } := I1.kept fun b o e => hk b o e
  have e1 : (es.toList.map keyOf).length = es.size := by rw [List.length_map, Array.length_toList]
  refine call_len_set ho hex hd hf (by omega) ⟨.int es.size, H1, I2.tok _, ⟨_, rfl⟩, ?_⟩
  have z := q1 (es.toList.map keyOf) nd fun k => by rw [← mem k, decide_eq_true_iff]
  rw [e1] at z
  exact z
/-! t[::-1], t a tuple -/
theorem adj_rev (n : Nat) : Builtin.Slice.sliceAdjust none none (-1) (n : Int) = ((n : Int) - 1, -1) := rfl
theorem plc_rev (n : Nat) : Builtin.Slice.slicePlaces ((n : Int) - 1) (-1) (-1) = n := by
  unfold Builtin.Slice.slicePlaces
  rw [if_neg (by decide)]
  split
  · rw [show (- -1 : Int) = 1 by decide, Int.ediv_one]
    omega
  · omega
theorem pick_rev (xs : Array Value) : ((List.range xs.size).filterMap fun (k : Nat) => xs[(((xs.size : Int) - 1) + (k : Int) * (-1)).toNat]?) = xs.toList.reverse := by
  have e : (List.range xs.size).filterMap (fun (k : Nat) => xs[(((xs.size : Int) - 1) + (k : Int) * (-1)).toNat]?) =
      ((List.range xs.size).map fun k => xs.size - 1 - k).filterMap (xs[·]?) := by
    rw [List.filterMap_map]
    refine congrArg (fun f => List.filterMap f (List.range xs.size)) (funext fun k => ?_)
    have e2 : (((xs.size : Int) - 1) + (k : Int) * (-1)).toNat = xs.size - 1 - k := by omega
    show xs[(((xs.size : Int) - 1) + (k : Int) * (-1)).toNat]? = xs[xs.size - 1 - k]?
    rw [e2]
  rw [e, PySem.W.krv_range, List.filterMap_reverse, PySem.W.krv_all]
theorem getItem_tup_rev {prog : Program} {w : World} {A : Around} {E : Value → Shared → Prop} {s : Shared} {t sl : Addr} {items : Array Value} {vl vu vs : Value}
    {Q : Value → Shared → Prop} (ht : IsTup s.heap t items) (hs : s.heap.IsSliceOf sl vl vu vs) (pl : IsPart vl none) (pu : IsPart vu none) (ps : IsPart vs (some (-1)))
    (h : Q (.ref s.heap.objs.size) { s with heap := s.heap.push { cls := .type "tuple", data := .seq items.toList.reverse.toArray } })
    (hsz : items.size ≤ sizeLine) : wpAny (model prog w) A (getItem (.ref t) (.ref sl)) Q E s := by
  have hk : sizeOk (.seq items.toList.reverse.toArray) := by
    show items.toList.reverse.toArray.size ≤ sizeLine
    rw [List.size_toArray, List.length_reverse, Array.length_toList]
    exact hsz
  obtain ⟨os, hos, hcs, hds⟩ := id hs
  have hTs : s.TypeIs (.ref sl) "slice" := ⟨os, hos, hcs⟩
  unfold getItem
  try with_reducible refine wpAny_holding ?_
  first | refine wpAny_bind (wpAny_pure ?_) | skip
  refine wpAny_bind (wpAny_sequenceKey ht.typeIs (by decide) ?_)
  refine wpAny_bind (wpAny_callSpecial?_slot (name := Str.ofString "__getitem__") ht.typeIs PyProof.Rows.slot_tuple_getitem
    (wpAny_call_entry PyProof.Rows.slot_tuple_getitem ht.typeIs PyProof.Rows.entry_tuple_getitem ?_ (PyProof.Rows.args_tuple_getitem _ _)))
  refine wpAny_bind (m := Builtin.Tuple.tupleItemsOf (.ref t)) (PyProof.Rows.tupleItemsOf_ ht (wpAny_bind (wpAny_typeOf hTs ?_)))
  rw [if_pos (by decide)]
  refine wpAny_bind ?_
  unfold Builtin.Slice.sliceApplied Builtin.Slice.sliceFields
  refine wpAny_bind (wpAny_bind (wpAny_field hos hds (x := vl) rfl (wpAny_bind (wpAny_field hos hds (x := vu) rfl
    (wpAny_bind (wpAny_field hos hds (x := vs) rfl (wpAny_pure ?_)))))))
  refine wpAny_bind (HT.slicePart_ ps ?_)
  show wpAny _ _ (if ((-1 : Int) == 0) = true then _ else _) _ _ s
  rw [if_neg (by decide)]
  refine wpAny_bind (HT.slicePart_ pl (wpAny_bind (HT.slicePart_ pu (wpAny_bind (wpAny_pure ?_)))))
  refine wpAny_pure ?_
  have e1 : ((items.size : Int) - 1 == 0 && (-1 : Int) == 1 && Builtin.Slice.slicePlaces ((items.size : Int) - 1) (-1) (-1) == items.size) = false := by
    rw [show ((-1 : Int) == 1) = false from rfl, Bool.and_false, Bool.false_and]
  show wpAny _ _ (if ((items.size : Int) - 1 == 0 && (-1 : Int) == 1 && Builtin.Slice.slicePlaces ((items.size : Int) - 1) (-1) (-1) == items.size) = true then _ else _) _ _ s
  rw [e1, if_neg Bool.false_ne_true]
  show wpAny _ _ (Builtin.Tuple.tupleExact ((List.range (Builtin.Slice.slicePlaces ((items.size : Int) - 1) (-1) (-1))).filterMap
    fun (k : Nat) => items[(((items.size : Int) - 1) + (k : Int) * (-1)).toNat]?).toArray >>= _) _ _ s
  rw [plc_rev, pick_rev]
  first
    | exact wpAny_bind (m := Builtin.Tuple.tupleExact _) (wpAny_newObj_type (wpAny_pure ⟨_, rfl, wpAny_pure h⟩) hk)
    | exact wpAny_bind (m := Builtin.Tuple.tupleExact _) (wpAny_newObj_type (wpAny_bind (wpAny_pure (wpAny_pure ⟨_, rfl, wpAny_pure h⟩))) hk)
    | exact wpAny_bind (wpAny_bind (m := Builtin.Tuple.tupleExact _) (wpAny_newObj_type (wpAny_pure (wpAny_pure ⟨_, rfl, wpAny_pure h⟩)) hk))
    | exact wpAny_bind (wpAny_bind (m := Builtin.Tuple.tupleExact _) (wpAny_newObj_type (wpAny_pure ⟨_, rfl, wpAny_pure h⟩) hk))
def tRevT (K : PySem.W.Frag) (te : TE) : TE := fun σ H Q => te σ H fun x H1 => ∃ a xs, x = .ref a ∧ SqT K H1 a xs ∧
  ∀ p, H1 p = none → Q (.ref p) (upd H1 p (.tup xs.reverse))
theorem pe_revT {X : Cx} {e : Expr} {te : TE} {k : Nat} {p1 p2 p3 pos : Pos} (he : PE X e te) :
    PE X (.Subscript e (.Slice none none (some (.UnaryOp .USub (.Constant (.int 1) k p1) p2)) p3) pos) (tRevT X.K te) := by
  refine ⟨fun pins s σ H Q I h => Subscript_ (thn (he.run pins s σ H _ I h) fun v s1 ⟨x, H1, I1, r1, a, xs, ex, hx, q⟩ => ?_)⟩
  subst ex
  cases r1
  have hst : PO X (some (.UnaryOp .USub (.Constant (.int 1) k p1) p2)) (tPart (tUn (rU fun i => .int (-i)) (tC (.int 1)))) := po_some (pe_un un_neg pe_int)
  refine wpAny_Slice (thn (po_none.run pins s1 σ H1 (fun o H2 => o = none ∧ H2 = H1) I1 ⟨rfl, rfl⟩) fun vl s2 ⟨l, H2, I2, pl, el, e2⟩ => ?_)
  subst el e2
  refine thn (po_none.run pins s2 σ H2 (fun o H3 => o = none ∧ H3 = H2) I2 ⟨rfl, rfl⟩) fun vu s3 ⟨u, H3, I3, pu, eu, e3⟩ => ?_
  subst eu e3
  refine thn (hst.run pins s3 σ H3 (fun o H4 => o = some (-1) ∧ H4 = H3) I3 ⟨1, rfl, -1, rfl, rfl, rfl⟩) fun vs s4 ⟨o, H4, I4, ps, eo, e4⟩ => ?_
  subst eo e4
  have I5 : Inv X pins σ H4 { s4 with heap := s4.heap.push { cls := .type "slice", data := .fields #[vl, vu, vs] } } :=
    I4.kept (t' := s4.toks) fun b ob z => Heap.get?_push_of_some _ z
  obtain ⟨its, r, ht, hz⟩ := I5.tuple hx
  have hlen := r.length
  show wpAny (model X.prog X.w) X.A (subscriptTail e (.Slice none none (some (.UnaryOp .USub (.Constant (.int 1) k p1) p2)) p3) (.ref a) (.ref s4.heap.objs.size))
    (EP X pins σ Q) X.xe { s4 with heap := s4.heap.push { cls := .type "slice", data := .fields #[vl, vu, vs] } }
  refine tail_any (ops := [.ref a, .ref s4.heap.objs.size]) ht.typeIs (PyProof.Rows.slot_tuple_getitem.lookup) ?_ (by with_unfolding_all rfl)
  refine getItem_tup_rev ht (Heap.IsSliceOf.new _ vl vu vs) pl pu ps ?_ (by rw [List.size_toArray]; omega)
  refine ⟨.ref _, _, I5.laid (t' := s4.toks) (o := .tup xs.reverse) (fun b ob z => Heap.get?_push_of_some _ z) (Nat.le_refl _) ?_, rfl, q _ (I5.hok.fresh (Nat.le_refl _))⟩
  exact ⟨by rw [List.length_reverse]; exact hz, _, r.reverse, ⟨_, Heap.get?_push_size _ rfl, rfl, _, rfl⟩⟩
end Tm

namespace Tm
open L2 PySem PySem.Spec PyProof.Rows NdefX
/-- what the written part holds of a method whose first row is super().__init__(..): its function f, the class cell's class D, the base's method f2 -/
structure SupTxt (P : Program) (K : PySem.W.Frag) (mg : Str → Option Value) (Fn : NF) (f cc D C f2 : Addr) (fd : FuncData) (ar : Str) : Prop where
  cl : Fn.cl = [(("__class__" : Str), cc)]
  fn : ∃ oc od osl doc pm an ct, fd = PySem.W.fnX Fn.name Fn.qual Fn.params Fn.body Fn.scope Fn.cl .none .none doc pm an (.ref Fn.c) ct ∧ K.lookup f = some ⟨oc, od, .func fd, osl⟩
  code : PySem.W.codeIn K (.ref Fn.c) Fn.qual = true
  cell : ∃ k1 k2 k3, K.lookup cc = some ⟨k1, k2, .cell (some (.ref D)), k3⟩
  file : ∃ k1 k2 cvs k3 file tf, K.lookup Fn.c = some ⟨k1, k2, .fields cvs, k3⟩ ∧ cvs[2]? = some (.str file tf) ∧ ((P.main.file : Str) == file) = true
  first : ∃ a : PySem.Arg, (Fn.params.posonlyargs ++ Fn.params.args).head? = some a ∧ a.arg = ar
  clsD : ∃ cd, PySem.W.clsIn K D = some cd
  clsC : ∃ cd, PySem.W.clsIn K C = some cd
  sub : PySem.W.mroIn K C (.ref D) = some true
  meth : PySem.W.ks_superIn K C D "__init__" = some (some (.ref f2))
  ty : PySem.W.typeIn K (.ref f2) = some (.type "function")
  isf : PySem.W.fnIn K f2 = true
  third : PySem.W.nsIn K cStatics "thirdparty.any" = some none
  noSuper : mg "super" = none
  topNo : (P.main.scope.names.lookup ("super" : Str)).isSome = false
  k0 : Fn.scope.names.lookup ("super" : Str) = some .globalImplicit
  k1 : Fn.scope.names.lookup ("__class__" : Str) = some .free
section
variable {P : Program} {w : World} {K : PySem.W.Frag} {mg : Str → Option Value} {base : Heap} {Fn : NF} {f cc D C f2 : Addr} {fd fd2 : FuncData} {ar : Str}
theorem SupTxt.cells (T : SupTxt P K mg Fn f cc D C f2 fd ar) {A : Around} {outer : List Env} {s : Shared} {H : Hp} (e0 : Env0 P w K mg base A outer s H) :
    CellsAt Fn.cl ["__class__"] [some (.ref D)] s.heap H := by
  obtain ⟨k1, k2, k3, hc⟩ := T.cell
  have hb := e0.mod.kin _ _ hc
  have hs := (e0.bs _ _ hb).1
  have hn := (e0.bs _ _ hb).2
  rw [T.cl]
  have one : ∀ y c, List.lookup y [(("__class__" : Str), cc)] = some c → y = "__class__" ∧ c = cc := by
    intro y c e
    by_cases hy : y = "__class__"
    · subst hy
      simp [List.lookup] at e
      exact ⟨rfl, e.symm⟩
    · have : (y == ("__class__" : Str)) = false := by simpa using hy
      simp [List.lookup, this] at e
  refine ⟨rfl, fun y c e => ?_, fun x y c e1 e2 => ?_, fun i y hi => ?_⟩
  · obtain ⟨rfl, rfl⟩ := one y c e
    exact ⟨hn, _, _, hs, rfl⟩
  · rw [(one x c e1).1, (one y c e2).1]
  · cases i with
    | zero =>
      simp at hi
      subst hi
      refine ⟨cc, by simp [List.lookup], fun v hv => ?_⟩
      simp at hv
      subst hv
      exact ⟨.ref D, rfl, _, hs, rfl⟩
    | succ i => simp at hi
end
section
variable {P : Program} {w : World} {K : PySem.W.Frag} {mg : Str → Option Value} {base : Heap} {Fn : NF} {f cc D C f2 : Addr} {fd fd2 : FuncData} {ar : Str}
/-- the rows super().__init__(a0, ..) of the body -/
def supRow (es : List PySem.Expr) (p0 p1 p2 p3 p4 : Pos) : Stmt := .Expr (.Call (.Attribute (.Call (.Name "super" p0) [] [] p1) "__init__" p2) es [] p3) p4
theorem fn_super {N ps ps2 : List Str} {k : Nat} {sp sp2 : Sp} {e : PySem.Expr} {es : List PySem.Expr} {p0 p1 p2 p3 p4 : Pos} {rest : List Stmt}
    (T : SupTxt P K mg Fn f cc D C f2 fd ar) (S : NScope N ps ["__class__"] Fn.scope) (har : ps.head? = some ar)
    (F2 : FnOk P w K mg base CX0 k f2 fd2 ps2 sp2) (b2 : Binds K fd2 ps2 []) (hbody : Fn.body = supRow (e :: es) p0 p1 p2 p3 p4 :: rest)
    (len : ∀ vs H Q E, sp vs H Q E → vs.length = ps.length)
    (hrun : ∀ (A : Around) (outer : List Env) (s : Shared) (H : Hp) (vs : List V) (Q : VK) (E : XK), Room k (A.deeper (envF Fn f s.heap.objs.size)) → sp vs H Q E →
      ∃ (ta : TA) (t : TS) (x dx : Addr) (fs : List (Str × V)), PA (ncx CX0 P w K mg base N Fn f A outer s H E) (e :: es) ta ∧
        PSs (ncx CX0 P w K mg base N Fn f A outer s H E) rest t ∧ vs.head? = some (.ref x) ∧ H x = some (.ins C dx fs) ∧
        ta (startF N vs [some (.ref D)]) H fun us H1 => sp2 (.ref x :: us) H1 (fun _ H2 => t { nx := fun _ H' => Q .non H', rt := Q } (startF N vs [some (.ref D)]) H2) E0)
    (hst : ∀ (env : Env), starEach (e :: es) env = (false, eval e env) :: starEach es env := by intro _; rfl)
    (hpl : ∀ (env : Env) (pos : Pos), (backTo pos (starEach es env)).any (·.1) = false := by intro _ _; rfl)
    (hev : ∀ (env : Env), eval (.Call (.Attribute (.Call (.Name "super" p0) [] [] p1) "__init__" p2) (e :: es) [] p3) env = (do
      let ov ← attributeBase (.Call (.Name "super" p0) [] [] p1) "__init__" env (eval (.Call (.Name "super" p0) [] [] p1) env)
      standAt p2.atName
      let (f, first) ← holding [ov] (getMethod ov "__init__" (do return (← importBound (.Call (.Name "super" p0) [] [] p1) env).getD true))
      callWith p3 f first (backTo p3 (starEach (e :: es) env)) []) := by intro _; rfl) :
    Binds K fd ps [] → FnOk P w K mg base CX0 (k + 1) f fd ps sp := by
  intro b1
  refine ⟨len, fun A outer s H args us vs Q E hr e0 hb r hsp => ?_⟩
  have hl := len _ _ _ _ hsp
  have KX : K.In s.heap := e0.mod.kin.keeps fun b o e => (e0.bs b o e).1
  have lim : s.heap.NoLimit := e0.mod.nolimit.keeps fun b o e => (e0.bs b o e).1
  obtain ⟨oc, od, osl, doc, pm, an, ct, hfd, lk⟩ := T.fn
  have CA := T.cells e0
  have hlu : us.length = ps.length := r.length.symm.trans hl
  have nocell : ∀ y ∈ fd.scope.names, y.2 ≠ .cell := by rw [hfd]; exact S.nocell
  have locs : ∀ y ∈ ps.zip us, fd.scope.names.lookup y.1 = some .local := by
    rw [hfd]
    exact fun y hy => S.par y.1 (List.of_mem_zip hy).1
  refine PySem.ks_codeAny_call_defAt (binds := ps.zip us) (body := Fn.body) hr.depth (KX _ _ lk) rfl lim (by rw [hfd]; exact PySem.W.codeRec_of KX T.code) (by rw [hfd]) hb nocell locs (fun h0 hns kp => ?_) (by rw [hfd]; exact S.co) (by rw [hfd]; exact S.gen) (by rw [hfd]; exact S.kind)
  have eEnv : callEnv fd s.heap.objs.size f = envF Fn f s.heap.objs.size := by rw [hfd] <;> rfl
  rw [eEnv]
  obtain ⟨ta, t, x, dx, fs, pa, pr, hx0, hxH, hq⟩ := hrun A outer s H vs Q E (hr.deeper _) hsp
  have I : Inv (ncx CX0 P w K mg base N Fn f A outer s H E) [] (startF N vs [some (.ref D)]) H { s with heap := h0, toks := s.toks + (ps.zip us).length } :=
    inv_startN S hr.hd e0 hl r CA hns kp
  have fin : ∀ {σ' : L2.St} {H' : Hp} {v : V} {u : Value} {s' : Shared}, Inv (ncx CX0 P w K mg base N Fn f A outer s H E) [] σ' H' s' → L2.RelV v u → Q v H' → CE outer P w H s Q u s' :=
    fun {σ' H' v u s'} J rv q => ⟨v, H', J.os, J.bare, J.base, J.hok, rv, q⟩
  rw [hbody]
  refine PySem.ks_wpAt_execs_cons ?_
  unfold supRow
  refine PySem.ks_wpAt_Expr_any (hi := I.quiet) ?_
  refine PySem.ks_wpAt_MethodCall ?_ (hev _)
  -- super()
  obtain ⟨k1, k2, k3, hcell⟩ := T.cell
  obtain ⟨c1, c2, cvs, c3, file, tf, hcode, hcv, hfile⟩ := T.file
  obtain ⟨a0, ha0, ha1⟩ := T.first
  obtain ⟨cdD, hD⟩ := T.clsD
  obtain ⟨cdC, hC⟩ := T.clsC
  have X1 : K.In h0 := I.kIn
  obtain ⟨oD, hD1, hD2⟩ : ∃ oD, h0.get? D = some oD ∧ oD.data = .cls cdD := by
    unfold PySem.W.clsIn at hD
    split at hD
    · rename_i d1 d2 d3 d4 ho
      cases hD
      exact ⟨_, X1 _ _ ho, rfl⟩
    · cases hD
  have hxo : h0.get? x = some (PySem.W.instObj C dx) := by
    obtain ⟨_, _, _, z, _⟩ := (show ObjOk P w H h0 x (.ins C dx fs) from I.hok x _ hxH)
    exact z
  have hxC : x ≠ C := by
    rintro rfl
    unfold PySem.W.clsIn at hC
    split at hC
    · rename_i d1 d2 d3 d4 ho
      have z := X1 _ _ ho
      rw [hxo] at z
      cases z
    · cases hC
  have hself : ∃ m, h0.Ns s.heap.objs.size m ∧ m ar = some (.ref x) := by
    refine ⟨_, hns, ?_⟩
    cases vs with
    | nil => cases hx0
    | cons v0 vr =>
      have ev : v0 = .ref x := by simpa using hx0
      subst ev
      cases r with
      | cons r0 rr =>
        cases r0
        cases ps with
        | nil => cases har
        | cons q0 qs =>
          have eq0 : q0 = ar := by simpa using har
          subst eq0
          refine zip_look (i := 0) ?_ rfl rfl
          have z := S.nd.sublist (List.take_sublist ((q0 :: qs).length + ([("__class__" : Str)] : List Str).length) N)
          rw [S.pre] at z
          exact (List.nodup_append.mp z).1
  obtain ⟨m0, hm0, hm1⟩ := hself
  have mod := I.mod
  refine PySem.ks_wpAt_super_base (env := envF Fn f s.heap.objs.size) (f := f) (cc := Fn.c) (ar := a0) (fd := fd) (vs := cvs) (file := file) (tf := tf)
    T.k0 T.k1 (by decide) rfl (X1 _ _ lk) rfl (by rw [hfd]; exact ha0) rfl (X1 _ _ hcode) rfl hcv hfile T.topNo ?_
  obtain ⟨mb, hb1, hb2⟩ := mod.blt
  refine PySem.W.ks_loadName_global S.kind T.k0 (Calls.loadGlobal_builtin (env := envF Fn f s.heap.objs.size) (mod.glob.keeps I.bk) T.noSuper (hb1.keeps I.bk) ((hb2 "super" (by decide)).trans (show bootBuiltins "super" = some (.type "super") by decide +kernel)) ⟨rfl, ?_⟩)
  refine wpAny_loadName_free (c := cc) S.kind T.k1 (by show List.lookup _ Fn.cl = some cc; rw [T.cl]; simp [List.lookup]) ⟨_, X1 _ _ hcell, rfl⟩ ?_
  refine wpAny_loadName_local S.kind (show Fn.scope.names.lookup a0.arg = some .local by
    rw [ha1]
    refine S.par ar ?_
    cases ps with
    | nil => cases har
    | cons q0 qs =>
      have eq0 : q0 = ar := by simpa using har
      subst eq0
      exact List.mem_cons_self) hm0 (by rw [ha1]; exact hm1) ?_
  refine PySem.ks_wpAny_isType_cls hD1 hD2 ⟨rfl, ?_⟩
  refine PySem.ks_wpAny_call_super hD1 hD2 hxo rfl (fun c z => by cases z) (PySem.W.looks_mroIn X1 T.sub) fun h1 e1 kp1 => ?_
  -- its method
  have I1 : Inv (ncx CX0 P w K mg base N Fn f A outer s H E) [] (startF N vs [some (.ref D)]) H { s with heap := h1, toks := s.toks + (ps.zip us).length } := I.kept kp1
  have X2 : K.In h1 := I1.kIn
  have hf2 : ∃ of2, h1.get? f2 = some of2 ∧ of2.cls = .type "function" := by
    have z0 : (K.lookup f2).map (·.cls) = some (.type "function") := T.ty
    cases z : K.lookup f2 with
    | none => rw [z] at z0; cases z0
    | some of2 => rw [z] at z0; exact ⟨of2, X2 _ _ z, Option.some.inj z0⟩
  obtain ⟨of2, hof, hofc⟩ := hf2
  have hm := T.meth
  unfold PySem.W.ks_superIn at hm
  rw [hC] at hm
  refine PySem.ks_wpAny_getMethod_super (l₀ := cdC.mro) e1 (PySem.W.looks_opaque X2 T.third) ((PySem.W.looks_clsIn X2 hC).andThen .now) rfl X2 hm hof hofc hxC (by decide) ?_
  have hq1 : (h1.push (PySem.W.methodObj (.ref f2) (.ref x))).get? h1.objs.size = some (PySem.W.methodObj (.ref f2) (.ref x)) := Heap.get?_push_size _ rfl
  have I2 : Inv (ncx CX0 P w K mg base N Fn f A outer s H E) [] (startF N vs [some (.ref D)]) H { s with heap := h1.push (PySem.W.methodObj (.ref f2) (.ref x)), toks := s.toks + (ps.zip us).length + 1 } :=
    I1.kept fun b o z => Heap.get?_push_of_some _ z
  have I3 : Inv (ncx CX0 P w K mg base N Fn f A outer s H E) ((h1.objs.size, PySem.W.methodObj (.ref f2) (.ref x)) :: []) (startF N vs [some (.ref D)]) H { s with heap := h1.push (PySem.W.methodObj (.ref f2) (.ref x)), toks := s.toks + (ps.zip us).length + 1 } := by
    refine I2.pins_of fun p hp => ?_
    have hp' : p = (h1.objs.size, PySem.W.methodObj (.ref f2) (.ref x)) := by
      simpa using hp
    subst hp'
    refine ⟨hq1, I1.hok.fresh (Nat.le_refl _), Nat.ne_of_gt I1.lt, I1.nofs (Nat.le_refl _), fun v z => ?_⟩
    cases z
  have hbq : base.get? h1.objs.size = none := Heap.get?_none_of_le (Nat.le_trans e0.bsz I1.sz)
  have hL : h1.objs.size ≠ s.heap.objs.size := Nat.ne_of_gt I1.lt
  refine PySem.W.callWith_M (K := K) (h₀ := base) (L := s.heap.objs.size) (q := h1.objs.size) (g := f2) (self := .ref x) (first := []) e0.mod.kin (news_at hL hbq hq1) List.mem_cons_self T.isf ?_ (hst _) (hpl _ _)
  refine thn (pa.run p3 _ _ _ H _ I3 hq) fun ws s4 ⟨zs, H4, I4, rz, q4⟩ => ?_
  have pin4 := I4.pin (h1.objs.size, PySem.W.methodObj (.ref f2) (.ref x)) (List.mem_append_right _ List.mem_cons_self)
  refine ⟨⟨pin4.1, I4.kIn⟩, ?_⟩
  have I5 : Inv (ncx CX0 P w K mg base N Fn f A outer s H E) [] (startF N vs [some (.ref D)]) H4 s4 := I4.pins_of fun p hp => absurd hp (by simp)
  have r2 : Vals (.ref x :: zs) (.ref x :: ws) := .cons rfl rz
  have hl2 : ((.ref x :: ws : List Value) ++ []).length = ps2.length := by
    rw [List.append_nil, ← r2.length]
    exact F2.len _ _ _ _ q4
  refine wpAny_call (PySem.W.method_call pin4.1 ?_)
  have hrun2 := F2.run (A.deeper (envF Fn f s.heap.objs.size)) (ncx CX0 P w K mg base N Fn f A outer s H E).stack s4 H4 ⟨.ref x :: ws, []⟩ (.ref x :: ws) (.ref x :: zs) _ E0 (hr.deeper _) I5.env0
    (by have z := b2 s4 (.ref x :: ws) I5.kIn hl2; rw [List.append_nil] at z; exact z) r2 q4
  refine codeAny_mono hrun2 fun rr s5 hq5 => ?_
  cases rr with
  | error e' => exact hq5.elim
  | ok fl0 =>
  cases fl0 with
  | next => exact hq5.elim
  | brk => exact hq5.elim
  | cont => exact hq5.elim
  | ret uu =>
  obtain ⟨v5, H5, I6, r5, q5⟩ := I5.after hq5
  -- the rest
  refine PySem.wpAt_of_wpAny (wpAny_mono (pr.run [] _ _ _ _ I6 q5) (fun fl s' hs => ?_) fun e' s' hs => hs)
  cases fl with
  | ret u =>
    obtain ⟨v, σ', H', J, rv, q⟩ := hs
    exact fin J rv q
  | next =>
    obtain ⟨σ', H', J, q⟩ := hs
    exact fin (v := V.non) (u := Value.none) J rfl q
  | brk =>
    obtain ⟨_, _, _, q⟩ := hs
    exact False.elim q
  | cont =>
    obtain ⟨_, _, _, q⟩ := hs
    exact False.elim q
end
end Tm

namespace Tm
open L2 PySem PySem.Spec PyProof.Rows
/-! ## readings in short -/
abbrev rAddI : R2 := rI0 fun i j => .int (i + j)
abbrev rSubI : R2 := rI0 fun i j => .int (i - j)
abbrev rMulI : R2 := rI CMul fun i j => .int (i * j)
abbrev rModI : R2 := rI (fun _ j => 0 < j) fun i j => .int (i % j)
abbrev rDivI : R2 := rI CDiv fun i j => .int (i / j)
abbrev rPowI : R2 := rI CPow fun i j => .int (i ^ j.toNat)
abbrev rXorI : R2 := rI0 fun i j => .int (Builtin.bitXor i j)
abbrev rNegI : V → Hp → VK → Prop := rU fun i => .int (-i)
abbrev rLtI : R2 := rI0 fun i j => .bl (decide (i < j))
abbrev rLeI : R2 := rI0 fun i j => .bl (decide (i ≤ j))
abbrev rGtI : R2 := rI0 fun i j => .bl (decide (j < i))
abbrev rGeI : R2 := rI0 fun i j => .bl (decide (j ≤ i))
abbrev rAddStr : R2 := fun x y H Q => ∃ i j, x = .str i ∧ y = .str j ∧ i.length + j.length ≤ sizeLine ∧ Q (.str (i ++ j)) H
abbrev rInSg : R2 := fun x y H Q => ∃ (c : Nat) (z : Str), x = .str ⟨#[c]⟩ ∧ y = .str z ∧ Q (.bl (decide (c ∈ z.cps.toList))) H
abbrev rNotInSg : R2 := fun x y H Q => ∃ (c : Nat) (z : Str), x = .str ⟨#[c]⟩ ∧ y = .str z ∧ Q (.bl (!decide (c ∈ z.cps.toList))) H
abbrev rLenV (K : PySem.W.Frag) : List V → Hp → VK → Prop := fun xs H Q => ∃ x n, xs = [x] ∧ LenV K x H n ∧ Q (.int n) H
abbrev rAbs : List V → Hp → VK → Prop := fun xs H Q => ∃ i, xs = [.int i] ∧ Q (.int (if i < 0 then -i else i)) H
abbrev rMax2 : List V → Hp → VK → Prop := fun xs H Q => ∃ i j, xs = [.int i, .int j] ∧ Q (.int (if j > i then j else i)) H
abbrev rMin2 : List V → Hp → VK → Prop := fun xs H Q => ∃ i j, xs = [.int i, .int j] ∧ Q (.int (if j < i then j else i)) H
abbrev rInt1 : List V → Hp → VK → Prop := fun xs H Q => (∃ i, xs = [.int i] ∧ Q (.int i) H) ∨ ∃ k, xs = [.bl k] ∧ Q (.int (if k then 1 else 0)) H
abbrev rIntStr : List V → Hp → VK → Prop := fun xs H Q => ∃ a n, xs = [.str a] ∧ PySem.intText? a = some n ∧ a.length ≤ 640 ∧ Q (.int n) H
abbrev rTupOf (K : PySem.W.Frag) : List V → Hp → VK → Prop := fun xs H Q => ∃ p ys, xs = [.ref p] ∧
  ((SqL K H p ys ∧ ∀ l, H l = none → Q (.ref l) (upd H l (.tup ys))) ∨ (SqT K H p ys ∧ Q (.ref p) H))
abbrev rLstOf (K : PySem.W.Frag) : List V → Hp → VK → Prop := fun xs H Q => ∃ p ys, xs = [.ref p] ∧ (SqL K H p ys ∨ SqT K H p ys) ∧ ∀ l, H l = none → Q (.ref l) (upd H l (.lst ys))
def tTru (K : PySem.W.Frag) (ta : TE) : TT := fun σ H Q => ta σ H fun x H' => ∃ k, TruV K x H' k ∧ Q k H'
/-! ## defs and classes by their names -/
structure Ok (P : Program) (w : World) (K : PySem.W.Frag) (mg : Str → Option Value) (base : Heap) (x : Str) (k : Nat) (ps : List Str) (sp : Sp) : Prop where
  ex : ∃ fd, FnOk P w K mg base CX0 k (He.ga K x) fd ps sp ∧ Binds K fd ps []
  gl : mg x = some (.ref (He.ga K x))
  kp : PySem.W.keepIn K (.ref (He.ga K x)) = true
structure OkC (P : Program) (w : World) (K : PySem.W.Frag) (mg : Str → Option Value) (base : Heap) (x : Str) (k : Nat) (ps : List Str) (sp : Sp) : Prop where
  ex : ∃ f fd, FnOk P w K mg base CX0 k f fd ps sp ∧ Binds K fd ps [] ∧ Mk K (He.ga K x) f
  gl : mg x = some (.ref (He.ga K x))
section
variable {X : Cx} {x : Str} {k j : Nat} {ps : List Str} {sp : Sp} {e : PySem.Expr} {es : List PySem.Expr} {t : TA} {p pos : Pos}
theorem pe_callO (c : Ok X.prog X.w X.K X.mg X.base x k ps sp) (hr : Room j X.A) (ha : PA X (e :: es) t) (hk : k ≤ j := by decide) (hg : Gl X x := by rfl)
    (hdb : (x == ("__debug__" : Str)) = false := by decide) (he : starEach (e :: es) X.env = (false, eval e X.env) :: starEach es X.env := by rfl)
    (hpl : (backTo pos (starEach es X.env)).any (·.1) = false := by rfl) : PE X (.Call (.Name x p) (e :: es) [] pos) (tCall sp [] E0 t) := by
  obtain ⟨fd, F, b⟩ := c.ex
  exact pe_call F (hr.mono hk) hg c.gl c.kp b .nil pass0 ha hdb he hpl
theorem pe_makeO (c : OkC X.prog X.w X.K X.mg X.base x k ps sp) (hr : Room j X.A) (ha : PA X (e :: es) t) (hk : k + 1 ≤ j := by decide) (hg : Gl X x := by rfl)
    (hdb : (x == ("__debug__" : Str)) = false := by decide) (he : starEach (e :: es) X.env = (false, eval e X.env) :: starEach es X.env := by rfl)
    (hpl : (backTo pos (starEach es X.env)).any (·.1) = false := by rfl) : PE X (.Call (.Name x p) (e :: es) [] pos) (tMake (He.ga X.K x) sp [] E0 t) := by
  obtain ⟨f, fd, F, b, M⟩ := c.ex
  exact pe_make M F (hr.mono hk) hg c.gl b .nil pass0 ha hdb he hpl
theorem pe_globI {i : Int} (h : ∃ t, X.mg x = some (.int i t)) (hg : Gl X x := by rfl) (hd : (x == ("__debug__" : Str)) = false := by decide) : PE X (.Name x pos) (tC (.int i)) := by
  obtain ⟨t, e⟩ := h
  exact pe_glob hg e ⟨t, rfl⟩ hd
theorem pe_globS {z : Str} (h : ∃ t, X.mg x = some (.str z t)) (hg : Gl X x := by rfl) (hd : (x == ("__debug__" : Str)) = false := by decide) : PE X (.Name x pos) (tC (.str z)) := by
  obtain ⟨t, e⟩ := h
  exact pe_glob hg e ⟨t, rfl⟩ hd
theorem pe_list_rg {te : L2.St → Hp → (Int → Int → Hp → Prop) → Prop} (he : PRg X e te) (hc : X.calm = true) (hm : X.mg "list" = none) (hg : Gl X "list" := by rfl)
    (na : starEach [e] X.env = (false, eval e X.env) :: starEach [] X.env := by rfl) : PE X (.Call (.Name "list" p) [e] [] pos) (tLstRg te) := pe_listRg hc hg hm he na
end
theorem u65 {k : Nat} {A : Around} (r : Room k A) : A.units + 65 < cLine := by
  have := r.un
  omega
/-- the context of a def's body -/
abbrev CxF (P : Program) (w : World) (K : PySem.W.Frag) (mg : Str → Option Value) (base : Heap) (N : List Str) (qual : Str) (st : Stmt) (f : Addr) (cdv : Value) (A : Around) (outer : List Env) (s : Shared) (H : Hp) (E : XK) : Cx :=
  (cxOf CX0 P w K mg base N qual (defScope st) f cdv A outer s H E).nox
/-- the room of a def's body -/
abbrev RoomF (k : Nat) (qual : Str) (st : Stmt) (f : Addr) (cdv : Value) (A : Around) (s : Shared) : Prop := Room k (A.deeper (envOfC qual (defScope st) s.heap.objs.size f cdv))
/-- a def's own facts -/
structure FnP (K : PySem.W.Frag) (mg : Str → Option Value) (x : Str) (st : Stmt) : Prop where
  ex : ∃ fd, FunD K x x (defArgs st) (defBody st) (defScope st) [] [] (He.ga K x) fd
  gl : mg x = some (.ref (He.ga K x))
/-- the rule for a def -/
theorem ok_of {P : Program} {w : World} {K : PySem.W.Frag} {mg : Str → Option Value} {base : Heap} {x : Str} {st : Stmt} {N ps : List Str} {k : Nat} {sp : Sp} {t : TS}
    (F : FnP K mg x st) (S : FnScope N ps (defScope st)) (len : ∀ vs H Q E, sp vs H Q E → vs.length = ps.length)
    (hb : ∀ (kV doc pm : Value) (an : Option Addr) (cdv ct : Value) (us : List Value), us.length = ps.length → bindArgs (PySem.W.fnOf x x (defArgs st) (defBody st) (defScope st) .none kV doc pm an cdv ct) ⟨us, []⟩ = pure (ps.zip us))
    (der : ∀ (f : Addr) (cdv : Value) (A : Around) (outer : List Env) (s : Shared) (H : Hp) (E : XK), RoomF k x st f cdv A s → PSs (CxF P w K mg base N x st f cdv A outer s H E) (defBody st) t)
    (wp : ∀ vs H Q E, sp vs H Q E → t { nx := fun _ H' => Q .non H', rt := Q } (start N vs) H) : Ok P w K mg base x (k + 1) ps sp := by
  obtain ⟨fd, D⟩ := F.ex
  refine ⟨⟨fd, D.ok S len fun cdv A outer s H vs Q E hr hsp => ⟨t, PSs.nox (der _ cdv A outer s H E hr), wp vs H Q E hsp⟩, D.bindsN hb⟩, F.gl, D.kp⟩
/-- the same for a method, by its own facts -/
theorem fok_of {P : Program} {w : World} {K : PySem.W.Frag} {mg : Str → Option Value} {base : Heap} {x qual : Str} {st : Stmt} {N ps : List Str} {k : Nat} {sp : Sp} {t : TS} {f : Addr} {fd : FuncData}
    (D : FunD K x qual (defArgs st) (defBody st) (defScope st) [] [] f fd) (S : FnScope N ps (defScope st)) (len : ∀ vs H Q E, sp vs H Q E → vs.length = ps.length)
    (hb : ∀ (kV doc pm : Value) (an : Option Addr) (cdv ct : Value) (us : List Value), us.length = ps.length → bindArgs (PySem.W.fnOf x qual (defArgs st) (defBody st) (defScope st) .none kV doc pm an cdv ct) ⟨us, []⟩ = pure (ps.zip us))
    (der : ∀ (f : Addr) (cdv : Value) (A : Around) (outer : List Env) (s : Shared) (H : Hp) (E : XK), RoomF k qual st f cdv A s → PSs (CxF P w K mg base N qual st f cdv A outer s H E) (defBody st) t)
    (wp : ∀ vs H Q E, sp vs H Q E → t { nx := fun _ H' => Q .non H', rt := Q } (start N vs) H) : FnOk P w K mg base CX0 (k + 1) f fd ps sp ∧ Binds K fd ps [] :=
  ⟨D.ok S len fun cdv A outer s H vs Q E hr hsp => ⟨t, PSs.nox (der _ cdv A outer s H E hr), wp vs H Q E hsp⟩, D.bindsN hb⟩
/-! ## extension of the heap but for some addresses -/
abbrev Bad := Addr → Prop
def Xt (B : Bad) (H H' : Hp) : Prop := ∀ a o, ¬ B a → H a = some o → H' a = some o
section
variable {B : Bad} {H H' H1 H2 : Hp} {K : PySem.W.Frag} {a p : Addr} {o : HO} {xs : List V}
theorem Xt.refl (B : Bad) (H : Hp) : Xt B H H := fun _ _ _ h => h
theorem Xt.trans (x : Xt B H H1) (y : Xt B H1 H2) : Xt B H H2 := fun a o n h => y a o n (x a o n h)
theorem Xt.of (x : Same H H') : Xt B H H' := fun a o _ h => x a o h
theorem _root_.L2.Same.tnew (h : H p = none) : Same H (upd H p o) := fun a u e => by
  rw [upd_ne (ne_of_none e h)]
  exact e
theorem _root_.L2.Same.tmut (x : Same H H') (h : H p = none) : Same H (upd H' p o) := fun a u e => by
  rw [upd_ne (ne_of_none e h)]
  exact x a u e
theorem Xt.new (x : Xt B H H') (h : H' p = none) : Xt B H (upd H' p o) := fun a u n e => by
  rw [upd_ne (ne_of_none (x a u n e) h)]
  exact x a u n e
theorem Xt.mut (x : Xt B H H') (h : B p ∨ H p = none) : Xt B H (upd H' p o) := fun a u n e => by
  have : a ≠ p := by
    rintro rfl
    rcases h with h | h
    · exact n h
    · rw [h] at e; cases e
  rw [upd_ne this]
  exact x a u n e
theorem Xt.rd {u : HO} (x : Xt B H H') (n : ¬ B a) (h : Rd H a u) : Rd H' a u := by
  rcases h with h | ⟨o, h⟩
  · exact .inl (x a _ n h)
  · exact .inr ⟨o, x a _ n h⟩
theorem Xt.sqL (x : Xt B H H') (n : ¬ B a) (h : SqL K H a xs) : SqL K H' a xs := by
  rcases h with h | h
  · exact .inl (x.rd n h)
  · exact .inr h
theorem Xt.sqT (x : Xt B H H') (n : ¬ B a) (h : SqT K H a xs) : SqT K H' a xs := by
  rcases h with h | h
  · exact .inl (x.rd n h)
  · exact .inr h
theorem _root_.L2.Same.tL (x : Same H H') (h : SqL K H a xs) : SqL K H' a xs := Same.seq x h
theorem _root_.L2.Same.tT (x : Same H H') (h : SqT K H a xs) : SqT K H' a xs := Xt.sqT (B := fun _ => False) (Xt.of x) (fun z => z) h
theorem _root_.L2.Same.tfr (x : Same H H') (h : H' p = none) : H p = none := Same.free x h
end
theorem sqL_off {K : PySem.W.Frag} {H : Hp} {x a : Addr} {u o : HO} {xs : List V} (hx : H x = some u) (n1 : u ≠ .lst xs) (n2 : ∀ v, u ≠ .frz v (.lst xs)) (h : SqL K H a xs) : SqL K (upd H x o) a xs := by
  rcases h with h | h
  · refine .inl ?_
    rcases h with h | ⟨v, h⟩
    · refine .inl ?_
      rw [upd_ne (fun e => by subst e; rw [hx] at h; exact n1 (Option.some.inj h))]
      exact h
    · refine .inr ⟨v, ?_⟩
      rw [upd_ne (fun e => by subst e; rw [hx] at h; exact n2 v (Option.some.inj h))]
      exact h
  · exact .inr h
theorem sqT_off {K : PySem.W.Frag} {H : Hp} {x a : Addr} {u o : HO} {xs : List V} (hx : H x = some u) (n1 : u ≠ .tup xs) (n2 : ∀ v, u ≠ .frz v (.tup xs)) (h : SqT K H a xs) : SqT K (upd H x o) a xs := by
  rcases h with h | h
  · refine .inl ?_
    rcases h with h | ⟨v, h⟩
    · refine .inl ?_
      rw [upd_ne (fun e => by subst e; rw [hx] at h; exact n1 (Option.some.inj h))]
      exact h
    · refine .inr ⟨v, ?_⟩
      rw [upd_ne (fun e => by subst e; rw [hx] at h; exact n2 v (Option.some.inj h))]
      exact h
  · exact .inr h
/-! ## the steps of a reading -/
section
variable {σ : L2.St} {H : Hp} {Q : VK} {i j : Int} {D : Ends} {K : PySem.W.Frag}
theorem w_var {n : Nat} {v : V} (h : σ[n]? = some (some v)) (q : Q v H) : tVar n σ H Q := ⟨v, h, q⟩
theorem w_c {v : V} (q : Q v H) : tC v σ H Q := q
theorem w_op {r : R2} {ta tb : TE} (h : ta σ H fun x H1 => tb σ H1 fun y H2 => r x y H2 Q) : tOp r ta tb σ H Q := h
theorem w_un {r : V → Hp → VK → Prop} {ta : TE} (h : ta σ H fun x H1 => r x H1 Q) : tUn r ta σ H Q := h
theorem w_i0 {g : Int → Int → V} (q : Q (g i j) H) : rI0 g (.int i) (.int j) H Q := ⟨i, j, rfl, rfl, q⟩
theorem w_iC {C : Int → Int → Prop} {g : Int → Int → V} (c : C i j) (q : Q (g i j) H) : rI C g (.int i) (.int j) H Q := ⟨i, j, rfl, rfl, c, q⟩
theorem w_iU {g : Int → V} (q : Q (g i) H) : rU g (.int i) H Q := ⟨i, rfl, q⟩
theorem w_eq {x y : V} (s : scal x y = true) (q : Q (.bl (decide (x = y))) H) : rEq x y H Q := ⟨s, q⟩
theorem w_ne {x y : V} (s : scal x y = true) (q : Q (.bl (!decide (x = y))) H) : rNe x y H Q := ⟨s, q⟩
theorem w_eqI (q : Q (.bl (decide (i = j))) H) : rEq (.int i) (.int j) H Q := ⟨rfl, by
  have e : decide (V.int i = V.int j) = decide (i = j) := by simp
  rw [e]
  exact q⟩
theorem w_neI (q : Q (.bl (!decide (i = j))) H) : rNe (.int i) (.int j) H Q := ⟨rfl, by
  have e : decide (V.int i = V.int j) = decide (i = j) := by simp
  rw [e]
  exact q⟩
theorem w_eqS {x y : Str} (q : Q (.bl (decide (x = y))) H) : rEq (.str x) (.str y) H Q := ⟨rfl, by
  have e : decide (V.str x = V.str y) = decide (x = y) := by simp
  rw [e]
  exact q⟩
theorem w_neS {x y : Str} (q : Q (.bl (!decide (x = y))) H) : rNe (.str x) (.str y) H Q := ⟨rfl, by
  have e : decide (V.str x = V.str y) = decide (x = y) := by simp
  rw [e]
  exact q⟩
theorem w_ixL {a : Addr} {xs : List V} {v : V} (h : SqL K H a xs) (e : atI xs i = some v) (q : Q v H) : rIxL K (.ref a) (.int i) H Q := ⟨a, xs, i, v, rfl, rfl, h, e, q⟩
theorem w_ixT {a : Addr} {xs : List V} {v : V} (h : SqT K H a xs) (e : atI xs i = some v) (q : Q v H) : rIxT K (.ref a) (.int i) H Q := ⟨a, xs, i, v, rfl, rfl, h, e, q⟩
theorem w_tst {t : TE} {Q : Bool → Hp → Prop} (h : t σ H fun x H' => ∃ k, x = .bl k ∧ Q k H') : tTest t σ H Q := h
theorem w_tB {t : TE} {Q : Bool → Hp → Prop} (h : t σ H fun x H' => ∃ k, x = .bl k ∧ Q k H') : tB t σ H Q := h
theorem w_bl {k : Bool} {Q : Bool → Hp → Prop} (h : Q k H) : ∃ c, V.bl k = .bl c ∧ Q c H := ⟨k, rfl, h⟩
theorem w_and {t u : TT} {Q : Bool → Hp → Prop} (h : t σ H fun c H1 => if c = true then u σ H1 Q else Q false H1) : tAnd t u σ H Q := h
theorem w_or {t u : TT} {Q : Bool → Hp → Prop} (h : t σ H fun c H1 => if c = true then Q true H1 else u σ H1 Q) : tOr t u σ H Q := h
theorem w_not {t : TT} {Q : Bool → Hp → Prop} (h : t σ H fun c H1 => Q (!c) H1) : tNot t σ H Q := h
theorem w_tru {t : TE} {Q : Bool → Hp → Prop} (h : t σ H fun x H' => ∃ k, TruV K x H' k ∧ Q k H') : tTru K t σ H Q := h
theorem w_chain {r r' : R2} {ta tb tc : TE} (h : ta σ H fun x H1 => tb σ H1 fun y H2 => r x y H2 fun z H3 => ∃ k, z = .bl k ∧ (if k = true then tc σ H3 fun w' H4 => r' y w' H4 Q else Q (.bl false) H3)) : tChain r r' ta tb tc σ H Q := h
theorem w_isN {t : TE} (h : t σ H fun x H1 => Q (.bl (decide (x = .non))) H1) : tIsN t σ H Q := h
theorem w_notN {t : TE} (h : t σ H fun x H1 => Q (.bl (!decide (x = .non))) H1) : tNotN t σ H Q := h
theorem w_andV {ta tb : TE} (h : ta σ H fun x H1 => ∃ c, x = .bl c ∧ if c = true then tb σ H1 Q else Q (.bl false) H1) : tAndV ta tb σ H Q := h
theorem w_orV {ta tb : TE} (h : ta σ H fun x H1 => ∃ c, x = .bl c ∧ if c = true then Q (.bl true) H1 else tb σ H1 Q) : tOrV ta tb σ H Q := h
theorem w_notV {ta : TE} (h : ta σ H fun x H1 => ∃ c, x = .bl c ∧ Q (.bl (!c)) H1) : tNotV ta σ H Q := h
theorem w_bl2 {k : Bool} {R : Bool → Prop} (h : R k) : ∃ c, V.bl k = .bl c ∧ R c := ⟨k, rfl, h⟩
theorem w_if {c : TT} {t u : TS} (h : c σ H fun b H1 => if b = true then t D σ H1 else u D σ H1) : tIfS c t u D σ H := h
theorem w_ife {t : TT} {ta tb : TE} (h : t σ H fun c H1 => if c = true then ta σ H1 Q else tb σ H1 Q) : tIf t ta tb σ H Q := h
theorem w_seq {t u : TS} (h : t { D with nx := u D } σ H) : tSeq t u D σ H := h
theorem w_next (h : D.nx σ H) : tNext D σ H := h
theorem w_ret {te : TE} (h : te σ H D.rt) : tRet te D σ H := h
theorem w_retN (h : D.rt .non H) : tRetN D σ H := h
theorem w_drop {te : TE} (h : te σ H fun _ H1 => D.nx σ H1) : tDrop te D σ H := h
theorem w_asg {te : TE} {g : TG} (h : te σ H fun x H1 => g x σ H1 D.nx) : tAsg te g D σ H := h
theorem w_gn {n : Nat} {v : V} {R : L2.St → Hp → Prop} (h : R (σ.set n (some v)) H) : gName n v σ H R := h
theorem w_gsub {to ti : TE} {t : TSet} {v : V} {R : L2.St → Hp → Prop} (h : to σ H fun o H1 => ti σ H1 fun i H2 => t o i v H2 fun H3 => R σ H3) : gSub to ti t v σ H R := h
theorem w_setL {a : Addr} {xs : List V} {k : Nat} {v : V} {R : Hp → Prop} (h : H a = some (.lst xs)) (e : ixN xs.length i = some k) (q : R (upd H a (.lst (xs.set k v)))) : rSetL (.ref a) (.int i) v H R := ⟨a, xs, i, k, rfl, rfl, h, e, q⟩
theorem w_nil {R : List V → Hp → Prop} (h : R [] H) : tNil σ H R := h
theorem w_cons {ta : TE} {tr : TA} {R : List V → Hp → Prop} (h : ta σ H fun x H1 => tr σ H1 fun xs H2 => R (x :: xs) H2) : tCons ta tr σ H R := h
theorem w_tup {t : TA} (h : t σ H fun xs H1 => xs.length ≤ sizeLine ∧ ∀ p, H1 p = none → Q (.ref p) (upd H1 p (.tup xs))) : tTup t σ H Q := h
theorem w_lst {t : TA} (h : t σ H fun xs H1 => xs.length ≤ sizeLine ∧ ∀ p, H1 p = none → Q (.ref p) (upd H1 p (.lst xs))) : tLst t σ H Q := h
theorem w_call {sp : Sp} {E : XK} {t : TA} (h : t σ H fun vs H1 => sp (vs ++ []) H1 Q E) : tCall sp [] E t σ H Q := h
theorem w_cb {r : List V → Hp → VK → Prop} {t : TA} (h : t σ H fun vs H1 => r vs H1 Q) : tCB r t σ H Q := h
theorem w_sl {r : V → Option Int → Option Int → Hp → VK → Prop} {te : TE} {tl th : TO} (h : te σ H fun x H1 => tl σ H1 fun l H2 => th σ H2 fun u H3 => r x l u H3 Q) : tSl r te tl th σ H Q := h
theorem w_noP {R : Option Int → Hp → Prop} (h : R none H) : tNoPart σ H R := h
theorem w_part {t : TE} {R : Option Int → Hp → Prop} (h : t σ H fun x H1 => ∃ i, x = .int i ∧ R (some i) H1) : tPart t σ H R := h
theorem w_int {R : Int → Prop} (h : R i) : ∃ i', V.int i = .int i' ∧ R i' := ⟨i, rfl, h⟩
theorem w_fld {ta : TE} {f : Str} (h : ta σ H fun x H1 => ∃ a C dx fs v, x = .ref a ∧ H1 a = some (.ins C dx fs) ∧ Cls K C ∧ NoAttr K C f ∧ fs.lookup f = some v ∧ Q v H1) : tFld K ta f σ H Q := h
theorem w_bm {T : String} {r : V → List V → Hp → VK → Prop} {to : TE} {t : TA} (h : to σ H fun x H1 => tyV K T x H1 ∧ t σ H1 fun xs H2 => r x xs H2 Q) : tBM K T r to t σ H Q := h
theorem w_bm0 {T : String} {r : V → List V → Hp → VK → Prop} {to : TE} (h : to σ H fun x H1 => tyV K T x H1 ∧ r x [] H1 Q) : tBM0 K T r to σ H Q := h
theorem w_sfld {ta tv : TE} {f : Str} (h : tv σ H fun y H1 => ta σ H1 fun x H2 => ∃ a C dx fs, x = .ref a ∧ H2 a = some (.ins C dx fs) ∧ Cls K C ∧ NoAttr K C f ∧ fs.length < 1000 ∧
  D.nx σ (upd H2 a (.ins C dx (putF f y fs)))) : sFld K ta tv f D σ H := h
theorem w_make {C : Addr} {sp : Sp} {E : XK} {t : TA} (h : t σ H fun vs H1 => ∀ x dx, H1 x = none → H1 dx = none → dx ≠ x →
  sp (.ref x :: (vs ++ [])) (upd (upd H1 dx (.own x)) x (.ins C dx [])) (fun v H2 => v = .non ∧ Q (.ref x) H2) E) : tMake C sp [] E t σ H Q := h
theorem w_revT {te : TE} (h : te σ H fun x H1 => ∃ a xs, x = .ref a ∧ SqT K H1 a xs ∧ ∀ p, H1 p = none → Q (.ref p) (upd H1 p (.tup xs.reverse))) : tRevT K te σ H Q := h
theorem w_lsr {te : TE} (h : te σ H fun x H1 => ∃ n, x = .int n ∧ RgOk 0 n ∧ ∀ q, H1 q = none → Q (.ref q) (upd H1 q (.lst (rgV 0 n)))) : tLstRg (tRg1 te) σ H Q := h
theorem w_notT {te : TE} (h : te σ H fun x H1 => ∃ k, TruV K x H1 k ∧ Q (.bl (!k)) H1) : tNotT K te σ H Q := h
theorem w_abs (q : Q (.int (if i < 0 then -i else i)) H) : rAbs [.int i] H Q := ⟨i, rfl, q⟩
theorem w_max2 (q : Q (.int (if j > i then j else i)) H) : rMax2 [.int i, .int j] H Q := ⟨i, j, rfl, q⟩
theorem w_min2 (q : Q (.int (if j < i then j else i)) H) : rMin2 [.int i, .int j] H Q := ⟨i, j, rfl, q⟩
theorem w_int1 (q : Q (.int i) H) : rInt1 [.int i] H Q := .inl ⟨i, rfl, q⟩
theorem w_repB {b : Bool} (q : Q (.str (if b then "True" else "False")) H) : rReprB [.bl b] H Q := ⟨b, rfl, q⟩
theorem w_lenL {a : Addr} {xs : List V} (h : SqL K H a xs) (q : Q (.int (xs.length : Nat)) H) : rLenV K [.ref a] H Q := ⟨.ref a, xs.length, rfl, .inl ⟨xs, h, rfl⟩, q⟩
theorem w_lenT {a : Addr} {xs : List V} (h : SqT K H a xs) (q : Q (.int (xs.length : Nat)) H) : rLenV K [.ref a] H Q := ⟨.ref a, xs.length, rfl, .inr ⟨xs, h, rfl⟩, q⟩
theorem w_tupL {a : Addr} {xs : List V} (h : SqL K H a xs) (q : ∀ l, H l = none → Q (.ref l) (upd H l (.tup xs))) : rTupOf K [.ref a] H Q := ⟨a, xs, rfl, .inl ⟨h, q⟩⟩
theorem w_tupT {a : Addr} {xs : List V} (h : SqT K H a xs) (q : Q (.ref a) H) : rTupOf K [.ref a] H Q := ⟨a, xs, rfl, .inr ⟨h, q⟩⟩
theorem w_lstL {a : Addr} {xs : List V} (h : SqL K H a xs) (q : ∀ l, H l = none → Q (.ref l) (upd H l (.lst xs))) : rLstOf K [.ref a] H Q := ⟨a, xs, rfl, .inl h, q⟩
theorem w_lstT {a : Addr} {xs : List V} (h : SqT K H a xs) (q : ∀ l, H l = none → Q (.ref l) (upd H l (.lst xs))) : rLstOf K [.ref a] H Q := ⟨a, xs, rfl, .inr h, q⟩
theorem w_slL {a : Addr} {xs : List V} {lo hi : Option Int} (h : SqL K H a xs) (q : ∀ l, H l = none → Q (.ref l) (upd H l (.lst (cutV xs lo hi)))) : rSlL K (.ref a) lo hi H Q := ⟨a, xs, rfl, h, q⟩
theorem w_app {a : Addr} {xs : List V} {y : V} (h : H a = some (.lst xs)) (z : xs.length < sizeLine) (q : Q .non (upd H a (.lst (xs ++ [y])))) : rAppend (.ref a) [y] H Q := ⟨a, xs, y, rfl, rfl, h, z, q⟩
theorem w_pop {a : Addr} {xs : List V} {y : V} (h : H a = some (.lst xs)) (z : xs[xs.length - 1]? = some y) (q : Q y (upd H a (.lst xs.dropLast))) : rPop (.ref a) [] H Q := ⟨a, xs, y, rfl, rfl, h, z, q⟩
theorem w_cat {a b : Addr} {xs ys : List V} (h : H a = some (.lst xs)) (g : H b = some (.lst ys)) (z : xs.length + ys.length ≤ sizeLine) (q : ∀ p, H p = none → Q (.ref p) (upd H p (.lst (xs ++ ys)))) : rCat (.ref a) (.ref b) H Q := ⟨a, b, xs, ys, rfl, rfl, h, g, z, q⟩
theorem tyL {a : Addr} {xs : List V} (h : H a = some (.lst xs)) : tyV K "list" (.ref a) H := .inl ⟨rfl, _, SqL.of h⟩
theorem w_aug {n : Nat} {te : TE} {ti : TIp} {x : V} (hx : σ[n]? = some (some x)) (h : te σ H fun y H1 => ti x y H1 fun z H2 => D.nx (σ.set n (some z)) H2) : tAug n te ti D σ H := ⟨x, hx, h⟩
theorem w_ip {f : Int → Int → Int} (q : Q (.int (f i j)) H) : ipI f (.int i) (.int j) H Q := ⟨i, j, rfl, rfl, q⟩
end

/-! ## decisions -/
section
variable {p A B : Prop} [Decidable p]
theorem w_dT (h : p) (q : A) : if decide p = true then A else B := by
  rw [if_pos (decide_eq_true h)]
  exact q
theorem w_dF (h : ¬ p) (q : B) : if decide p = true then A else B := by
  rw [if_neg (fun z => h (of_decide_eq_true z))]
  exact q
theorem w_d2 (a : p → A) (b : ¬ p → B) : if decide p = true then A else B := by
  by_cases h : p
  · exact w_dT h (a h)
  · exact w_dF h (b h)
theorem w_nT (h : ¬ p) (q : A) : if (!decide p) = true then A else B := by
  rw [decide_eq_false h]
  exact iteT q
theorem w_nF (h : p) (q : B) : if (!decide p) = true then A else B := by
  rw [decide_eq_true h]
  exact iteF q
theorem w_n2 (a : ¬ p → A) (b : p → B) : if (!decide p) = true then A else B := by
  by_cases h : p
  · exact w_nF h (b h)
  · exact w_nT h (a h)
end
section
variable {A B : Prop}
theorem w_nt (q : B) : if (!true) = true then A else B := iteF q
theorem w_nf (q : A) : if (!false) = true then A else B := iteT q
theorem w_b2 {b : Bool} (a : b = true → A) (c : b = false → B) : if b = true then A else B := by
  cases b with
  | true => exact iteT (a rfl)
  | false => exact iteF (c rfl)
theorem w_nb2 {b : Bool} (a : b = false → A) (c : b = true → B) : if (!b) = true then A else B := by
  cases b with
  | true => exact w_nt (c rfl)
  | false => exact w_nf (a rfl)
theorem w_bT {b : Bool} (h : b = true) (q : A) : if b = true then A else B := by
  subst h
  exact iteT q
theorem w_bF {b : Bool} (h : b = false) (q : B) : if b = true then A else B := by
  subst h
  exact iteF q
theorem w_nbT {b : Bool} (h : b = false) (q : A) : if (!b) = true then A else B := by
  subst h
  exact w_nf q
theorem w_nbF {b : Bool} (h : b = true) (q : B) : if (!b) = true then A else B := by
  subst h
  exact w_nt q
end
/-! ## lists of numbers, of booleans -/
abbrev gt (l : List Nat) (i : Nat) : Nat := l.getD i 0
def nv (l : List Nat) : List V := l.map fun (n : Nat) => V.int (n : Int)
def bv (l : List Bool) : List V := l.map V.bl
abbrev bt (l : List Bool) (i : Nat) : Bool := l.getD i false
theorem nv_len (l : List Nat) : (nv l).length = l.length := by unfold nv; rw [List.length_map]
theorem bv_len (l : List Bool) : (bv l).length = l.length := by unfold bv; rw [List.length_map]
theorem gt_some {l : List Nat} {i : Nat} (h : i < l.length) : l[i]? = some (gt l i) := by
  unfold gt
  rw [List.getD_eq_getElem?_getD, List.getElem?_eq_getElem h]
  rfl
theorem bt_some {l : List Bool} {i : Nat} (h : i < l.length) : l[i]? = some (bt l i) := by
  unfold bt
  rw [List.getD_eq_getElem?_getD, List.getElem?_eq_getElem h]
  rfl
theorem nv_get {l : List Nat} {i : Nat} (h : i < l.length) : (nv l)[i]? = some (.int (gt l i : Nat)) := by
  unfold nv
  rw [List.getElem?_map, gt_some h]
  rfl
theorem bv_get {l : List Bool} {i : Nat} (h : i < l.length) : (bv l)[i]? = some (.bl (bt l i)) := by
  unfold bv
  rw [List.getElem?_map, bt_some h]
  rfl
theorem nv_of {l : List Nat} {i : Nat} {x : V} (h : (nv l)[i]? = some x) : i < l.length ∧ x = .int (gt l i : Nat) := by
  have hi : i < l.length := by
    obtain ⟨z, _⟩ := List.getElem?_eq_some_iff.mp h
    rwa [nv_len] at z
  rw [nv_get hi] at h
  exact ⟨hi, (Option.some.inj h).symm⟩
theorem at_nv {l : List Nat} {i : Nat} (h : i < l.length) : atI (nv l) (i : Nat) = some (.int (gt l i : Nat)) := atI_nat (nv_get h)
theorem at_bv {l : List Bool} {i : Nat} (h : i < l.length) : atI (bv l) (i : Nat) = some (.bl (bt l i)) := atI_nat (bv_get h)
theorem at0 {xs : List V} {v : V} (h : xs[0]? = some v) : atI xs 0 = some v := atI_nat (j := 0) h
theorem at1 {xs : List V} {v : V} (h : xs[1]? = some v) : atI xs 1 = some v := atI_nat (j := 1) h
theorem at2 {xs : List V} {v : V} (h : xs[2]? = some v) : atI xs 2 = some v := atI_nat (j := 2) h
theorem ix_nat {n i : Nat} (h : i < n) : ixN n (i : Nat) = some i := by
  unfold ixN
  rw [if_pos (Int.natCast_nonneg i), if_pos (by omega)]
  rfl
theorem nv_set (l : List Nat) (i x : Nat) : (nv l).set i (.int (x : Nat)) = nv (l.set i x) := by
  unfold nv
  rw [List.map_set]
theorem bv_set (l : List Bool) (i : Nat) (b : Bool) : (bv l).set i (.bl b) = bv (l.set i b) := by
  unfold bv
  rw [List.map_set]
theorem nv_app (l m : List Nat) : nv l ++ nv m = nv (l ++ m) := by
  unfold nv
  rw [List.map_append]
theorem bv_app (l m : List Bool) : bv l ++ bv m = bv (l ++ m) := by
  unfold bv
  rw [List.map_append]
theorem gt_set {l : List Nat} {i j x : Nat} (h : i < l.length) : gt (l.set i x) j = if j = i then x else gt l j := by
  unfold gt
  rw [List.getD_eq_getElem?_getD, List.getElem?_set]
  by_cases e : i = j
  · subst e
    simp [h]
  · have e2 : ¬ j = i := fun z => e z.symm
    simp [e, e2]
theorem bt_set {l : List Bool} {i j : Nat} {x : Bool} (h : i < l.length) : bt (l.set i x) j = if j = i then x else bt l j := by
  unfold bt
  rw [List.getD_eq_getElem?_getD, List.getElem?_set]
  by_cases e : i = j
  · subst e
    simp [h]
  · have e2 : ¬ j = i := fun z => e z.symm
    simp [e, e2]
theorem take_snoc {α : Type} {l : List α} {i : Nat} {x : α} (h : l[i]? = some x) : l.take (i + 1) = l.take i ++ [x] := by
  rw [List.take_add_one, h]
  rfl
theorem szl {n : Nat} (h : n ≤ 1000000) : n ≤ sizeLine := Nat.le_trans h (by rw [sizeLine_eq]; decide)
theorem szlt {n : Nat} (h : n ≤ 1000000) : n < sizeLine := Nat.lt_of_le_of_lt h (by rw [sizeLine_eq]; decide)

/-! ## loops and comprehensions -/
def forB (g : TG) (tb : TS) (D : Ends) (σ : L2.St) : It → Hp → Prop := fun J H1 => ∃ W : Nat → Nat → L2.St → Hp → Prop,
  (∃ m, W 0 m σ H1) ∧ ∀ i m σ H, W i m σ H →
    (J.stop i H ∧ D.nx σ H) ∨
    (J.go i H ∧ ∃ N : L2.St → Hp → Prop, (∀ σ' H', N σ' H' → ∃ m', m' < m ∧ W (i + 1) m' σ' H') ∧
      ∀ x H', J.yld i H x H' → g x σ H' fun σ2 H2 => tb { D with nx := N, ct := N, bk := D.nx } σ2 H2)
def lcB (g : TG) (tt : TT) (te : TE) (vs : List Nat) (σ : L2.St) (Q : VK) : It → Hp → Prop := fun J H1 => ∀ D, H1 D = none →
  ∃ W : Nat → Nat → Hp → Prop, (∃ m, W 0 m (upd H1 D (.lst []))) ∧ ∀ i m H, W i m H →
    (J.stop i H ∧ Q (.ref D) H) ∨
    (J.go i H ∧ ∃ Nx : Hp → Prop, (∀ H', Nx H' → ∃ m', m' < m ∧ W (i + 1) m' H') ∧
      ∀ x H', J.yld i H x H' → g x (wipe σ vs) H' fun σ2 H2 => wipe σ2 vs = wipe σ vs ∧ tt σ2 H2 fun b H3 =>
        if b = true then te σ2 H3 fun y H4 => ∃ acc, H4 D = some (.lst acc) ∧ acc.length < sizeLine ∧ Nx (upd H4 D (.lst (acc ++ [y]))) else Nx H3)
section
variable {K : PySem.W.Frag} {σ : L2.St} {H H1 : Hp} {Q : VK} {D : Ends} {g : TG} {tb : TS} {tt : TT} {te : TE} {vs : List Nat} {ta : TA} {tl : TE} {a : Addr} {xs : List V} {j j2 : Nat}
theorem w_fr1 (h : ta σ H fun ws H1 => ∃ i : Int, ws = [.int i] ∧ -(2 ^ 62) ≤ i ∧ i < 2 ^ 62 ∧ forB g tb D σ (Itr 0 i.toNat) H1) : tFor (iRng1 ta) g tb D σ H := h
theorem w_fl (h : tl σ H fun x H1 => ∃ a, x = .ref a ∧ (∃ xs, SqL K H1 a xs) ∧ forB g tb D σ (Itl K a) H1) : tFor (iList K tl) g tb D σ H := h
theorem w_ft (h : tl σ H fun x H1 => ∃ a, x = .ref a ∧ (∃ xs, SqT K H1 a xs) ∧ forB g tb D σ (Itt K a) H1) : tFor (iTup K tl) g tb D σ H := h
theorem w_fe (h : ta σ H fun ws H1 => ∃ a xs, ws = [.ref a] ∧ SqL K H1 a xs ∧ forB g tb D σ (Ite K a) H1) : tFor (iEnum K ta) g tb D σ H := h
theorem w_fet (h : ta σ H fun ws H1 => ∃ a xs, ws = [.ref a] ∧ SqT K H1 a xs ∧ forB g tb D σ (Iet K a) H1) : tFor (iEnT K ta) g tb D σ H := h
theorem w_cr1 (h : ta σ H fun ws H1 => ∃ i : Int, ws = [.int i] ∧ -(2 ^ 62) ≤ i ∧ i < 2 ^ 62 ∧ lcB g tt te vs σ Q (Itr 0 i.toNat) H1) : tLc (iRng1 ta) g tt te vs σ H Q := h
theorem w_cl (h : tl σ H fun x H1 => ∃ a, x = .ref a ∧ (∃ xs, SqL K H1 a xs) ∧ lcB g tt te vs σ Q (Itl K a) H1) : tLc (iList K tl) g tt te vs σ H Q := h
theorem w_ct (h : tl σ H fun x H1 => ∃ a, x = .ref a ∧ (∃ xs, SqT K H1 a xs) ∧ lcB g tt te vs σ Q (Itt K a) H1) : tLc (iTup K tl) g tt te vs σ H Q := h
theorem w_cet (h : ta σ H fun ws H1 => ∃ a xs, ws = [.ref a] ∧ SqT K H1 a xs ∧ lcB g tt te vs σ Q (Iet K a) H1) : tLc (iEnT K ta) g tt te vs σ H Q := h
theorem w_cs (h : te σ H fun x H1 => ∃ z, x = .str z ∧ lcB g tt tl vs σ Q (Its z) H1) : tLc (iStr te) g tt tl vs σ H Q := h
/-- for i in range(n) -/
theorem fr1 {n : Nat} {m : Int} (e : m = (n : Nat)) (hn : n ≤ 1000000) (Pv : Nat → L2.St → Hp → Prop) (h0 : Pv 0 σ H1)
    (hs : ∀ i σ H, i < n → Pv i σ H → tb { D with nx := Pv (i + 1), ct := Pv (i + 1), bk := D.nx } (σ.set j (some (.int (i : Nat)))) H)
    (hd : ∀ σ H, Pv n σ H → D.nx σ H) :
    ∃ i : Int, [V.int m] = [.int i] ∧ -(2 ^ 62) ≤ i ∧ i < 2 ^ 62 ∧ forB (gName j) tb D σ (Itr 0 i.toNat) H1 := by
  subst e
  refine ⟨_, rfl, by omega, by omega, ?_⟩
  rw [Int.toNat_natCast]
  refine for_range (lo := 0) (n := n) Pv h0 (fun i σ H hi p => ?_) hd
  show tb _ (σ.set j (some (.int (0 + (i : Nat))))) H
  rw [Int.zero_add]
  exact hs i σ H hi p
/-- for x in xs -/
theorem fl (hS : SqL K H1 a xs) (Pv : Nat → L2.St → Hp → Prop) (h0 : Pv 0 σ H1) (hl : ∀ i σ H, i ≤ xs.length → Pv i σ H → SqL K H a xs)
    (hs : ∀ i x σ H, xs[i]? = some x → Pv i σ H → g x σ H fun σ2 H2 => tb { D with nx := Pv (i + 1), ct := Pv (i + 1), bk := D.nx } σ2 H2)
    (hd : ∀ σ H, Pv xs.length σ H → D.nx σ H) : ∃ b, V.ref a = .ref b ∧ (∃ xs, SqL K H1 b xs) ∧ forB g tb D σ (Itl K b) H1 :=
  ⟨a, rfl, ⟨xs, hS⟩, for_list (xs := xs) Pv h0 hl hs hd⟩
theorem ft (hS : SqT K H1 a xs) (Pv : Nat → L2.St → Hp → Prop) (h0 : Pv 0 σ H1) (hl : ∀ i σ H, i ≤ xs.length → Pv i σ H → SqT K H a xs)
    (hs : ∀ i x σ H, xs[i]? = some x → Pv i σ H → g x σ H fun σ2 H2 => tb { D with nx := Pv (i + 1), ct := Pv (i + 1), bk := D.nx } σ2 H2)
    (hd : ∀ σ H, Pv xs.length σ H → D.nx σ H) : ∃ b, V.ref a = .ref b ∧ (∃ xs, SqT K H1 b xs) ∧ forB g tb D σ (Itt K b) H1 :=
  ⟨a, rfl, ⟨xs, hS⟩, for_tup (xs := xs) Pv h0 hl hs hd⟩
/-- for i, x in enumerate(xs) -/
theorem fe (hS : SqL K H1 a xs) (Pv : Nat → L2.St → Hp → Prop) (h0 : Pv 0 σ H1) (hl : ∀ i σ H, i ≤ xs.length → Pv i σ H → SqL K H a xs)
    (hs : ∀ i x σ H H', xs[i]? = some x → Pv i σ H → Same H H' → tb { D with nx := Pv (i + 1), ct := Pv (i + 1), bk := D.nx } ((σ.set j (some (.int (i : Nat)))).set j2 (some x)) H')
    (hd : ∀ σ H, Pv xs.length σ H → D.nx σ H) :
    ∃ b ys, [V.ref a] = [.ref b] ∧ SqL K H1 b ys ∧ forB (gTup K 2 (gCons (gName j) (gCons (gName j2) gNil))) tb D σ (Ite K b) H1 := by
  refine ⟨a, xs, rfl, hS, for_it (walk_enum (xs := xs)) Pv h0 hl ?_ hd⟩
  rintro i x σ H H' hi p ⟨T, y, z, rfl, hT, rfl, e1, e2⟩
  have ey : V.int (i : Nat) = y := Option.some.inj e1
  subst ey
  exact ⟨T, _, rfl, SqT.of upd_same, rfl, _, _, rfl, _, _, rfl, rfl, hs i z σ H _ e2 p (Same.tnew hT)⟩
theorem fet (hS : SqT K H1 a xs) (Pv : Nat → L2.St → Hp → Prop) (h0 : Pv 0 σ H1) (hl : ∀ i σ H, i ≤ xs.length → Pv i σ H → SqT K H a xs)
    (hs : ∀ i x σ H H', xs[i]? = some x → Pv i σ H → Same H H' → tb { D with nx := Pv (i + 1), ct := Pv (i + 1), bk := D.nx } ((σ.set j (some (.int (i : Nat)))).set j2 (some x)) H')
    (hd : ∀ σ H, Pv xs.length σ H → D.nx σ H) :
    ∃ b ys, [V.ref a] = [.ref b] ∧ SqT K H1 b ys ∧ forB (gTup K 2 (gCons (gName j) (gCons (gName j2) gNil))) tb D σ (Iet K b) H1 := by
  refine ⟨a, xs, rfl, hS, for_it (walk_enumT (xs := xs)) Pv h0 hl ?_ hd⟩
  rintro i x σ H H' hi p ⟨T, y, z, rfl, hT, rfl, e1, e2⟩
  have ey : V.int (i : Nat) = y := Option.some.inj e1
  subst ey
  exact ⟨T, _, rfl, SqT.of upd_same, rfl, _, _, rfl, _, _, rfl, rfl, hs i z σ H _ e2 p (Same.tnew hT)⟩
/-- what a comprehension lays by the turns: the list at D, all else as in H -/
structure LcAt (H : Hp) (D : Addr) (vs : List V) (H' : Hp) : Prop where
  fr : H D = none
  sm : Same H H'
  at_ : H' D = some (.lst vs)
theorem LcAt.start (h : H D0 = none) : LcAt H D0 [] (upd H D0 (.lst [])) := ⟨h, Same.tnew h, upd_same⟩
theorem LcAt.more {D0 : Addr} {ws : List V} {H2 H3 : Hp} {y : V} (p : LcAt H D0 ws H2) (s : Same H2 H3) : LcAt H D0 (ws ++ [y]) (upd H3 D0 (.lst (ws ++ [y]))) :=
  ⟨p.fr, (p.sm.trans s).tmut p.fr, upd_same⟩
theorem LcAt.pass {D0 : Addr} {ws : List V} {H2 H3 : Hp} (p : LcAt H D0 ws H2) (s : Same H2 H3) : LcAt H D0 ws H3 := ⟨p.fr, p.sm.trans s, s _ _ p.at_⟩
/-- [te for i in range(n) if tt], told by values: b i, f i -/
def picked (n : Nat) (b : Nat → Bool) (f : Nat → V) : List V := ((List.range n).filter b).map f
theorem picked_succ (n : Nat) (b : Nat → Bool) (f : Nat → V) : picked (n + 1) b f = if b n = true then picked n b f ++ [f n] else picked n b f := by
  unfold picked
  rw [List.range_succ, List.filter_append, List.map_append]
  cases h : b n with
  | true => simp [h]
  | false => simp [h]
theorem picked_le (n : Nat) (b : Nat → Bool) (f : Nat → V) : (picked n b f).length ≤ n := by
  unfold picked
  rw [List.length_map]
  have := List.length_filter_le b (List.range n)
  rwa [List.length_range] at this
theorem picked_all (n : Nat) (f : Nat → V) : picked n (fun _ => true) f = (List.range n).map f := by
  unfold picked
  rw [List.filter_eq_self.mpr (fun _ _ => rfl)]
theorem lc_turn {D0 : Addr} {n : Nat} {b : Nat → Bool} {f : Nat → V} {H2 : Hp} {σ2 : L2.St} (hn : n < 1000000) (p : LcAt H1 D0 (picked n b f) H2)
    (ht : ∀ H' (R : Bool → Hp → Prop), Same H1 H' → (∀ H3, Same H' H3 → R (b n) H3) → tt σ2 H' R)
    (he : ∀ H' (R : VK), b n = true → Same H1 H' → (∀ H3, Same H' H3 → R (f n) H3) → te σ2 H' R) :
    tt σ2 H2 fun c H3 => if c = true then te σ2 H3 fun y H4 => ∃ acc, H4 D0 = some (.lst acc) ∧ acc.length < sizeLine ∧ LcAt H1 D0 (picked (n + 1) b f) (upd H4 D0 (.lst (acc ++ [y])))
      else LcAt H1 D0 (picked (n + 1) b f) H3 := by
  refine ht H2 _ p.sm fun H3 s3 => ?_
  cases hb : b n with
  | true =>
    refine iteT (he H3 _ hb (p.sm.trans s3) fun H4 s4 => ⟨_, s4 _ _ (s3 _ _ p.at_), szlt (by have := picked_le n b f; omega), ?_⟩)
    have e : picked (n + 1) b f = picked n b f ++ [f n] := by rw [picked_succ, hb]; rfl
    rw [e]
    exact p.more (s3.trans s4)
  | false =>
    refine iteF ?_
    have e : picked (n + 1) b f = picked n b f := by rw [picked_succ, hb]; rfl
    rw [e]
    exact p.pass s3
/-- over a range -/
theorem cr1 {n : Nat} {m : Int} (e : m = (n : Nat)) (hn : n ≤ 1000000) (b : Nat → Bool) (f : Nat → V)
    (hw : ∀ x, wipe ((wipe σ vs).set j (some x)) vs = wipe σ vs)
    (ht : ∀ i H' (R : Bool → Hp → Prop), i < n → Same H1 H' → (∀ H3, Same H' H3 → R (b i) H3) → tt ((wipe σ vs).set j (some (.int (i : Nat)))) H' R)
    (he : ∀ i H' (R : VK), i < n → b i = true → Same H1 H' → (∀ H3, Same H' H3 → R (f i) H3) → te ((wipe σ vs).set j (some (.int (i : Nat)))) H' R)
    (q : ∀ p H', H1 p = none → Same H1 H' → H' p = some (.lst (picked n b f)) → Q (.ref p) H') :
    ∃ i : Int, [V.int m] = [.int i] ∧ -(2 ^ 62) ≤ i ∧ i < 2 ^ 62 ∧ lcB (gName j) tt te vs σ Q (Itr 0 i.toNat) H1 := by
  subst e
  refine ⟨_, rfl, by omega, by omega, fun D0 hD => ?_⟩
  rw [Int.toNat_natCast]
  refine lc_range (lo := 0) (n := n) (fun i H' => LcAt H1 D0 (picked i b f) H') (LcAt.start hD) (fun i H' hi p => ?_) (fun H' p => q D0 H' hD p.sm p.at_)
  show wipe ((wipe σ vs).set j (some (.int (0 + (i : Nat))))) vs = wipe σ vs ∧ tt ((wipe σ vs).set j (some (.int (0 + (i : Nat))))) H' _
  rw [Int.zero_add]
  exact ⟨hw _, lc_turn (by omega) p (fun H' R s k => ht i H' R hi s k) (fun H' R hb s k => he i H' R hi hb s k)⟩
/-- over a list, a tuple -/
theorem cl (hS : SqL K H1 a xs) (hn : xs.length ≤ 1000000) (b : Nat → Bool) (f : Nat → V)
    (hw : ∀ x, wipe ((wipe σ vs).set j (some x)) vs = wipe σ vs)
    (ht : ∀ i x H' (R : Bool → Hp → Prop), xs[i]? = some x → Same H1 H' → (∀ H3, Same H' H3 → R (b i) H3) → tt ((wipe σ vs).set j (some x)) H' R)
    (he : ∀ i x H' (R : VK), xs[i]? = some x → b i = true → Same H1 H' → (∀ H3, Same H' H3 → R (f i) H3) → te ((wipe σ vs).set j (some x)) H' R)
    (q : ∀ p H', H1 p = none → Same H1 H' → H' p = some (.lst (picked xs.length b f)) → Q (.ref p) H') :
    ∃ c, V.ref a = .ref c ∧ (∃ xs, SqL K H1 c xs) ∧ lcB (gName j) tt te vs σ Q (Itl K c) H1 := by
  refine ⟨a, rfl, ⟨xs, hS⟩, fun D0 hD => ?_⟩
  refine lc_list (xs := xs) (fun i H' => LcAt H1 D0 (picked i b f) H') (LcAt.start hD) (fun i H' _ p => p.sm.tL hS) (fun i x H' hi p => ?_) (fun H' p => q D0 H' hD p.sm p.at_)
  have hlt : i < xs.length := (List.getElem?_eq_some_iff.mp hi).1
  exact ⟨hw _, lc_turn (by omega) p (fun H' R s k => ht i x H' R hi s k) (fun H' R hb s k => he i x H' R hi hb s k)⟩
theorem ct (hS : SqT K H1 a xs) (hn : xs.length ≤ 1000000) (b : Nat → Bool) (f : Nat → V)
    (hw : ∀ x, wipe ((wipe σ vs).set j (some x)) vs = wipe σ vs)
    (ht : ∀ i x H' (R : Bool → Hp → Prop), xs[i]? = some x → Same H1 H' → (∀ H3, Same H' H3 → R (b i) H3) → tt ((wipe σ vs).set j (some x)) H' R)
    (he : ∀ i x H' (R : VK), xs[i]? = some x → b i = true → Same H1 H' → (∀ H3, Same H' H3 → R (f i) H3) → te ((wipe σ vs).set j (some x)) H' R)
    (q : ∀ p H', H1 p = none → Same H1 H' → H' p = some (.lst (picked xs.length b f)) → Q (.ref p) H') :
    ∃ c, V.ref a = .ref c ∧ (∃ xs, SqT K H1 c xs) ∧ lcB (gName j) tt te vs σ Q (Itt K c) H1 := by
  refine ⟨a, rfl, ⟨xs, hS⟩, fun D0 hD => ?_⟩
  refine lc_tup (xs := xs) (fun i H' => LcAt H1 D0 (picked i b f) H') (LcAt.start hD) (fun i H' _ p => p.sm.tT hS) (fun i x H' hi p => ?_) (fun H' p => q D0 H' hD p.sm p.at_)
  have hlt : i < xs.length := (List.getElem?_eq_some_iff.mp hi).1
  exact ⟨hw _, lc_turn (by omega) p (fun H' R s k => ht i x H' R hi s k) (fun H' R hb s k => he i x H' R hi hb s k)⟩
/-- over enumerate of a tuple -/
theorem cet (hS : SqT K H1 a xs) (hn : xs.length ≤ 1000000) (b : Nat → Bool) (f : Nat → V)
    (hw : ∀ x y, wipe (((wipe σ vs).set j (some x)).set j2 (some y)) vs = wipe σ vs)
    (ht : ∀ i x H' (R : Bool → Hp → Prop), xs[i]? = some x → Same H1 H' → (∀ H3, Same H' H3 → R (b i) H3) → tt (((wipe σ vs).set j (some (.int (i : Nat)))).set j2 (some x)) H' R)
    (he : ∀ i x H' (R : VK), xs[i]? = some x → b i = true → Same H1 H' → (∀ H3, Same H' H3 → R (f i) H3) → te (((wipe σ vs).set j (some (.int (i : Nat)))).set j2 (some x)) H' R)
    (q : ∀ p H', H1 p = none → Same H1 H' → H' p = some (.lst (picked xs.length b f)) → Q (.ref p) H') :
    ∃ c ys, [V.ref a] = [.ref c] ∧ SqT K H1 c ys ∧ lcB (gTup K 2 (gCons (gName j) (gCons (gName j2) gNil))) tt te vs σ Q (Iet K c) H1 := by
  refine ⟨a, xs, rfl, hS, fun D0 hD => ?_⟩
  refine lc_it (walk_enumT (xs := xs)) (fun i H' => LcAt H1 D0 (picked i b f) H') (LcAt.start hD) (fun i H' _ p => p.sm.tT hS) ?_ (fun H' p => q D0 H' hD p.sm p.at_)
  rintro i v H2 H3 hi p ⟨T, y, z, rfl, hT, rfl, e1, e2⟩
  have ey : V.int (i : Nat) = y := Option.some.inj e1
  subst ey
  refine ⟨T, _, rfl, SqT.of upd_same, rfl, _, _, rfl, _, _, rfl, rfl, hw _ _, ?_⟩
  exact lc_turn (by omega) (p.pass (Same.tnew hT)) (fun H' R s k => ht i z H' R e2 s k) (fun H' R hb s k => he i z H' R e2 hb s k)
/-- over the signs of a text -/
theorem cs {z : Str} (hn : z.cps.size ≤ 1000000) (b : Nat → Bool) (f : Nat → V)
    (hw : ∀ x, wipe ((wipe σ vs).set j (some x)) vs = wipe σ vs)
    (ht : ∀ i c H' (R : Bool → Hp → Prop), z.cps[i]? = some c → Same H1 H' → (∀ H3, Same H' H3 → R (b i) H3) → tt ((wipe σ vs).set j (some (.str ⟨#[c]⟩))) H' R)
    (he : ∀ i c H' (R : VK), z.cps[i]? = some c → b i = true → Same H1 H' → (∀ H3, Same H' H3 → R (f i) H3) → te ((wipe σ vs).set j (some (.str ⟨#[c]⟩))) H' R)
    (q : ∀ p H', H1 p = none → Same H1 H' → H' p = some (.lst (picked z.cps.size b f)) → Q (.ref p) H') :
    ∃ y, V.str z = .str y ∧ lcB (gName j) tt te vs σ Q (Its y) H1 := by
  refine ⟨z, rfl, fun D0 hD => ?_⟩
  refine lc_it (walk_str (z := z)) (fun i H' => LcAt H1 D0 (picked i b f) H') (LcAt.start hD) (fun _ _ _ _ => trivial) ?_ (fun H' p => q D0 H' hD p.sm p.at_)
  rintro i v H2 H3 hi p ⟨rfl, c, hc, rfl⟩
  exact ⟨hw _, lc_turn (by omega) p (fun H' R s k => ht i c H' R hc s k) (fun H' R hb s k => he i c H' R hc hb s k)⟩
theorem yes_t {R : Bool → Hp → Prop} (k : ∀ H3, Same H H3 → R true H3) : tYes σ H R := k H (Same.refl H)
end
end Tm

namespace Tm
open PySem
/-! ## maps as three lists of numbers -/
structure TurnT (n : Nat) (f : List Nat) : Prop where
  len : f.length = n
  bd : ∀ i, i < n → gt f i < n
  inv : ∀ i, i < n → gt f (gt f i) = i
  fix : ∀ i, i < n → gt f i ≠ i
structure MapT (n : Nat) (z o t : List Nat) : Prop where
  hz : TurnT n z
  ho : TurnT n o
  ht : TurnT n t
  cm : ∀ i, i < n → gt t (gt z i) = gt z (gt t i)
  f3 : ∀ i, i < n → gt t (gt z i) ≠ i
  cn : ∀ P : Nat → Prop, P 0 → (∀ i, i < n → P i → P (gt z i) ∧ P (gt o i) ∧ P (gt t i)) → ∀ i, i < n → P i
  pos : 0 < n
  le : n ≤ 240
/-- connected from any flag -/
theorem MapT.any {n : Nat} {z o t : List Nat} (M : MapT n z o t) (P : Nat → Prop) (x : Nat) (hx : x < n) (px : P x)
    (cl : ∀ i, i < n → P i → P (gt z i) ∧ P (gt o i) ∧ P (gt t i)) : ∀ i, i < n → P i := by
  by_cases h0 : P 0
  · exact M.cn P h0 cl
  · have h := M.cn (fun i => ¬ P i) h0 (fun i hi h => ?_) x hx
    · exact absurd px h
    · refine ⟨fun q => h ?_, fun q => h ?_, fun q => h ?_⟩
      · have := (cl _ (M.hz.bd i hi) q).1
        rwa [M.hz.inv i hi] at this
      · have := (cl _ (M.ho.bd i hi) q).2.1
        rwa [M.ho.inv i hi] at this
      · have := (cl _ (M.ht.bd i hi) q).2.2
        rwa [M.ht.inv i hi] at this
end Tm

namespace Tm
open PySem
/-! ## sums and counts -/
def sm : Nat → (Nat → Nat) → Nat
  | 0, _ => 0
  | n + 1, f => sm n f + f n
theorem sm_congr {n : Nat} {f g : Nat → Nat} (h : ∀ x, x < n → f x = g x) : sm n f = sm n g := by
  induction n with
  | zero => rfl
  | succ n ih => rw [sm, sm, ih (fun x hx => h x (by omega)), h n (by omega)]
theorem sm_add {n : Nat} {f g : Nat → Nat} : sm n (fun x => f x + g x) = sm n f + sm n g := by
  induction n with
  | zero => rfl
  | succ n ih => simp only [sm, ih]; omega
theorem sm_zero {n : Nat} : sm n (fun _ => 0) = 0 := by
  induction n with
  | zero => rfl
  | succ n ih => rw [sm, ih]
theorem sm_one {n : Nat} : sm n (fun _ => 1) = n := by
  induction n with
  | zero => rfl
  | succ n ih => rw [sm, ih]
theorem sm_swap {n m : Nat} {f : Nat → Nat → Nat} : sm n (fun x => sm m (fun y => f x y)) = sm m (fun y => sm n (fun x => f x y)) := by
  induction n with
  | zero => simp only [sm]; rw [sm_zero]
  | succ n ih => simp only [sm, ih]; rw [sm_add]
theorem sm_le {n : Nat} {f g : Nat → Nat} (h : ∀ x, x < n → f x ≤ g x) : sm n f ≤ sm n g := by
  induction n with
  | zero => exact Nat.le_refl _
  | succ n ih =>
    have := ih (fun x hx => h x (by omega))
    have := h n (by omega)
    simp only [sm]
    omega
/-- one term alone -/
theorem sm_at {n a : Nat} {f : Nat → Nat} (ha : a < n) : sm n (fun x => if x = a then f x else 0) = f a := by
  induction n with
  | zero => omega
  | succ n ih =>
    rw [sm]
    by_cases e : n = a
    · subst e
      rw [if_pos rfl, sm_congr (g := fun _ => 0) (fun x hx => if_neg (by omega)), sm_zero, Nat.zero_add]
    · rw [if_neg e, ih (by omega), Nat.add_zero]
/-- a turn leaves sums alone -/
theorem sm_turn {n : Nat} {o : List Nat} (T : TurnT n o) (f : Nat → Nat) : sm n (fun x => f (gt o x)) = sm n f := by
  have h1 : sm n f = sm n (fun x => sm n (fun y => if x = gt o y then f x else 0)) := by
    refine sm_congr fun x hx => ?_
    have e : sm n (fun y => if x = gt o y then f x else 0) = sm n (fun y => if y = gt o x then (fun _ => f x) y else 0) := by
      refine sm_congr fun y hy => ?_
      by_cases z : x = gt o y
      · have : y = gt o x := by rw [z, T.inv y hy]
        rw [if_pos z, if_pos this]
      · have : ¬ y = gt o x := fun w => z (by rw [w, T.inv x hx])
        rw [if_neg z, if_neg this]
    rw [e, sm_at (f := fun _ => f x) (T.bd x hx)]
  rw [h1, sm_swap]
  refine sm_congr fun y hy => ?_
  have e : sm n (fun x => if x = gt o y then f x else 0) = f (gt o y) := sm_at (T.bd y hy)
  exact e.symm
def ib (b : Bool) : Nat := if b = true then 1 else 0
abbrev cnt (n : Nat) (p : Nat → Bool) : Nat := sm n (fun x => ib (p x))
theorem cnt_eq {n a : Nat} (ha : a < n) : cnt n (fun x => decide (x = a)) = 1 := by
  have e : cnt n (fun x => decide (x = a)) = sm n (fun x => if x = a then (fun _ => 1) x else 0) := sm_congr fun x hx => by
    unfold ib
    by_cases z : x = a
    · simp [z]
    · simp [z]
  rw [e, sm_at (f := fun _ => 1) ha]
theorem cnt_lt {n k : Nat} {p : Nat → Bool} (h : k < n) (hp : p k = true) : cnt k p < cnt n p := by
  induction n with
  | zero => omega
  | succ n ih =>
    simp only [cnt, sm] at ih ⊢
    by_cases e : k = n
    · subst e
      rw [hp]
      simp [ib]
    · have := ih (by omega)
      omega
theorem cnt_mono {n k : Nat} {p : Nat → Bool} (h : k ≤ n) : cnt k p ≤ cnt n p := by
  induction n with
  | zero => rw [show k = 0 by omega]; exact Nat.le_refl _
  | succ n ih =>
    by_cases e : k = n + 1
    · rw [e]; exact Nat.le_refl _
    · have := ih (by omega)
      simp only [cnt, sm] at this ⊢
      omega
theorem ib4 {m i x A B C : Nat} (key : m = i ↔ x = i ∨ x = A ∨ x = B ∨ x = C) (o1 : i ≠ A) (o2 : i ≠ B) (o3 : i ≠ C) (o4 : A ≠ B) (o5 : A ≠ C) (o6 : B ≠ C) :
    ib (decide (m = i)) = ib (decide (x = i)) + ib (decide (x = A)) + ib (decide (x = B)) + ib (decide (x = C)) := by
  unfold ib
  simp only [decide_eq_true_eq]
  repeat' split
  all_goals omega
/-! ## the edges: quarters under turns 0 and 2 -/
structure Edg (n : Nat) (z t : List Nat) : Prop where
  hz : TurnT n z
  ht : TurnT n t
  cm : ∀ i, i < n → gt t (gt z i) = gt z (gt t i)
  f3 : ∀ i, i < n → gt t (gt z i) ≠ i
theorem MapT.edg {n : Nat} {z o t : List Nat} (M : MapT n z o t) : Edg n z t := ⟨M.hz, M.ht, M.cm, M.f3⟩
def mOf (z t : List Nat) (x : Nat) : Nat := min (min x (gt z x)) (min (gt t x) (gt t (gt z x)))
def lead (z t : List Nat) (x : Nat) : Bool := decide (mOf z t x = x)
def leads (z t : List Nat) (k : Nat) : Nat := cnt k (lead z t)
def edgeOf (z t : List Nat) (x : Nat) : Nat := leads z t (mOf z t x)
def edgesOf (n : Nat) (z t : List Nat) : List Nat := (List.range n).map (edgeOf z t)
section
variable {n : Nat} {z t : List Nat} (E : Edg n z t)
include E
theorem mOf_le {x : Nat} : mOf z t x ≤ x := by unfold mOf; omega
theorem mOf_lt {x : Nat} (h : x < n) : mOf z t x < n := Nat.lt_of_le_of_lt (mOf_le E) h
theorem mOf_z {x : Nat} (h : x < n) : mOf z t (gt z x) = mOf z t x := by
  unfold mOf
  rw [E.hz.inv x h]
  omega
theorem mOf_t {x : Nat} (h : x < n) : mOf z t (gt t x) = mOf z t x := by
  unfold mOf
  rw [E.ht.inv x h, ← E.cm x h, E.ht.inv _ (E.hz.bd x h)]
  omega
theorem mOf_mem {x : Nat} : mOf z t x = x ∨ mOf z t x = gt z x ∨ mOf z t x = gt t x ∨ mOf z t x = gt t (gt z x) := by unfold mOf; omega
theorem mOf_mOf {x : Nat} (h : x < n) : mOf z t (mOf z t x) = mOf z t x := by
  rcases mOf_mem E (x := x) with e | e | e | e
  · rw [e, e]
  · have := mOf_z E h
    rw [← e] at this
    exact this
  · have := mOf_t E h
    rw [← e] at this
    exact this
  · have := (mOf_t E (E.hz.bd x h)).trans (mOf_z E h)
    rw [← e] at this
    exact this
/-- the flags of the quarter of a leader -/
theorem mOf_iff {x i : Nat} (hx : x < n) (hi : i < n) (hl : mOf z t i = i) : mOf z t x = i ↔ x = i ∨ x = gt z i ∨ x = gt t i ∨ x = gt t (gt z i) := by
  constructor
  · intro e
    rcases mOf_mem E (x := x) with w | w | w | w
    · exact .inl (by rw [← w, e])
    · refine .inr (.inl ?_)
      rw [← e, w, E.hz.inv x hx]
    · refine .inr (.inr (.inl ?_))
      rw [← e, w, E.ht.inv x hx]
    · refine .inr (.inr (.inr ?_))
      rw [← e, w, ← E.cm _ (E.hz.bd x hx), E.hz.inv x hx, E.ht.inv x hx]
  · rintro (rfl | rfl | rfl | rfl)
    · exact hl
    · rw [mOf_z E hi, hl]
    · rw [mOf_t E hi, hl]
    · rw [mOf_t E (E.hz.bd i hi), mOf_z E hi, hl]
theorem orb4 {i : Nat} (hi : i < n) : i ≠ gt z i ∧ i ≠ gt t i ∧ i ≠ gt t (gt z i) ∧ gt z i ≠ gt t i ∧ gt z i ≠ gt t (gt z i) ∧ gt t i ≠ gt t (gt z i) := by
  have hz := E.hz.bd i hi
  refine ⟨Ne.symm (E.hz.fix i hi), Ne.symm (E.ht.fix i hi), Ne.symm (E.f3 i hi), fun e => ?_, fun e => E.ht.fix _ hz e.symm, fun e => ?_⟩
  · have := E.f3 i hi
    rw [e, E.ht.inv i hi] at this
    exact this rfl
  · have h2 := congrArg (gt t) e
    rw [E.ht.inv i hi, E.ht.inv _ hz] at h2
    exact E.hz.fix i hi h2.symm
theorem cnt_below {i : Nat} (hi : i ≤ n) : cnt n (fun x => decide (mOf z t x < i)) = 4 * leads z t i := by
  induction i with
  | zero =>
    have e : cnt n (fun x => decide (mOf z t x < 0)) = sm n (fun _ => 0) := sm_congr fun x _ => by simp [ib]
    rw [e, sm_zero]
    rfl
  | succ i ih =>
    have h1 := ih (by omega)
    have e : cnt n (fun x => decide (mOf z t x < i + 1)) = cnt n (fun x => decide (mOf z t x < i)) + cnt n (fun x => decide (mOf z t x = i)) := by
      unfold cnt
      rw [← sm_add]
      refine sm_congr fun x _ => ?_
      by_cases a : mOf z t x < i
      · have b : ¬ mOf z t x = i := by omega
        have c : mOf z t x < i + 1 := by omega
        simp [ib, a, b, c]
      · by_cases b : mOf z t x = i
        · have c : mOf z t x < i + 1 := by omega
          simp [ib, a, b]
        · have c : ¬ mOf z t x < i + 1 := by omega
          simp [ib, a, b, c]
    have e2 : leads z t (i + 1) = leads z t i + ib (lead z t i) := rfl
    rw [e, h1, e2]
    by_cases hl : mOf z t i = i
    · have hb : lead z t i = true := decide_eq_true hl
      rw [hb]
      obtain ⟨o1, o2, o3, o4, o5, o6⟩ := orb4 E (i := i) (by omega)
      have e3 : cnt n (fun x => decide (mOf z t x = i)) = cnt n (fun x => decide (x = i)) + cnt n (fun x => decide (x = gt z i)) + cnt n (fun x => decide (x = gt t i)) + cnt n (fun x => decide (x = gt t (gt z i))) := by
        unfold cnt
        rw [← sm_add, ← sm_add, ← sm_add]
        refine sm_congr fun x hx => ?_
        exact ib4 (mOf_iff E hx (by omega) hl) o1 o2 o3 o4 o5 o6
      have hi' : i < n := by omega
      rw [e3, cnt_eq hi', cnt_eq (E.hz.bd i hi'), cnt_eq (E.ht.bd i hi'), cnt_eq (E.ht.bd _ (E.hz.bd i hi'))]
      show _ = 4 * (leads z t i + 1)
      omega
    · have hb : lead z t i = false := decide_eq_false hl
      rw [hb]
      have e3 : cnt n (fun x => decide (mOf z t x = i)) = sm n (fun _ => 0) := sm_congr fun x hx => by
        have : ¬ mOf z t x = i := fun w => hl (by rw [← w]; exact mOf_mOf E hx)
        simp [ib, this]
      rw [e3, sm_zero]
      show _ = 4 * (leads z t i + 0)
      omega
theorem leads_all : 4 * leads z t n = n := by
  rw [← cnt_below E (Nat.le_refl n)]
  have e : cnt n (fun x => decide (mOf z t x < n)) = sm n (fun _ => 1) := sm_congr fun x hx => by
    have := mOf_lt E hx
    simp [ib, this]
  rw [e, sm_one]
theorem edgeOf_lt {x : Nat} (h : x < n) : edgeOf z t x < n / 4 := by
  have h1 := leads_all E
  have h2 : edgeOf z t x < leads z t n := cnt_lt (mOf_lt E h) (decide_eq_true (mOf_mOf E h))
  omega
theorem edgeOf_z {x : Nat} (h : x < n) : edgeOf z t (gt z x) = edgeOf z t x := by unfold edgeOf; rw [mOf_z E h]
theorem edgeOf_t {x : Nat} (h : x < n) : edgeOf z t (gt t x) = edgeOf z t x := by unfold edgeOf; rw [mOf_t E h]
end
theorem edgesOf_len {n : Nat} {z t : List Nat} : (edgesOf n z t).length = n := by unfold edgesOf; rw [List.length_map, List.length_range]
theorem gt_edgesOf {n x : Nat} {z t : List Nat} (h : x < n) : gt (edgesOf n z t) x = edgeOf z t x := by
  unfold edgesOf gt
  rw [List.getD_eq_getElem?_getD, List.getElem?_map, List.getElem?_range h]
  rfl
end Tm

namespace Tm
open PySem L2
/-! ## lists as functions of the place -/
def fv (n : Nat) (F : Nat → V) : List V := (List.range n).map F
theorem fv_len {n : Nat} {F : Nat → V} : (fv n F).length = n := by unfold fv; rw [List.length_map, List.length_range]
theorem fv_get {n i : Nat} {F : Nat → V} (h : i < n) : (fv n F)[i]? = some (F i) := by
  unfold fv
  rw [List.getElem?_map, List.getElem?_range h]
  rfl
theorem at_fv {n i : Nat} {F : Nat → V} (h : i < n) : atI (fv n F) (i : Nat) = some (F i) := atI_nat (fv_get h)
theorem fv_congr {n : Nat} {F G : Nat → V} (h : ∀ x, x < n → F x = G x) : fv n F = fv n G := by
  unfold fv
  exact List.map_congr_left fun x hx => h x (List.mem_range.mp hx)
theorem fv_set {n i : Nat} {F : Nat → V} {v : V} (hi : i < n) : (fv n F).set i v = fv n (fun x => if x = i then v else F x) := by
  apply List.ext_getElem?
  intro k
  rw [List.getElem?_set, fv_len]
  by_cases hk : k < n
  · rw [fv_get hk, fv_get hk]
    by_cases e : i = k
    · subst e
      simp [hi]
    · have e2 : ¬ k = i := fun z => e z.symm
      simp [e, e2]
  · have h1 : (fv n F)[k]? = none := List.getElem?_eq_none (by rw [fv_len]; omega)
    have h2 : (fv n (fun x => if x = i then v else F x))[k]? = none := List.getElem?_eq_none (by rw [fv_len]; omega)
    have e : ¬ i = k := by omega
    rw [h1, h2, if_neg e]
theorem fv_of {n i : Nat} {F : Nat → V} {v : V} (h : (fv n F)[i]? = some v) : i < n ∧ v = F i := by
  have hi : i < n := by
    obtain ⟨z, _⟩ := List.getElem?_eq_some_iff.mp h
    rwa [fv_len] at z
  rw [fv_get hi] at h
  exact ⟨hi, (Option.some.inj h).symm⟩
theorem fv_succ {n : Nat} {F : Nat → V} : fv (n + 1) F = fv n F ++ [F n] := by
  unfold fv
  rw [List.range_succ, List.map_append]
  rfl
theorem rep_fv {n : Nat} {v : V} : List.replicate n v = fv n (fun _ => v) := by
  unfold fv
  rw [List.map_const', List.length_range]
theorem nv_fv {n : Nat} {l : List Nat} (h : l.length = n) : nv l = fv n (fun x => .int (gt l x : Nat)) := by
  subst h
  apply List.ext_getElem?
  intro k
  by_cases hk : k < l.length
  · rw [nv_get hk, fv_get hk]
  · rw [List.getElem?_eq_none (by rw [nv_len]; omega), List.getElem?_eq_none (by rw [fv_len]; omega)]
theorem nv_map {n : Nat} {f : Nat → Nat} : nv ((List.range n).map f) = fv n (fun x => .int (f x : Nat)) := by
  unfold nv fv
  rw [List.map_map]
  rfl
theorem gt_map {n x : Nat} {f : Nat → Nat} (h : x < n) : gt ((List.range n).map f) x = f x := by
  unfold gt
  rw [List.getD_eq_getElem?_getD, List.getElem?_map, List.getElem?_range h]
  rfl
theorem len_map {n : Nat} {f : Nat → Nat} : ((List.range n).map f).length = n := by rw [List.length_map, List.length_range]
theorem ext_gt {l m : List Nat} (h : l.length = m.length) (g : ∀ i, i < l.length → gt l i = gt m i) : l = m := by
  apply List.ext_getElem?
  intro k
  by_cases hk : k < l.length
  · rw [gt_some hk, gt_some (by omega), g k hk]
  · rw [List.getElem?_eq_none (by omega), List.getElem?_eq_none (by omega)]
theorem map_gt {n : Nat} {l : List Nat} (h : l.length = n) : (List.range n).map (gt l) = l :=
  ext_gt (by rw [len_map, h]) fun i hi => gt_map (by rwa [len_map] at hi)
theorem picked_fv {n : Nat} {F : Nat → V} : picked n (fun _ => true) F = fv n F := picked_all n F
/-- what the numbers are while the flags below i are read -/
def edgeV (z t : List Nat) (u : V) (i : Nat) (x : Nat) : V := if mOf z t x < i then .int (edgeOf z t x : Nat) else u
theorem edgeV_step {n : Nat} {z t : List Nat} (E : Edg n z t) {u : V} {i : Nat} (hi : i < n) (hl : mOf z t i = i) :
    fv n (fun x => if x ∈ [i, gt z i, gt t i, gt t (gt z i)] then .int (leads z t i : Nat) else edgeV z t u i x) = fv n (edgeV z t u (i + 1)) := by
  refine fv_congr fun x hx => ?_
  have key := mOf_iff E hx hi hl
  unfold edgeV
  by_cases h : mOf z t x = i
  · have hm : x ∈ [i, gt z i, gt t i, gt t (gt z i)] := by
      simp only [List.mem_cons, List.not_mem_nil, or_false]
      exact key.mp h
    rw [if_pos hm, if_pos (by omega)]
    unfold edgeOf
    rw [h]
  · have hm : ¬ x ∈ [i, gt z i, gt t i, gt t (gt z i)] := fun w => by
      simp only [List.mem_cons, List.not_mem_nil, or_false] at w
      exact h (key.mpr w)
    rw [if_neg hm]
    by_cases h2 : mOf z t x < i
    · rw [if_pos h2, if_pos (by omega)]
    · rw [if_neg h2, if_neg (by omega)]
theorem edgeV_skip {n : Nat} {z t : List Nat} (E : Edg n z t) {u : V} {i : Nat} (hi : i < n) (hl : ¬ mOf z t i = i) : fv n (edgeV z t u i) = fv n (edgeV z t u (i + 1)) := by
  refine fv_congr fun x hx => ?_
  unfold edgeV
  have hne : ¬ mOf z t x = i := fun w => hl (by rw [← w]; exact mOf_mOf E hx)
  by_cases h2 : mOf z t x < i
  · rw [if_pos h2, if_pos (by omega)]
  · rw [if_neg h2, if_neg (by omega)]
theorem edgeV_all {n : Nat} {z t : List Nat} (E : Edg n z t) {u : V} : fv n (edgeV z t u n) = nv (edgesOf n z t) := by
  unfold edgesOf
  rw [nv_map]
  refine fv_congr fun x hx => ?_
  unfold edgeV
  rw [if_pos (mOf_lt E hx)]
theorem edgeV_zero {n : Nat} {z t : List Nat} {u : V} : fv n (edgeV z t u 0) = fv n (fun _ => u) := fv_congr fun x hx => by
  unfold edgeV
  rw [if_neg (Nat.not_lt_zero _)]
theorem edgeV_at {n : Nat} {z t : List Nat} (E : Edg n z t) {u : V} {i : Nat} (hi : i < n) : (mOf z t i = i ∧ edgeV z t u i i = u) ∨ (¬ mOf z t i = i ∧ edgeV z t u i i = .int (edgeOf z t i : Nat)) := by
  unfold edgeV
  have := mOf_le E (x := i)
  by_cases h : mOf z t i = i
  · exact .inl ⟨h, if_neg (by omega)⟩
  · exact .inr ⟨h, if_pos (by omega)⟩
theorem leads_succ {z t : List Nat} {i : Nat} (hl : mOf z t i = i) : leads z t (i + 1) = leads z t i + 1 := by
  show leads z t i + ib (lead z t i) = _
  rw [show lead z t i = true from decide_eq_true hl]
  rfl
theorem leads_skip {z t : List Nat} {i : Nat} (hl : ¬ mOf z t i = i) : leads z t (i + 1) = leads z t i := by
  show leads z t i + ib (lead z t i) = _
  rw [show lead z t i = false from decide_eq_false hl]
  rfl
theorem last_lead {z t : List Nat} : ∀ {i : Nat}, 0 < leads z t i → ∃ y, y < i ∧ mOf z t y = y ∧ leads z t y + 1 = leads z t i
  | 0, h => by cases h
  | i + 1, h => by
    by_cases hl : mOf z t i = i
    · exact ⟨i, Nat.lt_succ_self _, hl, (leads_succ hl).symm⟩
    · rw [leads_skip hl] at h ⊢
      obtain ⟨y, a, b, c⟩ := last_lead h
      exact ⟨y, Nat.lt_succ_of_lt a, b, c⟩
def edgeI (z t : List Nat) (i x : Nat) : Int := if mOf z t x < i then (edgeOf z t x : Nat) else -1
theorem edgeV_I {n : Nat} {z t : List Nat} {i : Nat} : fv n (edgeV z t (.int (-1)) i) = ((List.range n).map (edgeI z t i)).map V.int := by
  unfold fv
  rw [List.map_map]
  refine List.map_congr_left fun x _ => ?_
  show edgeV z t (.int (-1)) i x = V.int (edgeI z t i x)
  unfold edgeV edgeI
  split <;> rfl
/-- the greatest of the numbers so far -/
theorem edge_max {n : Nat} {z t : List Nat} (E : Edg n z t) {i : Nat} (hi : i < n) {m : Int} (hm : m ∈ (List.range n).map (edgeI z t i)) (hle : ∀ y ∈ (List.range n).map (edgeI z t i), y ≤ m) : m + 1 = (leads z t i : Nat) := by
  obtain ⟨x, hx, rfl⟩ := List.mem_map.mp hm
  have hx := List.mem_range.mp hx
  by_cases h0 : 0 < leads z t i
  · obtain ⟨y, y1, y2, y3⟩ := last_lead h0
    have h1 := hle (edgeI z t i y) (List.mem_map.mpr ⟨y, List.mem_range.mpr (by omega), rfl⟩)
    have e1 : edgeI z t i y = (leads z t y : Nat) := by
      unfold edgeI edgeOf
      rw [y2, if_pos y1]
    rw [e1] at h1
    by_cases hxi : mOf z t x < i
    · have e2 : edgeI z t i x = (edgeOf z t x : Nat) := if_pos hxi
      have e3 : edgeOf z t x < leads z t i := cnt_lt hxi (decide_eq_true (mOf_mOf E hx))
      rw [e2] at h1 ⊢
      omega
    · have e2 : edgeI z t i x = -1 := if_neg hxi
      rw [e2] at h1
      omega
  · have hxi : ¬ mOf z t x < i := fun h => by
      have : edgeOf z t x < leads z t i := cnt_lt h (decide_eq_true (mOf_mOf E hx))
      omega
    have e2 : edgeI z t i x = -1 := if_neg hxi
    rw [e2]
    omega
end Tm

namespace Tm
open L2 PySem PySem.Spec PyProof.Rows
/-! ## forms: numbers, words, tuples of forms -/
def codes : List Str := ["'023", "'032", "'203", "'230", "'302", "'320"]
def words : List Str := (["cases", "clash", "edges", "recasting", "used", "void", "table"] : List Str) ++ codes
inductive Fm (L : Nat) : Nat → PyData → Prop
  | int {k : Nat} {i : Int} : 0 ≤ i → Fm L k (.int i)
  | str {k : Nat} {x : Str} : x ∈ words → Fm L k (.str x)
  | tup {k : Nat} {ds : List PyData} : ds.length ≤ L → (∀ d ∈ ds, Fm L k d) → Fm L (k + 1) (.tuple ds)
theorem Fm.mono {L M k m : Nat} {d : PyData} (h : Fm L k d) (hL : L ≤ M) (hk : k ≤ m) : Fm M m d := by
  induction h generalizing m with
  | int h => exact .int h
  | str h => exact .str h
  | tup h1 h2 ih =>
    obtain ⟨m', rfl⟩ : ∃ m', m = m' + 1 := ⟨m - 1, by omega⟩
    exact .tup (Nat.le_trans h1 hL) fun d hd => ih d hd (by omega)
theorem Fm.sub {L k : Nat} {ds : List PyData} {d : PyData} (h : Fm L k (.tuple ds)) (hd : d ∈ ds) : Fm L k d := by
  cases h with
  | tup h1 h2 => exact (h2 d hd).mono (Nat.le_refl _) (Nat.le_succ _)
theorem Fm.len {L k : Nat} {ds : List PyData} (h : Fm L k (.tuple ds)) : ds.length ≤ L := by
  cases h with
  | tup h1 h2 => exact h1
theorem words_ok : ∀ x ∈ words, PyData.canLay0 (.str x) = true := by decide +kernel
theorem Fm.can {L k : Nat} {d : PyData} (h : Fm L k d) : d.canLay0 = true ∧ d.depth ≤ k + 1 := by
  induction h with
  | int h => exact ⟨rfl, by simp [PyData.depth]⟩
  | str h => exact ⟨words_ok _ h, by simp [PyData.depth]⟩
  | @tup k ds h1 h2 ih =>
    constructor
    · show PyData.canLayAll0 ds = true
      clear h1 h2
      induction ds with
      | nil => rfl
      | cons d r ihr =>
        show (PyData.canLay0 d && PyData.canLayAll0 r) = true
        rw [(ih d List.mem_cons_self).1, ihr fun x hx => ih x (List.mem_cons_of_mem _ hx)]
        rfl
    · show PyData.depth (.tuple ds) ≤ k + 1 + 1
      have : PyData.depthAll ds ≤ k + 1 := by
        clear h1 h2
        induction ds with
        | nil => simp [PyData.depthAll]
        | cons d r ihr =>
          have a := (ih d List.mem_cons_self).2
          have b := ihr fun x hx => ih x (List.mem_cons_of_mem _ hx)
          simp only [PyData.depthAll]
          omega
      simp only [PyData.depth]
      omega
theorem Fm.shaped {L k : Nat} {d : PyData} (h : Fm L k d) (hk : k ≤ 60) : SeqAt.shaped d = true := by
  obtain ⟨a, b⟩ := h.can
  unfold SeqAt.shaped
  rw [a, decide_eq_true (by omega)]
  rfl
abbrev FF (d : PyData) : Prop := Fm 1000 40 d
theorem FF.sh {d : PyData} (h : FF d) : SeqAt.shaped d = true := Fm.shaped h (by decide)
/-! ## forms on the heap -/
/-- all that is no list stays -/
def Kp (H H' : Hp) : Prop := ∀ a u, H a = some u → (∀ xs, u ≠ .lst xs) → H' a = some u
theorem Kp.refl (H : Hp) : Kp H H := fun _ _ h _ => h
theorem Kp.trans {H H1 H2 : Hp} (x : Kp H H1) (y : Kp H1 H2) : Kp H H2 := fun a u h n => y a u (x a u h n) n
theorem Kp.of {H H' : Hp} (x : Same H H') : Kp H H' := fun a u h _ => x a u h
theorem Kp.xt {H H' : Hp} {B : Bad} (x : Xt B H H') (hB : ∀ a, B a → ∃ xs, H a = some (.lst xs)) : Kp H H' := fun a u h n => x a u (fun b => by
  obtain ⟨xs, e⟩ := hB a b
  rw [h] at e
  exact n xs (Option.some.inj e)) h
section
variable {K : PySem.W.Frag} {H H' : Hp} {a : Addr} {xs : List V} {v : V} {d : PyData} {ds : List PyData}
theorem Kp.sqT (x : Kp H H') (h : SqT K H a xs) : SqT K H' a xs := by
  rcases h with h | h
  · rcases h with h | ⟨o, h⟩
    · exact .inl (.inl (x _ _ h fun xs e => by cases e))
    · exact .inl (.inr ⟨o, x _ _ h fun xs e => by cases e⟩)
  · exact .inr h
end
end Tm
namespace L2
open PySem PySem.Spec PyProof.Rows
open Tm
section
variable {K : PySem.W.Frag} {H H' : Hp} {a : Addr} {xs : List V} {v : V} {d : PyData} {ds : List PyData}
theorem DpAll.len : ∀ {xs : List V} {ds : List PyData}, DpAll K H xs ds → xs.length = ds.length
  | _, _, .nil => rfl
  | _, _, .cons _ h => by rw [List.length_cons, List.length_cons, DpAll.len h]
theorem DpAll.get : ∀ {xs : List V} {ds : List PyData} {i : Nat} {v : V} {d : PyData}, DpAll K H xs ds → xs[i]? = some v → ds[i]? = some d → Dp K H v d
  | _, _, 0, v, d, .cons h _, e1, e2 => by
    cases Option.some.inj e1
    cases Option.some.inj e2
    exact h
  | _, _, i + 1, v, d, .cons _ h, e1, e2 => DpAll.get h (i := i) e1 e2
theorem DpAll.app : ∀ {xs ys : List V} {ds es : List PyData}, DpAll K H xs ds → DpAll K H ys es → DpAll K H (xs ++ ys) (ds ++ es)
  | _, _, _, _, .nil, h => h
  | _, _, _, _, .cons a b, h => .cons a (DpAll.app b h)
theorem DpAll.drop : ∀ {xs : List V} {ds : List PyData} (k : Nat), DpAll K H xs ds → DpAll K H (xs.drop k) (ds.drop k)
  | _, _, 0, h => h
  | _, _, k + 1, .nil => .nil
  | _, _, k + 1, .cons _ h => DpAll.drop k h
theorem DpAll.take : ∀ {xs : List V} {ds : List PyData} (k : Nat), DpAll K H xs ds → DpAll K H (xs.take k) (ds.take k)
  | _, _, 0, h => .nil
  | _, _, k + 1, .nil => .nil
  | _, _, k + 1, .cons a h => .cons a (DpAll.take k h)
theorem DpAll.rev : ∀ {xs : List V} {ds : List PyData}, DpAll K H xs ds → DpAll K H xs.reverse ds.reverse
  | _, _, .nil => .nil
  | _, _, .cons a h => by
    rw [List.reverse_cons, List.reverse_cons]
    exact DpAll.app (DpAll.rev h) (.cons a .nil)
theorem DpAll.set : ∀ {xs : List V} {ds : List PyData} {v : V} {d : PyData} (k : Nat), DpAll K H xs ds → Dp K H v d → DpAll K H (xs.set k v) (ds.set k d)
  | _, _, _, _, _, .nil, _ => .nil
  | _, _, _, _, 0, .cons _ h, g => .cons g h
  | _, _, _, _, k + 1, .cons a h, g => .cons a (DpAll.set k h g)
theorem DpAll.keepOf : ∀ {xs : List V} {ds : List PyData}, (∀ d ∈ ds, ∀ v, Dp K H v d → Dp K H' v d) → DpAll K H xs ds → DpAll K H' xs ds
  | _, _, _, .nil => .nil
  | _, _, h, .cons a b => .cons (h _ List.mem_cons_self _ a) (DpAll.keepOf (fun d hd => h d (List.mem_cons_of_mem _ hd)) b)
theorem Dp.keep {L k : Nat} (F : Fm L k d) (X : Kp H H') : ∀ v, Dp K H v d → Dp K H' v d := by
  induction F with
  | int h => intro v D; cases D; exact .int _
  | str h => intro v D; cases D; exact .str _
  | tup h1 h2 ih =>
    intro v D
    cases D with
    | tup hs hd => exact .tup (X.sqT hs) (DpAll.keepOf ih hd)
theorem DpAll.keep {L k : Nat} (F : ∀ d ∈ ds, Fm L k d) (X : Kp H H') (D : DpAll K H xs ds) : DpAll K H' xs ds := DpAll.keepOf (fun d hd => Dp.keep (F d hd) X) D
theorem Dp.tupI (D : Dp K H v (.tuple ds)) : ∃ a xs, v = .ref a ∧ SqT K H a xs ∧ DpAll K H xs ds := by
  cases D with
  | tup hs hd => exact ⟨_, _, rfl, hs, hd⟩
end
end L2
namespace Tm
open L2 PySem PySem.Spec PyProof.Rows
section
variable {K : PySem.W.Frag} {H H' : Hp} {a : Addr} {xs : List V} {v : V} {d : PyData} {ds : List PyData}
/-! ## isinstance -/
def isT : PyData → Bool
  | .tuple _ => true
  | _ => false
def isS : PyData → Bool
  | .str _ => true
  | _ => false
def isI : PyData → Bool
  | .int _ => true
  | _ => false
theorem tyx_T (h : SqT K H a xs) : TyX K H (.ref a) (.type "tuple") := by
  rcases h with h | ⟨o, its, n, h1, h2, _⟩
  · rcases h with h | ⟨o, h⟩
    · exact .base (.tup h)
    · exact .fTuple h
  · exact .kTuple h1 h2
theorem kit_tt : kitB "tuple" "tuple" = some true := by decide +kernel
theorem kit_st : kitB "str" "tuple" = some false := by decide +kernel
theorem kit_it : kitB "int" "tuple" = some false := by decide +kernel
theorem kit_ts : kitB "tuple" "str" = some false := by decide +kernel
theorem kit_ss : kitB "str" "str" = some true := by decide +kernel
theorem kit_is' : kitB "int" "str" = some false := by decide +kernel
theorem kit_ti : kitB "tuple" "int" = some false := by decide +kernel
theorem kit_si : kitB "str" "int" = some false := by decide +kernel
theorem kit_ii : kitB "int" "int" = some true := by decide +kernel
variable {L k : Nat} {Q : VK}
theorem w_isT (F : Fm L k d) (D : Dp K H v d) (q : Q (.bl (isT d)) H) : rIsi K [v, .ty "tuple"] H Q := by
  cases F with
  | int h => cases D; exact ⟨_, _, _, _, _, rfl, .ty _, .base (.int _), kit_ty kit_it, q⟩
  | str h => cases D; exact ⟨_, _, _, _, _, rfl, .ty _, .base (.str _), kit_ty kit_st, q⟩
  | tup h1 h2 =>
    cases D with
    | tup hs hd => exact ⟨_, _, _, _, _, rfl, .ty _, tyx_T hs, kit_ty kit_tt, q⟩
theorem w_isS (F : Fm L k d) (D : Dp K H v d) (q : Q (.bl (isS d)) H) : rIsi K [v, .ty "str"] H Q := by
  cases F with
  | int h => cases D; exact ⟨_, _, _, _, _, rfl, .ty _, .base (.int _), kit_ty kit_is', q⟩
  | str h => cases D; exact ⟨_, _, _, _, _, rfl, .ty _, .base (.str _), kit_ty kit_ss, q⟩
  | tup h1 h2 =>
    cases D with
    | tup hs hd => exact ⟨_, _, _, _, _, rfl, .ty _, tyx_T hs, kit_ty kit_ts, q⟩
theorem w_isI (F : Fm L k d) (D : Dp K H v d) (q : Q (.bl (isI d)) H) : rIsi K [v, .ty "int"] H Q := by
  cases F with
  | int h => cases D; exact ⟨_, _, _, _, _, rfl, .ty _, .base (.int _), kit_ty kit_ii, q⟩
  | str h => cases D; exact ⟨_, _, _, _, _, rfl, .ty _, .base (.str _), kit_ty kit_si, q⟩
  | tup h1 h2 =>
    cases D with
    | tup hs hd => exact ⟨_, _, _, _, _, rfl, .ty _, tyx_T hs, kit_ty kit_ti, q⟩
/-- a slice of a tuple -/
theorem w_slT {lo hi : Option Int} (h : SqT K H a xs) (q : ∀ b H', Same H H' → SqT K H' b (cutV xs lo hi) → Q (.ref b) H') : rSlA K (.ref a) lo hi H Q := by
  refine ⟨a, xs, rfl, h, fun e => q a H (Same.refl H) ?_, fun _ p hp => q p _ (Same.tnew hp) (SqT.of upd_same)⟩
  unfold cutV
  rw [e.1, e.2, List.drop_zero, Nat.sub_zero, List.take_length]
  exact h
theorem w_ctT {b : Addr} {ys : List V} (h : SqT K H a xs) (g : SqT K H b ys) (z : xs.length + ys.length ≤ 1000000) (q : ∀ c H', Same H H' → SqT K H' c (xs ++ ys) → Q (.ref c) H') : rCatA K (.ref a) (.ref b) H Q := by
  refine ⟨a, b, xs, ys, rfl, rfl, h, g, szl z, fun e => ?_, fun _ e => ?_, fun _ _ p hp => q p _ (Same.tnew hp) (SqT.of upd_same)⟩
  · subst e
    exact q b H (Same.refl H) g
  · subst e
    exact q a H (Same.refl H) (by rw [List.append_nil]; exact h)
end
theorem cut_from (xs : List V) (k : Nat) : cutV xs (some (k : Nat)) none = xs.drop k := by
  unfold cutV
  rw [HT.sIx_nat, HT.sIx_none]
  by_cases h : k ≤ xs.length
  · rw [Nat.min_eq_left h, List.take_of_length_le (by rw [List.length_drop]; exact Nat.le_refl _)]
  · rw [Nat.min_eq_right (by omega), Nat.sub_self, List.take_zero, List.drop_eq_nil_of_le (by omega)]
theorem cut_to (xs : List V) (k : Nat) : cutV xs none (some (k : Nat)) = xs.take k := by
  unfold cutV
  rw [HT.sIx_nat, HT.sIx_none, List.drop_zero, Nat.sub_zero]
  by_cases h : k ≤ xs.length
  · rw [Nat.min_eq_left h]
  · rw [Nat.min_eq_right (by omega), List.take_length, List.take_of_length_le (by omega)]
/-! ## what the judge's small defs answer -/
def codeB : PyData → Bool
  | .str x => decide (x ∈ codes)
  | _ => false
theorem words_len : ∀ x ∈ words, x.length ≤ 20 := by decide +kernel
theorem codes_words : ∀ x ∈ codes, x ∈ words := by decide +kernel
theorem words_cut : ∀ x ∈ words, decide (cutS x none (some 1) = ("'" : Str)) = decide (x ∈ codes) := by decide +kernel
theorem codes_sz : ∀ x ∈ codes, (cutS x (some 1) none).cps.size ≤ 20 := by decide +kernel
def stepB (x : Str) (i : Nat) : Bool := decide ((cutS x (some 1) none).cps.getD i 0 ∈ ("0123" : Str).cps.toList)
theorem codes_steps : ∀ x ∈ codes, ((List.range (cutS x (some 1) none).cps.size).map (stepB x)).all id = true := by decide +kernel
def entr (w : Str) : PyData → Option (List PyData)
  | .tuple (.str x :: r) => if x = w then some r else none
  | _ => none
def ents (w : Str) (n : Nat) (d : PyData) : Option (List PyData) := match entr w d with
  | some r => if r.length = n then some r else none
  | none => none
def numB (n : Nat) : PyData → Bool
  | .int i => decide (i < n)
  | _ => false
def numsB (n : Nat) : PyData → Bool
  | .tuple ds => ds.all (numB n)
  | _ => false
/-- all over a list of forms, as a list of booleans by place -/
def byAt (f : PyData → Bool) (ds : List PyData) (i : Nat) : Bool := f (ds.getD i .none)
theorem all_at {f : PyData → Bool} {ds : List PyData} {n : Nat} (h : n = ds.length) : ((List.range n).map (byAt f ds)).all id = ds.all f := by
  subst h
  rw [List.all_map]
  induction ds with
  | nil => rfl
  | cons d r ih =>
    rw [List.length_cons, List.range_succ_eq_map, List.all_cons, List.all_map, List.all_cons]
    exact congrArg _ ih
def rolesB (n : Nat) : PyData → Bool
  | .tuple ds => decide (ds.length = n) && ds.all codeB
  | _ => false
theorem byAt_get {ds : List PyData} {i : Nat} (h : i < ds.length) : ds[i]? = some (ds.getD i .none) := by
  rw [List.getD_eq_getElem?_getD, List.getElem?_eq_getElem h]
  rfl
theorem eqv_head {ds : List PyData} {w : Str} : PyData.eqv (.tuple (ds.take 1)) (.tuple [.str w]) = match ds with
    | d0 :: _ => PyData.eqv d0 (.str w)
    | [] => false := by
  cases ds with
  | nil => rfl
  | cons d r => simp [PyData.eqv, PyData.eqvAll]
theorem entr_head {ds : List PyData} {w : Str} (F : ∀ d ∈ ds, FF d) : entr w (.tuple ds) = if PyData.eqv (.tuple (ds.take 1)) (.tuple [.str w]) = true then some (ds.drop 1) else none := by
  rw [eqv_head]
  cases ds with
  | nil => rfl
  | cons d r =>
    cases (F d List.mem_cons_self) with
    | int h => rfl
    | tup _ _ => rfl
    | @str k x hx =>
      show (if x = w then some r else none) = if PyData.eqv (.str x) (.str w) = true then some r else none
      by_cases e : x = w
      · subst e
        simp [PyData.eqv]
      · simp [PyData.eqv, e]
end Tm

namespace Tm
open L2 PySem PySem.Spec PyProof.Rows
/-! ## tables: a list of lists -/
structure Tbl (K : PySem.W.Frag) (H : Hp) (a : Addr) (tb : List (List Nat)) : Prop where
  ex : ∃ rs : List Addr, SqL K H a (rs.map V.ref) ∧ rs.length = tb.length ∧ ∀ i r, rs[i]? = some r → SqL K H r (nv (tb.getD i []))
theorem Tbl.same {K : PySem.W.Frag} {H H' : Hp} {a : Addr} {tb : List (List Nat)} (T : Tbl K H a tb) (s : Same H H') : Tbl K H' a tb := by
  obtain ⟨rs, h1, h2, h3⟩ := T.ex
  exact ⟨rs, s.tL h1, h2, fun i r e => s.tL (h3 i r e)⟩
theorem map_ref_get {rs : List Addr} {i : Nat} {r : Addr} (h : rs[i]? = some r) : (rs.map V.ref)[i]? = some (.ref r) := by
  rw [List.getElem?_map, h]
  rfl
/-- the row i -/
theorem Tbl.row {K : PySem.W.Frag} {H : Hp} {a : Addr} {tb : List (List Nat)} (T : Tbl K H a tb) {i : Nat} (hi : i < tb.length) : ∃ xs r, SqL K H a xs ∧ xs.length = tb.length ∧ atI xs (i : Nat) = some (.ref r) ∧ SqL K H r (nv (tb.getD i [])) := by
  obtain ⟨rs, h1, h2, h3⟩ := T.ex
  have e : rs[i]? = some (rs[i]'(by omega)) := List.getElem?_eq_getElem (by omega)
  exact ⟨_, _, h1, by rw [List.length_map, h2], atI_nat (map_ref_get e), h3 i _ e⟩
theorem Tbl.lenL {K : PySem.W.Frag} {H : Hp} {a : Addr} {tb : List (List Nat)} (T : Tbl K H a tb) : ∃ xs, SqL K H a xs ∧ xs.length = tb.length := by
  obtain ⟨rs, h1, h2, h3⟩ := T.ex
  exact ⟨_, h1, by rw [List.length_map, h2]⟩
/-! ## fresh tables that are being filled -/
structure Rws (H0 H : Hp) (D : Addr) (rs : List Addr) (k m : Nat) (G : Nat → Nat → V) : Prop where
  len : rs.length = k
  nd : rs.Nodup
  at_ : H D = some (.lst (rs.map V.ref))
  nD : D ∉ rs
  row : ∀ i r, rs[i]? = some r → H r = some (.lst (fv m (G i)))
  fD : H0 D = none
  fr : ∀ r ∈ rs, H0 r = none
  sm : Same H0 H
section
variable {K : PySem.W.Frag} {H0 H H' : Hp} {D : Addr} {rs : List Addr} {k m : Nat} {G : Nat → Nat → V}
theorem Rws.get (R : Rws H0 H D rs k m G) {i : Nat} (hi : i < k) : ∃ r, rs[i]? = some r ∧ atI (rs.map V.ref) (i : Nat) = some (.ref r) ∧ H r = some (.lst (fv m (G i))) ∧ r ≠ D ∧ H0 r = none := by
  have e : rs[i]? = some (rs[i]'(by rw [R.len]; exact hi)) := List.getElem?_eq_getElem (by rw [R.len]; exact hi)
  have hm := List.mem_of_getElem? e
  exact ⟨_, e, atI_nat (map_ref_get e), R.row i _ e, fun z => R.nD (z ▸ hm), R.fr _ hm⟩
/-- one cell -/
theorem Rws.set (R : Rws H0 H D rs k m G) {i j : Nat} {r : Addr} {v : V} (e : rs[i]? = some r) (hj : j < m) : Rws H0 (upd H r (.lst ((fv m (G i)).set j v))) D rs k m (fun a b => if a = i ∧ b = j then v else G a b) := by
  have hm := List.mem_of_getElem? e
  have hrD : r ≠ D := fun z => R.nD (z ▸ hm)
  refine ⟨R.len, R.nd, ?_, R.nD, fun a s ea => ?_, R.fD, R.fr, R.sm.tmut (R.fr r hm)⟩
  · rw [upd_ne (Ne.symm hrD)]
    exact R.at_
  · by_cases z : s = r
    · subst z
      have hai : a = i := by
        have h1 := (List.getElem?_eq_some_iff.mp ea)
        have h2 := (List.getElem?_eq_some_iff.mp e)
        exact (List.getElem_inj R.nd).mp (h1.2.trans h2.2.symm)
      subst hai
      rw [upd_same, fv_set hj]
      congr 2
      refine fv_congr fun x _ => ?_
      by_cases w : x = j
      · simp [w]
      · simp [w]
    · have hai : a ≠ i := fun w => by
        subst w
        rw [ea] at e
        exact z (Option.some.inj e)
      rw [upd_ne z, R.row a s ea]
      congr 2
      refine fv_congr fun x _ => ?_
      rw [if_neg (fun w => hai w.1)]
theorem Rws.same (R : Rws H0 H D rs k m G) (s : Same H H') : Rws H0 H' D rs k m G :=
  ⟨R.len, R.nd, s _ _ R.at_, R.nD, fun i r e => s _ _ (R.row i r e), R.fD, R.fr, R.sm.trans s⟩
theorem Rws.congr (R : Rws H0 H D rs k m G) {G' : Nat → Nat → V} (h : ∀ i j, i < k → j < m → G i j = G' i j) : Rws H0 H D rs k m G' := by
  refine ⟨R.len, R.nd, R.at_, R.nD, fun i r e => ?_, R.fD, R.fr, R.sm⟩
  rw [R.row i r e]
  congr 2
  have hi : i < k := by
    obtain ⟨z, _⟩ := List.getElem?_eq_some_iff.mp e
    rw [← R.len]
    exact z
  exact fv_congr fun x hx => h i x hi hx
/-- a row more -/
theorem Rws.more (R : Rws H0 H D rs k m G) (s : Same H H') {q : Addr} {F : Nat → V} (hq : H q = none) (hq' : H' q = some (.lst (fv m F))) (hG : ∀ b, b < m → G k b = F b) :
    Rws H0 (upd H' D (.lst (rs.map V.ref ++ [.ref q]))) D (rs ++ [q]) (k + 1) m G := by
  have hqD : q ≠ D := by rintro rfl; rw [R.at_] at hq; cases hq
  have hqr : q ∉ rs := fun z => by
    obtain ⟨i, hi, e⟩ := List.getElem_of_mem z
    have := R.row i q (by rw [List.getElem?_eq_getElem hi, e])
    rw [hq] at this
    cases this
  refine ⟨by rw [List.length_append, R.len]; rfl, ?_, ?_, ?_, fun i r e => ?_, R.fD, fun r hr => ?_, (R.sm.trans s).tmut R.fD⟩
  · rw [List.nodup_append]
    refine ⟨R.nd, List.nodup_cons.mpr ⟨by simp, List.nodup_nil⟩, fun a ha b hb => ?_⟩
    rw [List.mem_singleton.mp hb]
    rintro rfl
    exact hqr ha
  · rw [upd_same, List.map_append]
    rfl
  · intro z
    rcases List.mem_append.mp z with z | z
    · exact R.nD z
    · exact hqD (List.mem_singleton.mp z).symm
  · have hrD : r ≠ D := by
      rintro rfl
      rcases List.mem_append.mp (List.mem_of_getElem? e) with z | z
      · exact R.nD z
      · exact hqD (List.mem_singleton.mp z).symm
    rw [upd_ne hrD]
    by_cases hi : i < rs.length
    · rw [List.getElem?_append_left hi] at e
      exact s _ _ (R.row i r e)
    · rw [List.getElem?_append_right (by omega)] at e
      have hi2 : i - rs.length = 0 := by
        obtain ⟨z, _⟩ := List.getElem?_eq_some_iff.mp e
        simp at z
        omega
      rw [hi2] at e
      have er : q = r := Option.some.inj e
      subst er
      have ei : i = k := by rw [← R.len]; omega
      subst ei
      rw [hq', fv_congr (fun b hb => (hG b hb).symm)]
  · rcases List.mem_append.mp hr with z | z
    · exact R.fr r z
    · rw [List.mem_singleton.mp z]
      exact R.sm.tfr hq
theorem Rws.tbl {f : Nat → Nat → Nat} (R : Rws H0 H D rs k m (fun i j => .int (f i j : Nat))) : Tbl K H D ((List.range k).map fun i => (List.range m).map (f i)) := by
  refine ⟨rs, SqL.of R.at_, by rw [R.len, List.length_map, List.length_range], fun i r e => ?_⟩
  have hi : i < k := by
    obtain ⟨z, _⟩ := List.getElem?_eq_some_iff.mp e
    rw [← R.len]
    exact z
  have eg : ((List.range k).map fun i => (List.range m).map (f i)).getD i [] = (List.range m).map (f i) := by
    rw [List.getD_eq_getElem?_getD, List.getElem?_map, List.getElem?_range hi]
    rfl
  rw [eg, nv_map]
  exact SqL.of (R.row i r e)
/-- [te for _ in range(k)], te a fresh row -/
theorem cr_rows {σ : L2.St} {Q : VK} {tt : TT} {te : TE} {vs : List Nat} {j : Nat} {H1 : Hp} {k m : Nat} {x : Int} (e : x = (k : Nat)) (hk : k ≤ 1000000) (F : Nat → V)
    (hw : ∀ x, wipe ((wipe σ vs).set j (some x)) vs = wipe σ vs)
    (ht : ∀ σ2 H2 (R : Bool → Hp → Prop), R true H2 → tt σ2 H2 R)
    (he : ∀ i H' (R : VK), i < k → Same H1 H' → (∀ q H3, Same H' H3 → H' q = none → H3 q = some (.lst (fv m F)) → R (.ref q) H3) → te ((wipe σ vs).set j (some (.int (i : Nat)))) H' R)
    (q : ∀ D rs H', Rws H1 H' D rs k m (fun _ b => F b) → Q (.ref D) H') :
    ∃ i : Int, [V.int x] = [.int i] ∧ -(2 ^ 62) ≤ i ∧ i < 2 ^ 62 ∧ lcB (gName j) tt te vs σ Q (Itr 0 i.toNat) H1 := by
  subst e
  refine ⟨_, rfl, by omega, by omega, fun D0 hD => ?_⟩
  rw [Int.toNat_natCast]
  refine lc_range (lo := 0) (n := k) (fun i H' => ∃ rs, Rws H1 H' D0 rs i m (fun _ b => F b)) ⟨[], rfl, List.nodup_nil, upd_same, by simp, fun i r e => by simp at e, hD, fun r hr => by simp at hr, Same.tnew hD⟩ (fun i H' hi p => ?_) (fun H' p => ?_)
  · obtain ⟨rs, R⟩ := p
    show wipe ((wipe σ vs).set j (some (.int (0 + (i : Nat))))) vs = wipe σ vs ∧ tt ((wipe σ vs).set j (some (.int (0 + (i : Nat))))) H' _
    rw [Int.zero_add]
    refine ⟨hw _, ht _ _ _ (iteT (he i H' _ hi R.sm fun q2 H3 s hq hq3 => ⟨_, s _ _ R.at_, ?_, rs ++ [q2], R.more s hq hq3 (fun _ _ => rfl)⟩))⟩
    rw [List.length_map, R.len]
    exact szlt (by omega)
  · obtain ⟨rs, R⟩ := p
    exact q D0 rs H' R
end
theorem flat_rep {v : V} {n : Nat} : (List.replicate n [v]).flatten = fv n (fun _ => v) := by
  rw [← rep_fv]
  induction n with
  | zero => rfl
  | succ n ih =>
    rw [List.replicate_succ, List.flatten_cons, ih, List.replicate_succ]
    rfl
/-- a row of one value, n times -/
theorem w_rep1 {l : Addr} {H : Hp} {Q : VK} {v : V} {n : Nat} {x : Int} (e : x = (n : Nat)) (hn : n ≤ 1000000) (h : H l = some (.lst [v])) (q : ∀ p, H p = none → Q (.ref p) (upd H p (.lst (fv n (fun _ => v))))) : rRep (.ref l) (.int x) H Q := by
  subst e
  refine ⟨l, _, [v], rfl, rfl, h, by omega, by omega, ?_, fun p hp => ?_⟩
  · rw [Int.toNat_natCast]
    exact szl (by simp; exact hn)
  · rw [Int.toNat_natCast, flat_rep]
    exact q p hp
/-! ## the table of crossings -/
section
variable (n : Nat) (z o t : List Nat)
/-- the flag x's part in the table, as the law counts -/
def tabD (a b x : Nat) : Nat := if x < gt o x ∨ edgeOf z t x ≠ edgeOf z t (gt o x) then ib (decide (edgeOf z t x = a ∧ edgeOf z t (gt o x) = b)) else 0
/-- the same as crossing_table counts -/
def tabC (a b x : Nat) : Nat := if x < gt o x then ib (decide (edgeOf z t x = a ∧ edgeOf z t (gt o x) = b)) + (if edgeOf z t x ≠ edgeOf z t (gt o x) then ib (decide (edgeOf z t (gt o x) = a ∧ edgeOf z t x = b)) else 0) else 0
def tabOf : List (List Nat) := (List.range (n / 4)).map fun a => (List.range (n / 4)).map fun b => sm n (tabD z o t a b)
end
theorem tabOf_len {n : Nat} {z o t : List Nat} : (tabOf n z o t).length = n / 4 := by unfold tabOf; rw [List.length_map, List.length_range]
theorem tabOf_row {n : Nat} {z o t : List Nat} {a : Nat} (h : a < n / 4) : ((tabOf n z o t).getD a []).length = n / 4 := by
  unfold tabOf
  rw [List.getD_eq_getElem?_getD, List.getElem?_map, List.getElem?_range h]
  show ((List.range (n / 4)).map _).length = _
  rw [len_map]
theorem tab_same {n : Nat} {z o t : List Nat} (T : TurnT n o) (a b : Nat) : sm n (tabC z o t a b) = sm n (tabD z o t a b) := by
  have e1 : sm n (tabC z o t a b) = sm n (fun x => if x < gt o x then ib (decide (edgeOf z t x = a ∧ edgeOf z t (gt o x) = b)) else 0)
      + sm n (fun x => (fun y => if ¬ y < gt o y ∧ edgeOf z t y ≠ edgeOf z t (gt o y) then ib (decide (edgeOf z t y = a ∧ edgeOf z t (gt o y) = b)) else 0) (gt o x)) := by
    rw [← sm_add]
    refine sm_congr fun x hx => ?_
    show tabC z o t a b x = _ + (if ¬ gt o x < gt o (gt o x) ∧ edgeOf z t (gt o x) ≠ edgeOf z t (gt o (gt o x)) then ib (decide (edgeOf z t (gt o x) = a ∧ edgeOf z t (gt o (gt o x)) = b)) else 0)
    rw [T.inv x hx]
    have hf := T.fix x hx
    unfold tabC
    by_cases h : x < gt o x
    · have h2 : ¬ gt o x < x := by omega
      by_cases h3 : edgeOf z t x = edgeOf z t (gt o x)
      · have h4 : ¬ (¬ gt o x < x ∧ edgeOf z t (gt o x) ≠ edgeOf z t x) := fun w => w.2 h3.symm
        rw [if_pos h, if_pos h, if_neg (fun w => w h3), if_neg h4]
      · have h4 : ¬ gt o x < x ∧ edgeOf z t (gt o x) ≠ edgeOf z t x := ⟨h2, fun w => h3 w.symm⟩
        rw [if_pos h, if_pos h, if_pos h3, if_pos h4]
    · have h2 : gt o x < x := by omega
      have h4 : ¬ (¬ gt o x < x ∧ edgeOf z t (gt o x) ≠ edgeOf z t x) := fun w => w.1 h2
      rw [if_neg h, if_neg h, if_neg h4]
  refine (e1.trans (congrArg (fun w => _ + w) (sm_turn T (fun y => if ¬ y < gt o y ∧ edgeOf z t y ≠ edgeOf z t (gt o y) then ib (decide (edgeOf z t y = a ∧ edgeOf z t (gt o y) = b)) else 0)))).trans ?_
  show _ + _ = _
  rw [← sm_add]
  refine sm_congr fun x hx => ?_
  unfold tabD
  by_cases h : x < gt o x
  · have h4 : ¬ (¬ x < gt o x ∧ edgeOf z t x ≠ edgeOf z t (gt o x)) := fun w => w.1 h
    have h5 : x < gt o x ∨ edgeOf z t x ≠ edgeOf z t (gt o x) := .inl h
    rw [if_pos h, if_neg h4, if_pos h5, Nat.add_zero]
  · by_cases h3 : edgeOf z t x = edgeOf z t (gt o x)
    · have h4 : ¬ (¬ x < gt o x ∧ edgeOf z t x ≠ edgeOf z t (gt o x)) := fun w => w.2 h3
      have h5 : ¬ (x < gt o x ∨ edgeOf z t x ≠ edgeOf z t (gt o x)) := fun w => w.elim h fun q => q h3
      rw [if_neg h, if_neg h4, if_neg h5]
    · have h4 : ¬ x < gt o x ∧ edgeOf z t x ≠ edgeOf z t (gt o x) := ⟨h, h3⟩
      have h5 : x < gt o x ∨ edgeOf z t x ≠ edgeOf z t (gt o x) := .inr h3
      rw [if_neg h, if_pos h4, if_pos h5, Nat.zero_add]
end Tm

namespace Tm
open L2 PySem PySem.Spec PyProof.Rows
/-! ## numbers told twice -/
theorem nodup_sub : ∀ {ks ns : List Int}, ks.Nodup → (∀ k ∈ ks, k ∈ ns) → ks.length ≤ ns.length
  | [], _, _, _ => Nat.zero_le _
  | k :: r, ns, h, s => by
    obtain ⟨h1, h2⟩ := List.nodup_cons.mp h
    have hk : k ∈ ns := s k List.mem_cons_self
    have := nodup_sub (ks := r) (ns := ns.erase k) h2 fun x hx => (List.mem_erase_of_ne (fun e => by subst e; exact h1 hx)).mpr (s x (List.mem_cons_of_mem _ hx))
    rw [List.length_erase_of_mem hk] at this
    have hp : 0 < ns.length := List.length_pos_of_mem hk
    rw [List.length_cons]
    omega
theorem nodup_of_len : ∀ {ns ks : List Int}, ks.Nodup → (∀ k ∈ ks, k ∈ ns) → ns.length ≤ ks.length → ns.Nodup
  | [], _, _, _, _ => List.nodup_nil
  | a :: r, ks, h, s, l => by
    rw [List.length_cons] at l
    by_cases ha : a ∈ r
    · have := nodup_sub (ks := ks) (ns := r) h fun x hx => by
        rcases List.mem_cons.mp (s x hx) with e | e
        · rw [e]; exact ha
        · exact e
      omega
    · have h2 := nodup_of_len (ns := r) (ks := ks.erase a) (h.erase a) (fun x hx => by
        have hne : x ≠ a := fun e => by
          subst e
          exact absurd hx (h.not_mem_erase)
        rcases List.mem_cons.mp (s x (List.mem_of_mem_erase hx)) with e | e
        · exact absurd e hne
        · exact e) (by
          have := List.length_erase (l := ks) (a := a)
          split at this <;> omega)
      exact List.nodup_cons.mpr ⟨ha, h2⟩
theorem set_len {ks ns : List Int} (h : ks.Nodup) (m : ∀ k, k ∈ ks ↔ k ∈ ns) : ks.length ≤ ns.length ∧ (ks.length = ns.length ↔ ns.Nodup) :=
  ⟨nodup_sub h fun k hk => (m k).mp hk, fun e => nodup_of_len h (fun k hk => (m k).mp hk) (by omega), fun n => Nat.le_antisymm (nodup_sub h fun k hk => (m k).mp hk) (nodup_sub n fun k hk => (m k).mpr hk)⟩
def iv (l : List Nat) : List Int := l.map fun (n : Nat) => (n : Int)
theorem iv_len (l : List Nat) : (iv l).length = l.length := by unfold iv; rw [List.length_map]
theorem iv_nv (l : List Nat) : (iv l).map V.int = nv l := by unfold iv nv; rw [List.map_map]; rfl
theorem iv_nodup {l : List Nat} : (iv l).Nodup ↔ l.Nodup := by
  unfold iv
  constructor
  · intro h
    have := (List.pairwise_map.mp h)
    exact this.imp fun hn e => hn (by rw [e])
  · intro h
    refine List.pairwise_map.mpr (h.imp fun hn e => hn (Int.ofNat.inj e))
theorem nodup_inj {l : List Nat} (h : l.Nodup) {i j : Nat} (hi : i < l.length) (hj : j < l.length) (e : gt l i = gt l j) : i = j := by
  have h1 := gt_some hi
  have h2 := gt_some hj
  rw [e, ← h2] at h1
  have a := (List.getElem?_eq_some_iff.mp (gt_some hi)).2
  have b := (List.getElem?_eq_some_iff.mp (gt_some hj)).2
  exact (List.getElem_inj h).mp (a.trans (e.trans b.symm))
/-! ## roles and images as lists -/
def strOf : PyData → Str
  | .str x => x
  | _ => ""
def natOf : PyData → Nat
  | .int i => i.toNat
  | _ => 0
def strsOf : PyData → List Str
  | .tuple ds => ds.map strOf
  | _ => []
def natsOf : PyData → List Nat
  | .tuple ds => ds.map natOf
  | _ => []
theorem roles_of {K : PySem.W.Frag} {H : Hp} {n : Nat} {d : PyData} {v : V} (h : rolesB n d = true) (D : Dp K H v d) : ∃ a, v = .ref a ∧ SqT K H a ((strsOf d).map V.str) ∧ (strsOf d).length = n ∧ ∀ c ∈ strsOf d, c ∈ codes := by
  cases d with
  | tuple ds =>
    obtain ⟨a, xs, rfl, hS, hD⟩ := D.tupI
    have h' : (decide (ds.length = n) && ds.all codeB) = true := h
    rw [Bool.and_eq_true] at h'
    obtain ⟨h1, h2⟩ := h'
    have hl := of_decide_eq_true h1
    have key : ∀ {ds : List PyData} {xs : List V}, ds.all codeB = true → DpAll K H xs ds → xs = (ds.map strOf).map V.str ∧ ∀ c ∈ ds.map strOf, c ∈ codes := by
      intro ds
      induction ds with
      | nil => intro xs _ hD; cases hD; exact ⟨rfl, fun c hc => by simp at hc⟩
      | cons d r ih =>
        intro xs ha hD
        cases hD with
        | cons h0 hr =>
          rw [List.all_cons, Bool.and_eq_true] at ha
          obtain ⟨i1, i2⟩ := ih ha.2 hr
          cases h0 with
          | str x =>
            have hx : x ∈ codes := of_decide_eq_true ha.1
            refine ⟨by rw [i1]; rfl, fun c hc => ?_⟩
            rcases List.mem_cons.mp hc with e | e
            · rw [e]; exact hx
            · exact i2 c e
          | _ => exact absurd ha.1 (by simp [codeB])
    obtain ⟨k1, k2⟩ := key h2 hD
    exact ⟨a, rfl, by rw [k1] at hS; exact hS, by show (ds.map strOf).length = n; rw [List.length_map, hl], k2⟩
  | _ => cases h
theorem nums_of {K : PySem.W.Frag} {H : Hp} {n : Nat} {d : PyData} {v : V} (h : numsB n d = true) (F : FF d) (D : Dp K H v d) : ∃ a, v = .ref a ∧ SqT K H a (nv (natsOf d)) ∧ ∀ c ∈ natsOf d, c < n := by
  cases d with
  | tuple ds =>
    obtain ⟨a, xs, rfl, hS, hD⟩ := D.tupI
    have F2 : ∀ d ∈ ds, FF d := fun d hd => F.sub hd
    have key : ∀ {ds : List PyData} {xs : List V}, (∀ d ∈ ds, FF d) → ds.all (numB n) = true → DpAll K H xs ds → xs = nv (ds.map natOf) ∧ ∀ c ∈ ds.map natOf, c < n := by
      intro ds
      induction ds with
      | nil => intro xs _ _ hD; cases hD; exact ⟨rfl, fun c hc => by simp at hc⟩
      | cons d r ih =>
        intro xs hF ha hD
        cases hD with
        | cons h0 hr =>
          rw [List.all_cons, Bool.and_eq_true] at ha
          obtain ⟨i1, i2⟩ := ih (fun d hd => hF d (List.mem_cons_of_mem _ hd)) ha.2 hr
          have F0 := hF _ List.mem_cons_self
          cases h0 with
          | int i =>
            have hi : i < n := of_decide_eq_true ha.1
            cases F0 with
            | int hp =>
              refine ⟨?_, fun c hc => ?_⟩
              · rw [i1]
                show V.int i :: nv (r.map natOf) = V.int ((i.toNat : Nat) : Int) :: nv (r.map natOf)
                rw [Int.toNat_of_nonneg hp]
              · rcases List.mem_cons.mp hc with e | e
                · rw [e]
                  show i.toNat < n
                  omega
                · exact i2 c e
          | _ => exact absurd ha.1 (by simp [numB])
    obtain ⟨k1, k2⟩ := key F2 h hD
    exact ⟨a, rfl, by rw [k1] at hS; exact hS, k2⟩
  | _ => cases h
/-! ## recastings -/
def dg (c : Str) (k : Nat) : Nat := c.cps.getD k 48 - 48
def tn (z o t : List Nat) (d x : Nat) : Nat := match d with
  | 0 => gt z x
  | 1 => gt o x
  | 2 => gt t x
  | _ => gt t (gt z x)
def cAt (cs : List Str) (e : Nat) : Str := cs.getD e ""
structure RecAt (z o t z2 o2 t2 : List Nat) (cs : List Str) (im : List Nat) (x : Nat) : Prop where
  ez : gt im (tn z o t (dg (cAt cs (edgeOf z t x)) 1) x) = gt z2 (gt im x)
  eo : gt im (gt o x) = gt o2 (gt im x)
  et : gt im (tn z o t (dg (cAt cs (edgeOf z t x)) 2) x) = gt t2 (gt im x)
structure RecOk (n : Nat) (z o t : List Nat) (n2 : Nat) (z2 o2 t2 : List Nat) (dr di : PyData) : Prop where
  roles : rolesB (n / 4) dr = true
  nums : numsB n di = true
  nn : n = n2
  len : (natsOf di).length = n
  nd : (natsOf di).Nodup
  at_ : ∀ x, x < n → RecAt z o t z2 o2 t2 (strsOf dr) (natsOf di) x
theorem codes_dg1 : ∀ c ∈ codes, dg c 1 = 0 ∨ dg c 1 = 2 ∨ dg c 1 = 3 := by decide +kernel
theorem codes_dg2 : ∀ c ∈ codes, dg c 2 = 0 ∨ dg c 2 = 2 ∨ dg c 2 = 3 := by decide +kernel
theorem codes_ne : ∀ c ∈ codes, dg c 1 ≠ dg c 2 := by decide +kernel
theorem codes_at1 : ∀ c ∈ codes, atI c.cps.toList 1 = some (c.cps.getD 1 48) := by decide +kernel
theorem codes_at2 : ∀ c ∈ codes, atI c.cps.toList 2 = some (c.cps.getD 2 48) := by decide +kernel
theorem codes_int1 : ∀ c ∈ codes, PySem.intText? ⟨#[c.cps.getD 1 48]⟩ = some ((dg c 1 : Nat) : Int) := by decide +kernel
theorem codes_int2 : ∀ c ∈ codes, PySem.intText? ⟨#[c.cps.getD 2 48]⟩ = some ((dg c 2 : Nat) : Int) := by decide +kernel
theorem cAt_mem {cs : List Str} {e : Nat} (h : e < cs.length) : cs[e]? = some (cAt cs e) ∧ cAt cs e ∈ cs := by
  have h1 : cs[e]? = some (cAt cs e) := by
    unfold cAt
    rw [List.getD_eq_getElem?_getD, List.getElem?_eq_getElem h]
    rfl
  exact ⟨h1, List.mem_of_getElem? h1⟩
theorem tn_lt {n : Nat} {z o t : List Nat} (M : MapT n z o t) {d x : Nat} (hx : x < n) : tn z o t d x < n := by
  unfold tn
  split
  · exact M.hz.bd x hx
  · exact M.ho.bd x hx
  · exact M.ht.bd x hx
  · exact M.ht.bd _ (M.hz.bd x hx)
end Tm

namespace Tm
open L2 PySem PySem.Spec PyProof.Rows
/-! ## trees of cases -/
def usedD : PyData := .tuple [.str "used"]
def g2 (tb : List (List Nat)) (a b : Nat) : Nat := gt (tb.getD a []) b
structure Sq (m : Nat) (tb : List (List Nat)) : Prop where
  len : tb.length = m
  row : ∀ a, a < m → (tb.getD a []).length = m
def caseB (tb ot : List (List Nat)) (m : Nat) (rec : List Nat → PyData → Bool) (given : List Nat) (e : Nat) (d : PyData) : Bool :=
  if PyData.eqv d usedD = true then decide (e ∈ given)
  else match ents "clash" 1 d with
    | some r => numsB (given.length + 1) (.tuple r) && !decide (g2 tb (natOf (r.getD 0 .none)) given.length = g2 ot (gt (given ++ [e]) (natOf (r.getD 0 .none))) e)
    | none => decide (e ∉ given) && (decide (given.length + 1 < m) && rec (given ++ [e]) d)
def treeB (tb ot : List (List Nat)) (m : Nat) : Nat → List Nat → PyData → Bool
  | 0, _, _ => false
  | f + 1, given, d => match ents "cases" m d with
    | none => false
    | some cs => (List.range m).all fun e => caseB tb ot m (treeB tb ot m f) given e (cs.getD e .none)
theorem ents_ff {w : Str} {n L k : Nat} {d : PyData} {r : List PyData} (h : ents w n d = some r) (F : Fm L k d) : Fm L k (.tuple r) ∧ r.length = n := by
  unfold ents at h
  cases d with
  | tuple ds =>
    cases ds with
    | nil => cases h
    | cons d0 rr =>
      cases d0 with
      | str x =>
        have h1 : entr w (.tuple (.str x :: rr)) = if x = w then some rr else none := rfl
        rw [h1] at h
        by_cases e : x = w
        · rw [if_pos e] at h
          have h2 : (if rr.length = n then some rr else none) = some r := h
          by_cases e2 : rr.length = n
          · rw [if_pos e2] at h2
            cases h2
            cases F with
            | tup g1 g2 => exact ⟨.tup (by rw [List.length_cons] at g1; omega) fun d hd => g2 d (List.mem_cons_of_mem _ hd), e2⟩
          · rw [if_neg e2] at h2
            cases h2
        · rw [if_neg e] at h
          cases h
      | _ => cases h
  | _ => cases h
theorem in_nv {e : Nat} {l : List Nat} : inV (.int e) (nv l) = decide (e ∈ l) := by
  unfold inV nv
  rw [List.any_map]
  induction l with
  | nil => rfl
  | cons a r ih =>
    rw [List.any_cons, ih]
    show ((((a : Nat) : Int) == ((e : Nat) : Int)) || decide (e ∈ r)) = decide (e ∈ a :: r)
    by_cases h : a = e
    · subst h
      simp
    · have h2 : ¬ ((a : Int) = (e : Int)) := by omega
      have h3 : ¬ e = a := fun z => h z.symm
      simp [h2, h3]
theorem flat_nv {l : List Nat} : (nv l).all flatV = true := by
  unfold nv
  rw [List.all_map]
  exact List.all_eq_true.mpr fun _ _ => rfl
theorem Dp.used {K : PySem.W.Frag} {H : Hp} {p : Addr} (h : H p = some (.tup [.str "used"])) : Dp K H (.ref p) usedD := .tup (SqT.of h) (.cons (.str _) .nil)
def edgesD : PyData := .tuple [.str "edges"]
theorem Dp.edges {K : PySem.W.Frag} {H : Hp} {p : Addr} (h : H p = some (.tup [.str "edges"])) : Dp K H (.ref p) edgesD := .tup (SqT.of h) (.cons (.str _) .nil)
theorem edges_sh : SeqAt.shaped edgesD = true := by decide +kernel
/-- what the judge answers, the law's own answer too -/
def JudgeOk (n : Nat) (z o t : List Nat) (n2 : Nat) (z2 o2 t2 : List Nat) (yes : Bool) (d : PyData) : Prop :=
  if yes = true then ∃ e0 e1, ents "recasting" 2 d = some [e0, e1] ∧ RecOk n z o t n2 z2 o2 t2 e0 e1
  else if n / 4 = n2 / 4 then treeB (tabOf n z o t) (tabOf n2 z2 o2 t2) (n / 4) (n / 4) [] d = true else PyData.eqv d edgesD = true
theorem tabSq {n : Nat} {z o t : List Nat} : Sq (n / 4) (tabOf n z o t) := ⟨tabOf_len, fun a h => tabOf_row h⟩
theorem used_sh : SeqAt.shaped usedD = true := by decide +kernel
end Tm

namespace Tm
open L2 PySem PySem.Spec PyProof.Rows
/-- a Map that is made -/
def mapF (p q r s : Addr) (n : Nat) : List (Str × V) := [("zero", .ref p), ("one", .ref q), ("two", .ref r), ("flags", .int (n : Nat)), ("edge_count", .int (n / 4 : Nat)), ("edge_numbers", .ref s)]
structure MapAt (K : PySem.W.Frag) (H : Hp) (x : Addr) (n : Nat) (z o t : List Nat) : Prop where
  ex : ∃ dx p q r s, H x = some (.ins (He.ga K "Map") dx (mapF p q r s n)) ∧ H p = some (.tup (nv z)) ∧ H q = some (.tup (nv o)) ∧ H r = some (.tup (nv t)) ∧ H s = some (.tup (nv (edgesOf n z t)))
theorem MapAt.keep {K : PySem.W.Frag} {H H' : Hp} {x : Addr} {n : Nat} {z o t : List Nat} {B : Bad} (m : MapAt K H x n z o t) (X : Xt B H H') (hB : ∀ a, B a → ∃ xs, H a = some (.lst xs)) : MapAt K H' x n z o t := by
  obtain ⟨dx, p, q, r, s, h1, h2, h3, h4, h5⟩ := m.ex
  have g : ∀ {a : Addr} {o : HO}, (∀ xs, o ≠ .lst xs) → H a = some o → H' a = some o := fun {a o} ne h => X a o (fun b => by
    obtain ⟨xs, e⟩ := hB a b
    rw [h] at e
    exact ne xs (Option.some.inj e)) h
  exact ⟨dx, p, q, r, s, g (fun xs e => by cases e) h1, g (fun xs e => by cases e) h2, g (fun xs e => by cases e) h3, g (fun xs e => by cases e) h4, g (fun xs e => by cases e) h5⟩
theorem MapAt.same {K : PySem.W.Frag} {H H' : Hp} {x : Addr} {n : Nat} {z o t : List Nat} (m : MapAt K H x n z o t) (X : Same H H') : MapAt K H' x n z o t :=
  m.keep (B := fun _ => False) (Xt.of X) (fun _ h => h.elim)
/-! ## the pool -/
def PoolV (H : Hp) (p sc : Addr) : Prop := ∃ (b c d e f : Int), H p = some (.lst [.ref sc, .int b, .int c, .int d, .int e, .int f]) ∧ 0 ≤ b
structure PoolAt (K : PySem.W.Frag) (H : Hp) (p sc : Addr) (cells : List Int) : Prop where
  ex : PoolV H p sc
  sq : SqL K H sc (cells.map V.int)
  ne : sc ≠ p
abbrev Xp (p : Addr) (H H' : Hp) : Prop := Xt (fun y => y = p) H H'
section
variable {K : PySem.W.Frag} {H H' H1 : Hp} {p a sc : Addr} {cells : List Int} {o : HO} {xs : List V}
theorem sqL_xp (X : Xp p H H') (n : a ≠ p) (h : SqL K H a xs) : SqL K H' a xs := Xt.sqL X n h
theorem PoolAt.kp (P : PoolAt K H p sc cells) (X : Xp p H H') : Kp H H' := Kp.xt X fun a e => by
  obtain ⟨b, c, d, e', f, h, _⟩ := P.ex
  subst e
  exact ⟨_, h⟩
theorem PoolAt.same (P : PoolAt K H p sc cells) (X : Same H H') : PoolAt K H' p sc cells := by
  obtain ⟨b, c, d, e', f, h1, h3⟩ := P.ex
  exact ⟨⟨b, c, d, e', f, X _ _ h1, h3⟩, X.tL P.sq, P.ne⟩
theorem PoolAt.to (P : PoolAt K H p sc cells) (X : Xp p H H') (v : PoolV H' p sc) : PoolAt K H' p sc cells := ⟨v, sqL_xp X P.ne P.sq, P.ne⟩
theorem PoolV.upd {H : Hp} {p sc a : Addr} {o : HO} (v : PoolV H p sc) (n : a ≠ p) : PoolV (L2.upd H a o) p sc := by
  obtain ⟨b, c, d, e', f, h1, h3⟩ := v
  exact ⟨b, c, d, e', f, by rw [upd_ne (Ne.symm n)]; exact h1, h3⟩
theorem PoolAt.nn (P : PoolAt K H p sc cells) (h : H a = none) : a ≠ p := by
  obtain ⟨b, c, d, e', f, h1, _⟩ := P.ex
  rintro rfl
  rw [h] at h1
  cases h1
/-- lists of numbers are not the pool -/
theorem PoolAt.nv (P : PoolAt K H p sc cells) (X : Xp p H H') {l : List Nat} (h : SqL K H a (Tm.nv l)) : SqL K H' a (Tm.nv l) := by
  obtain ⟨b, c, d, e', f, h1, _⟩ := P.ex
  rcases h with h | h
  · refine .inl ?_
    have n : a ≠ p := by
      rintro rfl
      rcases h with h | ⟨o, h⟩
      · rw [h1] at h
        have := HO.lst.inj (Option.some.inj h)
        cases l with
        | nil => cases this
        | cons x r => cases this
      · rw [h1] at h
        cases h
    exact X.rd n h
  · exact .inr h
theorem PoolAt.refs (P : PoolAt K H p sc cells) (X : Xp p H H') {rs : List Addr} (h : SqL K H a (rs.map V.ref)) : SqL K H' a (rs.map V.ref) := by
  obtain ⟨b, c, d, e', f, h1, _⟩ := P.ex
  rcases h with h | h
  · refine .inl ?_
    have n : a ≠ p := by
      rintro rfl
      rcases h with h | ⟨o, h⟩
      · rw [h1] at h
        have := HO.lst.inj (Option.some.inj h)
        match rs, this with
        | [], this => cases this
        | [x], this => cases this
        | x :: y :: r, this => cases this
      · rw [h1] at h
        cases h
    exact X.rd n h
  · exact .inr h
theorem PoolAt.tbl (P : PoolAt K H p sc cells) (X : Xp p H H') {tb : List (List Nat)} (h : Tbl K H a tb) : Tbl K H' a tb := by
  obtain ⟨rs, h1, h2, h3⟩ := h.ex
  exact ⟨rs, P.refs X h1, h2, fun i r e => P.nv X (h3 i r e)⟩
theorem PoolAt.mapAt (P : PoolAt K H p sc cells) (X : Xp p H H') {x : Addr} {n : Nat} {z o t : List Nat} (m : MapAt K H x n z o t) : MapAt K H' x n z o t :=
  m.keep X fun a e => by
    obtain ⟨b, c, d, e', f, h, _⟩ := P.ex
    subst e
    exact ⟨_, h⟩
theorem PoolAt.lst (P : PoolAt K H p sc cells) (X : Xp p H H') (n : a ≠ p) (h : H a = some (.lst xs)) : H' a = some (.lst xs) := X a _ n h
end
theorem xp_none {p a : Addr} {H H' : Hp} (X : Xp p H H') (n : a ≠ p) (h : H' a = none) : H a = none := by
  cases e : H a with
  | none => rfl
  | some u => rw [X a u n e] at h; cases h
/-- of a promise that nobody asks -/
theorem ok_none {P : Program} {w : World} {K : PySem.W.Frag} {mg : Str → Option Value} {base : Heap} {x : Str} {st : Stmt} {ps : List Str} {k : Nat} (F : FnP K mg x st)
    (hb : ∀ (kV doc pm : Value) (an : Option Addr) (cdv ct : Value) (us : List Value), us.length = ps.length → bindArgs (PySem.W.fnOf x x (defArgs st) (defBody st) (defScope st) .none kV doc pm an cdv ct) ⟨us, []⟩ = pure (ps.zip us)) :
    Ok P w K mg base x k ps (fun _ _ _ _ => False) := by
  obtain ⟨fd, D⟩ := F.ex
  exact ⟨⟨fd, ⟨fun _ _ _ _ h => h.elim, fun _ _ _ _ _ _ _ _ _ _ _ _ _ h => h.elim⟩, D.bindsN hb⟩, F.gl, D.kp⟩
/-- a row before the rest: the rest is proved once -/
theorem w_seqG {D : Ends} {σ : L2.St} {H : Hp} {t u : TS} (h : ∀ J : L2.St → Hp → Prop, (∀ σ H, u D σ H → J σ H) → t { D with nx := J } σ H) : tSeq t u D σ H := h (u D) (fun _ _ h => h)
/-- an if whose ways are proved once each -/
theorem w_ifG {D : Ends} {σ : L2.St} {H : Hp} {c : TT} {t u : TS} (h : ∀ J L : Hp → Prop, (∀ H, t D σ H → J H) → (∀ H, u D σ H → L H) → c σ H fun b H1 => if b = true then J H1 else L H1) : tIfS c t u D σ H :=
  h (fun H => t D σ H) (fun H => u D σ H) (fun _ h => h) (fun _ h => h)
theorem w_dget {Q : VK} {σ : L2.St} {H : Hp} {td ty : TE} (h : td σ H fun x H1 => ty σ H1 fun y H2 => ∃ a v, x = .ref a ∧ DGet H2 a y (some v) ∧ Q v H2) : tDGet td ty σ H Q := h
theorem w_lset {Q : VK} {σ : L2.St} {H : Hp} {K : PySem.W.Frag} {ta : TE} (h : ta σ H fun x H1 => ∃ (l : Addr) (ns : List Int), x = .ref l ∧
  SqT K H1 l (ns.map V.int) ∧ ns.length ≤ 4000 ∧ ∀ ks : List Int, ks.Nodup → (∀ k, k ∈ ks ↔ k ∈ ns) → Q (.int (ks.length : Nat)) H1) : tLenSetT K ta σ H Q := h
/-- three fresh rows in a fresh list -/
theorem rws3 {H : Hp} {n : Nat} {v : V} {a b c D : Addr} {H1 H2 H3 : Hp} (ha : H a = none) (s1 : Same H H1) (ra : H1 a = some (.lst (fv n (fun _ => v)))) (hb : H1 b = none) (s2 : Same H1 H2) (rb : H2 b = some (.lst (fv n (fun _ => v))))
    (hc : H2 c = none) (s3 : Same H2 H3) (rc : H3 c = some (.lst (fv n (fun _ => v)))) (hD : H3 D = none) : Rws H (upd H3 D (.lst [.ref a, .ref b, .ref c])) D [a, b, c] 3 n (fun _ _ => v) := by
  have s4 : Same H3 (upd H3 D (.lst [.ref a, .ref b, .ref c])) := Same.tnew hD
  have ab : a ≠ b := by rintro rfl; rw [ra] at hb; cases hb
  have ac : a ≠ c := by rintro rfl; rw [s2 _ _ ra] at hc; cases hc
  have bc : b ≠ c := by rintro rfl; rw [rb] at hc; cases hc
  have aD : a ≠ D := by rintro rfl; rw [s3 _ _ (s2 _ _ ra)] at hD; cases hD
  have bD : b ≠ D := by rintro rfl; rw [s3 _ _ rb] at hD; cases hD
  have cD : c ≠ D := by rintro rfl; rw [rc] at hD; cases hD
  refine ⟨rfl, by simp [ab, ac, bc], upd_same, by simp [Ne.symm aD, Ne.symm bD, Ne.symm cD], fun i r e => ?_, (s1.trans (s2.trans s3)).free hD, fun r hr => ?_, ((s1.trans s2).trans s3).trans s4⟩
  · match i, e with
    | 0, e => cases e; exact s4 _ _ (s3 _ _ (s2 _ _ ra))
    | 1, e => cases e; exact s4 _ _ (s3 _ _ rb)
    | 2, e => cases e; exact s4 _ _ rc
    | i + 3, e => simp at e
  · simp only [List.mem_cons, List.not_mem_nil, or_false] at hr
    rcases hr with rfl | rfl | rfl
    · exact ha
    · exact s1.tfr hb
    · exact (s1.trans s2).tfr hc
end Tm

namespace Tm
open PySem L2
/-! ## permutations and the maps that they rename -/
structure Prm (n : Nat) (p : List Nat) : Prop where
  len : p.length = n
  nd : p.Nodup
  bd : ∀ x ∈ p, x < n
theorem Prm.lt {n : Nat} {p : List Nat} (P : Prm n p) {x : Nat} (h : x < n) : gt p x < n := P.bd _ (List.mem_of_getElem? (gt_some (by rw [P.len]; exact h)))
theorem Prm.inj {n : Nat} {p : List Nat} (P : Prm n p) {x y : Nat} (hx : x < n) (hy : y < n) (e : gt p x = gt p y) : x = y := nodup_inj P.nd (by rw [P.len]; exact hx) (by rw [P.len]; exact hy) e
theorem nodup_len {l : List Nat} {n : Nat} (nd : l.Nodup) (b : ∀ x ∈ l, x < n) : l.length ≤ n := by
  have := nodup_sub (ks := iv l) (ns := iv (List.range n)) (iv_nodup.mpr nd) fun k hk => by
    unfold iv at hk ⊢
    obtain ⟨a, ha, rfl⟩ := List.mem_map.mp hk
    exact List.mem_map.mpr ⟨a, List.mem_range.mpr (b a ha), rfl⟩
  rwa [iv_len, iv_len, List.length_range] at this
theorem Prm.sur {n : Nat} {p : List Nat} (P : Prm n p) {y : Nat} (hy : y < n) : ∃ x, x < n ∧ gt p x = y := by
  by_cases h : y ∈ p
  · obtain ⟨x, hx, e⟩ := List.getElem_of_mem h
    refine ⟨x, by rw [← P.len]; exact hx, ?_⟩
    have := gt_some hx
    rw [List.getElem?_eq_getElem hx, e] at this
    exact (Option.some.inj this).symm
  · have := nodup_len (l := y :: p) (n := n) (List.nodup_cons.mpr ⟨h, P.nd⟩) fun x hx => by
      rcases List.mem_cons.mp hx with e | e
      · rw [e]; exact hy
      · exact P.bd x e
    rw [List.length_cons, P.len] at this
    omega
/-- F is f, renamed by p -/
structure Cj (n : Nat) (p f F : List Nat) : Prop where
  len : F.length = n
  at_ : ∀ x, x < n → gt F (gt p x) = gt p (gt f x)
theorem Cj.turn {n : Nat} {p f F : List Nat} (P : Prm n p) (T : TurnT n f) (C : Cj n p f F) : TurnT n F := by
  refine ⟨C.len, fun i hi => ?_, fun i hi => ?_, fun i hi => ?_⟩
  · obtain ⟨x, hx, rfl⟩ := P.sur hi
    rw [C.at_ x hx]
    exact P.lt (T.bd x hx)
  · obtain ⟨x, hx, rfl⟩ := P.sur hi
    rw [C.at_ x hx, C.at_ _ (T.bd x hx), T.inv x hx]
  · obtain ⟨x, hx, rfl⟩ := P.sur hi
    rw [C.at_ x hx]
    exact fun e => T.fix x hx (P.inj (T.bd x hx) hx e)
theorem Cj.map {n : Nat} {p z o t Z O T : List Nat} (P : Prm n p) (M : MapT n z o t) (Cz : Cj n p z Z) (Co : Cj n p o O) (Ct : Cj n p t T) : MapT n Z O T := by
  refine ⟨Cz.turn P M.hz, Co.turn P M.ho, Ct.turn P M.ht, fun i hi => ?_, fun i hi => ?_, fun Pr h0 cl i hi => ?_, M.pos, M.le⟩
  · obtain ⟨x, hx, rfl⟩ := P.sur hi
    rw [Cz.at_ x hx, Ct.at_ x hx, Ct.at_ _ (M.hz.bd x hx), Cz.at_ _ (M.ht.bd x hx), M.cm x hx]
  · obtain ⟨x, hx, rfl⟩ := P.sur hi
    rw [Cz.at_ x hx, Ct.at_ _ (M.hz.bd x hx)]
    exact fun e => M.f3 x hx (P.inj (M.ht.bd _ (M.hz.bd x hx)) hx e)
  · obtain ⟨x0, hx0, e0⟩ := P.sur M.pos
    obtain ⟨x, hx, rfl⟩ := P.sur hi
    refine M.any (fun x => Pr (gt p x)) x0 hx0 (by show Pr (gt p x0); rw [e0]; exact h0) (fun j hj hp => ?_) x hx
    have := cl _ (P.lt hj) hp
    rw [Cz.at_ j hj, Co.at_ j hj, Ct.at_ j hj] at this
    exact this
/-! ## recast maps -/
def rcZ (n : Nat) (z o t : List Nat) (cs : List Str) (k : Nat) : List Nat := (List.range n).map fun x => tn z o t (dg (cAt cs (edgeOf z t x)) k) x
theorem rcZ_at {n : Nat} {z o t : List Nat} {cs : List Str} {k x : Nat} (h : x < n) : gt (rcZ n z o t cs k) x = tn z o t (dg (cAt cs (edgeOf z t x)) k) x := gt_map h
theorem rcZ_len {n : Nat} {z o t : List Nat} {cs : List Str} {k : Nat} : (rcZ n z o t cs k).length = n := len_map
section
variable {n : Nat} {z o t : List Nat} (M : MapT n z o t)
include M
/-- the three turns of an edge -/
def good (d : Nat) : Prop := d = 0 ∨ d = 2 ∨ d = 3
theorem tn_edge {d x : Nat} (hd : good d) (hx : x < n) : edgeOf z t (tn z o t d x) = edgeOf z t x := by
  have E := M.edg
  rcases hd with rfl | rfl | rfl
  · exact edgeOf_z E hx
  · exact edgeOf_t E hx
  · exact (edgeOf_t E (M.hz.bd x hx)).trans (edgeOf_z E hx)
theorem tn_tn {d x : Nat} (hd : good d) (hx : x < n) : tn z o t d (tn z o t d x) = x := by
  rcases hd with rfl | rfl | rfl
  · exact M.hz.inv x hx
  · exact M.ht.inv x hx
  · show gt t (gt z (gt t (gt z x))) = x
    have hz := M.hz.bd x hx
    rw [← M.cm _ hz, M.ht.inv _ (M.hz.bd _ hz), M.hz.inv x hx]
theorem tn_ne {d x : Nat} (hd : good d) (hx : x < n) : tn z o t d x ≠ x := by
  rcases hd with rfl | rfl | rfl
  · exact M.hz.fix x hx
  · exact M.ht.fix x hx
  · exact M.f3 x hx
/-- two of them make the third -/
theorem tn_two {d e x : Nat} (hd : good d) (he : good e) (hne : d ≠ e) (hx : x < n) : ∃ f, good f ∧ f ≠ d ∧ f ≠ e ∧ tn z o t d (tn z o t e x) = tn z o t f x ∧ tn z o t e (tn z o t d x) = tn z o t f x := by
  have cm := M.cm x hx
  have hz := M.hz.bd x hx
  have ht := M.ht.bd x hx
  have zz := M.hz.inv x hx
  have tt := M.ht.inv x hx
  have a1 : gt z (gt t (gt z x)) = gt t x := by rw [← M.cm _ hz, zz]
  have a2 : gt t (gt z (gt t x)) = gt z x := by rw [M.cm _ ht, tt]
  have a3 : gt t (gt t (gt z x)) = gt z x := M.ht.inv _ hz
  rcases hd with rfl | rfl | rfl
  · rcases he with rfl | rfl | rfl
    · exact absurd rfl hne
    · exact ⟨3, .inr (.inr rfl), by decide, by decide, cm.symm, rfl⟩
    · exact ⟨2, .inr (.inl rfl), by decide, by decide, a1, by show gt t (gt z (gt z x)) = gt t x; rw [zz]⟩
  · rcases he with rfl | rfl | rfl
    · exact ⟨3, .inr (.inr rfl), by decide, by decide, rfl, cm.symm⟩
    · exact absurd rfl hne
    · exact ⟨0, .inl rfl, by decide, by decide, a3, a2⟩
  · rcases he with rfl | rfl | rfl
    · exact ⟨2, .inr (.inl rfl), by decide, by decide, by show gt t (gt z (gt z x)) = gt t x; rw [zz], a1⟩
    · exact ⟨0, .inl rfl, by decide, by decide, a2, a3⟩
    · exact absurd rfl hne
variable {cs : List Str} (hl : cs.length = n / 4) (hc : ∀ c ∈ cs, c ∈ codes)
include hl hc
theorem code_at {x : Nat} (hx : x < n) : cAt cs (edgeOf z t x) ∈ codes := hc _ (cAt_mem (by rw [hl]; exact edgeOf_lt M.edg hx)).2
theorem rc_turn {k : Nat} (hk : ∀ c ∈ codes, good (dg c k)) : TurnT n (rcZ n z o t cs k) := by
  refine ⟨rcZ_len, fun x hx => ?_, fun x hx => ?_, fun x hx => ?_⟩
  · rw [rcZ_at hx]
    exact tn_lt M hx
  · have g := hk _ (code_at M hl hc hx)
    rw [rcZ_at hx, rcZ_at (tn_lt M hx), tn_edge M g hx, tn_tn M g hx]
  · rw [rcZ_at hx]
    exact tn_ne M (hk _ (code_at M hl hc hx)) hx
theorem rc_map : MapT n (rcZ n z o t cs 1) o (rcZ n z o t cs 2) := by
  have T1 := rc_turn M hl hc (k := 1) codes_dg1
  have T2 := rc_turn M hl hc (k := 2) codes_dg2
  have two : ∀ x, x < n → ∃ f, good f ∧ gt (rcZ n z o t cs 2) (gt (rcZ n z o t cs 1) x) = tn z o t f x ∧ gt (rcZ n z o t cs 1) (gt (rcZ n z o t cs 2) x) = tn z o t f x ∧
      f ≠ dg (cAt cs (edgeOf z t x)) 1 ∧ f ≠ dg (cAt cs (edgeOf z t x)) 2 := fun x hx => by
    have hm := code_at M hl hc hx
    have g1 := codes_dg1 _ hm
    have g2 := codes_dg2 _ hm
    obtain ⟨f, hf, f1, f2, f3, f4⟩ := tn_two M g1 g2 (codes_ne _ hm) hx
    refine ⟨f, hf, ?_, ?_, f1, f2⟩
    · rw [rcZ_at hx, rcZ_at (tn_lt M hx), tn_edge M g1 hx, f4]
    · rw [rcZ_at hx, rcZ_at (tn_lt M hx), tn_edge M g2 hx, f3]
  refine ⟨T1, M.ho, T2, fun x hx => ?_, fun x hx => ?_, fun P h0 cl x hx => ?_, M.pos, M.le⟩
  · obtain ⟨f, hf, e1, e2, _⟩ := two x hx
    rw [e1, e2]
  · obtain ⟨f, hf, e1, _⟩ := two x hx
    rw [e1]
    exact tn_ne M hf hx
  · refine M.cn P h0 (fun y hy hP => ?_) x hx
    obtain ⟨c1, c2, c3⟩ := cl y hy hP
    obtain ⟨f, hf, e1, _, n1, n2⟩ := two y hy
    have c4 := (cl _ (T1.bd y hy) c1).2.2
    rw [e1] at c4
    have hm := code_at M hl hc hy
    have g1 := codes_dg1 _ hm
    have g2 := codes_dg2 _ hm
    have hne := codes_ne _ hm
    rw [rcZ_at hy] at c1 c3
    have any : ∀ d, good d → P (tn z o t d y) := fun d hd => by
      by_cases d1 : d = dg (cAt cs (edgeOf z t y)) 1
      · rw [d1]; exact c1
      · by_cases d2 : d = dg (cAt cs (edgeOf z t y)) 2
        · rw [d2]; exact c3
        · have : d = f := by
            unfold good at hd hf
            rcases g1 with w | w | w <;> rcases g2 with w2 | w2 | w2 <;> omega
          rw [this]; exact c4
    exact ⟨any 0 (.inl rfl), c2, any 2 (.inr (.inl rfl))⟩
end
/-! ## the maps that the law draws -/
structure OInv (m met k : Nat) (w : Nat → Int) : Prop where
  one : 1 ≤ met
  le : met ≤ m
  rng : ∀ x, x < 4 * m → w x = -1 ∨ ∃ y : Nat, w x = y ∧ y < 4 * met ∧ w y = x ∧ y ≠ x ∧ x < 4 * met
  link : ∀ b, 1 ≤ b → b < met → ∃ y : Nat, w (4 * b) = y ∧ y < 4 * b
  count : cnt (4 * met) (fun x => decide (w x < 0)) + 2 * k = 4 * met
  big : met = m ∨ 2 ≤ cnt (4 * met) (fun x => decide (w x < 0))
theorem filt_cnt {n : Nat} {b : Nat → Bool} : ((List.range n).filter b).length = cnt n b := by
  induction n with
  | zero => rfl
  | succ n ih =>
    rw [List.range_succ, List.filter_append, List.length_append, ih]
    show _ = cnt n b + ib (b n)
    cases h : b n <;> simp [h, ib]
def wput (w : Nat → Int) (x y : Nat) : Nat → Int := fun i => if i = x then (y : Int) else if i = y then (x : Int) else w i
theorem cnt_put {n x y : Nat} {w : Nat → Int} (hx : x < n) (hy : y < n) (hxy : x ≠ y) (fx : w x < 0) (fy : w y < 0) :
    cnt n (fun i => decide (wput w x y i < 0)) + 2 = cnt n (fun i => decide (w i < 0)) := by
  have e : cnt n (fun i => decide (w i < 0)) = cnt n (fun i => decide (wput w x y i < 0)) + cnt n (fun i => decide (i = x)) + cnt n (fun i => decide (i = y)) := by
    unfold cnt
    rw [← sm_add, ← sm_add]
    refine sm_congr fun i _ => ?_
    unfold wput ib
    by_cases h1 : i = x
    · subst h1
      have : ¬ ((y : Int) < 0) := by omega
      simp [fx, hxy, this]
    · by_cases h2 : i = y
      · subst h2
        have : ¬ ((x : Int) < 0) := by omega
        simp [fy, h1, this]
      · simp [h1, h2]
  rw [e, cnt_eq hx, cnt_eq hy]
theorem OInv.step {m met k x y : Nat} {w : Nat → Int} (I : OInv m met k w) (hk : k < 2 * m) (hx : x < 4 * met) (fx : w x < 0)
    (hy : (y < 4 * met ∧ w y < 0 ∧ x ≠ y ∧ (met < m → cnt (4 * met) (fun x => decide (w x < 0)) ≠ 2)) ∨ (met < m ∧ y = 4 * met)) : OInv m (max met (y / 4 + 1)) (k + 1) (wput w x y) := by
  have h1 := I.one
  have h2 := I.le
  have hxm : x < 4 * m := by omega
  have hym : y < 4 * m := by omega
  have fy : w y < 0 := by
    rcases hy with h | h
    · exact h.2.1
    · rcases I.rng y hym with e | ⟨v, _, _, _, _, e⟩
      · rw [e]; decide
      · omega
  have hxy : x ≠ y := by
    rcases hy with h | h
    · exact h.2.2.1
    · omega
  have px : wput w x y x = y := if_pos rfl
  have py : wput w x y y = x := by
    unfold wput
    rw [if_neg (Ne.symm hxy), if_pos rfl]
  have po : ∀ i, i ≠ x → i ≠ y → wput w x y i = w i := fun i a b => by
    unfold wput
    rw [if_neg a, if_neg b]
  have cnt' : cnt (4 * met) (fun x => decide (w x < 0)) + 2 * k = 4 * met := I.count
  have rng' : ∀ met', max met (y / 4 + 1) = met' → ∀ i, i < 4 * m → wput w x y i = -1 ∨ ∃ v : Nat, wput w x y i = v ∧ v < 4 * met' ∧ wput w x y v = i ∧ v ≠ i ∧ i < 4 * met' := fun met' hm' i hi => by
    by_cases a : i = x
    · subst a
      exact .inr ⟨y, px, by omega, py, Ne.symm hxy, by omega⟩
    · by_cases b : i = y
      · subst b
        exact .inr ⟨x, py, by omega, px, hxy, by omega⟩
      · rw [po i a b]
        rcases I.rng i hi with e | ⟨v, e1, e2, e3, e4, e5⟩
        · exact .inl e
        · have vx : v ≠ x := fun z => by subst z; rw [e3] at fx; omega
          have vy : v ≠ y := fun z => by subst z; rw [e3] at fy; omega
          exact .inr ⟨v, e1, by omega, by rw [po v vx vy]; exact e3, e4, by omega⟩
  rcases hy with ⟨y1, y2, y3, y4⟩ | ⟨y1, rfl⟩
  · have em : max met (y / 4 + 1) = met := by omega
    have rg := rng' met em
    rw [em]
    have c2 := cnt_put hx y1 hxy fx fy
    refine ⟨h1, h2, rg, fun b b1 b2 => ?_, by omega, ?_⟩
    · obtain ⟨v, e1, e2⟩ := I.link b b1 b2
      have bx : 4 * b ≠ x := fun z => by rw [z] at e1; omega
      have by' : 4 * b ≠ y := fun z => by rw [z] at e1; omega
      exact ⟨v, by rw [po _ bx by']; exact e1, e2⟩
    · rcases I.big with e | e
      · exact .inl e
      · by_cases hm : met < m
        · have := y4 hm
          exact .inr (by omega)
        · exact .inl (by omega)
  · have em : max met (4 * met / 4 + 1) = met + 1 := by omega
    have rg := rng' (met + 1) em
    rw [em]
    have c2 := cnt_put (n := 4 * (met + 1)) (x := x) (y := 4 * met) (w := w) (by omega) (by omega) hxy fx fy
    have c3 : cnt (4 * (met + 1)) (fun x => decide (w x < 0)) = cnt (4 * met) (fun x => decide (w x < 0)) + 4 := by
      have neg : ∀ i, 4 * met ≤ i → i < 4 * met + 4 → ib (decide (w i < 0)) = 1 := fun i a b => by
        have : w i < 0 := by
          rcases I.rng i (by omega) with e | ⟨v, _, _, _, _, e⟩
          · rw [e]; decide
          · omega
        simp [ib, this]
      show sm (4 * met + 3) _ + ib (decide (w (4 * met + 3) < 0)) = _
      rw [neg _ (by omega) (by omega)]
      show sm (4 * met + 2) _ + ib (decide (w (4 * met + 2) < 0)) + 1 = _
      rw [neg _ (by omega) (by omega)]
      show sm (4 * met + 1) _ + ib (decide (w (4 * met + 1) < 0)) + 1 + 1 = _
      rw [neg _ (by omega) (by omega)]
      show sm (4 * met) _ + ib (decide (w (4 * met) < 0)) + 1 + 1 + 1 = _
      rw [neg _ (by omega) (by omega)]
    refine ⟨by omega, by omega, rg, fun b b1 b2 => ?_, by omega, .inr ?_⟩
    · by_cases bm : b = met
      · subst bm
        exact ⟨x, py, by omega⟩
      · obtain ⟨v, e1, e2⟩ := I.link b b1 (by omega)
        have bx : 4 * b ≠ x := fun z => by rw [z] at e1; omega
        have by' : 4 * b ≠ 4 * met := by omega
        exact ⟨v, by rw [po _ bx by']; exact e1, e2⟩
    · rcases I.big with e | e
      · omega
      · omega
theorem xor_facts : ∀ x, x < 20 → (x ^^^ 1) / 4 = x / 4 ∧ (x ^^^ 2) / 4 = x / 4 ∧ (x ^^^ 1) ^^^ 1 = x ∧ (x ^^^ 2) ^^^ 2 = x ∧ x ^^^ 1 ≠ x ∧ x ^^^ 2 ≠ x ∧ (x ^^^ 1) ^^^ 2 = (x ^^^ 2) ^^^ 1 ∧ (x ^^^ 1) ^^^ 2 ≠ x := by decide
theorem xor_low : ∀ b, b < 5 → ∀ r, r < 4 → (r = 0 ∨ (4 * b) ^^^ 1 = 4 * b + r ∨ (4 * b) ^^^ 2 = 4 * b + r ∨ ((4 * b) ^^^ 1) ^^^ 2 = 4 * b + r) := by decide
theorem xor_int1 : ∀ x : Nat, x < 20 → Builtin.bitXor (x : Int) 1 = ((x ^^^ 1 : Nat) : Int) := by decide
theorem xor_int2 : ∀ x : Nat, x < 20 → Builtin.bitXor (x : Int) 2 = ((x ^^^ 2 : Nat) : Int) := by decide
def xz (n k : Nat) : List Nat := (List.range n).map (· ^^^ k)
def wl (n : Nat) (w : Nat → Int) : List Nat := (List.range n).map fun x => (w x).toNat
theorem OInv.map {m met : Nat} {w : Nat → Int} (I : OInv m met (2 * m) w) (hm : m ≤ 5) : MapT (4 * m) (xz (4 * m) 1) (wl (4 * m) w) (xz (4 * m) 2) ∧ ∀ x, x < 4 * m → w x = ((gt (wl (4 * m) w) x : Nat) : Int) := by
  have h1 := I.one
  have h2 := I.le
  have hc := I.count
  have hmet : met = m := by
    rcases I.big with e | e
    · exact e
    · omega
  subst hmet
  have h0 : cnt (4 * met) (fun x => decide (w x < 0)) = 0 := by omega
  have all : ∀ x, x < 4 * met → ∃ y : Nat, w x = y ∧ y < 4 * met ∧ w y = x ∧ y ≠ x := fun x hx => by
    rcases I.rng x hx with e | ⟨y, e1, e2, e3, e4, _⟩
    · have := cnt_lt (n := 4 * met) (p := fun x => decide (w x < 0)) hx (by rw [e]; decide)
      omega
    · exact ⟨y, e1, e2, e3, e4⟩
  have gz : ∀ x, x < 4 * met → gt (xz (4 * met) 1) x = x ^^^ 1 := fun x h => gt_map h
  have gtt : ∀ x, x < 4 * met → gt (xz (4 * met) 2) x = x ^^^ 2 := fun x h => gt_map h
  have go : ∀ x, x < 4 * met → ∀ y : Nat, w x = y → gt (wl (4 * met) w) x = y := fun x h y e => by
    have : gt (wl (4 * met) w) x = (w x).toNat := gt_map h
    rw [this, e, Int.toNat_natCast]
  have bz : ∀ x, x < 4 * met → x ^^^ 1 < 4 * met := fun x h => by have := (xor_facts x (by omega)).1; omega
  have bt' : ∀ x, x < 4 * met → x ^^^ 2 < 4 * met := fun x h => by have := (xor_facts x (by omega)).2.1; omega
  refine ⟨⟨⟨len_map, fun x hx => ?_, fun x hx => ?_, fun x hx => ?_⟩, ⟨len_map, fun x hx => ?_, fun x hx => ?_, fun x hx => ?_⟩, ⟨len_map, fun x hx => ?_, fun x hx => ?_, fun x hx => ?_⟩, fun x hx => ?_, fun x hx => ?_, fun P p0 cl => ?_, by omega, by omega⟩, fun x hx => ?_⟩
  · rw [gz x hx]; exact bz x hx
  · rw [gz x hx, gz _ (bz x hx)]; exact (xor_facts x (by omega)).2.2.1
  · rw [gz x hx]; exact (xor_facts x (by omega)).2.2.2.2.1
  · obtain ⟨y, e1, e2, e3, e4⟩ := all x hx
    rw [go x hx y e1]; exact e2
  · obtain ⟨y, e1, e2, e3, e4⟩ := all x hx
    rw [go x hx y e1, go y e2 x e3]
  · obtain ⟨y, e1, e2, e3, e4⟩ := all x hx
    rw [go x hx y e1]; exact e4
  · rw [gtt x hx]; exact bt' x hx
  · rw [gtt x hx, gtt _ (bt' x hx)]; exact (xor_facts x (by omega)).2.2.2.1
  · rw [gtt x hx]; exact (xor_facts x (by omega)).2.2.2.2.2.1
  · rw [gz x hx, gtt x hx, gtt _ (bz x hx), gz _ (bt' x hx)]; exact (xor_facts x (by omega)).2.2.2.2.2.2.1
  · rw [gz x hx, gtt _ (bz x hx)]; exact (xor_facts x (by omega)).2.2.2.2.2.2.2
  · -- blocks one after another
    have blk : ∀ b, b < met → P (4 * b) → ∀ r, r < 4 → P (4 * b + r) := fun b hb hP r hr => by
      have hx : 4 * b < 4 * met := by omega
      obtain ⟨c1, c2, c3⟩ := cl _ hx hP
      rw [gz _ hx] at c1
      rw [gtt _ hx] at c3
      have c4 := (cl _ (bz _ hx) c1).2.2
      rw [gtt _ (bz _ hx)] at c4
      rcases xor_low b (by omega) r hr with e | e | e | e
      · subst e; exact hP
      · rw [← e]; exact c1
      · rw [← e]; exact c3
      · rw [← e]; exact c4
    have main : ∀ b, b ≤ met → ∀ x, x < 4 * b → P x := by
      intro b
      induction b with
      | zero => intro _ x hx; omega
      | succ b ih =>
        intro hb x hx
        by_cases hlt : x < 4 * b
        · exact ih (by omega) x hlt
        · have hPb : P (4 * b) := by
            by_cases b0 : b = 0
            · subst b0; exact p0
            · obtain ⟨y, e1, e2⟩ := I.link b (by omega) (by omega)
              have hy := ih (by omega) y e2
              obtain ⟨y', f1, f2, f3, f4⟩ := all (4 * b) (by omega)
              have eyy : y = y' := by omega
              subst eyy
              have := (cl y (by omega) hy).2.1
              rw [go y (by omega) (4 * b) f3] at this
              exact this
          have := blk b (by omega) hPb (x - 4 * b) (by omega)
          rwa [show 4 * b + (x - 4 * b) = x by omega] at this
    exact fun x hx => main met (Nat.le_refl _) x hx
  · obtain ⟨y, e1, e2, e3, e4⟩ := all x hx
    rw [go x hx y e1]; exact e1
theorem OInv.start {m : Nat} (h : 1 ≤ m) : OInv m 1 0 (fun _ => -1) := by
  refine ⟨Nat.le_refl _, h, fun x _ => .inl rfl, fun b b1 b2 => by omega, rfl, .inr (by decide)⟩
end Tm

namespace Tm
open L2 PySem PySem.Spec PyProof.Rows
/-! ## tables as data -/
def rowD (l : List Nat) : PyData := .list (l.map fun (x : Nat) => PyData.int x)
def tblD (tb : List (List Nat)) : PyData := .list (tb.map rowD)
theorem eqv_ints : ∀ {a b : List Nat}, PyData.eqvAll (a.map fun (x : Nat) => PyData.int x) (b.map fun (x : Nat) => PyData.int x) = decide (a = b)
  | [], [] => rfl
  | [], _ :: _ => rfl
  | _ :: _, [] => rfl
  | x :: a, y :: b => by
    show (((x : Int) == (y : Int)) && PyData.eqvAll (a.map fun (x : Nat) => PyData.int x) (b.map fun (x : Nat) => PyData.int x)) = _
    rw [eqv_ints]
    by_cases h : x = y
    · subst h
      simp
    · have h2 : ¬ ((x : Int) = (y : Int)) := by omega
      simp [h, h2]
theorem eqv_row {a b : List Nat} : PyData.eqv (rowD a) (rowD b) = decide (a = b) := by
  unfold rowD
  simp only [PyData.eqv]
  exact eqv_ints
theorem eqv_rows : ∀ {a b : List (List Nat)}, PyData.eqvAll (a.map rowD) (b.map rowD) = decide (a = b)
  | [], [] => rfl
  | [], _ :: _ => rfl
  | _ :: _, [] => rfl
  | x :: a, y :: b => by
    show (PyData.eqv (rowD x) (rowD y) && PyData.eqvAll (a.map rowD) (b.map rowD)) = _
    rw [eqv_rows, eqv_row]
    by_cases h : x = y
    · subst h
      simp
    · simp [h]
theorem eqv_tbl {a b : List (List Nat)} : PyData.eqv (tblD a) (tblD b) = decide (a = b) := by
  unfold tblD
  simp only [PyData.eqv]
  exact eqv_rows
theorem can_ints : ∀ {a : List Nat}, PyData.canLayAll0 (a.map fun (x : Nat) => PyData.int x) = true ∧ PyData.depthAll (a.map fun (x : Nat) => PyData.int x) = 0
  | [] => ⟨rfl, rfl⟩
  | x :: a => by
    obtain ⟨h1, h2⟩ := can_ints (a := a)
    refine ⟨?_, ?_⟩
    · show (true && PyData.canLayAll0 (a.map fun (x : Nat) => PyData.int x)) = true
      rw [h1]
      rfl
    · show max 0 (PyData.depthAll (a.map fun (x : Nat) => PyData.int x)) = 0
      rw [h2]
      rfl
theorem can_rows : ∀ {a : List (List Nat)}, PyData.canLayAll0 (a.map rowD) = true ∧ PyData.depthAll (a.map rowD) ≤ 1
  | [] => ⟨rfl, Nat.zero_le _⟩
  | x :: a => by
    obtain ⟨h1, h2⟩ := can_rows (a := a)
    obtain ⟨g1, g2⟩ := can_ints (a := x)
    refine ⟨?_, ?_⟩
    · show (PyData.canLayAll0 (x.map fun (x : Nat) => PyData.int x) && PyData.canLayAll0 (a.map rowD)) = true
      rw [h1, g1]
      rfl
    · show max (PyData.depthAll (x.map fun (x : Nat) => PyData.int x) + 1) (PyData.depthAll (a.map rowD)) ≤ 1
      rw [g2]
      omega
theorem tbl_sh {a : List (List Nat)} : SeqAt.shaped (tblD a) = true := by
  obtain ⟨h1, h2⟩ := can_rows (a := a)
  unfold SeqAt.shaped
  rw [show PyData.canLay0 (tblD a) = true from h1, decide_eq_true (show PyData.depth (tblD a) ≤ 64 from by
    show PyData.depthAll (a.map rowD) + 1 ≤ 64
    omega)]
  rfl
theorem dp_row {K : PySem.W.Frag} {H : Hp} {r : Addr} {l : List Nat} (h : SqL K H r (nv l)) : Dp K H (.ref r) (rowD l) := by
  refine .lst h ?_
  unfold nv
  clear h
  induction l with
  | nil => exact .nil
  | cons x l ih => exact .cons (.int _) ih
theorem dp_rows {K : PySem.W.Frag} {H : Hp} : ∀ {rs : List Addr} {tb : List (List Nat)}, rs.length = tb.length → (∀ i r, rs[i]? = some r → SqL K H r (nv (tb.getD i []))) → DpAll K H (rs.map V.ref) (tb.map rowD)
  | [], [], _, _ => .nil
  | [], _ :: _, h, _ => by cases h
  | _ :: _, [], h, _ => by cases h
  | r :: rs, l :: tb, h, g => .cons (dp_row (g 0 r rfl)) (dp_rows (by simpa using h) fun i s e => g (i + 1) s e)
theorem Tbl.dp {K : PySem.W.Frag} {H : Hp} {a : Addr} {tb : List (List Nat)} (T : Tbl K H a tb) : Dp K H (.ref a) (tblD tb) := by
  obtain ⟨rs, h1, h2, h3⟩ := T.ex
  exact .lst h1 (dp_rows h2 h3)
/-! ## code in roles -/
def codesD : List PyData := codes.map .str
theorem code_in {d : PyData} (F : FF d) : (codesD.any fun z => PyData.eqv z d) = codeB d := by
  unfold codesD
  rw [List.any_map]
  cases F with
  | int h => rfl
  | tup _ _ => rfl
  | @str k x hx =>
    show (codes.any fun c => c == x) = decide (x ∈ codes)
    rw [Bool.eq_iff_iff, List.any_eq_true, decide_eq_true_iff]
    constructor
    · rintro ⟨c, hc, e⟩
      rw [← eq_of_beq e]
      exact hc
    · intro h
      exact ⟨x, h, beq_self_eq_true x⟩
theorem codesD_sh : SeqAt.shaped (.tuple codesD) = true := by decide +kernel
def codesV : List V := codes.map V.str
theorem codesV_dp {K : PySem.W.Frag} {H : Hp} : DpAll K H codesV codesD := by
  unfold codesV codesD
  induction codes with
  | nil => exact .nil
  | cons c r ih => exact .cons (.str c) ih
/-! ## a recasting is a renaming of the recast map -/
theorem rec_iff {n : Nat} {z o t z2 o2 t2 : List Nat} (M : MapT n z o t) (M2 : MapT n z2 o2 t2) {dr di : PyData} (hr : rolesB (n / 4) dr = true) (hn : numsB n di = true) (R : Prm n (natsOf di)) {Z O T : List Nat}
    (Cz : Cj n (natsOf di) (rcZ n z o t (strsOf dr) 1) Z) (Co : Cj n (natsOf di) o O) (Ct : Cj n (natsOf di) (rcZ n z o t (strsOf dr) 2) T) :
    RecOk n z o t n z2 o2 t2 dr di ↔ [Z, O, T] = [z2, o2, t2] := by
  constructor
  · intro w
    have go : ∀ {F G f : List Nat}, Cj n (natsOf di) f F → TurnT n G → (∀ x, x < n → gt (natsOf di) (gt f x) = gt G (gt (natsOf di) x)) → F = G := fun {F G f} C TG h => by
      refine ext_gt (by rw [C.len, TG.len]) fun i hi => ?_
      rw [C.len] at hi
      obtain ⟨x, hx, rfl⟩ := R.sur hi
      rw [C.at_ x hx, h x hx]
    rw [go Cz M2.hz fun x hx => by rw [rcZ_at hx]; exact (w.at_ x hx).ez, go Co M2.ho fun x hx => (w.at_ x hx).eo, go Ct M2.ht fun x hx => by rw [rcZ_at hx]; exact (w.at_ x hx).et]
  · intro w
    injection w with w1 w
    injection w with w2 w
    injection w with w3 _
    subst w1 w2 w3
    refine ⟨hr, hn, rfl, R.len, R.nd, fun x hx => ⟨?_, ?_, ?_⟩⟩
    · have := Cz.at_ x hx
      rw [rcZ_at hx] at this
      exact this.symm
    · exact (Co.at_ x hx).symm
    · have := Ct.at_ x hx
      rw [rcZ_at hx] at this
      exact this.symm
/-! ## papers -/
def PartOk (L k : Nat) (d : PyData) : Prop := Fm L k d ∧ ∃ w qs, d = .tuple (.str w :: qs)
def TreeOk (L k m : Nat) (d : PyData) : Prop := Fm L k d ∧ ∃ ps, d = .tuple (.str "cases" :: ps) ∧ ps.length = m ∧ ∀ p ∈ ps, ∃ w qs, p = .tuple (.str w :: qs)
theorem TreeOk.part {L k m : Nat} {d : PyData} (h : TreeOk L k m d) : PartOk L k d := by
  obtain ⟨F, ps, e, _⟩ := h
  exact ⟨F, "cases", ps, e⟩
theorem cut_last (xs : List V) : cutV xs (some (-1)) none = xs.drop (xs.length - 1) := by
  unfold cutV
  have h : HT.sIx xs.length 0 (some (-1)) = xs.length - 1 := by
    show (if (-1 : Int) < 0 then ((-1 : Int) + (xs.length : Int)).toNat else min (-1 : Int).toNat xs.length) = _
    rw [if_pos (by decide)]
    omega
  rw [h, HT.sIx_none, List.take_of_length_le (by rw [List.length_drop]; exact Nat.le_refl _)]
def F5 (d : PyData) : Prop := Fm 500 20 d
theorem F5.of {L k : Nat} {d : PyData} (h : Fm L k d) (hL : L ≤ 500 := by decide) (hk : k ≤ 20 := by decide) : F5 d := h.mono hL hk
/-- a list of forms -/
structure Fl (K : PySem.W.Frag) (H : Hp) (l : Addr) (ws : List V) (es : List PyData) : Prop where
  at_ : H l = some (.lst ws)
  dp : DpAll K H ws es
  ok : ∀ d ∈ es, F5 d
theorem Fl.len {K : PySem.W.Frag} {H : Hp} {l : Addr} {ws : List V} {es : List PyData} (f : Fl K H l ws es) : ws.length = es.length := f.dp.len
theorem Fl.same {K : PySem.W.Frag} {H H' : Hp} {l : Addr} {ws : List V} {es : List PyData} (f : Fl K H l ws es) (s : Same H H') : Fl K H' l ws es := ⟨s _ _ f.at_, DpAll.keep f.ok (Kp.of s) f.dp, f.ok⟩
theorem Fl.xp {K : PySem.W.Frag} {H H' : Hp} {l p sc : Addr} {cells : List Int} {ws : List V} {es : List PyData} (f : Fl K H l ws es) (P : PoolAt K H p sc cells) (X : Xp p H H') (n : l ≠ p) : Fl K H' l ws es := ⟨X _ _ n f.at_, DpAll.keep f.ok (P.kp X) f.dp, f.ok⟩
theorem Fl.app {K : PySem.W.Frag} {H H' : Hp} {a b c : Addr} {ws vs : List V} {es fs : List PyData} (f : Fl K H a ws es) (g : Fl K H b vs fs) (s : Same H H') (hc : H' c = some (.lst (ws ++ vs))) : Fl K H' c (ws ++ vs) (es ++ fs) :=
  ⟨hc, DpAll.keep (fun d hd => by
      rcases List.mem_append.mp hd with z | z
      · exact f.ok d z
      · exact g.ok d z) (Kp.of s) (f.dp.app g.dp), fun d hd => by
    rcases List.mem_append.mp hd with z | z
    · exact f.ok d z
    · exact g.ok d z⟩
/-! ## steps over forms -/
section
variable {K : PySem.W.Frag} {H : Hp} {Q : VK} {a b : Addr} {ds es : List PyData} {xs : List V} {L k : Nat}
theorem w_ctD (A : Dp K H (.ref a) (.tuple ds)) (B : Dp K H (.ref b) (.tuple es)) (FA : ∀ d ∈ ds, Fm L k d) (FB : ∀ d ∈ es, Fm L k d) (z : ds.length + es.length ≤ 1000000)
    (q : ∀ c H', Same H H' → Dp K H' (.ref c) (.tuple (ds ++ es)) → Q (.ref c) H') : rCatA K (.ref a) (.ref b) H Q := by
  obtain ⟨a', xs, ea, hS, hD⟩ := A.tupI
  cases ea
  obtain ⟨b', ys, eb, gS, gD⟩ := B.tupI
  cases eb
  exact w_ctT hS gS (by rw [hD.len, gD.len]; exact z) fun c H' s hc => q c H' s (.tup hc ((DpAll.keep FA (Kp.of s) hD).app (DpAll.keep FB (Kp.of s) gD)))
theorem w_fromD {n : Nat} {i : Int} (ei : i = (n : Nat)) (A : Dp K H (.ref a) (.tuple ds)) (FA : ∀ d ∈ ds, Fm L k d) (q : ∀ c H', Same H H' → Dp K H' (.ref c) (.tuple (ds.drop n)) → Q (.ref c) H') : rSlA K (.ref a) (some i) none H Q := by
  subst ei
  obtain ⟨a', xs, ea, hS, hD⟩ := A.tupI
  cases ea
  refine w_slT hS fun c H' s hc => ?_
  rw [cut_from] at hc
  exact q c H' s (.tup hc ((DpAll.keep FA (Kp.of s) hD).drop n))
theorem w_toD {n : Nat} {i : Int} (ei : i = (n : Nat)) (A : Dp K H (.ref a) (.tuple ds)) (FA : ∀ d ∈ ds, Fm L k d) (q : ∀ c H', Same H H' → Dp K H' (.ref c) (.tuple (ds.take n)) → Q (.ref c) H') : rSlA K (.ref a) none (some i) H Q := by
  subst ei
  obtain ⟨a', xs, ea, hS, hD⟩ := A.tupI
  cases ea
  refine w_slT hS fun c H' s hc => ?_
  rw [cut_to] at hc
  exact q c H' s (.tup hc ((DpAll.keep FA (Kp.of s) hD).take n))
theorem w_lastD (A : Dp K H (.ref a) (.tuple ds)) (FA : ∀ d ∈ ds, Fm L k d) (q : ∀ c H', Same H H' → Dp K H' (.ref c) (.tuple (ds.drop (ds.length - 1))) → Q (.ref c) H') : rSlA K (.ref a) (some (-1)) none H Q := by
  obtain ⟨a', xs, ea, hS, hD⟩ := A.tupI
  cases ea
  refine w_slT hS fun c H' s hc => ?_
  rw [cut_last, hD.len] at hc
  exact q c H' s (.tup hc ((DpAll.keep FA (Kp.of s) hD).drop _))
theorem w_tupD {R : Addr → Prop} (A : DpAll K H xs ds) (FA : ∀ d ∈ ds, Fm L k d) (z : xs.length ≤ 1000000) (q : ∀ p H', H' = upd H p (.tup xs) → Same H H' → Dp K H' (.ref p) (.tuple ds) → R p) : xs.length ≤ sizeLine ∧ ∀ p, H p = none → R p :=
  ⟨szl z, fun p hp => q p _ rfl (Same.tnew hp) (.tup (SqT.of upd_same) (DpAll.keep FA (Kp.of (Same.tnew hp)) A))⟩
theorem w_lstF {R : Addr → Prop} (A : DpAll K H xs ds) (FA : ∀ d ∈ ds, F5 d) (z : xs.length ≤ 1000000) (q : ∀ p H', H' = upd H p (.lst xs) → Same H H' → H p = none → Fl K H' p xs ds → R p) : xs.length ≤ sizeLine ∧ ∀ p, H p = none → R p :=
  ⟨szl z, fun p hp => q p _ rfl (Same.tnew hp) hp ⟨upd_same, DpAll.keep FA (Kp.of (Same.tnew hp)) A, FA⟩⟩
theorem w_catF {ws vs : List V} (f : Fl K H a ws ds) (g : Fl K H b vs es) (z : ds.length + es.length ≤ 1000000) (q : ∀ p H', Same H H' → H p = none → Fl K H' p (ws ++ vs) (ds ++ es) → Q (.ref p) H') : rCat (.ref a) (.ref b) H Q :=
  w_cat f.at_ g.at_ (szl (by rw [f.len, g.len]; exact z)) fun p hp => q p _ (Same.tnew hp) hp (f.app g (Same.tnew hp) upd_same)
end
/-- membership in a short list of forms -/
theorem fm_cons {P : PyData → Prop} {d : PyData} {ds : List PyData} (h : P d) (g : ∀ x ∈ ds, P x) : ∀ x ∈ d :: ds, P x := fun x hx => by
  rcases List.mem_cons.mp hx with z | z
  · rw [z]; exact h
  · exact g x z
theorem fm_nil {P : PyData → Prop} : ∀ x ∈ ([] : List PyData), P x := fun x hx => by simp at hx
theorem fm_app {P : PyData → Prop} {ds es : List PyData} (h : ∀ x ∈ ds, P x) (g : ∀ x ∈ es, P x) : ∀ x ∈ ds ++ es, P x := fun x hx => by
  rcases List.mem_append.mp hx with z | z
  · exact h x z
  · exact g x z
/-- a comprehension over a range whose items may change the heap -/
theorem crp {σ : L2.St} {Q : VK} {tt : TT} {te : TE} {vs : List Nat} {j : Nat} {H1 : Hp} {n : Nat} {x : Int} (e : x = (n : Nat)) (hn : n ≤ 1000000) (Iv : Nat → Addr → Hp → Prop)
    (h0 : ∀ D, H1 D = none → Iv 0 D (upd H1 D (.lst []))) (hw : ∀ x, wipe ((wipe σ vs).set j (some x)) vs = wipe σ vs) (ht : ∀ σ2 H2 (R : Bool → Hp → Prop), R true H2 → tt σ2 H2 R)
    (he : ∀ i D H', i < n → H1 D = none → Iv i D H' → te ((wipe σ vs).set j (some (.int (i : Nat)))) H' fun y H4 => ∃ acc, H4 D = some (.lst acc) ∧ acc.length < sizeLine ∧ Iv (i + 1) D (upd H4 D (.lst (acc ++ [y]))))
    (q : ∀ D H', H1 D = none → Iv n D H' → Q (.ref D) H') :
    ∃ i : Int, [V.int x] = [.int i] ∧ -(2 ^ 62) ≤ i ∧ i < 2 ^ 62 ∧ lcB (gName j) tt te vs σ Q (Itr 0 i.toNat) H1 := by
  subst e
  refine ⟨_, rfl, by omega, by omega, fun D0 hD => ?_⟩
  rw [Int.toNat_natCast]
  refine lc_range (lo := 0) (n := n) (fun i H' => Iv i D0 H') (h0 D0 hD) (fun i H' hi p => ?_) (fun H' p => q D0 H' hD p)
  show wipe ((wipe σ vs).set j (some (.int (0 + (i : Nat))))) vs = wipe σ vs ∧ tt ((wipe σ vs).set j (some (.int (0 + (i : Nat))))) H' _
  rw [Int.zero_add]
  exact ⟨hw _, ht _ _ _ (iteT (he i D0 H' hi hD p))⟩
def PaperOk (n n2 : Nat) (d : PyData) : Prop := Fm 200 10 d ∧ ((∃ w ps, d = .tuple (.str w :: ps) ∧ w ≠ "cases") ∨ (n = n2 ∧ TreeOk 200 10 (n / 4) d))
theorem PaperOk.tup {n n2 : Nat} {d : PyData} (h : PaperOk n n2 d) : ∃ ds, d = .tuple ds := by
  rcases h.2 with ⟨w, ps, e, _⟩ | ⟨_, _, ps, e, _⟩
  · exact ⟨_, e⟩
  · exact ⟨_, e⟩
end Tm

namespace Tm
open L2 PySem PySem.Spec PyProof.Rows
def top (i : Nat) : Stmt := PySem.Challenge.pw_turnmaps_k94_recast_papers_judged.main.body.getD i (.Pass ⟨0, 0, 0, 0⟩)
def inClass (s : Stmt) (j : Nat) : Stmt := L2.inClass s j
def rolesV : List V := [.str "023", .str "032", .str "203", .str "230", .str "302", .str "320"]
/-- what the top leaves of the built-ins and of the constants -/
structure Tx (K : PySem.W.Frag) (mg : Str → Option Value) : Prop where
  b_len : mg "len" = none
  b_range : mg "range" = none
  b_enumerate : mg "enumerate" = none
  b_abs : mg "abs" = none
  b_max : mg "max" = none
  b_int : mg "int" = none
  b_isinstance : mg "isinstance" = none
  b_tuple : mg "tuple" = none
  b_list : mg "list" = none
  b_str : mg "str" = none
  b_set : mg "set" = none
  b_all : mg "all" = none
  b_repr : mg "repr" = none
  g_MOST_FLAGS : ∃ t, mg "MOST_FLAGS" = some (.int 240 t)
  g_MOST_STEPS : ∃ t, mg "MOST_STEPS" = some (.int 1000 t)
  g_STEPS : ∃ t, mg "STEPS" = some (.str "0123" t)
  g_ROLES : mg "ROLES" = some (.ref (He.ga K "ROLES"))
  c_Map : Cls K (He.ga K "Map")
  n_zero : NoAttr K (He.ga K "Map") "zero"
  n_one : NoAttr K (He.ga K "Map") "one"
  n_two : NoAttr K (He.ga K "Map") "two"
  n_flags : NoAttr K (He.ga K "Map") "flags"
  n_edge_count : NoAttr K (He.ga K "Map") "edge_count"
  n_edge_numbers : NoAttr K (He.ga K "Map") "edge_numbers"
  sq_ROLES : ∀ H, SqT K H (He.ga K "ROLES") rolesV
end Tm

local macro_rules | `(tactic| walk_at "w1") => `(tactic| first
  | with_reducible refine Tm.w_seq ?_ | with_reducible refine Tm.w_var rfl ?_ | with_reducible refine Tm.w_c ?_ | with_reducible refine Tm.w_op ?_ | with_reducible refine Tm.w_asg ?_
  | with_reducible refine Tm.w_gn ?_ | with_reducible refine Tm.w_if ?_ | with_reducible refine Tm.w_tst ?_ | with_reducible refine Tm.w_tB ?_ | with_reducible refine Tm.w_i0 ?_
  | with_reducible refine Tm.w_eqI ?_ | with_reducible refine Tm.w_neI ?_ | with_reducible refine Tm.w_bl ?_ | with_reducible refine Tm.w_bl2 ?_ | with_reducible refine Tm.w_cons ?_ | with_reducible refine Tm.w_nil ?_
  | with_reducible refine Tm.w_cb ?_ | with_reducible refine Tm.w_call ?_ | with_reducible refine Tm.w_and ?_ | with_reducible refine Tm.w_or ?_ | with_reducible refine Tm.w_not ?_
  | with_reducible refine Tm.w_chain ?_ | with_reducible refine Tm.w_isN ?_ | with_reducible refine Tm.w_notN ?_ | with_reducible refine Tm.w_andV ?_ | with_reducible refine Tm.w_orV ?_ | with_reducible refine Tm.w_notV ?_
  | with_reducible refine Tm.w_ret ?_ | with_reducible refine Tm.w_retN ?_ | with_reducible refine Tm.w_drop ?_ | with_reducible refine Tm.w_next ?_ | with_reducible refine Tm.w_gsub ?_ | with_reducible refine Tm.w_tup ?_ | with_reducible refine Tm.w_lst ?_
  | with_reducible refine Tm.w_sl ?_ | with_reducible refine Tm.w_noP ?_ | with_reducible refine Tm.w_part ?_ | with_reducible refine Tm.w_int ?_ | with_reducible refine Tm.w_fld ?_ | with_reducible refine Tm.w_bm ?_ | with_reducible refine Tm.w_bm0 ?_
  | with_reducible refine Tm.w_abs ?_ | with_reducible refine Tm.w_max2 ?_ | with_reducible refine Tm.w_min2 ?_ | with_reducible refine Tm.w_int1 ?_ | with_reducible refine Tm.w_repB ?_ | with_reducible refine Tm.w_un ?_ | with_reducible refine Tm.w_iU ?_
  | with_reducible refine L2.iteT ?_ | with_reducible refine L2.iteF ?_ | with_reducible refine Tm.w_nt ?_ | with_reducible refine Tm.w_nf ?_
  | with_reducible refine Tm.w_fr1 ?_ | with_reducible refine Tm.w_fl ?_ | with_reducible refine Tm.w_ft ?_ | with_reducible refine Tm.w_fe ?_ | with_reducible refine Tm.w_fet ?_ | with_reducible refine Tm.w_cr1 ?_ | with_reducible refine Tm.w_cl ?_ | with_reducible refine Tm.w_ct ?_ | with_reducible refine Tm.w_cet ?_ | with_reducible refine Tm.w_cs ?_
  | with_reducible refine Tm.w_sfld ?_ | with_reducible refine Tm.w_make ?_ | with_reducible refine Tm.w_revT ?_ | with_reducible refine Tm.w_lsr ?_ | with_reducible refine Tm.w_notT ?_
  | with_reducible refine Tm.w_dget ?_ | with_reducible refine Tm.w_lset ?_ | with_reducible refine Tm.w_tru ?_ | with_reducible refine Tm.w_ife ?_ | with_reducible refine Tm.w_ip ?_ | with_reducible refine Tm.w_eqS ?_ | with_reducible refine Tm.w_neS ?_)
local macro_rules | `(tactic| walk_at "w") => `(tactic| repeat walk_at "w1")

namespace Tm
open L2 PySem PySem.Spec PyProof.Rows
abbrev s_looked_count : Stmt := top 11
abbrev N_looked_count : List Str := ["count", "low", "high"]
abbrev ps_looked_count : List Str := ["count", "low", "high"]
theorem sc_looked_count : FnScope N_looked_count ps_looked_count (defScope s_looked_count) := ⟨rfl, rfl, rfl, by decide +kernel, rfl, by decide +kernel, by decide +kernel⟩
def t_looked_count (K : PySem.W.Frag) : TS :=
    (tIfS (tNot (tTest (tChain rLeI rLeI (tVar 1) (tVar 0) (tVar 2)))) tNever tNext)
def sp_looked_count (K : PySem.W.Frag) : Sp := fun vs H Q _ => ∃ c lo hi : Int, vs = [.int c, .int lo, .int hi] ∧ lo ≤ c ∧ c ≤ hi ∧ Q .non H
theorem len_looked_count {K : PySem.W.Frag} : ∀ vs H Q E, sp_looked_count K vs H Q E → vs.length = ps_looked_count.length := by
  rintro vs H Q E ⟨c, lo, hi, rfl, _⟩
  rfl
theorem wp_looked_count {K : PySem.W.Frag} {mg : Str → Option Value} (T : Tx K mg) : ∀ vs H Q E, sp_looked_count K vs H Q E → t_looked_count K { nx := fun _ H' => Q .non H', rt := Q } (start N_looked_count vs) H := by
  rintro vs H Q E ⟨c, lo, hi, rfl, h1, h2, q⟩
  unfold t_looked_count
  walk_at "w"
  refine w_dT h1 ?_
  walk_at "w"
  exact w_nF h2 q

theorem ok_looked_count {P : Program} {w : World} {K : PySem.W.Frag} {mg : Str → Option Value} {base : Heap} (F : FnP K mg "looked_count" s_looked_count) (T : Tx K mg) :
    Ok P w K mg base "looked_count" 1 ps_looked_count (sp_looked_count K) :=
  ok_of (t := t_looked_count K) F sc_looked_count (len_looked_count) (fun _ _ _ _ _ _ us hl => match us, hl with | [_, _, _], _ => rfl)
    (fun f cdv A outer s H E hr => by
      have hu := hu_of hr
      have hu65 := u65 hr
      exact (pss_one (ps_if (pt_not (pt_chain op_le op_le (pv 1) (pv 0) (pv 2))) pss_never pss_nil)))
    (wp_looked_count T)

abbrev s_looked_images : Stmt := top 19
abbrev N_looked_images : List Str := ["images", "count", "flag"]
abbrev ps_looked_images : List Str := ["images", "count"]
theorem sc_looked_images : FnScope N_looked_images ps_looked_images (defScope s_looked_images) := ⟨rfl, rfl, rfl, by decide +kernel, rfl, by decide +kernel, by decide +kernel⟩
def t_looked_images (K : PySem.W.Frag) : TS :=
    (tSeq (tIfS (tTest (tOp rNe (tCB (rLenV K) (tCons (tVar 0) tNil)) (tVar 1))) tNever tNext)
    (tFor (iList K (tVar 0)) (gName 2) (tIfS (tNot (tTest (tChain rLeI rLtI (tC (.int 0)) (tVar 2) (tVar 1)))) tNever tNext)))
def sp_looked_images (K : PySem.W.Frag) : Sp := fun vs H Q _ => ∃ (a : Addr) (l : List Nat), vs = [.ref a, .int (l.length : Nat)] ∧ SqL K H a (nv l) ∧ (∀ i, i < l.length → gt l i < l.length) ∧ Q .non H
theorem len_looked_images {K : PySem.W.Frag} : ∀ vs H Q E, sp_looked_images K vs H Q E → vs.length = ps_looked_images.length := by
  rintro vs H Q E ⟨a, l, rfl, _⟩
  rfl
theorem wp_looked_images {K : PySem.W.Frag} {mg : Str → Option Value} (T : Tx K mg) : ∀ vs H Q E, sp_looked_images K vs H Q E → t_looked_images K { nx := fun _ H' => Q .non H', rt := Q } (start N_looked_images vs) H := by
  rintro vs H Q E ⟨a, l, rfl, hS, hl, q⟩
  unfold t_looked_images
  walk_at "w"
  refine w_lenL hS ?_
  walk_at "w"
  refine w_nF (by rw [nv_len]) ?_
  walk_at "w"
  refine fl hS (fun i σ H' => H' = H ∧ ∃ v, σ = [some (.ref a), some (.int (l.length : Nat)), v]) ⟨rfl, _, rfl⟩ (fun i σ H' _ ⟨e, _⟩ => by rw [e]; exact hS) ?_ ?_
  · rintro i x σ H' hi ⟨rfl, v, rfl⟩
    obtain ⟨hlt, rfl⟩ := nv_of hi
    walk_at "w"
    refine w_dT (Int.natCast_nonneg _) ?_
    walk_at "w"
    refine w_nF (by have := hl i hlt; omega) ?_
    exact ⟨rfl, _, rfl⟩
  · rintro σ H' ⟨rfl, _⟩
    exact q

theorem ok_looked_images {P : Program} {w : World} {K : PySem.W.Frag} {mg : Str → Option Value} {base : Heap} (F : FnP K mg "looked_images" s_looked_images) (T : Tx K mg) :
    Ok P w K mg base "looked_images" 1 ps_looked_images (sp_looked_images K) :=
  ok_of (t := t_looked_images K) F sc_looked_images (len_looked_images) (fun _ _ _ _ _ _ us hl => match us, hl with | [_, _], _ => rfl)
    (fun f cdv A outer s H E hr => by
      have hu := hu_of hr
      have hu65 := u65 hr
      exact (pss_cons (ps_if (pt_cmpR op_ne (pe_callB call_len rfl T.b_len PySem.boot_len (pa_cons (pv 0) pa_nil)) (pv 1) (nomark _)) pss_never pss_nil)
      (pss_one (ps_for PassesOwn.never rfl (pi_list (pv 0)) (pg_name (i := 2) sc_looked_images.nd rfl (Or.inl rfl)) (pss_one (ps_if (pt_not (pt_chain op_le op_lt pe_int (pv 2) (pv 1))) pss_never pss_nil))))))
    (wp_looked_images T)

abbrev s_joined_from : Stmt := top 14
abbrev N_joined_from : List Str := ["images_lists", "count", "start", "met", "waiting", "number", "images", "image", "_"]
abbrev ps_joined_from : List Str := ["images_lists", "count", "start"]
theorem sc_joined_from : FnScope N_joined_from ps_joined_from (defScope s_joined_from) := ⟨rfl, rfl, rfl, by decide +kernel, rfl, by decide +kernel, by decide +kernel⟩
def t_joined_from (K : PySem.W.Frag) : TS :=
    (tSeq (tAsg (tLc (iRng1 (tCons (tVar 1) tNil)) (gName 8) tYes (tC (.bl false)) [8]) (gName 3))
    (tSeq (tAsg (tC (.bl true)) (gSub (tVar 3) (tVar 2) rSetL))
    (tSeq (tAsg (tLst (tCons (tVar 2) tNil)) (gName 4))
    (tSeq (tWhile (tTru K (tVar 4)) (tSeq (tAsg (tBM0 K "list" rPop (tVar 4)) (gName 5))
    (tFor (iList K (tVar 0)) (gName 6) (tSeq (tAsg (tOp (rIxL K) (tVar 6) (tVar 5)) (gName 7))
    (tIfS (tNot (tB (tOp (rIxL K) (tVar 3) (tVar 7)))) (tSeq (tAsg (tC (.bl true)) (gSub (tVar 3) (tVar 7) rSetL))
    (tDrop (tBM K "list" rAppend (tVar 4) (tCons (tVar 7) tNil)))) tNext)))))
    (tRet (tLc (iRng1 (tCons (tVar 1) tNil)) (gName 5) (tB (tOp (rIxL K) (tVar 3) (tVar 5))) (tVar 5) [5]))))))
/-- bs are closed under the tables fs -/
def Closed (n : Nat) (fs : List (List Nat)) (P : Nat → Prop) : Prop := ∀ f ∈ fs, ∀ x, x < n → P x → P (gt f x)
def falses : List Bool → Nat
  | [] => 0
  | b :: r => (if b then 0 else 1) + falses r
theorem falses_set : ∀ {l : List Bool} {i : Nat}, i < l.length → bt l i = false → falses (l.set i true) + 1 = falses l
  | [], i, h, _ => by simp at h
  | b :: r, 0, h, e => by
    have e2 : b = false := e
    subst e2
    simp [falses]
    omega
  | b :: r, i + 1, h, e => by
    have ih := falses_set (l := r) (i := i) (by simpa using h) e
    simp only [List.set_cons_succ, falses]
    omega
theorem falses_le : ∀ l : List Bool, falses l ≤ l.length
  | [] => Nat.le_refl _
  | b :: r => by
    have := falses_le r
    simp only [falses, List.length_cons]
    split <;> omega
def sp_joined_from (K : PySem.W.Frag) : Sp := fun vs H Q _ => ∃ (a : Addr) (fs : List (Addr × List Nat)) (n s : Nat), vs = [.ref a, .int n, .int s] ∧ SqL K H a (fs.map fun p => V.ref p.1) ∧
  (∀ p ∈ fs, SqL K H p.1 (nv p.2) ∧ p.2.length = n ∧ ∀ i, i < n → gt p.2 i < n) ∧ s < n ∧ n ≤ 100000 ∧
  ∀ (met : List Bool) (p : Addr) (H' : Hp), Same H H' → H p = none → H' p = some (.lst (nv ((List.range n).filter (bt met)))) → met.length = n → bt met s = true →
    Closed n (fs.map (·.2)) (fun x => bt met x = true) → (∀ P : Nat → Prop, P s → Closed n (fs.map (·.2)) P → ∀ x, x < n → bt met x = true → P x) → Q (.ref p) H'
theorem len_joined_from {K : PySem.W.Frag} : ∀ vs H Q E, sp_joined_from K vs H Q E → vs.length = ps_joined_from.length := by
  rintro vs H Q E ⟨a, fs, n, s, rfl, _⟩
  rfl
theorem bt_rep (n i : Nat) : bt (List.replicate n false) i = false := by
  unfold bt
  rw [List.getD_eq_getElem?_getD, List.getElem?_replicate]
  split <;> rfl
structure JInv (n s : Nat) (fs : List (List Nat)) (bs : List Bool) (ws : List Nat) (open_ : Nat → Prop) : Prop where
  len : bs.length = n
  st : bt bs s = true
  wait : ∀ x ∈ ws, x < n ∧ bt bs x = true
  clo : ∀ x, x < n → bt bs x = true → x ∈ ws ∨ open_ x ∨ ∀ f ∈ fs, bt bs (gt f x) = true
  min : ∀ P : Nat → Prop, P s → Closed n fs P → ∀ x, x < n → bt bs x = true → P x
  size : ws.length + 2 * falses bs ≤ 2 * n + 1
theorem wp_joined_from {K : PySem.W.Frag} {mg : Str → Option Value} (T : Tx K mg) : ∀ vs H Q E, sp_joined_from K vs H Q E → t_joined_from K { nx := fun _ H' => Q .non H', rt := Q } (start N_joined_from vs) H := by
  rintro vs H Q E ⟨a, fs, n, s, rfl, hS, hfs, hs, hn, q⟩
  unfold t_joined_from
  walk_at "w"
  -- met = [False for _ in range(count)]
  refine cr1 (n := n) rfl (by omega) (fun _ => true) (fun _ => .bl false) (fun _ => rfl) (fun i H' R hi s k => k H' (Same.refl H')) (fun i H' R hi _ s k => k H' (Same.refl H')) fun D H1 hD s1 h1 => ?_
  rw [picked_all, List.map_const', List.length_range] at h1
  have h1' : H1 D = some (.lst (bv (List.replicate n false))) := by
    rw [h1]
    unfold bv
    rw [List.map_replicate]
  -- met[start] = True; waiting = [start]
  walk_at "w"
  refine w_setL h1' (ix_nat (by rw [bv_len, List.length_replicate]; exact hs)) ?_
  rw [bv_set]
  walk_at "w"
  refine ⟨by show 1 ≤ sizeLine; exact szl (by decide), fun w0 hw0 => ?_⟩
  have nDw : D ≠ w0 := by
    rintro rfl
    rw [upd_same] at hw0
    cases hw0
  have hw1 : H1 w0 = none := by rwa [upd_ne (Ne.symm nDw)] at hw0
  have hw2 : H w0 = none := s1.tfr hw1
  walk_at "w"
  -- the loop
  refine ⟨fun m σ H' => ∃ bs ws v5 v6 v7 v8, m = ws.length + 2 * falses bs ∧ σ = [some (.ref a), some (.int n), some (.int s), some (.ref D), some (.ref w0), v5, v6, v7, v8] ∧ Same H H' ∧
      H' D = some (.lst (bv bs)) ∧ H' w0 = some (.lst (nv ws)) ∧ JInv n s (fs.map (·.2)) bs ws (fun _ => False), ⟨_, (List.replicate n false).set s true, [s], none, none, none, none, rfl, rfl, ?_, ?_, upd_same, ?_⟩, ?_⟩
  · exact (s1.tmut hD).tmut hw2
  · rw [upd_ne nDw, upd_same]
  · have hl : s < (List.replicate n false).length := by rw [List.length_replicate]; exact hs
    have e : ∀ x, bt ((List.replicate n false).set s true) x = true ↔ x = s := fun x => by
      rw [bt_set hl]
      by_cases hx : x = s
      · simp [hx]
      · rw [if_neg hx, bt_rep]
        simp [hx]
    refine ⟨by rw [List.length_set, List.length_replicate], (e s).mpr rfl, fun x hx => ?_, fun x hx h => .inl (by rw [(e x).mp h]; exact List.mem_singleton.mpr rfl), fun P h0 _ x _ h => by rw [(e x).mp h]; exact h0, ?_⟩
    · rw [List.mem_singleton.mp hx]
      exact ⟨hs, (e s).mpr rfl⟩
    · have h2 := falses_set hl (bt_rep n s)
      have h3 := falses_le (List.replicate n false)
      rw [List.length_replicate] at h3
      show 1 + _ ≤ _
      omega
  rintro m σ H2 ⟨bs, ws, v5, v6, v7, v8, rfl, rfl, s2, hD2, hw2', J⟩
  walk_at "w"
  refine ⟨!(nv ws).isEmpty, .inl ⟨_, SqL.of hw2', rfl⟩, ?_⟩
  cases ws with
  | nil =>
    show if false = true then _ else _
    refine iteF ?_
    -- the result
    walk_at "w"
    refine cr1 (n := n) rfl (by omega) (bt bs) (fun i => .int (i : Nat)) (fun _ => rfl) (fun i H' R hi s k => ?_) (fun i H' R hi _ s k => ?_) fun p H3 hp s3 h3 => ?_
    · walk_at "w"
      refine w_ixL (SqL.of (s _ _ hD2)) (at_bv (by rw [J.len]; exact hi)) ?_
      walk_at "w"
      exact k H' (Same.refl H')
    · walk_at "w"
      exact k H' (Same.refl H')
    · refine q bs p H3 (s2.trans s3) (s2.tfr hp) h3 J.len J.st (fun f hf x hx h => ?_) J.min
      rcases J.clo x hx h with z | z | z
      · exact absurd z (by simp)
      · exact z.elim
      · exact z f hf
  | cons w1 wr =>
    show if true = true then _ else _
    refine iteT ⟨fun σ' H' => ∃ m', m' < (w1 :: wr).length + 2 * falses bs ∧ ∃ bs ws v5 v6 v7 v8, m' = ws.length + 2 * falses bs ∧ σ' = [some (.ref a), some (.int n), some (.int s), some (.ref D), some (.ref w0), v5, v6, v7, v8] ∧ Same H H' ∧
      H' D = some (.lst (bv bs)) ∧ H' w0 = some (.lst (nv ws)) ∧ JInv n s (fs.map (·.2)) bs ws (fun _ => False), fun σ' H' h => h, ?_⟩
    -- number = waiting.pop()
    obtain ⟨ws, c, hws⟩ : ∃ ws c, w1 :: wr = ws ++ [c] := ⟨(w1 :: wr).dropLast, (w1 :: wr).getLast (by simp), (List.dropLast_concat_getLast (by simp)).symm⟩
    rw [hws] at hw2' J ⊢
    walk_at "w"
    refine ⟨tyL hw2', ?_⟩
    have ec : (nv (ws ++ [c]))[(nv (ws ++ [c])).length - 1]? = some (.int (c : Nat)) := by
      rw [nv_len, List.length_append, List.length_singleton, Nat.add_sub_cancel, ← nv_app, List.getElem?_append_right (by rw [nv_len]; exact Nat.le_refl _), nv_len, Nat.sub_self]
      rfl
    refine w_pop hw2' ec ?_
    have ed : (nv (ws ++ [c])).dropLast = nv ws := by
      rw [← nv_app]
      exact List.dropLast_concat
    rw [ed]
    obtain ⟨hc1, hc2⟩ := J.wait c (by simp)
    walk_at "w"
    refine fl (xs := fs.map fun p => V.ref p.1) ((s2.tmut hw2).tL hS) (fun i σ' H' => ∃ bs2 ws2 v6 v7, σ' = [some (.ref a), some (.int n), some (.int s), some (.ref D), some (.ref w0), some (.int (c : Nat)), v6, v7, v8] ∧ Same H H' ∧
      H' D = some (.lst (bv bs2)) ∧ H' w0 = some (.lst (nv ws2)) ∧ JInv n s (fs.map (·.2)) bs2 ws2 (fun x => x = c) ∧ bt bs2 c = true ∧ (∀ f ∈ (fs.take i).map (·.2), bt bs2 (gt f c) = true) ∧ ws2.length + 2 * falses bs2 ≤ ws.length + 2 * falses bs)
      ⟨bs, ws, _, _, rfl, s2.tmut hw2, ?_, upd_same, ?_, hc2, (fun f hf => by simp at hf), Nat.le_refl _⟩ ?_ ?_ ?_
    · rw [upd_ne nDw]
      exact hD2
    · refine ⟨J.len, J.st, fun x hx => J.wait x (by simp [hx]), fun x hx h => ?_, J.min, ?_⟩
      · rcases J.clo x hx h with z | z | z
        · rcases List.mem_append.mp z with z | z
          · exact .inl z
          · exact .inr (.inl (List.mem_singleton.mp z))
        · exact z.elim
        · exact .inr (.inr z)
      · have := J.size
        rw [List.length_append] at this
        omega
    · rintro i σ' H' _ ⟨_, _, _, _, _, s3, _⟩
      exact s3.tL hS
    · rintro i x σ' H3 hi ⟨bs2, ws2, u6, u7, rfl, s3, hD3, hw3, J3, hc3, hp3, hm3⟩
      rw [List.getElem?_map] at hi
      cases hfi : fs[i]? with
      | none => rw [hfi] at hi; cases hi
      | some p =>
      rw [hfi] at hi
      have ex : V.ref p.1 = x := Option.some.inj hi
      subst ex
      have hpm : p ∈ fs := List.mem_of_getElem? hfi
      obtain ⟨hp1, hp2, hp4⟩ := hfs p hpm
      have hlt : gt p.2 c < n := hp4 c hc1
      walk_at "w"
      refine w_ixL (s3.tL hp1) (at_nv (by rw [hp2]; exact hc1)) ?_
      walk_at "w"
      refine w_ixL (SqL.of hD3) (at_bv (by rw [J3.len]; exact hlt)) ?_
      walk_at "w"
      have ntake : (fs.take (i + 1)).map (·.2) = (fs.take i).map (·.2) ++ [p.2] := by rw [take_snoc hfi, List.map_append]; rfl
      refine w_nb2 (fun hb => ?_) (fun hb => ?_)
      · -- a new one
        walk_at "w"
        refine w_setL hD3 (ix_nat (by rw [bv_len, J3.len]; exact hlt)) ?_
        rw [bv_set]
        walk_at "w"
        have hw4 : (upd H3 D (.lst (bv (bs2.set (gt p.2 c) true)))) w0 = some (.lst (nv ws2)) := by rw [upd_ne (Ne.symm nDw)]; exact hw3
        refine ⟨tyL hw4, ?_⟩
        walk_at "w"
        have hfs2 := falses_set (l := bs2) (i := gt p.2 c) (by rw [J3.len]; exact hlt) hb
        have hsz := J3.size
        refine w_app hw4 (by rw [nv_len]; exact szlt (by omega)) ?_
        have e1 : nv ws2 ++ [.int (gt p.2 c : Nat)] = nv (ws2 ++ [gt p.2 c]) := by rw [← nv_app]; rfl
        rw [e1]
        walk_at "w"
        have hl2 : gt p.2 c < bs2.length := by rw [J3.len]; exact hlt
        have mono : ∀ x, bt bs2 x = true → bt (bs2.set (gt p.2 c) true) x = true := fun x hx => by
          rw [bt_set hl2]
          by_cases hxx : x = gt p.2 c
          · rw [if_pos hxx]
          · rw [if_neg hxx]; exact hx
        have new : bt (bs2.set (gt p.2 c) true) (gt p.2 c) = true := by rw [bt_set hl2, if_pos rfl]
        have back : ∀ x, bt (bs2.set (gt p.2 c) true) x = true → x = gt p.2 c ∨ bt bs2 x = true := fun x hx => by
          rw [bt_set hl2] at hx
          by_cases hxx : x = gt p.2 c
          · exact .inl hxx
          · rw [if_neg hxx] at hx; exact .inr hx
        refine ⟨_, _, _, _, rfl, (s3.tmut hD).tmut hw2, ?_, upd_same, ?_, mono _ hc3, ?_, ?_⟩
        · rw [upd_ne nDw, upd_same]
        · refine ⟨by rw [List.length_set]; exact J3.len, mono _ J3.st, fun x hx => ?_, fun x hx h => ?_, fun P h0 hcl x hx h => ?_, ?_⟩
          · rcases List.mem_append.mp hx with z | z
            · exact ⟨(J3.wait x z).1, mono x (J3.wait x z).2⟩
            · rw [List.mem_singleton.mp z]
              exact ⟨hlt, new⟩
          · rcases back x h with z | z
            · exact .inl (List.mem_append.mpr (.inr (List.mem_singleton.mpr z)))
            · rcases J3.clo x hx z with y | y | y
              · exact .inl (List.mem_append.mpr (.inl y))
              · exact .inr (.inl y)
              · exact .inr (.inr fun f hf => mono _ (y f hf))
          · rcases back x h with z | z
            · rw [z]
              exact hcl p.2 (List.mem_map_of_mem hpm) c hc1 (J3.min P h0 hcl c hc1 hc3)
            · exact J3.min P h0 hcl x hx z
          · rw [List.length_append, List.length_singleton]
            omega
        · intro f hf
          rw [ntake] at hf
          rcases List.mem_append.mp hf with z | z
          · exact mono _ (hp3 f z)
          · rw [List.mem_singleton.mp z]
            exact new
        · rw [List.length_append, List.length_singleton]
          omega
      · walk_at "w"
        refine ⟨bs2, ws2, _, _, rfl, s3, hD3, hw3, J3, hc3, ?_, hm3⟩
        intro f hf
        rw [ntake] at hf
        rcases List.mem_append.mp hf with z | z
        · exact hp3 f z
        · rw [List.mem_singleton.mp z]
          exact hb
    · rintro σ' H3 ⟨bs2, ws2, u6, u7, rfl, s3, hD3, hw3, J3, hc3, hp3, hm3⟩
      refine ⟨_, ?_, bs2, ws2, _, u6, u7, v8, rfl, rfl, s3, hD3, hw3, ?_⟩
      · rw [List.length_append, List.length_singleton]
        omega
      · refine ⟨J3.len, J3.st, J3.wait, fun x hx h => ?_, J3.min, J3.size⟩
        rcases J3.clo x hx h with z | z | z
        · exact .inl z
        · subst z
          rw [List.length_map, List.take_length] at hp3
          exact .inr (.inr hp3)
        · exact .inr (.inr z)

theorem ok_joined_from {P : Program} {w : World} {K : PySem.W.Frag} {mg : Str → Option Value} {base : Heap} (F : FnP K mg "joined_from" s_joined_from) (T : Tx K mg) :
    Ok P w K mg base "joined_from" 1 ps_joined_from (sp_joined_from K) :=
  ok_of (t := t_joined_from K) F sc_joined_from (len_joined_from) (fun _ _ _ _ _ _ us hl => match us, hl with | [_, _, _], _ => rfl)
    (fun f cdv A outer s H E hr => by
      have hu := hu_of hr
      have hu65 := u65 hr
      exact (pss_cons (ps_set (i := 3) sc_joined_from.nd rfl (Or.inr rfl) (pe_lc (own := [("_", 8)]) rfl sc_joined_from.nd (pi_range1 rfl T.b_range (pa_cons (pv 1) pa_nil)) (blkOk_by (own := [("_", 8)]) (N := N_joined_from) (sc := defScope s_joined_from) (by decide +kernel)) (fun _ _ _ _ _ => (pg_name (i := 8) sc_joined_from.nd rfl (Or.inl rfl))) (fun _ _ _ _ _ => pts_nil) (fun _ _ _ _ _ => pe_bl)))
      (pss_cons (ps_asg pe_bl (pg_sub (pv 3) (pv 2) set_list))
      (pss_cons (ps_set (i := 4) sc_joined_from.nd rfl (Or.inl rfl) (pe_lst (pa_cons (pv 2) pa_nil)))
      (pss_cons (ps_while PassesOwn.never (pt_truth (pv 4) (fun _ => rfl)) (pss_cons (ps_set (i := 5) sc_joined_from.nd rfl (Or.inl rfl) (pe_bm0 PySem.F.plainAttrs_list PySem.F.slot_list_pop PySem.F.type_list_pop mt_pop (pv 4)))
      (pss_one (ps_for PassesOwn.never rfl (pi_list (pv 0)) (pg_name (i := 6) sc_joined_from.nd rfl (Or.inl rfl)) (pss_cons (ps_set (i := 7) sc_joined_from.nd rfl (Or.inl rfl) (pe_ix ix_list (pv 6) (pv 5) (fun _ _ => rfl)))
      (pss_one (ps_if (pt_not (pt_val (pe_ix ix_list (pv 3) (pv 7) (fun _ _ => rfl)))) (pss_cons (ps_asg pe_bl (pg_sub (pv 3) (pv 7) set_list))
      (pss_one (ps_expr (pe_bm PySem.F.plainAttrs_list PySem.F.slot_list_append PySem.F.type_list_append mt_append (pv 4) (pa_cons (pv 7) pa_nil))))) pss_nil)))))))
      (pss_one (ps_ret (pe_lc (own := [("number", 5)]) rfl sc_joined_from.nd (pi_range1 rfl T.b_range (pa_cons (pv 1) pa_nil)) (blkOk_by (own := [("number", 5)]) (N := N_joined_from) (sc := defScope s_joined_from) (by decide +kernel)) (fun _ _ _ _ _ => (pg_name (i := 5) sc_joined_from.nd rfl (Or.inl rfl))) (fun _ _ _ _ _ => (pts_one (pt_val (pe_ix ix_list (pv 3) (pv 5) (fun _ _ => rfl))))) (fun _ _ _ _ _ => (pv 5))))))))))
    (wp_joined_from T)

abbrev s_first_apart : Stmt := top 15
abbrev N_first_apart : List Str := ["images_lists", "count", "joined", "at"]
abbrev ps_first_apart : List Str := ["images_lists", "count"]
theorem sc_first_apart : FnScope N_first_apart ps_first_apart (defScope s_first_apart) := ⟨rfl, rfl, rfl, by decide +kernel, rfl, by decide +kernel, by decide +kernel⟩
def t_first_apart (K : PySem.W.Frag) : TS :=
    (tSeq (tAsg (tCall (sp_joined_from K) [] E0 (tCons (tVar 0) (tCons (tVar 1) (tCons (tC (.int 0)) tNil)))) (gName 2))
    (tSeq (tIfS (tTest (tOp rEq (tCB (rLenV K) (tCons (tVar 2) tNil)) (tVar 1))) (tRet (tC .non)) tNext)
    (tSeq (tAsg (tC (.int 0)) (gName 3))
    (tSeq (tWhile (tAnd (tTest (tOp rLtI (tVar 3) (tCB (rLenV K) (tCons (tVar 2) tNil)))) (tTest (tOp rEq (tOp (rIxL K) (tVar 2) (tVar 3)) (tVar 3)))) (tAsg (tOp rAddI (tVar 3) (tC (.int 1))) (gName 3)))
    (tRet (tVar 3))))))
theorem filt_at {n k : Nat} {b : Nat → Bool} (hk : k < n) (h : ∀ y, y < k → b y = true) :
    ((List.range n).filter b)[k]? = ((List.range' k (n - k)).filter b)[0]? := by
  have e : List.range n = List.range k ++ List.range' k (n - k) := by
    have z := List.range'_append_1 (s := 0) (m := k) (n := n - k)
    rw [Nat.zero_add, show k + (n - k) = n by omega] at z
    rw [List.range_eq_range', List.range_eq_range']
    exact z.symm
  rw [e, List.filter_append, List.filter_eq_self.mpr (fun x hx => h x (List.mem_range.mp hx)), List.getElem?_append_right (by rw [List.length_range]; exact Nat.le_refl _), List.length_range, Nat.sub_self]
theorem filt_yes {n k : Nat} {b : Nat → Bool} (hk : k < n) (h : ∀ y, y < k → b y = true) (hb : b k = true) : ((List.range n).filter b)[k]? = some k := by
  rw [filt_at hk h]
  obtain ⟨m, hm⟩ : ∃ m, n - k = m + 1 := ⟨n - k - 1, by omega⟩
  rw [hm, List.range'_succ, List.filter_cons, if_pos hb]
  rfl
theorem filt_no {n k : Nat} {b : Nat → Bool} (hk : k < n) (h : ∀ y, y < k → b y = true) (hb : b k = false) (x : Nat) (hx : ((List.range n).filter b)[k]? = some x) : x ≠ k := by
  rw [filt_at hk h] at hx
  have hm := List.mem_filter.mp (List.mem_of_getElem? hx)
  rintro rfl
  rw [hb] at hm
  exact Bool.noConfusion hm.2
theorem filt_len {n : Nat} {b : Nat → Bool} : ((List.range n).filter b).length = n ↔ ∀ x, x < n → b x = true := by
  constructor
  · intro h x hx
    have := (List.length_filter_eq_length_iff (p := b) (l := List.range n)).mp (by rw [h, List.length_range])
    exact this x (List.mem_range.mpr hx)
  · intro h
    rw [List.filter_eq_self.mpr (fun x hx => h x (List.mem_range.mp hx)), List.length_range]
def sp_first_apart (K : PySem.W.Frag) : Sp := fun vs H Q _ => ∃ (a : Addr) (fs : List (Addr × List Nat)) (n : Nat), vs = [.ref a, .int n] ∧ SqL K H a (fs.map fun p => V.ref p.1) ∧
  (∀ p ∈ fs, SqL K H p.1 (nv p.2) ∧ p.2.length = n ∧ ∀ i, i < n → gt p.2 i < n) ∧ 0 < n ∧ n ≤ 100000 ∧
  ∀ (met : List Bool) (H' : Hp), Same H H' → met.length = n → bt met 0 = true → Closed n (fs.map (·.2)) (fun x => bt met x = true) →
    (∀ P : Nat → Prop, P 0 → Closed n (fs.map (·.2)) P → ∀ x, x < n → bt met x = true → P x) →
    ((∀ x, x < n → bt met x = true) → Q .non H') ∧ (∀ x, x < n → bt met x = false → (∀ y, y < x → bt met y = true) → Q (.int x) H')
theorem len_first_apart {K : PySem.W.Frag} : ∀ vs H Q E, sp_first_apart K vs H Q E → vs.length = ps_first_apart.length := by
  rintro vs H Q E ⟨a, fs, n, rfl, _⟩
  rfl
theorem wp_first_apart {K : PySem.W.Frag} {mg : Str → Option Value} (T : Tx K mg) : ∀ vs H Q E, sp_first_apart K vs H Q E → t_first_apart K { nx := fun _ H' => Q .non H', rt := Q } (start N_first_apart vs) H := by
  rintro vs H Q E ⟨a, fs, n, rfl, hS, hfs, hn0, hn, q⟩
  unfold t_first_apart
  walk_at "w"
  refine ⟨a, fs, n, 0, rfl, hS, hfs, hn0, hn, fun met p H1 s1 hp h1 hl h0 hc hmin => ?_⟩
  obtain ⟨q1, q2⟩ := q met H1 s1 hl h0 hc hmin
  walk_at "w"
  refine w_lenL (SqL.of h1) ?_
  walk_at "w"
  refine w_d2 (fun hlen => ?_) (fun hlen => ?_)
  · walk_at "w"
    rw [nv_len] at hlen
    exact q1 (filt_len.mp (by omega))
  walk_at "w"
  rw [nv_len] at hlen
  -- the least one that is not met
  obtain ⟨x, hx, hbx, hmx⟩ : ∃ x, x < n ∧ bt met x = false ∧ ∀ y, y < x → bt met y = true := by
    have hex : ¬ ∀ x, x < n → bt met x = true := fun z => hlen (by have := filt_len.mpr z; omega)
    have step : ∀ k, k ≤ n → (∀ y, y < k → bt met y = true) ∨ ∃ x, x < n ∧ bt met x = false ∧ ∀ y, y < x → bt met y = true := by
      intro k
      induction k with
      | zero => exact fun _ => .inl fun y hy => absurd hy (Nat.not_lt_zero y)
      | succ k ih =>
        intro hk
        rcases ih (by omega) with z | z
        · cases hb : bt met k with
          | true =>
            refine .inl fun y hy => ?_
            by_cases hyk : y = k
            · rw [hyk]; exact hb
            · exact z y (by omega)
          | false => exact .inr ⟨k, by omega, hb, z⟩
        · exact .inr z
    rcases step n (Nat.le_refl _) with z | z
    · exact absurd z hex
    · exact z
  refine ⟨fun m σ H' => ∃ k : Nat, m = x - k ∧ k ≤ x ∧ σ = [some (.ref a), some (.int n), some (.ref p), some (.int (k : Nat))] ∧ H' = H1, ⟨_, 0, rfl, Nat.zero_le _, rfl, rfl⟩, ?_⟩
  rintro m σ H2 ⟨k, rfl, hk, rfl, rfl⟩
  walk_at "w"
  refine w_lenL (SqL.of h1) ?_
  walk_at "w"
  rw [nv_len]
  have done : k = x → tRet (tVar 3) { nx := fun x H' => Q V.non H', rt := Q } [some (.ref a), some (.int n), some (.ref p), some (.int (k : Nat))] H2 := fun e => by
    subst e
    walk_at "w"
    exact q2 k hx hbx hmx
  refine w_d2 (fun hlt => ?_) (fun hlt => ?_)
  · walk_at "w"
    have hkl : k < ((List.range n).filter (bt met)).length := by omega
    refine w_ixL (SqL.of h1) (at_nv hkl) ?_
    walk_at "w"
    have eg := gt_some hkl
    refine w_d2 (fun he => ?_) (fun he => ?_)
    · refine ⟨fun σ' H' => ∃ m', m' < x - k ∧ ∃ k : Nat, m' = x - k ∧ k ≤ x ∧ σ' = [some (.ref a), some (.int n), some (.ref p), some (.int (k : Nat))] ∧ H' = H2, fun _ _ h => h, ?_⟩
      have hkx : k < x := by
        rcases Nat.lt_or_eq_of_le hk with z | z
        · exact z
        · subst z
          exact absurd (by omega) (filt_no hx hmx hbx _ eg)
      walk_at "w"
      refine ⟨x - (k + 1), by omega, k + 1, rfl, hkx, ?_, rfl⟩
      show [some (V.ref a), some (V.int n), some (V.ref p), some (V.int ((k : Int) + 1))] = _
      rw [show ((k + 1 : Nat) : Int) = (k : Int) + 1 by omega]
    · refine done ?_
      rcases Nat.lt_or_eq_of_le hk with z | z
      · have := filt_yes (n := n) (k := k) (b := bt met) (by omega) (fun y hy => hmx y (by omega)) (hmx k z)
        rw [eg] at this
        exact absurd (by rw [Option.some.inj this]) he
      · exact z
  · refine iteF (done ?_)
    rcases Nat.lt_or_eq_of_le hk with z | z
    · have := filt_yes (n := n) (k := k) (b := bt met) (by omega) (fun y hy => hmx y (by omega)) (hmx k z)
      obtain ⟨w, _⟩ := List.getElem?_eq_some_iff.mp this
      omega
    · exact z

theorem ok_first_apart {P : Program} {w : World} {K : PySem.W.Frag} {mg : Str → Option Value} {base : Heap} (F : FnP K mg "first_apart" s_first_apart) (T : Tx K mg) (c_joined_from : Ok P w K mg base "joined_from" 1 ps_joined_from (sp_joined_from K)) :
    Ok P w K mg base "first_apart" 2 ps_first_apart (sp_first_apart K) :=
  ok_of (t := t_first_apart K) F sc_first_apart (len_first_apart) (fun _ _ _ _ _ _ us hl => match us, hl with | [_, _], _ => rfl)
    (fun f cdv A outer s H E hr => by
      have hu := hu_of hr
      have hu65 := u65 hr
      exact (pss_cons (ps_set (i := 2) sc_first_apart.nd rfl (Or.inl rfl) (pe_callO c_joined_from hr (pa_cons (pv 0) (pa_cons (pv 1) (pa_cons pe_int pa_nil)))))
      (pss_cons (ps_if (pt_cmpR op_eq (pe_callB call_len rfl T.b_len PySem.boot_len (pa_cons (pv 2) pa_nil)) (pv 1) (nomark _)) (pss_one (ps_ret pe_non)) pss_nil)
      (pss_cons (ps_set (i := 3) sc_first_apart.nd rfl (Or.inl rfl) pe_int)
      (pss_cons (ps_while PassesOwn.never (PW.pt (pw_and (pt_cmpR op_lt (pv 3) (pe_callB call_len rfl T.b_len PySem.boot_len (pa_cons (pv 2) pa_nil)) (nomark _)) (pw_and1 (pt_cmpR op_eq (pe_ix ix_list (pv 2) (pv 3) (fun _ _ => rfl)) (pv 3) (nomark _))))) (pss_one (ps_set (i := 3) sc_first_apart.nd rfl (Or.inl rfl) (pe_op op_add (pv 3) pe_int))))
      (pss_one (ps_ret (pv 3))))))))
    (wp_first_apart T)

abbrev s_looked_turns : Stmt := top 20
abbrev N_looked_turns : List Str := ["zero", "one", "two", "count", "turn", "images", "flag", "apart"]
abbrev ps_looked_turns : List Str := ["zero", "one", "two"]
theorem sc_looked_turns : FnScope N_looked_turns ps_looked_turns (defScope s_looked_turns) := ⟨rfl, rfl, rfl, by decide +kernel, rfl, by decide +kernel, by decide +kernel⟩
def t_looked_turns (K : PySem.W.Frag) : TS :=
    (tSeq (tAsg (tCB (rLenV K) (tCons (tVar 0) tNil)) (gName 3))
    (tSeq (tFor (iEnum K (tCons (tLst (tCons (tVar 0) (tCons (tVar 1) (tCons (tVar 2) tNil)))) tNil)) (gTup K 2 (gCons (gName 4) (gCons (gName 5) gNil))) (tFor (iRng1 (tCons (tVar 3) tNil)) (gName 6) (tIfS (tTest (tOp rNe (tOp (rIxL K) (tVar 5) (tOp (rIxL K) (tVar 5) (tVar 6))) (tVar 6))) tNever tNext)))
    (tSeq (tFor (iRng1 (tCons (tVar 3) tNil)) (gName 6) (tIfS (tTest (tOp rNe (tOp (rIxL K) (tVar 2) (tOp (rIxL K) (tVar 0) (tVar 6))) (tOp (rIxL K) (tVar 0) (tOp (rIxL K) (tVar 2) (tVar 6))))) tNever tNext))
    (tSeq (tAsg (tCall (sp_first_apart K) [] E0 (tCons (tLst (tCons (tVar 0) (tCons (tVar 1) (tCons (tVar 2) tNil)))) (tCons (tVar 3) tNil))) (gName 7))
    (tIfS (tB (tNotN (tVar 7))) tNever tNext)))))
def sp_looked_turns (K : PySem.W.Frag) : Sp := fun vs H Q _ => ∃ (a b c : Addr) (n : Nat) (z o t : List Nat), vs = [.ref a, .ref b, .ref c] ∧ SqL K H a (nv z) ∧ SqL K H b (nv o) ∧ SqL K H c (nv t) ∧ MapT n z o t ∧
  ∀ H', Same H H' → Q .non H'
theorem len_looked_turns {K : PySem.W.Frag} : ∀ vs H Q E, sp_looked_turns K vs H Q E → vs.length = ps_looked_turns.length := by
  rintro vs H Q E ⟨a, b, c, n, z, o, t, rfl, _⟩
  rfl
theorem wp_looked_turns {K : PySem.W.Frag} {mg : Str → Option Value} (T : Tx K mg) : ∀ vs H Q E, sp_looked_turns K vs H Q E → t_looked_turns K { nx := fun _ H' => Q .non H', rt := Q } (start N_looked_turns vs) H := by
  rintro vs H Q E ⟨a, b, c, n, z, o, t, rfl, hz, ho, ht, M, q⟩
  unfold t_looked_turns
  have hn := M.le
  walk_at "w"
  refine w_lenL hz ?_
  walk_at "w"
  rw [nv_len, M.hz.len]
  refine ⟨by show 3 ≤ sizeLine; exact szl (by decide), fun p hp => ?_⟩
  walk_at "w"
  have s1 : Same H (upd H p (.lst [V.ref a, V.ref b, V.ref c])) := Same.tnew hp
  have key : ∀ (i : Nat) (x : V), ([V.ref a, V.ref b, V.ref c] : List V)[i]? = some x → ∃ d f, x = V.ref d ∧ SqL K H d (nv f) ∧ TurnT n f := by
    intro i x hx
    match i, hx with
    | 0, hx => exact ⟨a, z, (Option.some.inj hx).symm, hz, M.hz⟩
    | 1, hx => exact ⟨b, o, (Option.some.inj hx).symm, ho, M.ho⟩
    | 2, hx => exact ⟨c, t, (Option.some.inj hx).symm, ht, M.ht⟩
    | i + 3, hx => simp at hx
  refine fe (SqL.of upd_same) (fun i σ H' => ∃ v4 v5 v6, σ = [some (.ref a), some (.ref b), some (.ref c), some (.int (n : Nat)), v4, v5, v6, none] ∧ Same (upd H p (.lst [V.ref a, V.ref b, V.ref c])) H') ⟨_, _, _, rfl, Same.refl _⟩ ?_ ?_ ?_
  · rintro i σ H' _ ⟨_, _, _, _, s2⟩
    exact s2.tL (SqL.of upd_same)
  · rintro i x σ H2 H3 hi ⟨v4, v5, v6, rfl, s2⟩ s3
    obtain ⟨d, f, rfl, hd, F⟩ := key i x hi
    have s4 := s2.trans s3
    have hd2 := (s1.trans s4).tL hd
    walk_at "w"
    refine fr1 (n := n) rfl (by omega) (fun k σ' H' => H' = H3 ∧ ∃ v6, σ' = [some (.ref a), some (.ref b), some (.ref c), some (.int (n : Nat)), some (.int (i : Nat)), some (.ref d), v6, none]) ⟨rfl, _, rfl⟩ ?_ ?_
    · rintro k σ' H' hk ⟨rfl, v6, rfl⟩
      walk_at "w"
      refine w_ixL hd2 (at_nv (by rw [F.len]; exact hk)) ?_
      refine w_ixL hd2 (at_nv (by rw [F.len]; exact F.bd k hk)) ?_
      walk_at "w"
      refine w_nF (by rw [F.inv k hk]) ?_
      walk_at "w"
      exact ⟨rfl, _, rfl⟩
    · rintro σ' H' ⟨rfl, v6, rfl⟩
      exact ⟨_, _, _, rfl, s4⟩
  rintro σ H2 ⟨v4, v5, v6, rfl, s2⟩
  have s5 := s1.trans s2
  have hz2 := s5.tL hz
  have ht2 := s5.tL ht
  walk_at "w"
  refine fr1 (n := n) rfl (by omega) (fun k σ' H' => H' = H2 ∧ ∃ v6, σ' = [some (.ref a), some (.ref b), some (.ref c), some (.int (n : Nat)), v4, v5, v6, none]) ⟨rfl, _, rfl⟩ ?_ ?_
  · rintro k σ' H' hk ⟨rfl, v6, rfl⟩
    walk_at "w"
    refine w_ixL hz2 (at_nv (by rw [M.hz.len]; exact hk)) ?_
    refine w_ixL ht2 (at_nv (by rw [M.ht.len]; exact M.hz.bd k hk)) ?_
    walk_at "w"
    refine w_ixL ht2 (at_nv (by rw [M.ht.len]; exact hk)) ?_
    refine w_ixL hz2 (at_nv (by rw [M.hz.len]; exact M.ht.bd k hk)) ?_
    walk_at "w"
    refine w_nF (by rw [M.cm k hk]) ?_
    walk_at "w"
    exact ⟨rfl, _, rfl⟩
  rintro σ' H' ⟨rfl, v7, rfl⟩
  walk_at "w"
  refine ⟨by show 3 ≤ sizeLine; exact szl (by decide), fun p2 hp2 => ?_⟩
  walk_at "w"
  have s6 : Same H' (upd H' p2 (.lst [V.ref a, V.ref b, V.ref c])) := Same.tnew hp2
  have s7 := s5.trans s6
  refine ⟨p2, [(a, z), (b, o), (c, t)], n, rfl, SqL.of upd_same, fun q hq => ?_, M.pos, by omega, fun met H'' s8 hl h0 hc hm => ?_⟩
  · simp only [List.mem_cons, List.not_mem_nil, or_false] at hq
    rcases hq with rfl | rfl | rfl
    · exact ⟨s7.tL hz, M.hz.len, M.hz.bd⟩
    · exact ⟨s7.tL ho, M.ho.len, M.ho.bd⟩
    · exact ⟨s7.tL ht, M.ht.len, M.ht.bd⟩
  have all : ∀ x, x < n → bt met x = true := M.cn (fun x => bt met x = true) h0 fun i hi hb => ⟨hc z (by simp) i hi hb, hc o (by simp) i hi hb, hc t (by simp) i hi hb⟩
  refine ⟨fun _ => ?_, fun x hx hb => absurd (all x hx) (by rw [hb]; decide)⟩
  walk_at "w"
  refine w_nF rfl ?_
  walk_at "w"
  exact q _ (s7.trans s8)

theorem ok_looked_turns {P : Program} {w : World} {K : PySem.W.Frag} {mg : Str → Option Value} {base : Heap} (F : FnP K mg "looked_turns" s_looked_turns) (T : Tx K mg) (c_first_apart : Ok P w K mg base "first_apart" 2 ps_first_apart (sp_first_apart K)) :
    Ok P w K mg base "looked_turns" 3 ps_looked_turns (sp_looked_turns K) :=
  ok_of (t := t_looked_turns K) F sc_looked_turns (len_looked_turns) (fun _ _ _ _ _ _ us hl => match us, hl with | [_, _, _], _ => rfl)
    (fun f cdv A outer s H E hr => by
      have hu := hu_of hr
      have hu65 := u65 hr
      exact (pss_cons (ps_set (i := 3) sc_looked_turns.nd rfl (Or.inl rfl) (pe_callB call_len rfl T.b_len PySem.boot_len (pa_cons (pv 0) pa_nil)))
      (pss_cons (ps_for PassesOwn.never rfl (pi_enum rfl T.b_enumerate (pa_cons (pe_lst (pa_cons (pv 0) (pa_cons (pv 1) (pa_cons (pv 2) pa_nil)))) pa_nil)) (pg_tup rfl (pgs_cons (pg_name (i := 4) sc_looked_turns.nd rfl (Or.inl rfl)) (pgs_cons (pg_name (i := 5) sc_looked_turns.nd rfl (Or.inl rfl)) pgs_nil))) (pss_one (ps_for PassesOwn.never rfl (pi_range1 rfl T.b_range (pa_cons (pv 3) pa_nil)) (pg_name (i := 6) sc_looked_turns.nd rfl (Or.inl rfl)) (pss_one (ps_if (pt_cmpR op_ne (pe_ix ix_list (pv 5) (pe_ix ix_list (pv 5) (pv 6) (fun _ _ => rfl)) (fun _ _ => rfl)) (pv 6) (nomark _)) pss_never pss_nil)))))
      (pss_cons (ps_for PassesOwn.never rfl (pi_range1 rfl T.b_range (pa_cons (pv 3) pa_nil)) (pg_name (i := 6) sc_looked_turns.nd rfl (Or.inl rfl)) (pss_one (ps_if (pt_cmpR op_ne (pe_ix ix_list (pv 2) (pe_ix ix_list (pv 0) (pv 6) (fun _ _ => rfl)) (fun _ _ => rfl)) (pe_ix ix_list (pv 0) (pe_ix ix_list (pv 2) (pv 6) (fun _ _ => rfl)) (fun _ _ => rfl)) (nomark _)) pss_never pss_nil)))
      (pss_cons (ps_set (i := 7) sc_looked_turns.nd rfl (Or.inl rfl) (pe_callO c_first_apart hr (pa_cons (pe_lst (pa_cons (pv 0) (pa_cons (pv 1) (pa_cons (pv 2) pa_nil)))) (pa_cons (pv 3) pa_nil))))
      (pss_one (ps_if (pt_cmp (pc_notN (pv 7))) pss_never pss_nil)))))))
    (wp_looked_turns T)

abbrev s_first_fold : Stmt := top 21
abbrev N_first_fold : List Str := ["zero", "one", "two", "turn", "images", "flag", "image"]
abbrev ps_first_fold : List Str := ["zero", "one", "two"]
theorem sc_first_fold : FnScope N_first_fold ps_first_fold (defScope s_first_fold) := ⟨rfl, rfl, rfl, by decide +kernel, rfl, by decide +kernel, by decide +kernel⟩
def t_first_fold (K : PySem.W.Frag) : TS :=
    (tSeq (tFor (iEnum K (tCons (tLst (tCons (tVar 0) (tCons (tVar 1) (tCons (tVar 2) tNil)))) tNil)) (gTup K 2 (gCons (gName 3) (gCons (gName 4) gNil))) (tFor (iEnT K (tCons (tVar 4) tNil)) (gTup K 2 (gCons (gName 5) (gCons (gName 6) gNil))) (tIfS (tTest (tOp rEq (tVar 6) (tVar 5))) (tRet (tTup (tCons (tVar 3) (tCons (tVar 5) tNil)))) tNext)))
    (tSeq (tFor (iEnT K (tCons (tVar 0) tNil)) (gTup K 2 (gCons (gName 5) (gCons (gName 6) gNil))) (tIfS (tTest (tOp rEq (tOp (rIxT K) (tVar 2) (tVar 6)) (tVar 5))) (tRet (tTup (tCons (tC (.int 3)) (tCons (tVar 5) tNil)))) tNext))
    (tRet (tC .non))))
def sp_first_fold (K : PySem.W.Frag) : Sp := fun vs H Q _ => ∃ (a b c : Addr) (n : Nat) (z o t : List Nat), vs = [.ref a, .ref b, .ref c] ∧ SqT K H a (nv z) ∧ SqT K H b (nv o) ∧ SqT K H c (nv t) ∧ MapT n z o t ∧
  ∀ H', Same H H' → Q .non H'
theorem len_first_fold {K : PySem.W.Frag} : ∀ vs H Q E, sp_first_fold K vs H Q E → vs.length = ps_first_fold.length := by
  rintro vs H Q E ⟨a, b, c, n, z, o, t, rfl, _⟩
  rfl
theorem wp_first_fold {K : PySem.W.Frag} {mg : Str → Option Value} (T : Tx K mg) : ∀ vs H Q E, sp_first_fold K vs H Q E → t_first_fold K { nx := fun _ H' => Q .non H', rt := Q } (start N_first_fold vs) H := by
  rintro vs H Q E ⟨a, b, c, n, z, o, t, rfl, hz, ho, ht, M, q⟩
  unfold t_first_fold
  have hn := M.le
  walk_at "w"
  refine ⟨by show 3 ≤ sizeLine; exact szl (by decide), fun p hp => ?_⟩
  walk_at "w"
  have s1 : Same H (upd H p (.lst [V.ref a, V.ref b, V.ref c])) := Same.tnew hp
  have key : ∀ (i : Nat) (x : V), ([V.ref a, V.ref b, V.ref c] : List V)[i]? = some x → ∃ d f, x = V.ref d ∧ SqT K H d (nv f) ∧ TurnT n f := by
    intro i x hx
    match i, hx with
    | 0, hx => exact ⟨a, z, (Option.some.inj hx).symm, hz, M.hz⟩
    | 1, hx => exact ⟨b, o, (Option.some.inj hx).symm, ho, M.ho⟩
    | 2, hx => exact ⟨c, t, (Option.some.inj hx).symm, ht, M.ht⟩
    | i + 3, hx => simp at hx
  refine fe (SqL.of upd_same) (fun i σ H' => ∃ v3 v4 v5 v6, σ = [some (.ref a), some (.ref b), some (.ref c), v3, v4, v5, v6] ∧ Same (upd H p (.lst [V.ref a, V.ref b, V.ref c])) H') ⟨_, _, _, _, rfl, Same.refl _⟩ ?_ ?_ ?_
  · rintro i σ H' _ ⟨_, _, _, _, _, s2⟩
    exact s2.tL (SqL.of upd_same)
  · rintro i x σ H2 H3 hi ⟨v3, v4, v5, v6, rfl, s2⟩ s3
    obtain ⟨d, f, rfl, hd, F⟩ := key i x hi
    have s4 := s2.trans s3
    have hd2 := (s1.trans s4).tT hd
    walk_at "w"
    refine fet hd2 (fun k σ' H' => Same H3 H' ∧ ∃ v5 v6, σ' = [some (.ref a), some (.ref b), some (.ref c), some (.int (i : Nat)), some (.ref d), v5, v6]) ⟨Same.refl _, _, _, rfl⟩ ?_ ?_ ?_
    · rintro k σ' H' _ ⟨s5, _⟩
      exact s5.tT hd2
    · rintro k x σ' H4 H5 hk ⟨s5, v5, v6, rfl⟩ s6
      obtain ⟨hlt, rfl⟩ := nv_of hk
      rw [F.len] at hlt
      walk_at "w"
      refine w_dF (by have := F.fix k hlt; omega) ?_
      walk_at "w"
      exact ⟨s5.trans s6, _, _, rfl⟩
    · rintro σ' H4 ⟨s5, v5, v6, rfl⟩
      exact ⟨_, _, _, _, rfl, s4.trans s5⟩
  rintro σ H2 ⟨v3, v4, v5, v6, rfl, s2⟩
  have s5 := s1.trans s2
  have hz2 := s5.tT hz
  have ht2 := s5.tT ht
  walk_at "w"
  refine fet hz2 (fun k σ' H' => Same H2 H' ∧ ∃ v5 v6, σ' = [some (.ref a), some (.ref b), some (.ref c), v3, v4, v5, v6]) ⟨Same.refl _, _, _, rfl⟩ ?_ ?_ ?_
  · rintro k σ' H' _ ⟨s5, _⟩
    exact s5.tT hz2
  · rintro k x σ' H4 H5 hk ⟨s6, v5, v6, rfl⟩ s7
    obtain ⟨hlt, rfl⟩ := nv_of hk
    rw [M.hz.len] at hlt
    walk_at "w"
    refine w_ixT ((s6.trans s7).tT ht2) (at_nv (by rw [M.ht.len]; exact M.hz.bd k hlt)) ?_
    walk_at "w"
    refine w_dF (by have := M.f3 k hlt; omega) ?_
    walk_at "w"
    exact ⟨s6.trans s7, _, _, rfl⟩
  · rintro σ' H4 ⟨s6, v5, v6, rfl⟩
    walk_at "w"
    exact q _ (s5.trans s6)

theorem ok_first_fold {P : Program} {w : World} {K : PySem.W.Frag} {mg : Str → Option Value} {base : Heap} (F : FnP K mg "first_fold" s_first_fold) (T : Tx K mg) :
    Ok P w K mg base "first_fold" 1 ps_first_fold (sp_first_fold K) :=
  ok_of (t := t_first_fold K) F sc_first_fold (len_first_fold) (fun _ _ _ _ _ _ us hl => match us, hl with | [_, _, _], _ => rfl)
    (fun f cdv A outer s H E hr => by
      have hu := hu_of hr
      have hu65 := u65 hr
      exact (pss_cons (ps_for PassesOwn.never rfl (pi_enum rfl T.b_enumerate (pa_cons (pe_lst (pa_cons (pv 0) (pa_cons (pv 1) (pa_cons (pv 2) pa_nil)))) pa_nil)) (pg_tup rfl (pgs_cons (pg_name (i := 3) sc_first_fold.nd rfl (Or.inl rfl)) (pgs_cons (pg_name (i := 4) sc_first_fold.nd rfl (Or.inl rfl)) pgs_nil))) (pss_one (ps_for PassesOwn.never rfl (pi_enumT rfl T.b_enumerate (pa_cons (pv 4) pa_nil)) (pg_tup rfl (pgs_cons (pg_name (i := 5) sc_first_fold.nd rfl (Or.inl rfl)) (pgs_cons (pg_name (i := 6) sc_first_fold.nd rfl (Or.inl rfl)) pgs_nil))) (pss_one (ps_if (pt_cmpR op_eq (pv 6) (pv 5) (nomark _)) (pss_one (ps_ret (pe_tup (pa_cons (pv 3) (pa_cons (pv 5) pa_nil))))) pss_nil)))))
      (pss_cons (ps_for PassesOwn.never rfl (pi_enumT rfl T.b_enumerate (pa_cons (pv 0) pa_nil)) (pg_tup rfl (pgs_cons (pg_name (i := 5) sc_first_fold.nd rfl (Or.inl rfl)) (pgs_cons (pg_name (i := 6) sc_first_fold.nd rfl (Or.inl rfl)) pgs_nil))) (pss_one (ps_if (pt_cmpR op_eq (pe_ix ix_tup (pv 2) (pv 6) (fun _ _ => rfl)) (pv 5) (nomark _)) (pss_one (ps_ret (pe_tup (pa_cons pe_int (pa_cons (pv 5) pa_nil))))) pss_nil)))
      (pss_one (ps_ret pe_non)))))
    (wp_first_fold T)

abbrev s_Figure_init : Stmt := inClass (top 22) 0
abbrev N_Figure_init : List Str := ["self", "zero", "one", "two"]
abbrev ps_Figure_init : List Str := ["self", "zero", "one", "two"]
theorem sc_Figure_init : FnScope N_Figure_init ps_Figure_init (defScope s_Figure_init) := ⟨rfl, rfl, rfl, by decide +kernel, rfl, by decide +kernel, by decide +kernel⟩
def t_Figure_init (K : PySem.W.Frag) : TS :=
    (tSeq (tDrop (tCall (sp_looked_count K) [] E0 (tCons (tCB (rLenV K) (tCons (tVar 1) tNil)) (tCons (tC (.int 1)) (tCons (tC (.int 240)) tNil)))))
    (tSeq (tDrop (tCall (sp_looked_images K) [] E0 (tCons (tVar 1) (tCons (tCB (rLenV K) (tCons (tVar 1) tNil)) tNil))))
    (tSeq (tDrop (tCall (sp_looked_images K) [] E0 (tCons (tVar 2) (tCons (tCB (rLenV K) (tCons (tVar 1) tNil)) tNil))))
    (tSeq (tDrop (tCall (sp_looked_images K) [] E0 (tCons (tVar 3) (tCons (tCB (rLenV K) (tCons (tVar 1) tNil)) tNil))))
    (tSeq (tDrop (tCall (sp_looked_turns K) [] E0 (tCons (tVar 1) (tCons (tVar 2) (tCons (tVar 3) tNil)))))
    (tSeq (sFld K (tVar 0) (tCB (rTupOf K) (tCons (tVar 1) tNil)) "zero")
    (tSeq (sFld K (tVar 0) (tCB (rTupOf K) (tCons (tVar 2) tNil)) "one")
    (tSeq (sFld K (tVar 0) (tCB (rTupOf K) (tCons (tVar 3) tNil)) "two")
    (sFld K (tVar 0) (tCB (rLenV K) (tCons (tVar 1) tNil)) "flags")))))))))
/-- the fields of a Figure that is laid -/
def figF (a b c : Addr) (n : Nat) : List (Str × V) := [("zero", .ref a), ("one", .ref b), ("two", .ref c), ("flags", .int (n : Nat))]
def sp_Figure_init (K : PySem.W.Frag) : Sp := fun vs H Q _ => ∃ (x dx C a b c : Addr) (n : Nat) (z o t : List Nat), vs = [.ref x, .ref a, .ref b, .ref c] ∧ SqL K H a (nv z) ∧ SqL K H b (nv o) ∧ SqL K H c (nv t) ∧ MapT n z o t ∧
  H x = some (.ins C dx []) ∧ Cls K C ∧ NoAttr K C "zero" ∧ NoAttr K C "one" ∧ NoAttr K C "two" ∧ NoAttr K C "flags" ∧
  ∀ H' p q r, Xt (fun y => y = x) H H' → H p = none → H q = none → H r = none → H' x = some (.ins C dx (figF p q r n)) → H' p = some (.tup (nv z)) → H' q = some (.tup (nv o)) → H' r = some (.tup (nv t)) → Q .non H'
theorem len_Figure_init {K : PySem.W.Frag} : ∀ vs H Q E, sp_Figure_init K vs H Q E → vs.length = ps_Figure_init.length := by
  rintro vs H Q E ⟨x, dx, C, a, b, c, n, z, o, t, rfl, _⟩
  rfl
theorem wp_Figure_init {K : PySem.W.Frag} {mg : Str → Option Value} (T : Tx K mg) : ∀ vs H Q E, sp_Figure_init K vs H Q E → t_Figure_init K { nx := fun _ H' => Q .non H', rt := Q } (start N_Figure_init vs) H := by
  rintro vs H Q E ⟨x, dx, C, a, b, c, n, z, o, t, rfl, hz, ho, ht, M, hx, hC, n0, n1, n2, n3, q⟩
  unfold t_Figure_init
  have hn := M.le
  have hp0 := M.pos
  walk_at "w"
  refine w_lenL hz ?_
  walk_at "w"
  refine ⟨_, _, _, rfl, by rw [nv_len, M.hz.len]; omega, by rw [nv_len, M.hz.len]; omega, ?_⟩
  walk_at "w"
  refine w_lenL hz ?_
  walk_at "w"
  refine ⟨a, z, by rw [nv_len]; rfl, hz, by rw [M.hz.len]; exact M.hz.bd, ?_⟩
  walk_at "w"
  refine w_lenL hz ?_
  walk_at "w"
  refine ⟨b, o, by rw [nv_len, M.hz.len, M.ho.len]; rfl, ho, by rw [M.ho.len]; exact M.ho.bd, ?_⟩
  walk_at "w"
  refine w_lenL hz ?_
  walk_at "w"
  refine ⟨c, t, by rw [nv_len, M.hz.len, M.ht.len]; rfl, ht, by rw [M.ht.len]; exact M.ht.bd, ?_⟩
  walk_at "w"
  refine ⟨a, b, c, n, z, o, t, rfl, hz, ho, ht, M, fun H1 s1 => ?_⟩
  walk_at "w"
  refine w_tupL (s1.tL hz) fun p hp => ?_
  have npx : p ≠ x := by
    rintro rfl
    rw [s1 _ _ hx] at hp
    cases hp
  have s2 : Same H (upd H1 p (.tup (nv z))) := s1.tmut (s1.tfr hp)
  have hx2 : (upd H1 p (.tup (nv z))) x = some (.ins C dx []) := s2 _ _ hx
  walk_at "w"
  refine ⟨x, C, dx, [], rfl, hx2, hC, n0, by decide, ?_⟩
  show tSeq _ _ _ _ (upd (upd H1 p (.tup (nv z))) x (.ins C dx [("zero", .ref p)]))
  have x3 : Xt (fun y => y = x) H (upd (upd H1 p (.tup (nv z))) x (.ins C dx [("zero", .ref p)])) := (Xt.of s2).mut (.inl rfl)
  have hx3 : (upd (upd H1 p (.tup (nv z))) x (.ins C dx [("zero", .ref p)])) x = some (.ins C dx [("zero", .ref p)]) := upd_same
  have hp3 : (upd (upd H1 p (.tup (nv z))) x (.ins C dx [("zero", .ref p)])) p = some (.tup (nv z)) := by rw [upd_ne npx, upd_same]
  have nL : ∀ d l, SqL K H d (nv l) → SqL K (upd (upd H1 p (.tup (nv z))) x (.ins C dx [("zero", .ref p)])) d (nv l) := fun d l h => sqL_off hx2 (fun e => by cases e) (fun o e => by cases e) (s2.tL h)
  generalize (upd (upd H1 p (.tup (nv z))) x (.ins C dx [("zero", .ref p)])) = H3 at x3 hx3 hp3 nL ⊢
  walk_at "w"
  refine w_tupL (nL _ _ ho) fun p2 hp2 => ?_
  have f2 : H p2 = none := by
    cases e : H p2 with
    | none => rfl
    | some u =>
      have n2 : p2 ≠ x := by rintro rfl; rw [hx3] at hp2; cases hp2
      rw [x3 _ _ n2 e] at hp2
      cases hp2
  have hx4 : (upd H3 p2 (.tup (nv o))) x = some (.ins C dx [("zero", .ref p)]) := (Same.tnew hp2) _ _ hx3
  walk_at "w"
  refine ⟨x, C, dx, _, rfl, hx4, hC, n1, by show 1 < 1000; decide, ?_⟩
  show tSeq _ _ _ _ (upd (upd H3 p2 (.tup (nv o))) x (.ins C dx [("zero", .ref p), ("one", .ref p2)]))
  have np2x : p2 ≠ x := by rintro rfl; rw [hx3] at hp2; cases hp2
  have np2 : p2 ≠ p := by rintro rfl; rw [hp3] at hp2; cases hp2
  have x5 : Xt (fun y => y = x) H (upd (upd H3 p2 (.tup (nv o))) x (.ins C dx [("zero", .ref p), ("one", .ref p2)])) := (x3.new hp2).mut (.inl rfl)
  have hx5 : (upd (upd H3 p2 (.tup (nv o))) x (.ins C dx [("zero", .ref p), ("one", .ref p2)])) x = some (.ins C dx [("zero", .ref p), ("one", .ref p2)]) := upd_same
  have hp5 : (upd (upd H3 p2 (.tup (nv o))) x (.ins C dx [("zero", .ref p), ("one", .ref p2)])) p = some (.tup (nv z)) := by rw [upd_ne npx, upd_ne (Ne.symm np2)]; exact hp3
  have hq5 : (upd (upd H3 p2 (.tup (nv o))) x (.ins C dx [("zero", .ref p), ("one", .ref p2)])) p2 = some (.tup (nv o)) := by rw [upd_ne np2x, upd_same]
  have nL5 : ∀ d l, SqL K H d (nv l) → SqL K (upd (upd H3 p2 (.tup (nv o))) x (.ins C dx [("zero", .ref p), ("one", .ref p2)])) d (nv l) := fun d l h => sqL_off hx4 (fun e => by cases e) (fun o e => by cases e) ((Same.tnew hp2).tL (nL d l h))
  generalize (upd (upd H3 p2 (.tup (nv o))) x (.ins C dx [("zero", .ref p), ("one", .ref p2)])) = H5 at x5 hx5 hp5 hq5 nL5 ⊢
  walk_at "w"
  refine w_tupL (nL5 _ _ ht) fun p3 hp6 => ?_
  have np3x : p3 ≠ x := by rintro rfl; rw [hx5] at hp6; cases hp6
  have np31 : p3 ≠ p := by rintro rfl; rw [hp5] at hp6; cases hp6
  have np32 : p3 ≠ p2 := by rintro rfl; rw [hq5] at hp6; cases hp6
  have f3 : H p3 = none := by
    cases e : H p3 with
    | none => rfl
    | some u => rw [x5 _ _ np3x e] at hp6; cases hp6
  have hx6 : (upd H5 p3 (.tup (nv t))) x = some (.ins C dx [("zero", .ref p), ("one", .ref p2)]) := (Same.tnew hp6) _ _ hx5
  walk_at "w"
  refine ⟨x, C, dx, _, rfl, hx6, hC, n2, by show 2 < 1000; decide, ?_⟩
  show tSeq _ _ _ _ (upd (upd H5 p3 (.tup (nv t))) x (.ins C dx [("zero", .ref p), ("one", .ref p2), ("two", .ref p3)]))
  walk_at "w"
  refine w_lenL (sqL_off hx6 (fun e => by cases e) (fun o e => by cases e) ((Same.tnew hp6).tL (nL5 _ _ hz))) ?_
  walk_at "w"
  refine ⟨x, C, dx, _, rfl, upd_same, hC, n3, by show 3 < 1000; decide, ?_⟩
  rw [nv_len, M.hz.len]
  refine q _ p p2 p3 (((x5.new hp6).mut (.inl rfl)).mut (.inl rfl)) (s1.tfr hp) f2 f3 upd_same ?_ ?_ ?_
  · rw [upd_ne npx, upd_ne npx, upd_ne (Ne.symm np31)]; exact hp5
  · rw [upd_ne np2x, upd_ne np2x, upd_ne (Ne.symm np32)]; exact hq5
  · rw [upd_ne np3x, upd_ne np3x, upd_same]

theorem ok_Figure_init {P : Program} {w : World} {K : PySem.W.Frag} {mg : Str → Option Value} {base : Heap} {f : Addr} {fd : FuncData} (F : FunD K "__init__" "Figure.__init__" (defArgs s_Figure_init) (defBody s_Figure_init) (defScope s_Figure_init) [] [] f fd) (T : Tx K mg) (c_looked_count : Ok P w K mg base "looked_count" 1 ps_looked_count (sp_looked_count K)) (c_looked_images : Ok P w K mg base "looked_images" 1 ps_looked_images (sp_looked_images K)) (c_looked_turns : Ok P w K mg base "looked_turns" 3 ps_looked_turns (sp_looked_turns K)) :
    FnOk P w K mg base CX0 4 f fd ps_Figure_init (sp_Figure_init K) ∧ Binds K fd ps_Figure_init [] :=
  fok_of (t := t_Figure_init K) F sc_Figure_init (len_Figure_init) (fun _ _ _ _ _ _ us hl => match us, hl with | [_, _, _, _], _ => rfl)
    (fun f cdv A outer s H E hr => by
      have hu := hu_of hr
      have hu65 := u65 hr
      exact (pss_cons (ps_expr (pe_callO c_looked_count hr (pa_cons (pe_callB call_len rfl T.b_len PySem.boot_len (pa_cons (pv 1) pa_nil)) (pa_cons pe_int (pa_cons (pe_globI T.g_MOST_FLAGS) pa_nil)))))
      (pss_cons (ps_expr (pe_callO c_looked_images hr (pa_cons (pv 1) (pa_cons (pe_callB call_len rfl T.b_len PySem.boot_len (pa_cons (pv 1) pa_nil)) pa_nil))))
      (pss_cons (ps_expr (pe_callO c_looked_images hr (pa_cons (pv 2) (pa_cons (pe_callB call_len rfl T.b_len PySem.boot_len (pa_cons (pv 1) pa_nil)) pa_nil))))
      (pss_cons (ps_expr (pe_callO c_looked_images hr (pa_cons (pv 3) (pa_cons (pe_callB call_len rfl T.b_len PySem.boot_len (pa_cons (pv 1) pa_nil)) pa_nil))))
      (pss_cons (ps_expr (pe_callO c_looked_turns hr (pa_cons (pv 1) (pa_cons (pv 2) (pa_cons (pv 3) pa_nil)))))
      (pss_cons (ps_fld (pv 0) (pe_callTy call_tuple_of rfl T.b_tuple (by decide +kernel) (pa_cons (pv 1) pa_nil)) rfl)
      (pss_cons (ps_fld (pv 0) (pe_callTy call_tuple_of rfl T.b_tuple (by decide +kernel) (pa_cons (pv 2) pa_nil)) rfl)
      (pss_cons (ps_fld (pv 0) (pe_callTy call_tuple_of rfl T.b_tuple (by decide +kernel) (pa_cons (pv 3) pa_nil)) rfl)
      (pss_one (ps_fld (pv 0) (pe_callB call_len rfl T.b_len PySem.boot_len (pa_cons (pv 1) pa_nil)) rfl)))))))))))
    (wp_Figure_init T)

abbrev s_numbered_edges : Stmt := top 26
abbrev N_numbered_edges : List Str := ["zero", "two", "numbers", "count", "flag", "image", "member", "_"]
abbrev ps_numbered_edges : List Str := ["zero", "two"]
theorem sc_numbered_edges : FnScope N_numbered_edges ps_numbered_edges (defScope s_numbered_edges) := ⟨rfl, rfl, rfl, by decide +kernel, rfl, by decide +kernel, by decide +kernel⟩
def t_numbered_edges (K : PySem.W.Frag) : TS :=
    (tSeq (tAsg (tLc (iTup K (tVar 0)) (gName 7) tYes (tC .non) [7]) (gName 2))
    (tSeq (tAsg (tC (.int 0)) (gName 3))
    (tSeq (tFor (iEnT K (tCons (tVar 0) tNil)) (gTup K 2 (gCons (gName 4) (gCons (gName 5) gNil))) (tIfS (tB (tIsN (tOp (rIxL K) (tVar 2) (tVar 4)))) (tSeq (tFor (iTup K (tTup (tCons (tVar 4) (tCons (tVar 5) (tCons (tOp (rIxT K) (tVar 1) (tVar 4)) (tCons (tOp (rIxT K) (tVar 1) (tVar 5)) tNil)))))) (gName 6) (tAsg (tVar 3) (gSub (tVar 2) (tVar 6) rSetL)))
    (tAug 3 (tC (.int 1)) (ipI fun i j => i + j))) tNext))
    (tRet (tCB (rTupOf K) (tCons (tVar 2) tNil))))))
def sp_numbered_edges (K : PySem.W.Frag) : Sp := fun vs H Q _ => ∃ (a c : Addr) (n : Nat) (z t : List Nat), vs = [.ref a, .ref c] ∧ SqT K H a (nv z) ∧ SqT K H c (nv t) ∧ Edg n z t ∧ n ≤ 240 ∧
  ∀ H' p, Same H H' → H p = none → H' p = some (.tup (nv (edgesOf n z t))) → Q (.ref p) H'
theorem len_numbered_edges {K : PySem.W.Frag} : ∀ vs H Q E, sp_numbered_edges K vs H Q E → vs.length = ps_numbered_edges.length := by
  rintro vs H Q E ⟨a, c, n, z, t, rfl, _⟩
  rfl
theorem wp_numbered_edges {K : PySem.W.Frag} {mg : Str → Option Value} (T : Tx K mg) : ∀ vs H Q E, sp_numbered_edges K vs H Q E → t_numbered_edges K { nx := fun _ H' => Q .non H', rt := Q } (start N_numbered_edges vs) H := by
  rintro vs H Q E0 ⟨a, c, n, z, t, rfl, hz, ht, E, hn, q⟩
  unfold t_numbered_edges
  walk_at "w"
  refine ct hz (by rw [nv_len, E.hz.len]; omega) (fun _ => true) (fun _ => .non) (fun _ => rfl) (fun i x H' R hi s k => k H' (Same.refl H')) (fun i x H' R hi _ s k => k H' (Same.refl H')) fun D H1 hD s1 h1 => ?_
  rw [picked_fv, nv_len, E.hz.len, ← edgeV_zero (z := z) (t := t)] at h1
  walk_at "w"
  refine fet (s1.tT hz) (fun i σ H' => ∃ v4 v5 v6, σ = [some (.ref a), some (.ref c), some (.ref D), some (.int (leads z t i : Nat)), v4, v5, v6, none] ∧ Same H H' ∧ H' D = some (.lst (fv n (edgeV z t .non i)))) ⟨_, _, _, rfl, s1, h1⟩ ?_ ?_ ?_
  · rintro i σ H' _ ⟨_, _, _, _, s2, _⟩
    exact s2.tT hz
  · rintro i x σ H2 H3 hi ⟨v4, v5, v6, rfl, s2, h2⟩ s3
    obtain ⟨hlt, rfl⟩ := nv_of hi
    rw [E.hz.len] at hlt
    have hzi := E.hz.bd i hlt
    have h3 := s3 _ _ h2
    have s4 := s2.trans s3
    walk_at "w"
    refine w_ixL (SqL.of h3) (at_fv hlt) ?_
    walk_at "w"
    rcases edgeV_at E (u := .non) hlt with ⟨hl, he⟩ | ⟨hl, he⟩
    · rw [he]
      refine w_dT rfl ?_
      walk_at "w"
      refine w_ixT (s4.tT ht) (at_nv (by rw [E.ht.len]; exact hlt)) ?_
      walk_at "w"
      refine w_ixT (s4.tT ht) (at_nv (by rw [E.ht.len]; exact hzi)) ?_
      walk_at "w"
      refine ⟨by show 4 ≤ sizeLine; exact szl (by decide), fun p hp => ?_⟩
      walk_at "w"
      have em : [V.int (i : Nat), V.int (gt z i : Nat), V.int (gt t i : Nat), V.int (gt t (gt z i) : Nat)] = nv [i, gt z i, gt t i, gt t (gt z i)] := rfl
      rw [em]
      have npD : p ≠ D := by rintro rfl; rw [h3] at hp; cases hp
      refine ft (SqT.of upd_same) (fun k σ' H' => ∃ v6, σ' = [some (.ref a), some (.ref c), some (.ref D), some (.int (leads z t i : Nat)), some (.int (i : Nat)), some (.int (gt z i : Nat)), v6, none] ∧ Same H H' ∧ H' p = some (.tup (nv [i, gt z i, gt t i, gt t (gt z i)])) ∧
        H' D = some (.lst (fv n (fun x => if x ∈ [i, gt z i, gt t i, gt t (gt z i)].take k then .int (leads z t i : Nat) else edgeV z t .non i x)))) ⟨_, rfl, s4.tmut (s4.tfr hp), upd_same, ?_⟩ ?_ ?_ ?_
      · rw [upd_ne (Ne.symm npD), h3]
        congr 2
      · rintro k σ' H' _ ⟨_, _, _, hp', _⟩
        exact SqT.of hp'
      · rintro k x σ' H4 hk ⟨v6, rfl, s5, hp5, h5⟩
        obtain ⟨hlt2, rfl⟩ := nv_of hk
        have hx : gt [i, gt z i, gt t i, gt t (gt z i)] k < n := by
          have hm : gt [i, gt z i, gt t i, gt t (gt z i)] k ∈ [i, gt z i, gt t i, gt t (gt z i)] := List.mem_of_getElem? (gt_some hlt2)
          simp only [List.mem_cons, List.not_mem_nil, or_false] at hm
          rcases hm with e | e | e | e
          · rw [e]; exact hlt
          · rw [e]; exact hzi
          · rw [e]; exact E.ht.bd i hlt
          · rw [e]; exact E.ht.bd _ hzi
        have tk := take_snoc (gt_some hlt2)
        generalize gt [i, gt z i, gt t i, gt t (gt z i)] k = y at hx tk
        walk_at "w"
        refine w_setL h5 (ix_nat (by rw [fv_len]; exact hx)) ?_
        rw [fv_set hx]
        refine ⟨_, rfl, s5.tmut hD, ?_, ?_⟩
        · rw [upd_ne npD]
          exact hp5
        · rw [upd_same, tk]
          congr 2
          refine fv_congr fun x _ => ?_
          by_cases e : x = y
          · rw [if_pos e, if_pos (by simp [e])]
          · rw [if_neg e]
            by_cases e2 : x ∈ [i, gt z i, gt t i, gt t (gt z i)].take k
            · rw [if_pos e2, if_pos (List.mem_append_left _ e2)]
            · rw [if_neg e2, if_neg (fun w => by
                rcases List.mem_append.mp w with w | w
                · exact e2 w
                · exact e (List.mem_singleton.mp w))]
      · rintro σ' H4 ⟨v6, rfl, s5, hp5, h5⟩
        refine w_aug rfl ?_
        walk_at "w"
        refine ⟨some (.int (i : Nat)), some (.int (gt z i : Nat)), v6, ?_, s5, ?_⟩
        · rw [leads_succ hl, show ((leads z t i + 1 : Nat) : Int) = (leads z t i : Int) + 1 by omega]
          rfl
        · rw [h5, ← edgeV_step E hlt hl]
          rfl
    · rw [he]
      refine w_dF (fun e => by cases e) ?_
      walk_at "w"
      refine ⟨some (.int (i : Nat)), some (.int (gt z i : Nat)), v6, ?_, s4, ?_⟩
      · rw [leads_skip hl]
        rfl
      · rw [h3, edgeV_skip E hlt hl]
  · rintro σ H2 ⟨v4, v5, v6, rfl, s2, h2⟩
    rw [nv_len, E.hz.len, edgeV_all E] at h2
    walk_at "w"
    refine w_tupL (SqL.of h2) fun l hl => ?_
    exact q _ l (s2.tmut (s2.tfr hl)) (s2.tfr hl) upd_same

theorem ok_numbered_edges {P : Program} {w : World} {K : PySem.W.Frag} {mg : Str → Option Value} {base : Heap} (F : FnP K mg "numbered_edges" s_numbered_edges) (T : Tx K mg) :
    Ok P w K mg base "numbered_edges" 1 ps_numbered_edges (sp_numbered_edges K) :=
  ok_of (t := t_numbered_edges K) F sc_numbered_edges (len_numbered_edges) (fun _ _ _ _ _ _ us hl => match us, hl with | [_, _], _ => rfl)
    (fun f cdv A outer s H E hr => by
      have hu := hu_of hr
      have hu65 := u65 hr
      exact (pss_cons (ps_setLc (i := 2) (own := [("_", 7)]) rfl sc_numbered_edges.nd rfl rfl (sw_true rfl rfl rfl (by decide +kernel)) (pi_tup (pv 0)) (blkOk_by (own := [("_", 7)]) (N := N_numbered_edges) (sc := defScope s_numbered_edges) (by decide +kernel)) (fun _ _ _ _ _ => (pg_name (i := 7) sc_numbered_edges.nd rfl (Or.inl rfl))) (fun _ _ _ _ _ => pts_nil) (fun _ _ _ _ _ => pe_non))
      (pss_cons (ps_set (i := 3) sc_numbered_edges.nd rfl (Or.inl rfl) pe_int)
      (pss_cons (ps_for PassesOwn.never rfl (pi_enumT rfl T.b_enumerate (pa_cons (pv 0) pa_nil)) (pg_tup rfl (pgs_cons (pg_name (i := 4) sc_numbered_edges.nd rfl (Or.inl rfl)) (pgs_cons (pg_name (i := 5) sc_numbered_edges.nd rfl (Or.inl rfl)) pgs_nil))) (pss_one (ps_if (pt_cmp (pc_isN (pe_ix ix_list (pv 2) (pv 4) (fun _ _ => rfl)))) (pss_cons (ps_for PassesOwn.never rfl (pi_tup (pe_tup (pa_cons (pv 4) (pa_cons (pv 5) (pa_cons (pe_ix ix_tup (pv 1) (pv 4) (fun _ _ => rfl)) (pa_cons (pe_ix ix_tup (pv 1) (pv 5) (fun _ _ => rfl)) pa_nil)))))) (pg_name (i := 6) sc_numbered_edges.nd rfl (Or.inl rfl)) (pss_one (ps_asg (pv 3) (pg_sub (pv 2) (pv 6) set_list))))
      (pss_one (ps_aug (i := 3) sc_numbered_edges.nd rfl (Or.inl rfl) pe_int ip_add))) pss_nil)))
      (pss_one (ps_ret (pe_callTy call_tuple_of rfl T.b_tuple (by decide +kernel) (pa_cons (pv 2) pa_nil))))))))
    (wp_numbered_edges T)

abbrev s_Map_init : Stmt := inClass (top 25) 0
abbrev N_Map_init : List Str := ["self", "zero", "one", "two", "__class__", "fold"]
abbrev ps_Map_init : List Str := ["self", "zero", "one", "two"]
def t_Map_init (K : PySem.W.Frag) : TS :=
    (tSeq (tAsg (tCall (sp_first_fold K) [] E0 (tCons (tFld K (tVar 0) "zero") (tCons (tFld K (tVar 0) "one") (tCons (tFld K (tVar 0) "two") tNil)))) (gName 5))
    (tSeq (tIfS (tB (tNotN (tVar 5))) tNever tNext)
    (tSeq (sFld K (tVar 0) (tOp rDivI (tFld K (tVar 0) "flags") (tC (.int 4))) "edge_count")
    (sFld K (tVar 0) (tCall (sp_numbered_edges K) [] E0 (tCons (tFld K (tVar 0) "zero") (tCons (tFld K (tVar 0) "two") tNil))) "edge_numbers"))))
open NdefX
def sp_Map (K : PySem.W.Frag) : Sp := fun vs H Q _ => ∃ (x dx a b c : Addr) (n : Nat) (z o t : List Nat), vs = [.ref x, .ref a, .ref b, .ref c] ∧ SqL K H a (nv z) ∧ SqL K H b (nv o) ∧ SqL K H c (nv t) ∧ MapT n z o t ∧
  H x = some (.ins (He.ga K "Map") dx []) ∧ ∀ H', Xt (fun y => y = x) H H' → MapAt K H' x n z o t → Q .non H'
theorem len_Map_init {K : PySem.W.Frag} : ∀ vs H Q E, sp_Map K vs H Q E → vs.length = ps_Map_init.length := by
  rintro vs H Q E ⟨x, dx, a, b, c, n, z, o, t, rfl, _⟩
  rfl
theorem wp_Map_init {K : PySem.W.Frag} {mg : Str → Option Value} (T : Tx K mg) {x dx a b c p q r : Addr} {n : Nat} {z o t : List Nat} {D : Addr} {H : Hp} {Q : VK} (M : MapT n z o t)
    (hx : H x = some (.ins (He.ga K "Map") dx (figF p q r n))) (hp : H p = some (.tup (nv z))) (hq : H q = some (.tup (nv o))) (hr : H r = some (.tup (nv t)))
    (k : ∀ H', Xt (fun y => y = x) H H' → MapAt K H' x n z o t → Q .non H') :
    t_Map_init K { nx := fun _ H' => Q .non H', rt := Q } (startF N_Map_init [.ref x, .ref a, .ref b, .ref c] [some (.ref D)]) H := by
  unfold t_Map_init
  have hn := M.le
  walk_at "w"
  refine ⟨x, _, dx, _, .ref p, rfl, hx, T.c_Map, T.n_zero, rfl, ?_⟩
  walk_at "w"
  refine ⟨x, _, dx, _, .ref q, rfl, hx, T.c_Map, T.n_one, rfl, ?_⟩
  walk_at "w"
  refine ⟨x, _, dx, _, .ref r, rfl, hx, T.c_Map, T.n_two, rfl, ?_⟩
  walk_at "w"
  refine ⟨p, q, r, n, z, o, t, rfl, SqT.of hp, SqT.of hq, SqT.of hr, M, fun H1 s1 => ?_⟩
  walk_at "w"
  refine w_nF rfl ?_
  walk_at "w"
  refine ⟨x, _, dx, _, .int (n : Nat), rfl, s1 _ _ hx, T.c_Map, T.n_flags, rfl, ?_⟩
  walk_at "w"
  refine w_iC (by constructor <;> decide) ?_
  walk_at "w"
  refine ⟨x, _, dx, _, rfl, s1 _ _ hx, T.c_Map, T.n_edge_count, by show 4 < 1000; decide, ?_⟩
  have e4 : ((n : Int) / 4) = ((n / 4 : Nat) : Int) := by omega
  rw [e4]
  have e5 : putF "edge_count" (.int (n / 4 : Nat)) (figF p q r n) = ([("zero", .ref p), ("one", .ref q), ("two", .ref r), ("flags", .int (n : Nat)), ("edge_count", .int (n / 4 : Nat))] : List (Str × V)) := rfl
  rw [e5]
  have px : ∀ d l, H d = some (.tup l) → d ≠ x := fun d l h e => by subst e; rw [hx] at h; cases h
  have g2 : ∀ d l, H d = some (.tup l) → (upd H1 x (.ins (He.ga K "Map") dx [("zero", .ref p), ("one", .ref q), ("two", .ref r), ("flags", .int (n : Nat)), ("edge_count", .int (n / 4 : Nat))])) d = some (.tup l) := fun d l h => by
    rw [upd_ne (px d l h)]
    exact s1 _ _ h
  have x2 : Xt (fun y => y = x) H (upd H1 x (.ins (He.ga K "Map") dx [("zero", .ref p), ("one", .ref q), ("two", .ref r), ("flags", .int (n : Nat)), ("edge_count", .int (n / 4 : Nat))])) := (Xt.of s1).mut (.inl rfl)
  have hx2 : (upd H1 x (.ins (He.ga K "Map") dx [("zero", .ref p), ("one", .ref q), ("two", .ref r), ("flags", .int (n : Nat)), ("edge_count", .int (n / 4 : Nat))])) x = some (.ins (He.ga K "Map") dx [("zero", .ref p), ("one", .ref q), ("two", .ref r), ("flags", .int (n : Nat)), ("edge_count", .int (n / 4 : Nat))]) := upd_same
  generalize (upd H1 x (.ins (He.ga K "Map") dx [("zero", .ref p), ("one", .ref q), ("two", .ref r), ("flags", .int (n : Nat)), ("edge_count", .int (n / 4 : Nat))])) = H2 at g2 x2 hx2 ⊢
  walk_at "w"
  refine ⟨x, _, dx, _, .ref p, rfl, hx2, T.c_Map, T.n_zero, rfl, ?_⟩
  walk_at "w"
  refine ⟨x, _, dx, _, .ref r, rfl, hx2, T.c_Map, T.n_two, rfl, ?_⟩
  walk_at "w"
  refine ⟨p, r, n, z, t, rfl, SqT.of (g2 _ _ hp), SqT.of (g2 _ _ hr), M.edg, hn, fun H3 s s3 hs hs3 => ?_⟩
  walk_at "w"
  refine ⟨x, _, dx, _, rfl, s3 _ _ hx2, T.c_Map, T.n_edge_numbers, by show 5 < 1000; decide, ?_⟩
  have ns : s ≠ x := by rintro rfl; rw [hx2] at hs; cases hs
  refine k _ ((x2.trans (Xt.of s3)).mut (.inl rfl)) ⟨dx, p, q, r, s, upd_same, ?_, ?_, ?_, ?_⟩
  · rw [upd_ne (px _ _ hp)]; exact s3 _ _ (g2 _ _ hp)
  · rw [upd_ne (px _ _ hq)]; exact s3 _ _ (g2 _ _ hq)
  · rw [upd_ne (px _ _ hr)]; exact s3 _ _ (g2 _ _ hr)
  · rw [upd_ne ns]; exact hs3
theorem nsc_Map_init : NScope N_Map_init ps_Map_init ["__class__"] (defScope s_Map_init) := nscope_by (by decide +kernel)
abbrev nf_Map_init (cc c : Addr) : NF := ⟨"__init__", "Map.__init__", defArgs s_Map_init, defBody s_Map_init, defScope s_Map_init, [("__class__", cc)], c⟩
theorem ok_Map_init {P : Program} {w : World} {K : PySem.W.Frag} {mg : Str → Option Value} {base : Heap} {f cc c f2 : Addr} {fd fd2 : FuncData}
    (TS : SupTxt P K mg (nf_Map_init cc c) f cc (He.ga K "Map") (He.ga K "Map") f2 fd "self") (b1 : Binds K fd ps_Map_init []) (Mk1 : Mk K (He.ga K "Map") f) (gl : mg "Map" = some (.ref (He.ga K "Map")))
    (F2 : FnOk P w K mg base CX0 4 f2 fd2 ps_Figure_init (sp_Figure_init K) ∧ Binds K fd2 ps_Figure_init [])
    (T : Tx K mg) (c_first_fold : Ok P w K mg base "first_fold" 1 ps_first_fold (sp_first_fold K)) (c_numbered_edges : Ok P w K mg base "numbered_edges" 1 ps_numbered_edges (sp_numbered_edges K)) :
    OkC P w K mg base "Map" 5 ps_Map_init (sp_Map K) := by
  refine ⟨⟨f, fd, ?_, b1, Mk1⟩, gl⟩
  refine fn_super (N := N_Map_init) (ps := ps_Map_init) (sp2 := sp_Figure_init K) (k := 4) TS nsc_Map_init rfl F2.1 F2.2 rfl len_Map_init ?_ (by intro _; rfl) (by intro _ _; rfl) (by intro _; rfl) b1
  rintro A outer s H vs Q E hr ⟨x, dx, a, b, c2, n, z, o, t, rfl, hz, ho, ht, M, hx, k⟩
  refine ⟨(tCons (tVar 1) (tCons (tVar 2) (tCons (tVar 3) tNil))), t_Map_init K, x, dx, [], ?_, ?_, rfl, hx, ?_⟩
  · exact pa_cons (pv 1) (pa_cons (pv 2) (pa_cons (pv 3) pa_nil))
  · exact (pss_cons (ps_set (i := 5) nsc_Map_init.nd rfl (Or.inl rfl) (pe_callO c_first_fold hr (pa_cons (pe_fld (pv 0) rfl) (pa_cons (pe_fld (pv 0) rfl) (pa_cons (pe_fld (pv 0) rfl) pa_nil)))))
      (pss_cons (ps_if (pt_cmp (pc_notN (pv 5))) pss_never pss_nil)
      (pss_cons (ps_fld (pv 0) (pe_op op_fdiv (pe_fld (pv 0) rfl) pe_int) rfl)
      (pss_one (ps_fld (pv 0) (pe_callO c_numbered_edges hr (pa_cons (pe_fld (pv 0) rfl) (pa_cons (pe_fld (pv 0) rfl) pa_nil))) rfl)))))
  · walk_at "w"
    refine ⟨x, dx, _, a, b, c2, n, z, o, t, rfl, hz, ho, ht, M, hx, T.c_Map, T.n_zero, T.n_one, T.n_two, T.n_flags, fun H' p q r X1 fp fq fr hx' hp hq hr' => ?_⟩
    exact wp_Map_init T M hx' hp hq hr' fun H2 X2 m => k H2 (X1.trans X2) m


abbrev s_turns_of : Stmt := top 23
abbrev N_turns_of : List Str := ["figure", "three", "image"]
abbrev ps_turns_of : List Str := ["figure"]
theorem sc_turns_of : FnScope N_turns_of ps_turns_of (defScope s_turns_of) := ⟨rfl, rfl, rfl, by decide +kernel, rfl, by decide +kernel, by decide +kernel⟩
def t_turns_of (K : PySem.W.Frag) : TS :=
    (tSeq (tAsg (tCB (rTupOf K) (tCons (tLc (iTup K (tFld K (tVar 0) "zero")) (gName 2) tYes (tOp (rIxT K) (tFld K (tVar 0) "two") (tVar 2)) [2]) tNil)) (gName 1))
    (tRet (tTup (tCons (tFld K (tVar 0) "zero") (tCons (tFld K (tVar 0) "one") (tCons (tFld K (tVar 0) "two") (tCons (tVar 1) tNil)))))))
def sp_turns_of (K : PySem.W.Frag) : Sp := fun vs H Q _ => ∃ (x : Addr) (n : Nat) (z o t : List Nat), vs = [.ref x] ∧ MapAt K H x n z o t ∧ MapT n z o t ∧
  ∀ H' a p q r s, Same H H' → H' a = some (.tup [.ref p, .ref q, .ref r, .ref s]) → H' p = some (.tup (nv z)) → H' q = some (.tup (nv o)) → H' r = some (.tup (nv t)) → H' s = some (.tup (fv n fun i => .int (gt t (gt z i) : Nat))) → Q (.ref a) H'
theorem len_turns_of {K : PySem.W.Frag} : ∀ vs H Q E, sp_turns_of K vs H Q E → vs.length = ps_turns_of.length := by
  rintro vs H Q E ⟨x, n, z, o, t, rfl, _⟩
  rfl
theorem wp_turns_of {K : PySem.W.Frag} {mg : Str → Option Value} (T : Tx K mg) : ∀ vs H Q E, sp_turns_of K vs H Q E → t_turns_of K { nx := fun _ H' => Q .non H', rt := Q } (start N_turns_of vs) H := by
  rintro vs H Q E ⟨x, n, z, o, t, rfl, m, M, k⟩
  obtain ⟨dx, p, q, r, s, h1, h2, h3, h4, h5⟩ := m.ex
  have hn := M.le
  unfold t_turns_of
  walk_at "w"
  refine ⟨x, _, dx, _, .ref p, rfl, h1, T.c_Map, T.n_zero, rfl, ?_⟩
  refine ct (SqT.of h2) (by rw [nv_len, M.hz.len]; omega) (fun _ => true) (fun i => .int (gt t (gt z i) : Nat)) (fun _ => rfl) (fun i x H' R hi s k => k H' (Same.refl H')) (fun i y H' R hi _ s k => ?_) fun p2 H' hp s1 h1' => ?_
  · obtain ⟨hlt, rfl⟩ := nv_of hi
    rw [M.hz.len] at hlt
    walk_at "w"
    refine ⟨x, _, dx, _, .ref r, rfl, s _ _ h1, T.c_Map, T.n_two, rfl, ?_⟩
    walk_at "w"
    refine w_ixT (SqT.of (s _ _ h4)) (at_nv (by rw [M.ht.len]; exact M.hz.bd i hlt)) ?_
    exact k _ (Same.refl _)
  · walk_at "w"
    rw [picked_fv, nv_len, M.hz.len] at h1'
    refine w_tupL (SqL.of h1') fun l hl => ?_
    have s2 := s1.tmut (o := .tup (fv n fun i => .int (gt t (gt z i) : Nat))) (s1.tfr hl)
    walk_at "w"
    refine ⟨x, _, dx, _, .ref p, rfl, s2 _ _ h1, T.c_Map, T.n_zero, rfl, ?_⟩
    walk_at "w"
    refine ⟨x, _, dx, _, .ref q, rfl, s2 _ _ h1, T.c_Map, T.n_one, rfl, ?_⟩
    walk_at "w"
    refine ⟨x, _, dx, _, .ref r, rfl, s2 _ _ h1, T.c_Map, T.n_two, rfl, ?_⟩
    walk_at "w"
    refine ⟨szl (by show 4 ≤ 1000000; decide), fun b hb => ?_⟩
    have s3 : Same _ _ := Same.tnew (o := .tup [V.ref p, V.ref q, V.ref r, V.ref l]) hb
    refine k _ b p q r l (s2.trans s3) upd_same (s3 _ _ (s2 _ _ h2)) (s3 _ _ (s2 _ _ h3)) (s3 _ _ (s2 _ _ h4)) (s3 _ _ upd_same)

theorem ok_turns_of {P : Program} {w : World} {K : PySem.W.Frag} {mg : Str → Option Value} {base : Heap} (F : FnP K mg "turns_of" s_turns_of) (T : Tx K mg) :
    Ok P w K mg base "turns_of" 1 ps_turns_of (sp_turns_of K) :=
  ok_of (t := t_turns_of K) F sc_turns_of (len_turns_of) (fun _ _ _ _ _ _ us hl => match us, hl with | [_], _ => rfl)
    (fun f cdv A outer s H E hr => by
      have hu := hu_of hr
      have hu65 := u65 hr
      exact (pss_cons (ps_set (i := 1) sc_turns_of.nd rfl (Or.inl rfl) (pe_callTy call_tuple_of rfl T.b_tuple (by decide +kernel) (pa_cons (pe_lc (own := [("image", 2)]) rfl sc_turns_of.nd (pi_tup (pe_fld (pv 0) rfl)) (blkOk_by (own := [("image", 2)]) (N := N_turns_of) (sc := defScope s_turns_of) (by decide +kernel)) (fun _ _ _ _ _ => (pg_name (i := 2) sc_turns_of.nd rfl (Or.inl rfl))) (fun _ _ _ _ _ => pts_nil) (fun _ _ _ _ _ => (pe_ix ix_tup (pe_fld (pv 0) rfl) (pv 2) (fun _ _ => rfl)))) pa_nil)))
      (pss_one (ps_ret (pe_tup (pa_cons (pe_fld (pv 0) rfl) (pa_cons (pe_fld (pv 0) rfl) (pa_cons (pe_fld (pv 0) rfl) (pa_cons (pv 1) pa_nil)))))))))
    (wp_turns_of T)

abbrev s_crossing_table : Stmt := top 28
abbrev N_crossing_table : List Str := ["base", "numbers", "table", "flag", "other", "near", "far", "_"]
abbrev ps_crossing_table : List Str := ["base"]
theorem sc_crossing_table : FnScope N_crossing_table ps_crossing_table (defScope s_crossing_table) := ⟨rfl, rfl, rfl, by decide +kernel, rfl, by decide +kernel, by decide +kernel⟩
def t_crossing_table (K : PySem.W.Frag) : TS :=
    (tSeq (tAsg (tFld K (tVar 0) "edge_numbers") (gName 1))
    (tSeq (tAsg (tLc (iRng1 (tCons (tFld K (tVar 0) "edge_count") tNil)) (gName 7) tYes (tOp rRep (tLst (tCons (tC (.int 0)) tNil)) (tFld K (tVar 0) "edge_count")) [7]) (gName 2))
    (tSeq (tFor (iEnT K (tCons (tFld K (tVar 0) "one") tNil)) (gTup K 2 (gCons (gName 3) (gCons (gName 4) gNil))) (tIfS (tTest (tOp rLtI (tVar 3) (tVar 4))) (tSeq (tAsg (tOp (rIxT K) (tVar 1) (tVar 3)) (gName 5))
    (tSeq (tAsg (tOp (rIxT K) (tVar 1) (tVar 4)) (gName 6))
    (tSeq (tAsg (tOp rAddI (tOp (rIxL K) (tOp (rIxL K) (tVar 2) (tVar 5)) (tVar 6)) (tC (.int 1))) (gSub (tOp (rIxL K) (tVar 2) (tVar 5)) (tVar 6) rSetL))
    (tIfS (tTest (tOp rNe (tVar 5) (tVar 6))) (tAsg (tOp rAddI (tOp (rIxL K) (tOp (rIxL K) (tVar 2) (tVar 6)) (tVar 5)) (tC (.int 1))) (gSub (tOp (rIxL K) (tVar 2) (tVar 6)) (tVar 5) rSetL)) tNext)))) tNext))
    (tRet (tVar 2)))))
def sp_crossing_table (K : PySem.W.Frag) : Sp := fun vs H Q _ => ∃ (x : Addr) (n : Nat) (z o t : List Nat), vs = [.ref x] ∧ MapAt K H x n z o t ∧ MapT n z o t ∧
  ∀ H' a, Same H H' → Tbl K H' a (tabOf n z o t) → Q (.ref a) H'
theorem len_crossing_table {K : PySem.W.Frag} : ∀ vs H Q E, sp_crossing_table K vs H Q E → vs.length = ps_crossing_table.length := by
  rintro vs H Q E ⟨x, n, z, o, t, rfl, _⟩
  rfl
theorem wp_crossing_table {K : PySem.W.Frag} {mg : Str → Option Value} (T : Tx K mg) : ∀ vs H Q E, sp_crossing_table K vs H Q E → t_crossing_table K { nx := fun _ H' => Q .non H', rt := Q } (start N_crossing_table vs) H := by
  rintro vs H Q E0 ⟨x, n, z, o, t, rfl, m, M, k⟩
  obtain ⟨dx, p, q, r, s, h1, h2, h3, h4, h5⟩ := m.ex
  have hn := M.le
  have E := M.edg
  unfold t_crossing_table
  walk_at "w"
  refine ⟨x, _, dx, _, .ref s, rfl, h1, T.c_Map, T.n_edge_numbers, rfl, ?_⟩
  walk_at "w"
  refine ⟨x, _, dx, _, .int (n / 4 : Nat), rfl, h1, T.c_Map, T.n_edge_count, rfl, ?_⟩
  walk_at "w"
  refine cr_rows (k := n / 4) (m := n / 4) rfl (by omega) (fun _ => .int 0) (fun _ => rfl) (fun _ _ R h => h) (fun i H' R hi s k => ?_) fun D rs H1 R1 => ?_
  · walk_at "w"
    refine ⟨szl (by show 1 ≤ 1000000; decide), fun p2 hp2 => ?_⟩
    have s2 : Same _ _ := Same.tnew (o := .lst [V.int 0]) hp2
    walk_at "w"
    refine ⟨x, _, dx, _, .int (n / 4 : Nat), rfl, s2 _ _ (s _ _ h1), T.c_Map, T.n_edge_count, rfl, ?_⟩
    refine w_rep1 rfl (by omega) upd_same fun p3 hp3 => ?_
    have f3 : H' p3 = none := s2.tfr hp3
    exact k p3 _ (s2.tmut f3) f3 upd_same
  walk_at "w"
  have R2 : Rws H H1 D rs (n / 4) (n / 4) (fun a b => .int (sm 0 (tabC z o t a b) : Nat)) := R1.congr fun _ _ _ _ => rfl
  refine ⟨x, _, dx, _, .ref q, rfl, R1.sm _ _ h1, T.c_Map, T.n_one, rfl, ?_⟩
  walk_at "w"
  refine fet (SqT.of (R1.sm _ _ h3)) (fun i σ H' => (∃ v3 v4 v5 v6, σ = [some (.ref x), some (.ref s), some (.ref D), v3, v4, v5, v6, none]) ∧ Rws H H' D rs (n / 4) (n / 4) (fun a b => .int (sm i (tabC z o t a b) : Nat))) ⟨⟨_, _, _, _, rfl⟩, R2⟩ ?_ ?_ ?_
  · rintro i σ H' _ ⟨_, R⟩
    exact SqT.of (R.sm _ _ h3)
  · rintro i y σ H2 H3 hi ⟨⟨v3, v4, v5, v6, rfl⟩, R⟩ s3
    obtain ⟨hlt, rfl⟩ := nv_of hi
    rw [M.ho.len] at hlt
    have R3 := R.same s3
    have ho := M.ho.bd i hlt
    have hs : SqT K H3 s (nv (edgesOf n z t)) := SqT.of (R3.sm _ _ h5)
    walk_at "w"
    refine w_d2 (fun hlo => ?_) (fun hlo => ?_)
    · walk_at "w"
      refine w_ixT hs (at_nv (by rw [edgesOf_len]; exact hlt)) ?_
      walk_at "w"
      refine w_ixT hs (at_nv (by rw [edgesOf_len]; exact ho)) ?_
      rw [gt_edgesOf hlt, gt_edgesOf ho]
      have ea := edgeOf_lt E hlt
      have eb := edgeOf_lt E ho
      have step : ∀ a b, sm (i + 1) (tabC z o t a b) = sm i (tabC z o t a b) + (ib (decide (edgeOf z t i = a ∧ edgeOf z t (gt o i) = b)) + (if edgeOf z t i ≠ edgeOf z t (gt o i) then ib (decide (edgeOf z t (gt o i) = a ∧ edgeOf z t i = b)) else 0)) := fun a b => by
        show _ + tabC z o t a b i = _
        unfold tabC
        rw [if_pos (by omega)]
      generalize edgeOf z t i = A at ea step
      generalize edgeOf z t (gt o i) = B at eb step
      walk_at "w"
      obtain ⟨ra, e1, e2, e3, e4, e5⟩ := R3.get ea
      refine w_ixL (SqL.of R3.at_) e2 ?_
      walk_at "w"
      refine w_ixL (SqL.of e3) (at_fv eb) ?_
      walk_at "w"
      refine w_ixL (SqL.of R3.at_) e2 ?_
      walk_at "w"
      refine w_setL e3 (ix_nat (by rw [fv_len]; exact eb)) ?_
      have R4 := R3.set (v := .int ((sm i (tabC z o t A B) : Nat) + 1 : Int)) e1 eb
      generalize (upd H3 ra (.lst ((fv (n / 4) fun b => .int (sm i (tabC z o t A b) : Nat)).set B (.int ((sm i (tabC z o t A B) : Nat) + 1 : Int))))) = H4 at R4 ⊢
      walk_at "w"
      refine w_n2 (fun hAB => ?_) (fun hAB => ?_)
      · walk_at "w"
        obtain ⟨rb, f1, f2, f3, f4, f5⟩ := R4.get eb
        refine w_ixL (SqL.of R4.at_) f2 ?_
        walk_at "w"
        refine w_ixL (SqL.of f3) (at_fv ea) ?_
        rw [if_neg (fun w => hAB (by rw [w.1]))]
        walk_at "w"
        refine w_ixL (SqL.of R4.at_) f2 ?_
        walk_at "w"
        refine w_setL f3 (ix_nat (by rw [fv_len]; exact ea)) ?_
        have R5 := R4.set (v := .int ((sm i (tabC z o t B A) : Nat) + 1 : Int)) f1 ea
        refine ⟨⟨_, _, _, _, rfl⟩, R5.congr fun a b _ _ => ?_⟩
        have hAB' : ¬ A = B := fun w => hAB (by rw [w])
        show (if a = B ∧ b = A then _ else if a = A ∧ b = B then _ else _) = V.int (sm (i + 1) (tabC z o t a b) : Nat)
        rw [step, if_pos hAB']
        by_cases c1 : a = B ∧ b = A
        · obtain ⟨rfl, rfl⟩ := c1
          have c2 : ¬ (b = a ∧ a = b) := fun w => hAB' w.1
          simp [ib, hAB']
        · by_cases c2 : a = A ∧ b = B
          · obtain ⟨rfl, rfl⟩ := c2
            rw [if_neg c1, if_pos ⟨rfl, rfl⟩]
            have c3 : ¬ (b = a ∧ a = b) := fun w => hAB' w.2
            simp [ib, c3]
          · rw [if_neg c1, if_neg c2]
            have c3 : ¬ (A = a ∧ B = b) := fun w => c2 ⟨w.1.symm, w.2.symm⟩
            have c4 : ¬ (B = a ∧ A = b) := fun w => c1 ⟨w.1.symm, w.2.symm⟩
            simp [ib, c3, c4]
      · walk_at "w"
        have hAB' : A = B := by omega
        refine ⟨⟨_, _, _, _, rfl⟩, R4.congr fun a b _ _ => ?_⟩
        show (if a = A ∧ b = B then _ else _) = V.int (sm (i + 1) (tabC z o t a b) : Nat)
        have c0 : ¬ (A ≠ B) := fun w => w hAB'
        rw [step, if_neg c0, Nat.add_zero]
        by_cases c2 : a = A ∧ b = B
        · obtain ⟨rfl, rfl⟩ := c2
          rw [if_pos ⟨rfl, rfl⟩]
          simp [ib]
        · rw [if_neg c2]
          have c3 : ¬ (A = a ∧ B = b) := fun w => c2 ⟨w.1.symm, w.2.symm⟩
          simp [ib, c3]
    · walk_at "w"
      refine ⟨⟨_, _, _, _, rfl⟩, R3.congr fun a b _ _ => ?_⟩
      have e : sm (i + 1) (tabC z o t a b) = sm i (tabC z o t a b) := by
        show _ + tabC z o t a b i = _
        unfold tabC
        rw [if_neg (by omega), Nat.add_zero]
      rw [e]
  · rintro σ H2 ⟨⟨v3, v4, v5, v6, rfl⟩, R⟩
    walk_at "w"
    rw [nv_len, M.ho.len] at R
    refine k _ D R.sm ?_
    have R2 : Rws H H2 D rs (n / 4) (n / 4) (fun a b => .int (sm n (tabD z o t a b) : Nat)) := R.congr fun a b _ _ => by rw [tab_same M.ho]
    exact R2.tbl

theorem ok_crossing_table {P : Program} {w : World} {K : PySem.W.Frag} {mg : Str → Option Value} {base : Heap} (F : FnP K mg "crossing_table" s_crossing_table) (T : Tx K mg) :
    Ok P w K mg base "crossing_table" 1 ps_crossing_table (sp_crossing_table K) :=
  ok_of (t := t_crossing_table K) F sc_crossing_table (len_crossing_table) (fun _ _ _ _ _ _ us hl => match us, hl with | [_], _ => rfl)
    (fun f cdv A outer s H E hr => by
      have hu := hu_of hr
      have hu65 := u65 hr
      exact (pss_cons (ps_set (i := 1) sc_crossing_table.nd rfl (Or.inl rfl) (pe_fld (pv 0) rfl))
      (pss_cons (ps_setLc (i := 2) (own := [("_", 7)]) rfl sc_crossing_table.nd rfl rfl (sw_true rfl rfl rfl (by decide +kernel)) (pi_range1 rfl T.b_range (pa_cons (pe_fld (pv 0) rfl) pa_nil)) (blkOk_by (own := [("_", 7)]) (N := N_crossing_table) (sc := defScope s_crossing_table) (by decide +kernel)) (fun _ _ _ _ _ => (pg_name (i := 7) sc_crossing_table.nd rfl (Or.inl rfl))) (fun _ _ _ _ _ => pts_nil) (fun _ _ _ _ _ => (pe_op op_rep (pe_lst (pa_cons pe_int pa_nil)) (pe_fld (pv 0) rfl))))
      (pss_cons (ps_for PassesOwn.never rfl (pi_enumT rfl T.b_enumerate (pa_cons (pe_fld (pv 0) rfl) pa_nil)) (pg_tup rfl (pgs_cons (pg_name (i := 3) sc_crossing_table.nd rfl (Or.inl rfl)) (pgs_cons (pg_name (i := 4) sc_crossing_table.nd rfl (Or.inl rfl)) pgs_nil))) (pss_one (ps_if (pt_cmpR op_lt (pv 3) (pv 4) (nomark _)) (pss_cons (ps_set (i := 5) sc_crossing_table.nd rfl (Or.inl rfl) (pe_ix ix_tup (pv 1) (pv 3) (fun _ _ => rfl)))
      (pss_cons (ps_set (i := 6) sc_crossing_table.nd rfl (Or.inl rfl) (pe_ix ix_tup (pv 1) (pv 4) (fun _ _ => rfl)))
      (pss_cons (ps_asg (pe_op op_add (pe_ix ix_list (pe_ix ix_list (pv 2) (pv 5) (fun _ _ => rfl)) (pv 6) (fun _ _ => rfl)) pe_int) (pg_sub (pe_ix ix_list (pv 2) (pv 5) (fun _ _ => rfl)) (pv 6) set_list))
      (pss_one (ps_if (pt_cmpR op_ne (pv 5) (pv 6) (nomark _)) (pss_one (ps_asg (pe_op op_add (pe_ix ix_list (pe_ix ix_list (pv 2) (pv 6) (fun _ _ => rfl)) (pv 5) (fun _ _ => rfl)) pe_int) (pg_sub (pe_ix ix_list (pv 2) (pv 6) (fun _ _ => rfl)) (pv 5) set_list))) pss_nil))))) pss_nil)))
      (pss_one (ps_ret (pv 2)))))))
    (wp_crossing_table T)

abbrev s_is_code : Stmt := top 32
abbrev N_is_code : List Str := ["form", "char"]
abbrev ps_is_code : List Str := ["form"]
theorem sc_is_code : FnScope N_is_code ps_is_code (defScope s_is_code) := ⟨rfl, rfl, rfl, by decide +kernel, rfl, by decide +kernel, by decide +kernel⟩
def t_is_code (K : PySem.W.Frag) : TS :=
    (tSeq (tIfS (tOr (tNot (tB (tCB (rIsi K) (tCons (tVar 0) (tCons (tC (.ty "str")) tNil))))) (tOr (tTest (tOp rNe (tSl rSlS (tVar 0) tNoPart (tPart (tC (.int 1)))) (tC (.str "'")))) (tTest (tOp rGtI (tCB (rLenV K) (tCons (tVar 0) tNil)) (tOp rAddI (tC (.int 1000)) (tC (.int 1))))))) (tRet (tC (.bl false))) tNext)
    (tRet (tCB (rAll K) (tCons (tLc (iStr (tSl rSlS (tVar 0) (tPart (tC (.int 1))) tNoPart)) (gName 1) tYes (tOp rInSg (tVar 1) (tC (.str "0123"))) [1]) tNil))))
def sp_is_code (K : PySem.W.Frag) : Sp := fun vs H Q _ => ∃ (v : V) (d : PyData), vs = [v] ∧ Dp K H v d ∧ FF d ∧ ∀ H', Same H H' → Q (.bl (codeB d)) H'
theorem len_is_code {K : PySem.W.Frag} : ∀ vs H Q E, sp_is_code K vs H Q E → vs.length = ps_is_code.length := by
  rintro vs H Q E ⟨v, d, rfl, _⟩
  rfl
theorem wp_is_code {K : PySem.W.Frag} {mg : Str → Option Value} (T : Tx K mg) : ∀ vs H Q E, sp_is_code K vs H Q E → t_is_code K { nx := fun _ H' => Q .non H', rt := Q } (start N_is_code vs) H := by
  rintro vs H Q E ⟨v, d, rfl, D, F, q⟩
  unfold t_is_code
  walk_at "w"
  refine w_isS F D ?_
  walk_at "w"
  cases F with
  | int h =>
    show if (!false) = true then _ else _
    walk_at "w"
    exact q _ (Same.refl H)
  | tup h1 h2 =>
    show if (!false) = true then _ else _
    walk_at "w"
    exact q _ (Same.refl H)
  | @str k x hx =>
    cases D
    have hl := words_len x hx
    have hc := words_cut x hx
    show if (!true) = true then _ else _
    walk_at "w"
    refine ⟨x, rfl, szl (by omega), ?_⟩
    walk_at "w"
    refine w_n2 (fun h => ?_) (fun h => ?_)
    · walk_at "w"
      rw [decide_eq_false h] at hc
      have e : codeB (.str x) = false := hc.symm
      have := q H (Same.refl H)
      rwa [e] at this
    · rw [decide_eq_true h] at hc
      have hxc : x ∈ codes := of_decide_eq_true hc.symm
      walk_at "w"
      refine ⟨.str x, x.length, rfl, ⟨szl (by omega), rfl⟩, ?_⟩
      walk_at "w"
      refine w_dF (by omega) ?_
      walk_at "w"
      refine ⟨x, rfl, szl (by omega), ?_⟩
      have hsz := codes_sz x hxc
      refine cs (by omega) (fun _ => true) (fun i => .bl (stepB x i)) (fun _ => rfl) (fun i c H' R hi s k => k H' (Same.refl H')) (fun i c H' R hi _ s k => ?_) fun p H' hp s1 h1 => ?_
      · walk_at "w"
        refine ⟨c, _, rfl, rfl, ?_⟩
        have e : decide (c ∈ ("0123" : Str).cps.toList) = stepB x i := by
          unfold stepB
          rw [Array.getD_eq_getD_getElem?, hi]
          rfl
        rw [e]
        exact k H' (Same.refl H')
      · walk_at "w"
        have eb : picked (cutS x (some 1) none).cps.size (fun _ => true) (fun i => .bl (stepB x i)) = ((List.range (cutS x (some 1) none).cps.size).map (stepB x)).map V.bl := by
          rw [picked_all, List.map_map]
          rfl
        rw [eb] at h1
        refine ⟨p, _, rfl, SqL.of h1, ?_⟩
        rw [codes_steps x hxc]
        have := q H' s1
        have e : codeB (.str x) = true := decide_eq_true hxc
        rwa [e] at this

theorem ok_is_code {P : Program} {w : World} {K : PySem.W.Frag} {mg : Str → Option Value} {base : Heap} (F : FnP K mg "is_code" s_is_code) (T : Tx K mg) :
    Ok P w K mg base "is_code" 1 ps_is_code (sp_is_code K) :=
  ok_of (t := t_is_code K) F sc_is_code (len_is_code) (fun _ _ _ _ _ _ us hl => match us, hl with | [_], _ => rfl)
    (fun f cdv A outer s H E hr => by
      have hu := hu_of hr
      have hu65 := u65 hr
      exact (pss_cons (ps_if (PW.pt (pw_or (pt_not (pt_val (pe_callB call_isi rfl T.b_isinstance (by decide +kernel) (pa_cons (pv 0) (pa_cons (pe_bltn rfl T.b_str (by decide +kernel) rfl) pa_nil))))) (pw_or (pt_cmpR op_ne (pe_slice sl_str (pv 0) po_none (po_some pe_int)) pe_str (nomark _)) (pw_or1 (pt_cmpR op_gt (pe_callB call_len rfl T.b_len PySem.boot_len (pa_cons (pv 0) pa_nil)) (pe_op op_add (pe_globI T.g_MOST_STEPS) pe_int) (nomark _)))))) (pss_one (ps_ret pe_bl)) pss_nil)
      (pss_one (ps_ret (pe_callB (cr_all rfl) rfl T.b_all (by decide +kernel) (pa_cons (pe_lc (own := [("char", 1)]) rfl sc_is_code.nd (pi_str (pe_slice sl_str (pv 0) (po_some pe_int) po_none)) (blkOk_by (own := [("char", 1)]) (N := N_is_code) (sc := defScope s_is_code) (by decide +kernel)) (fun _ _ _ _ _ => (pg_name (i := 1) sc_is_code.nd rfl (Or.inl rfl))) (fun _ _ _ _ _ => pts_nil) (fun _ _ _ _ _ => (pe_cmpR op_in_sign (pv 1) (pe_globS T.g_STEPS) rfl))) pa_nil))))))
    (wp_is_code T)

abbrev s_entries_of : Stmt := top 34
abbrev N_entries_of : List Str := ["paper", "word"]
abbrev ps_entries_of : List Str := ["paper", "word"]
theorem sc_entries_of : FnScope N_entries_of ps_entries_of (defScope s_entries_of) := ⟨rfl, rfl, rfl, by decide +kernel, rfl, by decide +kernel, by decide +kernel⟩
def t_entries_of (K : PySem.W.Frag) : TS :=
    (tSeq (tIfS (tOr (tNot (tB (tCB (rIsi K) (tCons (tVar 0) (tCons (tC (.ty "tuple")) tNil))))) (tOr (tTest (tOp rEq (tCB (rLenV K) (tCons (tVar 0) tNil)) (tC (.int 0)))) (tTest (tOp (rNeD K) (tOp (rIxT K) (tVar 0) (tC (.int 0))) (tVar 1))))) (tRet (tC .non)) tNext)
    (tRet (tSl (rSlA K) (tVar 0) (tPart (tC (.int 1))) tNoPart)))
def sp_entries_of (K : PySem.W.Frag) : Sp := fun vs H Q _ => ∃ (v : V) (d : PyData) (w : Str), vs = [v, .str w] ∧ Dp K H v d ∧ FF d ∧ w ∈ words ∧
  (entr w d = none → ∀ H', Same H H' → Q .non H') ∧ ∀ r, entr w d = some r → ∀ H' a xs, Same H H' → SqT K H' a xs → DpAll K H' xs r → Q (.ref a) H'
theorem len_entries_of {K : PySem.W.Frag} : ∀ vs H Q E, sp_entries_of K vs H Q E → vs.length = ps_entries_of.length := by
  rintro vs H Q E ⟨v, d, w, rfl, _⟩
  rfl
theorem wp_entries_of {K : PySem.W.Frag} {mg : Str → Option Value} (T : Tx K mg) : ∀ vs H Q E, sp_entries_of K vs H Q E → t_entries_of K { nx := fun _ H' => Q .non H', rt := Q } (start N_entries_of vs) H := by
  rintro vs H Q E ⟨v, d, w, rfl, D, F, hw, q1, q2⟩
  unfold t_entries_of
  walk_at "w"
  refine w_isT F D ?_
  walk_at "w"
  have F0 := F
  cases F with
  | int h =>
    show if (!false) = true then _ else _
    walk_at "w"
    exact q1 rfl _ (Same.refl H)
  | str h =>
    show if (!false) = true then _ else _
    walk_at "w"
    exact q1 rfl _ (Same.refl H)
  | @tup k ds h1 h2 =>
    obtain ⟨a, xs, rfl, hS, hD⟩ := D.tupI
    show if (!true) = true then _ else _
    walk_at "w"
    refine w_lenT hS ?_
    walk_at "w"
    cases hD with
    | nil =>
      refine w_dT rfl ?_
      walk_at "w"
      exact q1 rfl _ (Same.refl H)
    | @cons v0 xs0 d0 r hd0 hr =>
      refine w_dF (by rw [List.length_cons]; omega) ?_
      walk_at "w"
      refine w_ixT hS (v := v0) (at0 rfl) ?_
      walk_at "w"
      have F1 : FF d0 := (h2 d0 List.mem_cons_self).mono (Nat.le_refl _) (by omega)
      refine ⟨d0, .str w, hd0, .str w, F1.sh, Fm.shaped (L := 0) (k := 0) (.str hw) (by decide), ?_⟩
      walk_at "w"
      have end1 : (PyData.eqv d0 (.str w)) = true → entr w (.tuple (d0 :: r)) = some r := fun e => by
        cases F1 with
        | int h => cases e
        | tup _ _ => cases e
        | @str k x hx =>
          have : x = w := by simpa [PyData.eqv] using e
          show (if x = w then some r else none) = some r
          rw [if_pos this]
      have end0 : (PyData.eqv d0 (.str w)) = false → entr w (.tuple (d0 :: r)) = none := fun e => by
        cases F1 with
        | int h => rfl
        | tup _ _ => rfl
        | @str k x hx =>
          have : ¬ x = w := by simpa [PyData.eqv] using e
          show (if x = w then some r else none) = none
          rw [if_neg this]
      refine w_nb2 (fun h => ?_) (fun h => ?_)
      · walk_at "w"
        exact q1 (end0 h) _ (Same.refl H)
      · walk_at "w"
        refine w_slT hS fun b H' s hb => ?_
        rw [show (some (1 : Int)) = some ((1 : Nat) : Int) from rfl, cut_from] at hb
        exact q2 r (end1 h) H' b _ s hb (DpAll.keep (fun d hd => (h2 d (List.mem_cons_of_mem _ hd))) (Kp.of s) hr)

theorem ok_entries_of {P : Program} {w : World} {K : PySem.W.Frag} {mg : Str → Option Value} {base : Heap} (F : FnP K mg "entries_of" s_entries_of) (T : Tx K mg) :
    Ok P w K mg base "entries_of" 1 ps_entries_of (sp_entries_of K) :=
  ok_of (t := t_entries_of K) F sc_entries_of (len_entries_of) (fun _ _ _ _ _ _ us hl => match us, hl with | [_, _], _ => rfl)
    (fun f cdv A outer s H E hr => by
      have hu := hu_of hr
      have hu65 := u65 hr
      exact (pss_cons (ps_if (PW.pt (pw_or (pt_not (pt_val (pe_callB call_isi rfl T.b_isinstance (by decide +kernel) (pa_cons (pv 0) (pa_cons (pe_bltn rfl T.b_tuple (by decide +kernel) rfl) pa_nil))))) (pw_or (pt_cmpR op_eq (pe_callB call_len rfl T.b_len PySem.boot_len (pa_cons (pv 0) pa_nil)) pe_int (nomark _)) (pw_or1 (pt_cmpR (op_neD hr.units) (pe_ix ix_tup (pv 0) pe_int (fun _ _ => rfl)) (pv 1) (nomark _)))))) (pss_one (ps_ret pe_non)) pss_nil)
      (pss_one (ps_ret (pe_slice sl_tupA (pv 0) (po_some pe_int) po_none)))))
    (wp_entries_of T)

abbrev s_so_many : Stmt := top 35
abbrev N_so_many : List Str := ["paper", "word", "count", "entries"]
abbrev ps_so_many : List Str := ["paper", "word", "count"]
theorem sc_so_many : FnScope N_so_many ps_so_many (defScope s_so_many) := ⟨rfl, rfl, rfl, by decide +kernel, rfl, by decide +kernel, by decide +kernel⟩
def t_so_many (K : PySem.W.Frag) : TS :=
    (tSeq (tAsg (tCall (sp_entries_of K) [] E0 (tCons (tVar 0) (tCons (tVar 1) tNil))) (gName 3))
    (tSeq (tIfS (tOr (tB (tIsN (tVar 3))) (tTest (tOp rNe (tCB (rLenV K) (tCons (tVar 3) tNil)) (tVar 2)))) (tRet (tC .non)) tNext)
    (tRet (tVar 3))))
def sp_so_many (K : PySem.W.Frag) : Sp := fun vs H Q _ => ∃ (v : V) (d : PyData) (w : Str) (n : Nat), vs = [v, .str w, .int n] ∧ Dp K H v d ∧ FF d ∧ w ∈ words ∧
  (ents w n d = none → ∀ H', Same H H' → Q .non H') ∧ ∀ r, ents w n d = some r → ∀ H' a xs, Same H H' → SqT K H' a xs → DpAll K H' xs r → Q (.ref a) H'
theorem len_so_many {K : PySem.W.Frag} : ∀ vs H Q E, sp_so_many K vs H Q E → vs.length = ps_so_many.length := by
  rintro vs H Q E ⟨v, d, w, n, rfl, _⟩
  rfl
theorem wp_so_many {K : PySem.W.Frag} {mg : Str → Option Value} (T : Tx K mg) : ∀ vs H Q E, sp_so_many K vs H Q E → t_so_many K { nx := fun _ H' => Q .non H', rt := Q } (start N_so_many vs) H := by
  rintro vs H Q E ⟨v, d, w, n, rfl, D, F, hw, q1, q2⟩
  unfold t_so_many
  walk_at "w"
  refine ⟨v, d, w, rfl, D, F, hw, fun e H' s => ?_, fun r e H' a xs s hS hD => ?_⟩
  · walk_at "w"
    refine w_dT rfl ?_
    walk_at "w"
    exact q1 (by unfold ents; rw [e]) _ s
  · walk_at "w"
    refine w_dF (fun z => by cases z) ?_
    walk_at "w"
    refine w_lenT hS ?_
    walk_at "w"
    have hl := hD.len
    refine w_n2 (fun h => ?_) (fun h => ?_)
    · walk_at "w"
      refine q1 ?_ _ s
      unfold ents
      rw [e]
      show (if r.length = n then some r else none) = none
      rw [if_neg (by omega)]
    · walk_at "w"
      refine q2 r ?_ _ _ _ s hS hD
      unfold ents
      rw [e]
      show (if r.length = n then some r else none) = some r
      rw [if_pos (by omega)]

theorem ok_so_many {P : Program} {w : World} {K : PySem.W.Frag} {mg : Str → Option Value} {base : Heap} (F : FnP K mg "so_many" s_so_many) (T : Tx K mg) (c_entries_of : Ok P w K mg base "entries_of" 1 ps_entries_of (sp_entries_of K)) :
    Ok P w K mg base "so_many" 2 ps_so_many (sp_so_many K) :=
  ok_of (t := t_so_many K) F sc_so_many (len_so_many) (fun _ _ _ _ _ _ us hl => match us, hl with | [_, _, _], _ => rfl)
    (fun f cdv A outer s H E hr => by
      have hu := hu_of hr
      have hu65 := u65 hr
      exact (pss_cons (ps_set (i := 3) sc_so_many.nd rfl (Or.inl rfl) (pe_callO c_entries_of hr (pa_cons (pv 0) (pa_cons (pv 1) pa_nil))))
      (pss_cons (ps_if (PW.pt (pw_or (pt_cmp (pc_isN (pv 3))) (pw_or1 (pt_cmpR op_ne (pe_callB call_len rfl T.b_len PySem.boot_len (pa_cons (pv 3) pa_nil)) (pv 2) (nomark _))))) (pss_one (ps_ret pe_non)) pss_nil)
      (pss_one (ps_ret (pv 3))))))
    (wp_so_many T)

abbrev s_are_numbers : Stmt := top 36
abbrev N_are_numbers : List Str := ["entries", "count", "entry"]
abbrev ps_are_numbers : List Str := ["entries", "count"]
theorem sc_are_numbers : FnScope N_are_numbers ps_are_numbers (defScope s_are_numbers) := ⟨rfl, rfl, rfl, by decide +kernel, rfl, by decide +kernel, by decide +kernel⟩
def t_are_numbers (K : PySem.W.Frag) : TS :=
    (tSeq (tIfS (tNot (tB (tCB (rIsi K) (tCons (tVar 0) (tCons (tC (.ty "tuple")) tNil))))) (tRet (tC (.bl false))) tNext)
    (tRet (tCB (rAll K) (tCons (tLc (iTup K (tVar 0)) (gName 2) tYes (tAndV (tCB (rIsi K) (tCons (tVar 2) (tCons (tC (.ty "int")) tNil))) (tChain rLeI rLtI (tC (.int 0)) (tVar 2) (tVar 1))) [2]) tNil))))
def sp_are_numbers (K : PySem.W.Frag) : Sp := fun vs H Q _ => ∃ (v : V) (d : PyData) (n : Nat), vs = [v, .int n] ∧ Dp K H v d ∧ FF d ∧ ∀ H', Same H H' → Q (.bl (numsB n d)) H'
theorem len_are_numbers {K : PySem.W.Frag} : ∀ vs H Q E, sp_are_numbers K vs H Q E → vs.length = ps_are_numbers.length := by
  rintro vs H Q E ⟨v, d, n, rfl, _⟩
  rfl
theorem wp_are_numbers {K : PySem.W.Frag} {mg : Str → Option Value} (T : Tx K mg) : ∀ vs H Q E, sp_are_numbers K vs H Q E → t_are_numbers K { nx := fun _ H' => Q .non H', rt := Q } (start N_are_numbers vs) H := by
  rintro vs H Q E ⟨v, d, n, rfl, D, F, q⟩
  unfold t_are_numbers
  walk_at "w"
  refine w_isT F D ?_
  walk_at "w"
  cases F with
  | int h =>
    show if (!false) = true then _ else _
    walk_at "w"
    exact q _ (Same.refl H)
  | str h =>
    show if (!false) = true then _ else _
    walk_at "w"
    exact q _ (Same.refl H)
  | @tup k ds h1 h2 =>
    obtain ⟨a, xs, rfl, hS, hD⟩ := D.tupI
    show if (!true) = true then _ else _
    walk_at "w"
    have hl := hD.len
    refine ct hS (by omega) (fun _ => true) (fun i => .bl (byAt (numB n) ds i)) (fun _ => rfl) (fun i x H' R hi s k => k H' (Same.refl H')) (fun i x H' R hi _ s k => ?_) fun p H' hp s1 h1' => ?_
    · have hlt : i < ds.length := by
        obtain ⟨z, _⟩ := List.getElem?_eq_some_iff.mp hi
        omega
      have hdi : ds[i]? = some (ds.getD i .none) := by
        rw [List.getD_eq_getElem?_getD, List.getElem?_eq_getElem hlt]
        rfl
      have Di := hD.get hi hdi
      have Fi := h2 _ (List.mem_of_getElem? hdi)
      have Di' := Dp.keep Fi (Kp.of s) _ Di
      unfold byAt at k
      generalize ds.getD i .none = d at Fi Di' k
      clear Di hdi
      walk_at "w"
      refine w_isI Fi Di' ?_
      cases Fi with
      | tup _ _ =>
        refine ⟨false, rfl, ?_⟩
        walk_at "w"
        exact k _ (Same.refl _)
      | str _ =>
        refine ⟨false, rfl, ?_⟩
        walk_at "w"
        exact k _ (Same.refl _)
      | @int _ j hj =>
        cases Di'
        refine ⟨true, rfl, ?_⟩
        walk_at "w"
        refine w_dT hj ?_
        walk_at "w"
        exact k _ (Same.refl _)
    · walk_at "w"
      have eb : picked xs.length (fun _ => true) (fun i => .bl (byAt (numB n) ds i)) = ((List.range xs.length).map (byAt (numB n) ds)).map V.bl := by
        rw [picked_all, List.map_map]
        rfl
      rw [eb] at h1'
      refine ⟨p, _, rfl, SqL.of h1', ?_⟩
      rw [all_at hl]
      exact q H' s1

theorem ok_are_numbers {P : Program} {w : World} {K : PySem.W.Frag} {mg : Str → Option Value} {base : Heap} (F : FnP K mg "are_numbers" s_are_numbers) (T : Tx K mg) :
    Ok P w K mg base "are_numbers" 1 ps_are_numbers (sp_are_numbers K) :=
  ok_of (t := t_are_numbers K) F sc_are_numbers (len_are_numbers) (fun _ _ _ _ _ _ us hl => match us, hl with | [_, _], _ => rfl)
    (fun f cdv A outer s H E hr => by
      have hu := hu_of hr
      have hu65 := u65 hr
      exact (pss_cons (ps_if (pt_not (pt_val (pe_callB call_isi rfl T.b_isinstance (by decide +kernel) (pa_cons (pv 0) (pa_cons (pe_bltn rfl T.b_tuple (by decide +kernel) rfl) pa_nil))))) (pss_one (ps_ret pe_bl)) pss_nil)
      (pss_one (ps_ret (pe_callB (cr_all rfl) rfl T.b_all (by decide +kernel) (pa_cons (pe_lc (own := [("entry", 2)]) rfl sc_are_numbers.nd (pi_tup (pv 0)) (blkOk_by (own := [("entry", 2)]) (N := N_are_numbers) (sc := defScope s_are_numbers) (by decide +kernel)) (fun _ _ _ _ _ => (pg_name (i := 2) sc_are_numbers.nd rfl (Or.inl rfl))) (fun _ _ _ _ _ => pts_nil) (fun _ _ _ _ _ => (pe_and (pe_callB call_isi rfl T.b_isinstance (by decide +kernel) (pa_cons (pv 2) (pa_cons (pe_bltn rfl T.b_int (by decide +kernel) rfl) pa_nil))) (pe_one (pe_chain op_le op_lt pe_int (pv 2) (pv 1)))))) pa_nil))))))
    (wp_are_numbers T)

abbrev s_are_roles : Stmt := top 37
abbrev N_are_roles : List Str := ["roles", "count", "role"]
abbrev ps_are_roles : List Str := ["roles", "count"]
theorem sc_are_roles : FnScope N_are_roles ps_are_roles (defScope s_are_roles) := ⟨rfl, rfl, rfl, by decide +kernel, rfl, by decide +kernel, by decide +kernel⟩
def t_are_roles (K : PySem.W.Frag) : TS :=
    (tSeq (tIfS (tOr (tNot (tB (tCB (rIsi K) (tCons (tVar 0) (tCons (tC (.ty "tuple")) tNil))))) (tTest (tOp rNe (tCB (rLenV K) (tCons (tVar 0) tNil)) (tVar 1)))) (tRet (tC (.bl false))) tNext)
    (tRet (tCB (rAll K) (tCons (tLc (iTup K (tVar 0)) (gName 2) tYes (tAndV (tCall (sp_is_code K) [] E0 (tCons (tVar 2) tNil)) (tOp (rIn K false) (tSl rSlS (tVar 2) (tPart (tC (.int 1))) tNoPart) (tC (.ref (He.ga K "ROLES"))))) [2]) tNil))))
def sp_are_roles (K : PySem.W.Frag) : Sp := fun vs H Q _ => ∃ (v : V) (d : PyData) (n : Nat), vs = [v, .int n] ∧ Dp K H v d ∧ FF d ∧ ∀ H', Same H H' → Q (.bl (rolesB n d)) H'
theorem len_are_roles {K : PySem.W.Frag} : ∀ vs H Q E, sp_are_roles K vs H Q E → vs.length = ps_are_roles.length := by
  rintro vs H Q E ⟨v, d, n, rfl, _⟩
  rfl
theorem codes_in : ∀ x ∈ codes, inV (.str (cutS x (some 1) none)) rolesV = true := by decide +kernel
theorem wp_are_roles {K : PySem.W.Frag} {mg : Str → Option Value} (T : Tx K mg) : ∀ vs H Q E, sp_are_roles K vs H Q E → t_are_roles K { nx := fun _ H' => Q .non H', rt := Q } (start N_are_roles vs) H := by
  rintro vs H Q E ⟨v, d, n, rfl, D, F, q⟩
  unfold t_are_roles
  walk_at "w"
  refine w_isT F D ?_
  walk_at "w"
  cases F with
  | int h =>
    show if (!false) = true then _ else _
    walk_at "w"
    exact q _ (Same.refl H)
  | str h =>
    show if (!false) = true then _ else _
    walk_at "w"
    exact q _ (Same.refl H)
  | @tup k ds h1 h2 =>
    obtain ⟨a, xs, rfl, hS, hD⟩ := D.tupI
    show if (!true) = true then _ else _
    walk_at "w"
    have hl := hD.len
    refine w_lenT hS ?_
    walk_at "w"
    refine w_n2 (fun h => ?_) (fun h => ?_)
    · walk_at "w"
      have := q H (Same.refl H)
      have e : rolesB n (.tuple ds) = false := by
        show (decide (ds.length = n) && ds.all codeB) = false
        rw [decide_eq_false (by omega : ¬ ds.length = n)]
        rfl
      rwa [e] at this
    walk_at "w"
    refine ct hS (by omega) (fun _ => true) (fun i => .bl (byAt codeB ds i)) (fun _ => rfl) (fun i x H' R hi s k => k H' (Same.refl H')) (fun i x H' R hi _ s k => ?_) fun p H' hp s1 h1' => ?_
    · have hlt : i < ds.length := by
        obtain ⟨z, _⟩ := List.getElem?_eq_some_iff.mp hi
        omega
      have hdi := byAt_get hlt
      have Di := hD.get hi hdi
      have Fi : FF (ds.getD i .none) := (h2 _ (List.mem_of_getElem? hdi)).mono (Nat.le_refl _) (by omega)
      have Di' := Dp.keep Fi (Kp.of s) _ Di
      unfold byAt at k
      generalize ds.getD i .none = d at Fi Di' k
      clear Di hdi
      walk_at "w"
      refine ⟨x, d, rfl, Di', Fi, fun H3 s3 => ⟨codeB d, rfl, ?_⟩⟩
      cases hb : codeB d with
      | false =>
        rw [hb] at k
        walk_at "w"
        exact k _ s3
      | true =>
        rw [hb] at k
        cases Fi with
        | int _ => cases hb
        | tup _ _ => cases hb
        | @str _ z hz =>
          cases Di'
          have hzc : z ∈ codes := of_decide_eq_true hb
          have hl2 := words_len z hz
          walk_at "w"
          refine ⟨z, rfl, szl (by omega), ?_⟩
          walk_at "w"
          refine ⟨_, _, rfl, .inr (T.sq_ROLES _), rfl, by decide, ?_⟩
          show R (.bl (inV (.str (cutS z (some 1) none)) rolesV)) _
          rw [codes_in z hzc]
          exact k _ s3
    · walk_at "w"
      have eb : picked xs.length (fun _ => true) (fun i => .bl (byAt codeB ds i)) = ((List.range xs.length).map (byAt codeB ds)).map V.bl := by
        rw [picked_all, List.map_map]
        rfl
      rw [eb] at h1'
      refine ⟨p, _, rfl, SqL.of h1', ?_⟩
      rw [all_at hl]
      have := q H' s1
      have e : rolesB n (.tuple ds) = ds.all codeB := by
        show (decide (ds.length = n) && ds.all codeB) = _
        rw [decide_eq_true (by omega : ds.length = n), Bool.true_and]
      rwa [e] at this

theorem ok_are_roles {P : Program} {w : World} {K : PySem.W.Frag} {mg : Str → Option Value} {base : Heap} (F : FnP K mg "are_roles" s_are_roles) (T : Tx K mg) (c_is_code : Ok P w K mg base "is_code" 1 ps_is_code (sp_is_code K)) :
    Ok P w K mg base "are_roles" 2 ps_are_roles (sp_are_roles K) :=
  ok_of (t := t_are_roles K) F sc_are_roles (len_are_roles) (fun _ _ _ _ _ _ us hl => match us, hl with | [_, _], _ => rfl)
    (fun f cdv A outer s H E hr => by
      have hu := hu_of hr
      have hu65 := u65 hr
      exact (pss_cons (ps_if (PW.pt (pw_or (pt_not (pt_val (pe_callB call_isi rfl T.b_isinstance (by decide +kernel) (pa_cons (pv 0) (pa_cons (pe_bltn rfl T.b_tuple (by decide +kernel) rfl) pa_nil))))) (pw_or1 (pt_cmpR op_ne (pe_callB call_len rfl T.b_len PySem.boot_len (pa_cons (pv 0) pa_nil)) (pv 1) (nomark _))))) (pss_one (ps_ret pe_bl)) pss_nil)
      (pss_one (ps_ret (pe_callB (cr_all rfl) rfl T.b_all (by decide +kernel) (pa_cons (pe_lc (own := [("role", 2)]) rfl sc_are_roles.nd (pi_tup (pv 0)) (blkOk_by (own := [("role", 2)]) (N := N_are_roles) (sc := defScope s_are_roles) (by decide +kernel)) (fun _ _ _ _ _ => (pg_name (i := 2) sc_are_roles.nd rfl (Or.inl rfl))) (fun _ _ _ _ _ => pts_nil) (fun _ _ _ _ _ => (pe_and (pe_callO c_is_code hr (pa_cons (pv 2) pa_nil)) (pe_one (pe_cmpR op_in_seq (pe_slice sl_str (pv 2) (po_some pe_int) po_none) (pe_glob rfl T.g_ROLES rfl) rfl))))) pa_nil))))))
    (wp_are_roles T)

abbrev s_is_recasting : Stmt := top 38
abbrev N_is_recasting : List Str := ["first", "second", "roles", "images", "turns", "flag", "image", "role"]
abbrev ps_is_recasting : List Str := ["first", "second", "roles", "images"]
theorem sc_is_recasting : FnScope N_is_recasting ps_is_recasting (defScope s_is_recasting) := ⟨rfl, rfl, rfl, by decide +kernel, rfl, by decide +kernel, by decide +kernel⟩
def t_is_recasting (K : PySem.W.Frag) : TS :=
    (tSeq (tIfS (tOr (tNot (tB (tCall (sp_are_roles K) [] E0 (tCons (tVar 2) (tCons (tFld K (tVar 0) "edge_count") tNil))))) (tNot (tB (tCall (sp_are_numbers K) [] E0 (tCons (tVar 3) (tCons (tFld K (tVar 0) "flags") tNil)))))) (tRet (tC (.bl false))) tNext)
    (tSeq (tIfS (tOr (tTest (tOp rNe (tFld K (tVar 0) "flags") (tFld K (tVar 1) "flags"))) (tOr (tTest (tOp rNe (tCB (rLenV K) (tCons (tVar 3) tNil)) (tFld K (tVar 0) "flags"))) (tTest (tOp rNe (tLenSetT K (tVar 3)) (tCB (rLenV K) (tCons (tVar 3) tNil)))))) (tRet (tC (.bl false))) tNext)
    (tSeq (tAsg (tCall (sp_turns_of K) [] E0 (tCons (tVar 0) tNil)) (gName 4))
    (tSeq (tFor (iEnT K (tCons (tVar 3) tNil)) (gTup K 2 (gCons (gName 5) (gCons (gName 6) gNil))) (tSeq (tAsg (tOp (rIxT K) (tVar 2) (tOp (rIxT K) (tFld K (tVar 0) "edge_numbers") (tVar 5))) (gName 7))
    (tSeq (tIfS (tOr (tTest (tOp rNe (tOp (rIxT K) (tVar 3) (tOp (rIxT K) (tOp (rIxT K) (tVar 4) (tCB rIntStr (tCons (tOp rIxS (tVar 7) (tC (.int 1))) tNil))) (tVar 5))) (tOp (rIxT K) (tFld K (tVar 1) "zero") (tVar 6)))) (tTest (tOp rNe (tOp (rIxT K) (tVar 3) (tOp (rIxT K) (tFld K (tVar 0) "one") (tVar 5))) (tOp (rIxT K) (tFld K (tVar 1) "one") (tVar 6))))) (tRet (tC (.bl false))) tNext)
    (tIfS (tTest (tOp rNe (tOp (rIxT K) (tVar 3) (tOp (rIxT K) (tOp (rIxT K) (tVar 4) (tCB rIntStr (tCons (tOp rIxS (tVar 7) (tC (.int 2))) tNil))) (tVar 5))) (tOp (rIxT K) (tFld K (tVar 1) "two") (tVar 6)))) (tRet (tC (.bl false))) tNext))))
    (tRet (tC (.bl true)))))))
def sp_is_recasting (K : PySem.W.Frag) : Sp := fun vs H Q _ => ∃ (x1 x2 : Addr) (v1 v2 : V) (dr di : PyData) (n : Nat) (z o t : List Nat) (n2 : Nat) (z2 o2 t2 : List Nat), vs = [.ref x1, .ref x2, v1, v2] ∧
  MapAt K H x1 n z o t ∧ MapT n z o t ∧ MapAt K H x2 n2 z2 o2 t2 ∧ MapT n2 z2 o2 t2 ∧ Dp K H v1 dr ∧ FF dr ∧ Dp K H v2 di ∧ FF di ∧
  (RecOk n z o t n2 z2 o2 t2 dr di → ∀ H', Same H H' → Q (.bl true) H') ∧ (¬ RecOk n z o t n2 z2 o2 t2 dr di → ∀ H', Same H H' → Q (.bl false) H')
theorem len_is_recasting {K : PySem.W.Frag} : ∀ vs H Q E, sp_is_recasting K vs H Q E → vs.length = ps_is_recasting.length := by
  rintro vs H Q E ⟨x1, x2, v1, v2, dr, di, n, z, o, t, n2, z2, o2, t2, rfl, _⟩
  rfl
theorem tn_at {K : PySem.W.Frag} {H : Hp} {n : Nat} {z o t : List Nat} (M : MapT n z o t) {p q r s : Addr} (hp : SqT K H p (nv z)) (hq : SqT K H q (nv o)) (hr : SqT K H r (nv t)) (hs : SqT K H s (fv n fun i => .int (gt t (gt z i) : Nat)))
    {d x : Nat} (hd : d = 0 ∨ d = 2 ∨ d = 3) (hx : x < n) : ∃ y l, atI [V.ref p, V.ref q, V.ref r, V.ref s] (d : Nat) = some (.ref y) ∧ SqT K H y l ∧ atI l (x : Nat) = some (.int (tn z o t d x : Nat)) := by
  rcases hd with rfl | rfl | rfl
  · exact ⟨p, _, rfl, hp, at_nv (by rw [M.hz.len]; exact hx)⟩
  · exact ⟨r, _, rfl, hr, at_nv (by rw [M.ht.len]; exact hx)⟩
  · exact ⟨s, _, rfl, hs, at_fv hx⟩
theorem wp_is_recasting {K : PySem.W.Frag} {mg : Str → Option Value} (T : Tx K mg) : ∀ vs H Q E, sp_is_recasting K vs H Q E → t_is_recasting K { nx := fun _ H' => Q .non H', rt := Q } (start N_is_recasting vs) H := by
  rintro vs H Q E ⟨x1, x2, v1, v2, dr, di, n, z, o, t, n2, z2, o2, t2, rfl, m1, M1, m2, M2, D1, F1, D2, F2, qT, qF⟩
  obtain ⟨dx, p, q, r, s, h1, h2, h3, h4, h5⟩ := m1.ex
  obtain ⟨dx2, p2, q2, r2, s2, k1, k2, k3, k4, k5⟩ := m2.ex
  have hn := M1.le
  have E := M1.edg
  unfold t_is_recasting
  walk_at "w"
  refine ⟨x1, _, dx, _, .int (n / 4 : Nat), rfl, h1, T.c_Map, T.n_edge_count, rfl, ?_⟩
  walk_at "w"
  refine ⟨v1, dr, n / 4, rfl, D1, F1, fun H1 u1 => ?_⟩
  walk_at "w"
  refine w_nb2 (fun hb => ?_) (fun hr1 => ?_)
  · walk_at "w"
    exact qF (fun w => by have := w.roles; rw [hb] at this; cases this) _ u1
  walk_at "w"
  refine ⟨x1, _, dx, _, .int (n : Nat), rfl, u1 _ _ h1, T.c_Map, T.n_flags, rfl, ?_⟩
  walk_at "w"
  refine ⟨v2, di, n, rfl, Dp.keep F2 (Kp.of u1) _ D2, F2, fun H2 u2 => ?_⟩
  have w2 := u1.trans u2
  walk_at "w"
  refine w_nb2 (fun hb => ?_) (fun hn1 => ?_)
  · walk_at "w"
    exact qF (fun w => by have := w.nums; rw [hb] at this; cases this) _ w2
  walk_at "w"
  refine ⟨x1, _, dx, _, .int (n : Nat), rfl, w2 _ _ h1, T.c_Map, T.n_flags, rfl, ?_⟩
  walk_at "w"
  refine ⟨x2, _, dx2, _, .int (n2 : Nat), rfl, w2 _ _ k1, T.c_Map, T.n_flags, rfl, ?_⟩
  walk_at "w"
  refine w_n2 (fun hb => ?_) (fun hnn => ?_)
  · walk_at "w"
    exact qF (fun w => hb (by rw [w.nn])) _ w2
  have en : n = n2 := by omega
  subst en
  obtain ⟨a1, rfl, S1, L1, C1⟩ := roles_of hr1 (Dp.keep F1 (Kp.of w2) _ D1)
  obtain ⟨a2, rfl, S2, B2⟩ := nums_of hn1 F2 (Dp.keep F2 (Kp.of w2) _ D2)
  walk_at "w"
  refine w_lenT S2 ?_
  walk_at "w"
  refine ⟨x1, _, dx, _, .int (n : Nat), rfl, w2 _ _ h1, T.c_Map, T.n_flags, rfl, ?_⟩
  walk_at "w"
  rw [nv_len]
  refine w_n2 (fun hb => ?_) (fun hlen => ?_)
  · walk_at "w"
    exact qF (fun w => hb (by rw [w.len])) _ w2
  have hlen' : (natsOf di).length = n := by omega
  walk_at "w"
  refine ⟨a2, iv (natsOf di), rfl, by rw [iv_nv]; exact S2, by rw [iv_len]; omega, fun ks hk hm => ?_⟩
  obtain ⟨_, hks⟩ := set_len hk hm
  rw [iv_len, iv_nodup] at hks
  walk_at "w"
  refine w_lenT S2 ?_
  rw [nv_len]
  walk_at "w"
  refine w_n2 (fun hb => ?_) (fun hset => ?_)
  · walk_at "w"
    exact qF (fun w => hb (by rw [hks.mpr w.nd])) _ w2
  have hnd := hks.mp (by omega)
  walk_at "w"
  refine ⟨x1, n, z, o, t, rfl, m1.same w2, M1, fun H3 a b c d e u3 j1 j2 j3 j4 j5 => ?_⟩
  have w3 := w2.trans u3
  have S1' := u3.tT S1
  have S2' := u3.tT S2
  walk_at "w"
  refine fet S2' (fun i σ H' => (∃ v5 v6 v7, σ = [some (.ref x1), some (.ref x2), some (.ref a1), some (.ref a2), some (.ref a), v5, v6, v7]) ∧ Same H3 H' ∧ ∀ x, x < i → RecAt z o t z2 o2 t2 (strsOf dr) (natsOf di) x) ⟨⟨_, _, _, rfl⟩, Same.refl _, fun x hx => absurd hx (Nat.not_lt_zero x)⟩ ?_ ?_ ?_
  · rintro i σ H' _ ⟨_, u, _⟩
    exact u.tT S2'
  · rintro i y σ H4 H5 hi ⟨⟨v5, v6, v7, rfl⟩, u4, hall⟩ u5
    obtain ⟨hlt, rfl⟩ := nv_of hi
    rw [hlen'] at hlt
    have u6 := u4.trans u5
    have w6 := w3.trans u6
    have S1'' := u6.tT S1'
    have S2'' := u6.tT S2'
    have himl : ∀ {x}, x < n → x < (natsOf di).length := fun h => by omega
    have hib : gt (natsOf di) i < n := B2 _ (List.mem_of_getElem? (gt_some (himl hlt)))
    have hee : edgeOf z t i < (strsOf dr).length := by rw [L1]; exact edgeOf_lt E hlt
    obtain ⟨hc1, hc2⟩ := cAt_mem hee
    have hcm := C1 _ hc2
    have hcl := words_len _ (codes_words _ hcm)
    have bad : (¬ RecAt z o t z2 o2 t2 (strsOf dr) (natsOf di) i) → ¬ RecOk n z o t n z2 o2 t2 dr di := fun h w => h (w.at_ i hlt)
    walk_at "w"
    refine ⟨x1, _, dx, _, .ref s, rfl, w6 _ _ h1, T.c_Map, T.n_edge_numbers, rfl, ?_⟩
    walk_at "w"
    refine w_ixT (SqT.of (w6 _ _ h5)) (at_nv (by rw [edgesOf_len]; exact hlt)) ?_
    rw [gt_edgesOf hlt]
    refine w_ixT S1'' (v := .str (cAt (strsOf dr) (edgeOf z t i))) (atI_nat (by rw [List.getElem?_map, hc1]; rfl)) ?_
    generalize hce : cAt (strsOf dr) (edgeOf z t i) = ce at hcm hcl
    walk_at "w"
    refine ⟨ce, 1, _, rfl, rfl, szl (by omega), codes_at1 _ hcm, ?_⟩
    walk_at "w"
    refine ⟨_, _, rfl, codes_int1 _ hcm, by show 1 ≤ 640; decide, ?_⟩
    obtain ⟨y1, l1, g1, g2, g3⟩ := tn_at M1 (SqT.of (u6 _ _ j2)) (SqT.of (u6 _ _ j3)) (SqT.of (u6 _ _ j4)) (SqT.of (u6 _ _ j5)) (codes_dg1 _ hcm) hlt
    refine w_ixT (SqT.of (u6 _ _ j1)) g1 ?_
    walk_at "w"
    refine w_ixT g2 g3 ?_
    refine w_ixT S2'' (at_nv (himl (tn_lt M1 hlt))) ?_
    walk_at "w"
    refine ⟨x2, _, dx2, _, .ref p2, rfl, w6 _ _ k1, T.c_Map, T.n_zero, rfl, ?_⟩
    walk_at "w"
    refine w_ixT (SqT.of (w6 _ _ k2)) (at_nv (by rw [M2.hz.len]; exact hib)) ?_
    walk_at "w"
    refine w_n2 (fun hb => ?_) (fun ez => ?_)
    · walk_at "w"
      refine qF (bad fun w => hb ?_) _ w6
      have := w.ez
      rw [hce] at this
      rw [this]
    walk_at "w"
    refine ⟨x1, _, dx, _, .ref q, rfl, w6 _ _ h1, T.c_Map, T.n_one, rfl, ?_⟩
    walk_at "w"
    refine w_ixT (SqT.of (w6 _ _ h3)) (at_nv (by rw [M1.ho.len]; exact hlt)) ?_
    refine w_ixT S2'' (at_nv (himl (M1.ho.bd i hlt))) ?_
    walk_at "w"
    refine ⟨x2, _, dx2, _, .ref q2, rfl, w6 _ _ k1, T.c_Map, T.n_one, rfl, ?_⟩
    walk_at "w"
    refine w_ixT (SqT.of (w6 _ _ k3)) (at_nv (by rw [M2.ho.len]; exact hib)) ?_
    walk_at "w"
    refine w_n2 (fun hb => ?_) (fun eo => ?_)
    · walk_at "w"
      exact qF (bad fun w => hb (by rw [w.eo])) _ w6
    walk_at "w"
    refine ⟨ce, 2, _, rfl, rfl, szl (by omega), codes_at2 _ hcm, ?_⟩
    walk_at "w"
    refine ⟨_, _, rfl, codes_int2 _ hcm, by show 1 ≤ 640; decide, ?_⟩
    obtain ⟨y2, l2, g4, g5, g6⟩ := tn_at M1 (SqT.of (u6 _ _ j2)) (SqT.of (u6 _ _ j3)) (SqT.of (u6 _ _ j4)) (SqT.of (u6 _ _ j5)) (codes_dg2 _ hcm) hlt
    refine w_ixT (SqT.of (u6 _ _ j1)) g4 ?_
    walk_at "w"
    refine w_ixT g5 g6 ?_
    refine w_ixT S2'' (at_nv (himl (tn_lt M1 hlt))) ?_
    walk_at "w"
    refine ⟨x2, _, dx2, _, .ref r2, rfl, w6 _ _ k1, T.c_Map, T.n_two, rfl, ?_⟩
    walk_at "w"
    refine w_ixT (SqT.of (w6 _ _ k4)) (at_nv (by rw [M2.ht.len]; exact hib)) ?_
    walk_at "w"
    refine w_n2 (fun hb => ?_) (fun et => ?_)
    · walk_at "w"
      refine qF (bad fun w => hb ?_) _ w6
      have := w.et
      rw [hce] at this
      rw [this]
    walk_at "w"
    refine ⟨⟨_, _, _, rfl⟩, u6, fun x hx => ?_⟩
    by_cases hxi : x < i
    · exact hall x hxi
    · have : x = i := by omega
      subst this
      exact ⟨by rw [hce]; exact Int.ofNat.inj ez, Int.ofNat.inj eo, by rw [hce]; exact Int.ofNat.inj et⟩
  · rintro σ H4 ⟨⟨v5, v6, v7, rfl⟩, u4, hall⟩
    walk_at "w"
    rw [nv_len, hlen'] at hall
    exact qT ⟨hr1, hn1, rfl, hlen', hnd, hall⟩ _ (w3.trans u4)

theorem ok_is_recasting {P : Program} {w : World} {K : PySem.W.Frag} {mg : Str → Option Value} {base : Heap} (F : FnP K mg "is_recasting" s_is_recasting) (T : Tx K mg) (c_are_roles : Ok P w K mg base "are_roles" 2 ps_are_roles (sp_are_roles K)) (c_are_numbers : Ok P w K mg base "are_numbers" 1 ps_are_numbers (sp_are_numbers K)) (c_turns_of : Ok P w K mg base "turns_of" 1 ps_turns_of (sp_turns_of K)) :
    Ok P w K mg base "is_recasting" 3 ps_is_recasting (sp_is_recasting K) :=
  ok_of (t := t_is_recasting K) F sc_is_recasting (len_is_recasting) (fun _ _ _ _ _ _ us hl => match us, hl with | [_, _, _, _], _ => rfl)
    (fun f cdv A outer s H E hr => by
      have hu := hu_of hr
      have hu65 := u65 hr
      exact (pss_cons (ps_if (PW.pt (pw_or (pt_not (pt_val (pe_callO c_are_roles hr (pa_cons (pv 2) (pa_cons (pe_fld (pv 0) rfl) pa_nil))))) (pw_or1 (pt_not (pt_val (pe_callO c_are_numbers hr (pa_cons (pv 3) (pa_cons (pe_fld (pv 0) rfl) pa_nil)))))))) (pss_one (ps_ret pe_bl)) pss_nil)
      (pss_cons (ps_if (PW.pt (pw_or (pt_cmpR op_ne (pe_fld (pv 0) rfl) (pe_fld (pv 1) rfl) (nomark _)) (pw_or (pt_cmpR op_ne (pe_callB call_len rfl T.b_len PySem.boot_len (pa_cons (pv 3) pa_nil)) (pe_fld (pv 0) rfl) (nomark _)) (pw_or1 (pt_cmpR op_ne (pe_lenSetT rfl rfl T.b_len rfl T.b_set (pv 3)) (pe_callB call_len rfl T.b_len PySem.boot_len (pa_cons (pv 3) pa_nil)) (nomark _)))))) (pss_one (ps_ret pe_bl)) pss_nil)
      (pss_cons (ps_set (i := 4) sc_is_recasting.nd rfl (Or.inl rfl) (pe_callO c_turns_of hr (pa_cons (pv 0) pa_nil)))
      (pss_cons (ps_for PassesOwn.never rfl (pi_enumT rfl T.b_enumerate (pa_cons (pv 3) pa_nil)) (pg_tup rfl (pgs_cons (pg_name (i := 5) sc_is_recasting.nd rfl (Or.inl rfl)) (pgs_cons (pg_name (i := 6) sc_is_recasting.nd rfl (Or.inl rfl)) pgs_nil))) (pss_cons (ps_set (i := 7) sc_is_recasting.nd rfl (Or.inl rfl) (pe_ix ix_tup (pv 2) (pe_ix ix_tup (pe_fld (pv 0) rfl) (pv 5) (fun _ _ => rfl)) (fun _ _ => rfl)))
      (pss_cons (ps_if (PW.pt (pw_or (pt_cmpR op_ne (pe_ix ix_tup (pv 3) (pe_ix ix_tup (pe_ix ix_tup (pv 4) (pe_callTy call_int_str rfl T.b_int (by decide +kernel) (pa_cons (pe_ix ix_str (pv 7) pe_int (fun _ _ => rfl)) pa_nil)) (fun _ _ => rfl)) (pv 5) (fun _ _ => rfl)) (fun _ _ => rfl)) (pe_ix ix_tup (pe_fld (pv 1) rfl) (pv 6) (fun _ _ => rfl)) (nomark _)) (pw_or1 (pt_cmpR op_ne (pe_ix ix_tup (pv 3) (pe_ix ix_tup (pe_fld (pv 0) rfl) (pv 5) (fun _ _ => rfl)) (fun _ _ => rfl)) (pe_ix ix_tup (pe_fld (pv 1) rfl) (pv 6) (fun _ _ => rfl)) (nomark _))))) (pss_one (ps_ret pe_bl)) pss_nil)
      (pss_one (ps_if (pt_cmpR op_ne (pe_ix ix_tup (pv 3) (pe_ix ix_tup (pe_ix ix_tup (pv 4) (pe_callTy call_int_str rfl T.b_int (by decide +kernel) (pa_cons (pe_ix ix_str (pv 7) pe_int (fun _ _ => rfl)) pa_nil)) (fun _ _ => rfl)) (pv 5) (fun _ _ => rfl)) (fun _ _ => rfl)) (pe_ix ix_tup (pe_fld (pv 1) rfl) (pv 6) (fun _ _ => rfl)) (nomark _)) (pss_one (ps_ret pe_bl)) pss_nil)))))
      (pss_one (ps_ret pe_bl)))))))
    (wp_is_recasting T)

def sp_is_case_tree (K : PySem.W.Frag) (f : Nat) : Sp := fun vs H Q _ => ∃ (m g : Nat) (hg : g ≤ f) (a1 a2 ga : Addr) (tb ot : List (List Nat)) (given : List Nat) (v : V) (d : PyData), vs = [.ref a1, .ref a2, .ref ga, v] ∧ Tbl K H a1 tb ∧ Tbl K H a2 ot ∧ Sq m tb ∧ Sq m ot ∧ m ≤ 100 ∧
  SqT K H ga (nv given) ∧ given.length + (g + 1) = m ∧ (∀ x ∈ given, x < m) ∧ Dp K H v d ∧ FF d ∧ ∀ H', Same H H' → Q (.bl (treeB tb ot m (g + 1) given d)) H'
def spv_is_case_tree (K : PySem.W.Frag) : Nat → Sp
  | 0 => fun _ _ _ _ => False
  | f + 1 => sp_is_case_tree K f
abbrev ps_is_case_tree : List Str := ["table", "other", "given", "paper"]

abbrev s_is_case : Stmt := top 39
abbrev N_is_case : List Str := ["table", "other", "given", "edge", "entry", "order", "last", "clash"]
abbrev ps_is_case : List Str := ["table", "other", "given", "edge", "entry"]
theorem sc_is_case : FnScope N_is_case ps_is_case (defScope s_is_case) := ⟨rfl, rfl, rfl, by decide +kernel, rfl, by decide +kernel, by decide +kernel⟩
def t_is_case (K : PySem.W.Frag) (f : Nat) : TS :=
    (tSeq (tAsg (tOp (rCatA K) (tVar 2) (tTup (tCons (tVar 3) tNil))) (gName 5))
    (tSeq (tAsg (tCB (rLenV K) (tCons (tVar 2) tNil)) (gName 6))
    (tSeq (tIfS (tTest (tOp (rEqD K) (tVar 4) (tTup (tCons (tC (.str "used")) tNil)))) (tRet (tOp (rIn K false) (tVar 3) (tVar 2))) tNext)
    (tSeq (tAsg (tCall (sp_so_many K) [] E0 (tCons (tVar 4) (tCons (tC (.str "clash")) (tCons (tC (.int 1)) tNil)))) (gName 7))
    (tSeq (tIfS (tB (tNotN (tVar 7))) (tRet (tAndV (tCall (sp_are_numbers K) [] E0 (tCons (tVar 7) (tCons (tOp rAddI (tVar 6) (tC (.int 1))) tNil))) (tOp rNe (tOp (rIxL K) (tOp (rIxL K) (tVar 0) (tOp (rIxT K) (tVar 7) (tC (.int 0)))) (tVar 6)) (tOp (rIxL K) (tOp (rIxL K) (tVar 1) (tOp (rIxT K) (tVar 5) (tOp (rIxT K) (tVar 7) (tC (.int 0))))) (tVar 3))))) tNext)
    (tRet (tAndV (tOp (rIn K true) (tVar 3) (tVar 2)) (tAndV (tOp rLtI (tOp rAddI (tVar 6) (tC (.int 1))) (tCB (rLenV K) (tCons (tVar 1) tNil))) (tCall (spv_is_case_tree K f) [] E0 (tCons (tVar 0) (tCons (tVar 1) (tCons (tVar 5) (tCons (tVar 4) tNil)))))))))))))
def sp_is_case (K : PySem.W.Frag) (f : Nat) : Sp := fun vs H Q _ => ∃ (m g : Nat) (hg : g ≤ f) (a1 a2 ga : Addr) (tb ot : List (List Nat)) (given : List Nat) (e : Nat) (v : V) (d : PyData), vs = [.ref a1, .ref a2, .ref ga, .int e, v] ∧ Tbl K H a1 tb ∧ Tbl K H a2 ot ∧ Sq m tb ∧ Sq m ot ∧ m ≤ 100 ∧
  SqT K H ga (nv given) ∧ given.length + (g + 1) = m ∧ (∀ x ∈ given, x < m) ∧ e < m ∧ Dp K H v d ∧ FF d ∧ ∀ H', Same H H' → Q (.bl (caseB tb ot m (treeB tb ot m g) given e d)) H'
theorem len_is_case {K : PySem.W.Frag} {f : Nat} : ∀ vs H Q E, sp_is_case K f vs H Q E → vs.length = ps_is_case.length := by
  rintro vs H Q E ⟨m, g, hg, a1, a2, ga, tb, ot, given, e, v, d, rfl, _⟩
  rfl
theorem wp_is_case {K : PySem.W.Frag} {mg : Str → Option Value} {f : Nat} (T : Tx K mg) : ∀ vs H Q E, sp_is_case K f vs H Q E → t_is_case K f { nx := fun _ H' => Q .non H', rt := Q } (start N_is_case vs) H := by
  rintro vs H Q E ⟨m, g, hg, a1, a2, ga, tb, ot, given, e, v, d, rfl, T1, T2, Q1, Q2, hm, hG, hgl, hgm, he, D, F, q⟩
  unfold t_is_case
  walk_at "w"
  refine ⟨szl (by show 1 ≤ 1000000; decide), fun p hp => ?_⟩
  have s1 : Same _ _ := Same.tnew (o := .tup [V.int (e : Nat)]) hp
  refine w_ctT (s1.tT hG) (SqT.of upd_same) (by rw [nv_len]; show _ + 1 ≤ _; omega) fun c H1 s2 hO => ?_
  have w1 := s1.trans s2
  generalize (upd H p (.tup [V.int (e : Nat)])) = H0 at s1 s2 w1
  have hO' : SqT K H1 c (nv (given ++ [e])) := by
    rw [← nv_app]
    exact hO
  walk_at "w"
  refine w_lenT (w1.tT hG) ?_
  rw [nv_len]
  walk_at "w"
  refine ⟨szl (by show 1 ≤ 1000000; decide), fun p2 hp2 => ?_⟩
  have s3 : Same _ _ := Same.tnew (o := .tup [V.str "used"]) hp2
  have w3 := w1.trans s3
  refine ⟨d, usedD, Dp.keep F (Kp.of w3) _ D, Dp.used upd_same, F.sh, used_sh, ?_⟩
  have hO3 := s3.tT hO'
  generalize (upd H1 p2 (.tup [V.str "used"])) = H3 at s3 w3 hO3 ⊢
  walk_at "w"
  refine w_b2 (fun hu => ?_) (fun hu => ?_)
  · walk_at "w"
    refine ⟨ga, _, rfl, .inr (w3.tT hG), rfl, flat_nv, ?_⟩
    show Q (.bl (inV (.int e) (nv given))) H3
    rw [in_nv]
    have := q H3 w3
    unfold caseB at this
    rwa [if_pos hu] at this
  · walk_at "w"
    have D3 := Dp.keep F (Kp.of w3) _ D
    have qc : ∀ H', Same H H' → Q (.bl (match ents "clash" 1 d with
        | some r => numsB (given.length + 1) (.tuple r) && !decide (g2 tb (natOf (r.getD 0 .none)) given.length = g2 ot (gt (given ++ [e]) (natOf (r.getD 0 .none))) e)
        | none => decide (e ∉ given) && (decide (given.length + 1 < m) && treeB tb ot m g (given ++ [e]) d))) H' := fun H' s => by
      have := q H' s
      unfold caseB at this
      rw [if_neg (by rw [hu]; decide)] at this
      exact this
    refine ⟨v, d, "clash", 1, rfl, D3, F, by decide, fun en H4 s4 => ?_, fun r en H4 a xs s4 hS hD => ?_⟩
    · have w4 := w3.trans s4
      rw [en] at qc
      have qc : ∀ H', Same H H' → Q (.bl (decide (e ∉ given) && (decide (given.length + 1 < m) && treeB tb ot m g (given ++ [e]) d))) H' := qc
      walk_at "w"
      refine w_nF rfl ?_
      walk_at "w"
      refine ⟨ga, _, rfl, .inr (w4.tT hG), rfl, flat_nv, ?_⟩
      refine ⟨!inV (.int e) (nv given), rfl, ?_⟩
      rw [in_nv]
      refine w_nb2 (fun hb => ?_) (fun hb => ?_)
      · have hng : e ∉ given := of_decide_eq_false hb
        rw [decide_eq_true hng] at qc
        walk_at "w"
        obtain ⟨xs, hx, hxl⟩ := (T2.same w4).lenL
        refine w_lenL hx ?_
        rw [hxl, Q2.len]
        walk_at "w"
        refine w_d2 (fun hlt => ?_) (fun hlt => ?_)
        · have hlt' : given.length + 1 < m := by omega
          rw [decide_eq_true hlt'] at qc
          walk_at "w"
          cases f with
          | zero => omega
          | succ f =>
            obtain ⟨g', rfl⟩ : ∃ g', g = g' + 1 := ⟨g - 1, by omega⟩
            refine ⟨m, g', by omega, a1, a2, c, tb, ot, given ++ [e], v, d, rfl, T1.same w4, T2.same w4, Q1, Q2, hm, s4.tT hO3, by rw [List.length_append, List.length_singleton]; omega, fun x hx => ?_, Dp.keep F (Kp.of s4) _ D3, F, fun H5 s5 => qc H5 (w4.trans s5)⟩
            rcases List.mem_append.mp hx with z | z
            · exact hgm x z
            · rw [List.mem_singleton.mp z]; exact he
        · have hlt' : ¬ given.length + 1 < m := by omega
          rw [decide_eq_false hlt'] at qc
          exact qc H4 w4
      · have hng : ¬ e ∉ given := fun z => z (of_decide_eq_true hb)
        rw [decide_eq_false hng] at qc
        exact qc H4 w4
    · have w4 := w3.trans s4
      rw [en] at qc
      have qc : ∀ H', Same H H' → Q (.bl (numsB (given.length + 1) (.tuple r) && !decide (g2 tb (natOf (r.getD 0 .none)) given.length = g2 ot (gt (given ++ [e]) (natOf (r.getD 0 .none))) e))) H' := qc
      obtain ⟨Fr, hrl⟩ := ents_ff en F
      walk_at "w"
      refine w_nT (fun z => by cases z) ?_
      walk_at "w"
      refine ⟨.ref a, .tuple r, given.length + 1, by rw [Int.natCast_add]; rfl, .tup hS hD, Fr, fun H5 s5 => ?_⟩
      refine ⟨numsB (given.length + 1) (.tuple r), rfl, ?_⟩
      have w5 := w4.trans s5
      refine w_b2 (fun hb => ?_) (fun hb => ?_)
      · rw [hb] at qc
        have qc : ∀ H', Same H H' → Q (.bl (!decide (g2 tb (natOf (r.getD 0 .none)) given.length = g2 ot (gt (given ++ [e]) (natOf (r.getD 0 .none))) e))) H' := qc
        obtain ⟨a', ea, S5, B5⟩ := nums_of hb Fr (Dp.keep Fr (Kp.of s5) _ (.tup hS hD))
        cases ea
        have hn1 : natsOf (.tuple r) = r.map natOf := rfl
        rw [hn1] at S5 B5
        obtain ⟨r0, rfl⟩ : ∃ r0, r = [r0] := by
          match r, hrl with
          | [r0], _ => exact ⟨r0, rfl⟩
        have hi : natOf r0 < given.length + 1 := B5 _ (by simp)
        have hdd : ([r0] : List PyData).getD 0 .none = r0 := rfl
        rw [hdd] at qc
        have S5 : SqT K H5 a [.int (natOf r0 : Nat)] := S5
        generalize natOf r0 = i at hi qc S5
        obtain ⟨xs1, r1, g1, g2', g3, g4⟩ := (T1.same w5).row (i := i) (by rw [Q1.len]; omega)
        have hog : gt (given ++ [e]) i < m := by
          have hm1 : gt (given ++ [e]) i ∈ given ++ [e] := List.mem_of_getElem? (gt_some (by rw [List.length_append, List.length_singleton]; exact hi))
          rcases List.mem_append.mp hm1 with z | z
          · exact hgm _ z
          · rw [List.mem_singleton.mp z]; exact he
        obtain ⟨xs2, r2, k1, k2, k3, k4⟩ := (T2.same w5).row (i := gt (given ++ [e]) i) (by rw [Q2.len]; exact hog)
        walk_at "w"
        refine w_ixT S5 (at0 rfl) ?_
        refine w_ixL g1 g3 ?_
        walk_at "w"
        refine w_ixL g4 (at_nv (by rw [Q1.row i (by omega)]; omega)) ?_
        walk_at "w"
        refine w_ixT S5 (at0 rfl) ?_
        refine w_ixT ((s4.trans s5).tT hO3) (at_nv (by rw [List.length_append, List.length_singleton]; exact hi)) ?_
        refine w_ixL k1 k3 ?_
        walk_at "w"
        refine w_ixL k4 (at_nv (by rw [Q2.row _ hog]; exact he)) ?_
        walk_at "w"
        have := qc H5 w5
        unfold g2 at this
        have ei : ∀ {x y : Nat}, decide (((x : Nat) : Int) = ((y : Nat) : Int)) = decide (x = y) := fun {x y} => by
          by_cases z : x = y
          · simp [z]
          · have z2 : ¬ ((x : Int) = (y : Int)) := by omega
            simp [z, z2]
        rw [ei]
        exact this
      · rw [hb] at qc
        exact qc H5 w5

theorem ok_is_case {P : Program} {w : World} {K : PySem.W.Frag} {mg : Str → Option Value} {base : Heap} (f : Nat) (F : FnP K mg "is_case" s_is_case) (T : Tx K mg) (c_so_many : Ok P w K mg base "so_many" 2 ps_so_many (sp_so_many K)) (c_are_numbers : Ok P w K mg base "are_numbers" 1 ps_are_numbers (sp_are_numbers K)) (c_is_case_tree : Ok P w K mg base "is_case_tree" (2 * f + 3) ps_is_case_tree (spv_is_case_tree K f)) :
    Ok P w K mg base "is_case" (2 * f + 4) ps_is_case (sp_is_case K f) :=
  ok_of (t := t_is_case K f) F sc_is_case (len_is_case) (fun _ _ _ _ _ _ us hl => match us, hl with | [_, _, _, _, _], _ => rfl)
    (fun f cdv A outer s H E hr => by
      have hu := hu_of hr
      have hu65 := u65 hr
      exact (pss_cons (ps_set (i := 5) sc_is_case.nd rfl (Or.inl rfl) (pe_op op_catA (pv 2) (pe_tup (pa_cons (pv 3) pa_nil))))
      (pss_cons (ps_set (i := 6) sc_is_case.nd rfl (Or.inl rfl) (pe_callB call_len rfl T.b_len PySem.boot_len (pa_cons (pv 2) pa_nil)))
      (pss_cons (ps_if (pt_cmpR (op_eqD hr.units) (pv 4) (pe_tup (pa_cons pe_str pa_nil)) (nomark _)) (pss_one (ps_ret (pe_cmpR op_in_seq (pv 3) (pv 2) rfl))) pss_nil)
      (pss_cons (ps_set (i := 7) sc_is_case.nd rfl (Or.inl rfl) (pe_callO c_so_many (hk := by omega) hr (pa_cons (pv 4) (pa_cons pe_str (pa_cons pe_int pa_nil)))))
      (pss_cons (ps_if (pt_cmp (pc_notN (pv 7))) (pss_one (ps_ret (pe_and (pe_callO c_are_numbers (hk := by omega) hr (pa_cons (pv 7) (pa_cons (pe_op op_add (pv 6) pe_int) pa_nil))) (pe_one (pe_cmpR op_ne (pe_ix ix_list (pe_ix ix_list (pv 0) (pe_ix ix_tup (pv 7) pe_int (fun _ _ => rfl)) (fun _ _ => rfl)) (pv 6) (fun _ _ => rfl)) (pe_ix ix_list (pe_ix ix_list (pv 1) (pe_ix ix_tup (pv 5) (pe_ix ix_tup (pv 7) pe_int (fun _ _ => rfl)) (fun _ _ => rfl)) (fun _ _ => rfl)) (pv 3) (fun _ _ => rfl)) (nomark _)))))) pss_nil)
      (pss_one (ps_ret (pe_and (pe_cmpR op_notIn_seq (pv 3) (pv 2) rfl) (pe_and (pe_cmpR op_lt (pe_op op_add (pv 6) pe_int) (pe_callB call_len rfl T.b_len PySem.boot_len (pa_cons (pv 1) pa_nil)) (nomark _)) (pe_one (pe_callO c_is_case_tree (hk := by omega) hr (pa_cons (pv 0) (pa_cons (pv 1) (pa_cons (pv 5) (pa_cons (pv 4) pa_nil))))))))))))))))
    (wp_is_case T)

abbrev s_is_case_tree : Stmt := top 40
abbrev N_is_case_tree : List Str := ["table", "other", "given", "paper", "cases", "edge", "entry"]
theorem sc_is_case_tree : FnScope N_is_case_tree ps_is_case_tree (defScope s_is_case_tree) := ⟨rfl, rfl, rfl, by decide +kernel, rfl, by decide +kernel, by decide +kernel⟩
def t_is_case_tree (K : PySem.W.Frag) (f : Nat) : TS :=
    (tSeq (tAsg (tCall (sp_so_many K) [] E0 (tCons (tVar 3) (tCons (tC (.str "cases")) (tCons (tCB (rLenV K) (tCons (tVar 1) tNil)) tNil)))) (gName 4))
    (tSeq (tIfS (tB (tIsN (tVar 4))) (tRet (tC (.bl false))) tNext)
    (tRet (tCB (rAll K) (tCons (tLc (iEnT K (tCons (tVar 4) tNil)) (gTup K 2 (gCons (gName 5) (gCons (gName 6) gNil))) tYes (tCall (sp_is_case K f) [] E0 (tCons (tVar 0) (tCons (tVar 1) (tCons (tVar 2) (tCons (tVar 5) (tCons (tVar 6) tNil)))))) [5, 6]) tNil)))))
theorem len_is_case_tree {K : PySem.W.Frag} {f : Nat} : ∀ vs H Q E, sp_is_case_tree K f vs H Q E → vs.length = ps_is_case_tree.length := by
  rintro vs H Q E ⟨m, g, hg, a1, a2, ga, tb, ot, given, v, d, rfl, _⟩
  rfl
theorem wp_is_case_tree {K : PySem.W.Frag} {mg : Str → Option Value} {f : Nat} (T : Tx K mg) : ∀ vs H Q E, sp_is_case_tree K f vs H Q E → t_is_case_tree K f { nx := fun _ H' => Q .non H', rt := Q } (start N_is_case_tree vs) H := by
  rintro vs H Q E ⟨m, g, hg, a1, a2, ga, tb, ot, given, v, d, rfl, T1, T2, Q1, Q2, hm, hG, hgl, hgm, D, F, q⟩
  have qc : ∀ H', Same H H' → Q (.bl (match ents "cases" m d with
    | none => false
    | some cs => (List.range m).all fun e => caseB tb ot m (treeB tb ot m g) given e (cs.getD e .none))) H' := q
  unfold t_is_case_tree
  walk_at "w"
  obtain ⟨xs0, hx0, hl0⟩ := T2.lenL
  refine w_lenL hx0 ?_
  rw [hl0, Q2.len]
  walk_at "w"
  refine ⟨v, d, "cases", m, rfl, D, F, by decide, fun en H1 s1 => ?_, fun r en H1 a xs s1 hS hD => ?_⟩
  · rw [en] at qc
    walk_at "w"
    refine w_dT rfl ?_
    walk_at "w"
    exact qc H1 s1
  · rw [en] at qc
    have qc : ∀ H', Same H H' → Q (.bl ((List.range m).all fun e => caseB tb ot m (treeB tb ot m g) given e (r.getD e .none))) H' := qc
    obtain ⟨Fr, hrl⟩ := ents_ff en F
    have hl := hD.len
    walk_at "w"
    refine w_dF (fun z => by cases z) ?_
    walk_at "w"
    refine cet hS (by omega) (fun _ => true) (fun i => .bl (caseB tb ot m (treeB tb ot m g) given i (r.getD i .none))) (fun _ _ => rfl) (fun i x H' R hi s k => k H' (Same.refl H')) (fun i x H' R hi _ s k => ?_) fun p H' hp s2 h1' => ?_
    · have hlt : i < r.length := by
        obtain ⟨z, _⟩ := List.getElem?_eq_some_iff.mp hi
        omega
      have hdi := byAt_get hlt
      have w2 := s1.trans s
      have Fi := Fr.sub (List.mem_of_getElem? hdi)
      walk_at "w"
      exact ⟨m, g, hg, a1, a2, ga, tb, ot, given, i, x, r.getD i .none, rfl, T1.same w2, T2.same w2, Q1, Q2, hm, w2.tT hG, hgl, hgm, by omega, Dp.keep Fi (Kp.of s) _ (hD.get hi hdi), Fi, fun H3 s3 => k H3 s3⟩
    · walk_at "w"
      have eb : picked xs.length (fun _ => true) (fun i => .bl (caseB tb ot m (treeB tb ot m g) given i (r.getD i .none))) = ((List.range xs.length).map fun i => caseB tb ot m (treeB tb ot m g) given i (r.getD i .none)).map V.bl := by
        rw [picked_all, List.map_map]
        rfl
      rw [eb] at h1'
      refine ⟨p, _, rfl, SqL.of h1', ?_⟩
      rw [List.all_map, show xs.length = m by omega]
      exact qc H' (s1.trans s2)

theorem ok_is_case_tree {P : Program} {w : World} {K : PySem.W.Frag} {mg : Str → Option Value} {base : Heap} (f : Nat) (F : FnP K mg "is_case_tree" s_is_case_tree) (T : Tx K mg) (c_so_many : Ok P w K mg base "so_many" 2 ps_so_many (sp_so_many K)) (c_is_case : Ok P w K mg base "is_case" (2 * f + 4) ps_is_case (sp_is_case K f)) :
    Ok P w K mg base "is_case_tree" (2 * f + 5) ps_is_case_tree (sp_is_case_tree K f) :=
  ok_of (t := t_is_case_tree K f) F sc_is_case_tree (len_is_case_tree) (fun _ _ _ _ _ _ us hl => match us, hl with | [_, _, _, _], _ => rfl)
    (fun f cdv A outer s H E hr => by
      have hu := hu_of hr
      have hu65 := u65 hr
      exact (pss_cons (ps_set (i := 4) sc_is_case_tree.nd rfl (Or.inl rfl) (pe_callO c_so_many (hk := by omega) hr (pa_cons (pv 3) (pa_cons pe_str (pa_cons (pe_callB call_len rfl T.b_len PySem.boot_len (pa_cons (pv 1) pa_nil)) pa_nil)))))
      (pss_cons (ps_if (pt_cmp (pc_isN (pv 4))) (pss_one (ps_ret pe_bl)) pss_nil)
      (pss_one (ps_ret (pe_callB (cr_all rfl) rfl T.b_all (by decide +kernel) (pa_cons (pe_lc (own := [("edge", 5), ("entry", 6)]) rfl sc_is_case_tree.nd (pi_enumT rfl T.b_enumerate (pa_cons (pv 4) pa_nil)) (blkOk_by (own := [("edge", 5), ("entry", 6)]) (N := N_is_case_tree) (sc := defScope s_is_case_tree) (by decide +kernel)) (fun _ _ _ _ _ => (pg_tup rfl (pgs_cons (pg_name (i := 5) sc_is_case_tree.nd rfl (Or.inl rfl)) (pgs_cons (pg_name (i := 6) sc_is_case_tree.nd rfl (Or.inl rfl)) pgs_nil)))) (fun _ _ _ _ _ => pts_nil) (fun _ _ _ _ _ => (pe_callO c_is_case (hk := by omega) hr (pa_cons (pv 0) (pa_cons (pv 1) (pa_cons (pv 2) (pa_cons (pv 5) (pa_cons (pv 6) pa_nil)))))))) pa_nil)))))))
    (wp_is_case_tree T)

abbrev s_judge_recasts : Stmt := top 41
abbrev N_judge_recasts : List Str := ["first", "second", "yes", "paper", "entries"]
abbrev ps_judge_recasts : List Str := ["first", "second", "yes", "paper"]
theorem sc_judge_recasts : FnScope N_judge_recasts ps_judge_recasts (defScope s_judge_recasts) := ⟨rfl, rfl, rfl, by decide +kernel, rfl, by decide +kernel, by decide +kernel⟩
def t_judge_recasts (K : PySem.W.Frag) : TS :=
    (tSeq (tIfS (tB (tVar 2)) (tSeq (tAsg (tCall (sp_so_many K) [] E0 (tCons (tVar 3) (tCons (tC (.str "recasting")) (tCons (tC (.int 2)) tNil)))) (gName 4))
    (tRet (tAndV (tNotN (tVar 4)) (tCall (sp_is_recasting K) [] E0 (tCons (tVar 0) (tCons (tVar 1) (tCons (tOp (rIxT K) (tVar 4) (tC (.int 0))) (tCons (tOp (rIxT K) (tVar 4) (tC (.int 1))) tNil)))))))) tNext)
    (tSeq (tIfS (tTest (tOp rNe (tFld K (tVar 0) "edge_count") (tFld K (tVar 1) "edge_count"))) (tRet (tOp (rEqD K) (tVar 3) (tTup (tCons (tC (.str "edges")) tNil)))) tNext)
    (tRet (tCall (sp_is_case_tree K 4) [] E0 (tCons (tCall (sp_crossing_table K) [] E0 (tCons (tVar 0) tNil)) (tCons (tCall (sp_crossing_table K) [] E0 (tCons (tVar 1) tNil)) (tCons (tTup tNil) (tCons (tVar 3) tNil))))))))
def sp_judge_recasts (K : PySem.W.Frag) : Sp := fun vs H Q _ => ∃ (x1 x2 : Addr) (yes : Bool) (v : V) (d : PyData) (n : Nat) (z o t : List Nat) (n2 : Nat) (z2 o2 t2 : List Nat), vs = [.ref x1, .ref x2, .bl yes, v] ∧
  MapAt K H x1 n z o t ∧ MapT n z o t ∧ MapAt K H x2 n2 z2 o2 t2 ∧ MapT n2 z2 o2 t2 ∧ Dp K H v d ∧ FF d ∧ 0 < n / 4 ∧ n ≤ 20 ∧
  (JudgeOk n z o t n2 z2 o2 t2 yes d → ∀ H', Same H H' → Q (.bl true) H') ∧ (¬ JudgeOk n z o t n2 z2 o2 t2 yes d → ∀ H', Same H H' → Q (.bl false) H')
theorem len_judge_recasts {K : PySem.W.Frag} : ∀ vs H Q E, sp_judge_recasts K vs H Q E → vs.length = ps_judge_recasts.length := by
  rintro vs H Q E ⟨x1, x2, yes, v, d, n, z, o, t, n2, z2, o2, t2, rfl, _⟩
  rfl
/-- an answer, told by what it stands for -/
theorem says {Q : VK} {H' : Hp} {b : Bool} {P : Prop} (h : b = true ↔ P) (qT : P → Q (.bl true) H') (qF : ¬ P → Q (.bl false) H') : Q (.bl b) H' := by
  cases b with
  | true => exact qT (h.mp rfl)
  | false => exact qF fun p => by have := h.mpr p; cases this
theorem wp_judge_recasts {K : PySem.W.Frag} {mg : Str → Option Value} (T : Tx K mg) : ∀ vs H Q E, sp_judge_recasts K vs H Q E → t_judge_recasts K { nx := fun _ H' => Q .non H', rt := Q } (start N_judge_recasts vs) H := by
  rintro vs H Q E ⟨x1, x2, yes, v, d, n, z, o, t, n2, z2, o2, t2, rfl, m1, M1, m2, M2, D, F, hp, hn, qT, qF⟩
  obtain ⟨dx, p, q, r, s, h1, h2, h3, h4, h5⟩ := m1.ex
  obtain ⟨dx2, p2, q2, r2, s2, k1, k2, k3, k4, k5⟩ := m2.ex
  unfold t_judge_recasts
  walk_at "w"
  cases yes with
  | true =>
    have eJ : JudgeOk n z o t n2 z2 o2 t2 true d ↔ ∃ e0 e1, ents "recasting" 2 d = some [e0, e1] ∧ RecOk n z o t n2 z2 o2 t2 e0 e1 := by
      unfold JudgeOk
      rw [if_pos rfl]
    rw [eJ] at qT qF
    walk_at "w"
    refine ⟨v, d, "recasting", 2, rfl, D, F, by decide, fun en H1 s1 => ?_, fun r en H1 a xs s1 hS hD => ?_⟩
    · walk_at "w"
      exact qF (fun ⟨e0, e1, w, _⟩ => by rw [en] at w; cases w) _ s1
    · obtain ⟨Fr, hrl⟩ := ents_ff en F
      obtain ⟨e0, e1, rfl⟩ : ∃ e0 e1, r = [e0, e1] := by
        match r, hrl with
        | [e0, e1], _ => exact ⟨e0, e1, rfl⟩
      cases hD with
      | @cons v0 _ _ _ d0 hD =>
      cases hD with
      | @cons v1 _ _ _ d1 hD =>
      cases hD
      walk_at "w"
      refine w_nT (fun z => by cases z) ?_
      walk_at "w"
      refine w_ixT hS (at0 rfl) ?_
      walk_at "w"
      refine w_ixT hS (at1 rfl) ?_
      walk_at "w"
      refine ⟨x1, x2, v0, v1, e0, e1, n, z, o, t, n2, z2, o2, t2, rfl, m1.same s1, M1, m2.same s1, M2, d0, Fr.sub (by simp), d1, Fr.sub (by simp), fun w H2 s2 => ?_, fun w H2 s2 => ?_⟩
      · exact qT ⟨e0, e1, en, w⟩ _ (s1.trans s2)
      · refine qF (fun ⟨f0, f1, w1, w2⟩ => ?_) _ (s1.trans s2)
        rw [en] at w1
        cases w1
        exact w w2
  | false =>
    have eJ : JudgeOk n z o t n2 z2 o2 t2 false d ↔ if n / 4 = n2 / 4 then treeB (tabOf n z o t) (tabOf n2 z2 o2 t2) (n / 4) (n / 4) [] d = true else PyData.eqv d edgesD = true := by
      unfold JudgeOk
      rw [if_neg (by decide)]
    rw [eJ] at qT qF
    walk_at "w"
    refine ⟨x1, _, dx, _, .int (n / 4 : Nat), rfl, h1, T.c_Map, T.n_edge_count, rfl, ?_⟩
    walk_at "w"
    refine ⟨x2, _, dx2, _, .int (n2 / 4 : Nat), rfl, k1, T.c_Map, T.n_edge_count, rfl, ?_⟩
    walk_at "w"
    refine w_n2 (fun hne => ?_) (fun heq => ?_)
    · have hne' : ¬ n / 4 = n2 / 4 := by omega
      rw [if_neg hne'] at qT qF
      walk_at "w"
      refine ⟨szl (by show 1 ≤ 1000000; decide), fun p3 hp3 => ?_⟩
      have s1 : Same _ _ := Same.tnew (o := .tup [V.str "edges"]) hp3
      refine ⟨d, edgesD, Dp.keep F (Kp.of s1) _ D, Dp.edges upd_same, F.sh, edges_sh, ?_⟩
      exact says Iff.rfl (fun w => qT w _ s1) (fun w => qF w _ s1)
    · have heq' : n / 4 = n2 / 4 := by omega
      rw [if_pos heq'] at qT qF
      walk_at "w"
      refine ⟨x1, n, z, o, t, rfl, m1, M1, fun H1 a s1 ha => ?_⟩
      walk_at "w"
      refine ⟨x2, n2, z2, o2, t2, rfl, m2.same s1, M2, fun H2 b s2' hb => ?_⟩
      walk_at "w"
      refine ⟨szl (by show 0 ≤ 1000000; decide), fun p3 hp3 => ?_⟩
      have s3 : Same _ _ := Same.tnew (o := .tup ([] : List V)) hp3
      have w3 := (s1.trans s2').trans s3
      walk_at "w"
      refine ⟨n / 4, n / 4 - 1, by omega, a, b, p3, tabOf n z o t, tabOf n2 z2 o2 t2, [], v, d, rfl, (ha.same s2').same s3, hb.same s3, tabSq, by rw [heq']; exact tabSq, by omega, SqT.of upd_same, by show 0 + _ = _; omega, fun x hx => by simp at hx, Dp.keep F (Kp.of w3) _ D, F, fun H4 s4 => ?_⟩
      rw [show n / 4 - 1 + 1 = n / 4 by omega]
      exact says Iff.rfl (fun w => qT w _ (w3.trans s4)) (fun w => qF w _ (w3.trans s4))

theorem ok_judge_recasts {P : Program} {w : World} {K : PySem.W.Frag} {mg : Str → Option Value} {base : Heap} (F : FnP K mg "judge_recasts" s_judge_recasts) (T : Tx K mg) (c_so_many : Ok P w K mg base "so_many" 2 ps_so_many (sp_so_many K)) (c_is_recasting : Ok P w K mg base "is_recasting" 3 ps_is_recasting (sp_is_recasting K)) (c_crossing_table : Ok P w K mg base "crossing_table" 1 ps_crossing_table (sp_crossing_table K)) (c_is_case_tree : Ok P w K mg base "is_case_tree" 13 ps_is_case_tree (sp_is_case_tree K 4)) :
    Ok P w K mg base "judge_recasts" 14 ps_judge_recasts (sp_judge_recasts K) :=
  ok_of (t := t_judge_recasts K) F sc_judge_recasts (len_judge_recasts) (fun _ _ _ _ _ _ us hl => match us, hl with | [_, _, _, _], _ => rfl)
    (fun f cdv A outer s H E hr => by
      have hu := hu_of hr
      have hu65 := u65 hr
      exact (pss_cons (ps_if (pt_val (pv 2)) (pss_cons (ps_set (i := 4) sc_judge_recasts.nd rfl (Or.inl rfl) (pe_callO c_so_many hr (pa_cons (pv 3) (pa_cons pe_str (pa_cons pe_int pa_nil)))))
      (pss_one (ps_ret (pe_and (pe_cmp (pc_notN (pv 4))) (pe_one (pe_callO c_is_recasting hr (pa_cons (pv 0) (pa_cons (pv 1) (pa_cons (pe_ix ix_tup (pv 4) pe_int (fun _ _ => rfl)) (pa_cons (pe_ix ix_tup (pv 4) pe_int (fun _ _ => rfl)) pa_nil)))))))))) pss_nil)
      (pss_cons (ps_if (pt_cmpR op_ne (pe_fld (pv 0) rfl) (pe_fld (pv 1) rfl) (nomark _)) (pss_one (ps_ret (pe_cmpR (op_eqD hr.units) (pv 3) (pe_tup (pa_cons pe_str pa_nil)) (nomark _)))) pss_nil)
      (pss_one (ps_ret (pe_callO c_is_case_tree hr (pa_cons (pe_callO c_crossing_table hr (pa_cons (pv 0) pa_nil)) (pa_cons (pe_callO c_crossing_table hr (pa_cons (pv 1) pa_nil)) (pa_cons (pe_tup pa_nil) (pa_cons (pv 3) pa_nil))))))))))
    (wp_judge_recasts T)

abbrev s__law_start : Stmt := top 43
abbrev N__law_start : List Str := ["script", "cell"]
abbrev ps__law_start : List Str := ["script"]
theorem sc__law_start : FnScope N__law_start ps__law_start (defScope s__law_start) := ⟨rfl, rfl, rfl, by decide +kernel, rfl, by decide +kernel, by decide +kernel⟩
def t__law_start (K : PySem.W.Frag) : TS :=
    (tRet (tLst (tCons (tLc (iList K (tSl (rSlL K) (tVar 0) tNoPart (tPart (tC (.int 63))))) (gName 1) tYes (tCB rInt1 (tCons (tVar 1) tNil)) [1]) (tCons (tC (.int 0)) (tCons (tC (.int 0)) (tCons (tC (.int 0)) (tCons (tC (.int 20011)) (tCons (tC (.int 0)) tNil))))))))
def sp__law_start (K : PySem.W.Frag) : Sp := fun vs H Q _ => ∃ (s : Addr) (cells : List Int), vs = [.ref s] ∧ SqL K H s (cells.map V.int) ∧ ∀ H' p sc cells, Same H H' → H p = none → PoolAt K H' p sc cells → Q (.ref p) H'
theorem len__law_start {K : PySem.W.Frag} : ∀ vs H Q E, sp__law_start K vs H Q E → vs.length = ps__law_start.length := by
  rintro vs H Q E ⟨s, cells, rfl, _⟩
  rfl
theorem wp__law_start {K : PySem.W.Frag} {mg : Str → Option Value} (T : Tx K mg) : ∀ vs H Q E, sp__law_start K vs H Q E → t__law_start K { nx := fun _ H' => Q .non H', rt := Q } (start N__law_start vs) H := by
  rintro vs H Q E ⟨s, cells, rfl, hS, q⟩
  unfold t__law_start
  walk_at "w"
  refine w_slL hS fun l hl => ?_
  rw [show (some (63 : Int)) = some ((63 : Nat) : Int) from rfl, cut_to, ← List.map_take]
  have s1 : Same _ _ := Same.tnew (o := .lst ((cells.take 63).map V.int)) hl
  have hlen : ((cells.take 63).map V.int).length ≤ 63 := by rw [List.length_map, List.length_take]; omega
  refine cl (SqL.of upd_same) (by omega) (fun _ => true) (fun i => .int ((cells.take 63).getD i 0)) (fun _ => rfl) (fun i x H' R hi s k => k H' (Same.refl H')) (fun i x H' R hi _ s k => ?_) fun p2 H' hp s2 h1' => ?_
  · have e : x = .int ((cells.take 63).getD i 0) := by
      rw [List.getElem?_map] at hi
      cases h : (cells.take 63)[i]? with
      | none => rw [h] at hi; cases hi
      | some y =>
        rw [h] at hi
        rw [List.getD_eq_getElem?_getD, h]
        exact (Option.some.inj hi).symm
    rw [e]
    walk_at "w"
    exact k H' (Same.refl H')
  · walk_at "w"
    have eb : picked ((cells.take 63).map V.int).length (fun _ => true) (fun i => .int ((cells.take 63).getD i 0)) = ((List.range ((cells.take 63).map V.int).length).map fun i => (cells.take 63).getD i 0).map V.int := by
      rw [picked_all, List.map_map]
      rfl
    rw [eb] at h1'
    refine ⟨szl (by show 6 ≤ 1000000; decide), fun p hp3 => ?_⟩
    have s3 := s1.trans s2
    have np : p2 ≠ p := by rintro rfl; rw [h1'] at hp3; cases hp3
    exact q _ p p2 _ (s3.tmut (s3.tfr hp3)) (s3.tfr hp3) ⟨⟨0, 0, 0, 20011, 0, upd_same, by decide⟩, SqL.of (by rw [upd_ne np]; exact h1'), np⟩

theorem ok__law_start {P : Program} {w : World} {K : PySem.W.Frag} {mg : Str → Option Value} {base : Heap} (F : FnP K mg "_law_start" s__law_start) (T : Tx K mg) :
    Ok P w K mg base "_law_start" 1 ps__law_start (sp__law_start K) :=
  ok_of (t := t__law_start K) F sc__law_start (len__law_start) (fun _ _ _ _ _ _ us hl => match us, hl with | [_], _ => rfl)
    (fun f cdv A outer s H E hr => by
      have hu := hu_of hr
      have hu65 := u65 hr
      exact (pss_one (ps_ret (pe_lst (pa_cons (pe_lc (own := [("cell", 1)]) rfl sc__law_start.nd (pi_list (pe_slice sl_list (pv 0) po_none (po_some pe_int))) (blkOk_by (own := [("cell", 1)]) (N := N__law_start) (sc := defScope s__law_start) (by decide +kernel)) (fun _ _ _ _ _ => (pg_name (i := 1) sc__law_start.nd rfl (Or.inl rfl))) (fun _ _ _ _ _ => pts_nil) (fun _ _ _ _ _ => (pe_callTy call_int1 rfl T.b_int (by decide +kernel) (pa_cons (pv 1) pa_nil)))) (pa_cons pe_int (pa_cons pe_int (pa_cons pe_int (pa_cons pe_int (pa_cons pe_int pa_nil))))))))))
    (wp__law_start T)

abbrev s__law_draw : Stmt := top 44
abbrev N__law_draw : List Str := ["pool", "many", "cell", "digit", "mixed"]
abbrev ps__law_draw : List Str := ["pool", "many"]
theorem sc__law_draw : FnScope N__law_draw ps__law_draw (defScope s__law_draw) := ⟨rfl, rfl, rfl, by decide +kernel, rfl, by decide +kernel, by decide +kernel⟩
def t__law_draw (K : PySem.W.Frag) : TS :=
    (tSeq (tAsg (tOp rAddI (tOp (rIxL K) (tVar 0) (tC (.int 5))) (tC (.int 1))) (gSub (tVar 0) (tC (.int 5)) rSetL))
    (tSeq (tIfS (tAnd (tTest (tOp rEq (tOp (rIxL K) (tVar 0) (tC (.int 2))) (tC (.int 0)))) (tAnd (tTest (tOp rEq (tOp (rIxL K) (tVar 0) (tC (.int 3))) (tC (.int 0)))) (tTest (tOp rLtI (tOp (rIxL K) (tVar 0) (tC (.int 1))) (tCB (rLenV K) (tCons (tOp (rIxL K) (tVar 0) (tC (.int 0))) tNil)))))) (tSeq (tAsg (tOp (rIxL K) (tOp (rIxL K) (tVar 0) (tC (.int 0))) (tOp (rIxL K) (tVar 0) (tC (.int 1)))) (gName 2))
    (tSeq (tAsg (tOp rAddI (tOp (rIxL K) (tVar 0) (tC (.int 1))) (tC (.int 1))) (gSub (tVar 0) (tC (.int 1)) rSetL))
    (tIfS (tTest (tOp rLtI (tCB rAbs (tCons (tVar 2) tNil)) (tOp rPowI (tC (.int 10)) (tC (.int 18))))) (tSeq (tAsg (tC (.int 5)) (gSub (tVar 0) (tC (.int 2)) rSetL))
    (tAsg (tOp rModI (tCB rInt1 (tCons (tOp rAddI (tOp rMulI (tOp (rIxL K) (tVar 0) (tC (.int 4))) (tC (.int 31))) (tVar 2)) tNil)) (tC (.int 1000003))) (gSub (tVar 0) (tC (.int 4)) rSetL))) (tAsg (tCB rAbs (tCons (tVar 2) tNil)) (gSub (tVar 0) (tC (.int 3)) rSetL))))) tNext)
    (tSeq (tIfS (tTest (tOp rGtI (tOp (rIxL K) (tVar 0) (tC (.int 3))) (tC (.int 0)))) (tSeq (tAsg (tOp rModI (tCB rInt1 (tCons (tOp (rIxL K) (tVar 0) (tC (.int 3))) tNil)) (tVar 1)) (gName 3))
    (tSeq (tAsg (tOp rDivI (tOp (rIxL K) (tVar 0) (tC (.int 3))) (tVar 1)) (gSub (tVar 0) (tC (.int 3)) rSetL))
    (tRet (tVar 3)))) tNext)
    (tSeq (tAsg (tCB rMax2 (tCons (tC (.int 0)) (tCons (tOp rSubI (tOp (rIxL K) (tVar 0) (tC (.int 2))) (tC (.int 1))) tNil))) (gSub (tVar 0) (tC (.int 2)) rSetL))
    (tSeq (tAsg (tOp rModI (tCB rInt1 (tCons (tOp rAddI (tOp rMulI (tOp (rIxL K) (tVar 0) (tC (.int 4))) (tC (.int 4827))) (tOp rMulI (tOp (rIxL K) (tVar 0) (tC (.int 5))) (tC (.int 6961)))) tNil)) (tC (.int 1000003))) (gName 4))
    (tSeq (tAsg (tOp rModI (tCB rInt1 (tCons (tOp rAddI (tOp rMulI (tVar 4) (tVar 4)) (tOp (rIxL K) (tVar 0) (tC (.int 4)))) tNil)) (tC (.int 999983))) (gName 4))
    (tSeq (tAsg (tOp rModI (tCB rInt1 (tCons (tOp rAddI (tOp rMulI (tVar 4) (tVar 4)) (tOp (rIxL K) (tVar 0) (tC (.int 5)))) tNil)) (tC (.int 1000033))) (gName 4))
    (tRet (tOp rModI (tOp rDivI (tVar 4) (tC (.int 7))) (tVar 1))))))))))
def tail_draw (K : PySem.W.Frag) : TS :=
    (tSeq (tIfS (tTest (tOp rGtI (tOp (rIxL K) (tVar 0) (tC (.int 3))) (tC (.int 0)))) (tSeq (tAsg (tOp rModI (tCB rInt1 (tCons (tOp (rIxL K) (tVar 0) (tC (.int 3))) tNil)) (tVar 1)) (gName 3))
    (tSeq (tAsg (tOp rDivI (tOp (rIxL K) (tVar 0) (tC (.int 3))) (tVar 1)) (gSub (tVar 0) (tC (.int 3)) rSetL))
    (tRet (tVar 3)))) tNext)
    (tSeq (tAsg (tCB rMax2 (tCons (tC (.int 0)) (tCons (tOp rSubI (tOp (rIxL K) (tVar 0) (tC (.int 2))) (tC (.int 1))) tNil))) (gSub (tVar 0) (tC (.int 2)) rSetL))
    (tSeq (tAsg (tOp rModI (tCB rInt1 (tCons (tOp rAddI (tOp rMulI (tOp (rIxL K) (tVar 0) (tC (.int 4))) (tC (.int 4827))) (tOp rMulI (tOp (rIxL K) (tVar 0) (tC (.int 5))) (tC (.int 6961)))) tNil)) (tC (.int 1000003))) (gName 4))
    (tSeq (tAsg (tOp rModI (tCB rInt1 (tCons (tOp rAddI (tOp rMulI (tVar 4) (tVar 4)) (tOp (rIxL K) (tVar 0) (tC (.int 4)))) tNil)) (tC (.int 999983))) (gName 4))
    (tSeq (tAsg (tOp rModI (tCB rInt1 (tCons (tOp rAddI (tOp rMulI (tVar 4) (tVar 4)) (tOp (rIxL K) (tVar 0) (tC (.int 5)))) tNil)) (tC (.int 1000033))) (gName 4))
    (tRet (tOp rModI (tOp rDivI (tVar 4) (tC (.int 7))) (tVar 1))))))))
def sp__law_draw (K : PySem.W.Frag) : Sp := fun vs H Q _ => ∃ (p sc : Addr) (cells : List Int) (many : Nat), vs = [.ref p, .int many] ∧ PoolAt K H p sc cells ∧ 0 < many ∧ many < 1000000 ∧ ∀ (r : Nat) H', r < many → Xp p H H' → PoolAt K H' p sc cells → Q (.int r) H'
theorem len__law_draw {K : PySem.W.Frag} : ∀ vs H Q E, sp__law_draw K vs H Q E → vs.length = ps__law_draw.length := by
  rintro vs H Q E ⟨p, sc, cells, many, rfl, _⟩
  rfl
/-- the pool in the midst of a draw -/
structure PSt (K : PySem.W.Frag) (H H1 : Hp) (p sc : Addr) (b c d e f : Int) : Prop where
  at_ : H1 p = some (.lst [.ref sc, .int b, .int c, .int d, .int e, .int f])
  xt : Xp p H H1
theorem PSt.set {K : PySem.W.Frag} {H H1 : Hp} {p sc : Addr} {b c d e f b' c' d' e' f' : Int} {xs : List V} (S : PSt K H H1 p sc b c d e f) (h : xs = [.ref sc, .int b', .int c', .int d', .int e', .int f']) : PSt K H (upd H1 p (.lst xs)) p sc b' c' d' e' f' :=
  ⟨by rw [upd_same, h], S.xt.mut (.inl rfl)⟩
theorem PSt.fin {K : PySem.W.Frag} {H H1 : Hp} {p sc : Addr} {b c d e f : Int} {cells : List Int} (S : PSt K H H1 p sc b c d e f) (h : SqL K H sc (cells.map V.int)) (n : sc ≠ p) (hb : 0 ≤ b) : PoolAt K H1 p sc cells :=
  ⟨⟨b, c, d, e, f, S.at_, hb⟩, sqL_xp S.xt n h, n⟩
theorem PSt.g0 {K : PySem.W.Frag} {H H1 : Hp} {p sc : Addr} {b c d e f : Int} (S : PSt K H H1 p sc b c d e f) {Q : VK} (q : Q (.ref sc) H1) : rIxL K (.ref p) (.int 0) H1 Q := w_ixL (SqL.of S.at_) (at0 rfl) q
theorem PSt.g1 {K : PySem.W.Frag} {H H1 : Hp} {p sc : Addr} {b c d e f : Int} (S : PSt K H H1 p sc b c d e f) {Q : VK} (q : Q (.int b) H1) : rIxL K (.ref p) (.int 1) H1 Q := w_ixL (SqL.of S.at_) (at1 rfl) q
theorem PSt.g2 {K : PySem.W.Frag} {H H1 : Hp} {p sc : Addr} {b c d e f : Int} (S : PSt K H H1 p sc b c d e f) {Q : VK} (q : Q (.int c) H1) : rIxL K (.ref p) (.int 2) H1 Q := w_ixL (SqL.of S.at_) (at2 rfl) q
theorem PSt.g3 {K : PySem.W.Frag} {H H1 : Hp} {p sc : Addr} {b c d e f : Int} (S : PSt K H H1 p sc b c d e f) {Q : VK} (q : Q (.int d) H1) : rIxL K (.ref p) (.int 3) H1 Q := w_ixL (SqL.of S.at_) (atI_nat (j := 3) rfl) q
theorem PSt.g4 {K : PySem.W.Frag} {H H1 : Hp} {p sc : Addr} {b c d e f : Int} (S : PSt K H H1 p sc b c d e f) {Q : VK} (q : Q (.int e) H1) : rIxL K (.ref p) (.int 4) H1 Q := w_ixL (SqL.of S.at_) (atI_nat (j := 4) rfl) q
theorem PSt.g5 {K : PySem.W.Frag} {H H1 : Hp} {p sc : Addr} {b c d e f : Int} (S : PSt K H H1 p sc b c d e f) {Q : VK} (q : Q (.int f) H1) : rIxL K (.ref p) (.int 5) H1 Q := w_ixL (SqL.of S.at_) (atI_nat (j := 5) rfl) q
/-- the second half of a draw -/
theorem draw_tail {K : PySem.W.Frag} {H H1 : Hp} {p sc : Addr} {many : Nat} {cells : List Int} {Q : VK} {v2 : Option V} {b c d e f : Int} (S : PSt K H H1 p sc b c d e f) (hS : SqL K H sc (cells.map V.int)) (n : sc ≠ p) (hb : 0 ≤ b)
    (hm : 0 < many) (hm2 : many < 1000000) (q : ∀ (r : Nat) H', r < many → Xp p H H' → PoolAt K H' p sc cells → Q (.int r) H') :
    tail_draw K { nx := fun _ H' => Q .non H', rt := Q } [some (.ref p), some (.int many), v2, none, none] H1 := by
  unfold tail_draw
  have fin : ∀ {b c d e f : Int} {H1 : Hp} (x : Int), PSt K H H1 p sc b c d e f → 0 ≤ b → 0 ≤ x → x < many → Q (.int x) H1 := fun {b c d e f H1} x S hb h0 hx => by
    obtain ⟨r, rfl⟩ := Int.eq_ofNat_of_zero_le h0
    exact q r _ (by omega) S.xt (S.fin hS n hb)
  walk_at "w"
  refine S.g3 ?_
  walk_at "w"
  refine w_d2 (fun h => ?_) (fun h => ?_)
  · walk_at "w"
    refine S.g3 ?_
    walk_at "w"
    refine w_iC (by omega) ?_
    walk_at "w"
    refine S.g3 ?_
    walk_at "w"
    refine w_iC ⟨by omega, by omega⟩ ?_
    walk_at "w"
    refine w_setL (k := 3) S.at_ rfl ?_
    walk_at "w"
    exact fin _ (S.set rfl) hb (Int.emod_nonneg _ (by omega)) (Int.emod_lt_of_pos _ (by omega))
  · walk_at "w"
    refine S.g2 ?_
    walk_at "w"
    refine w_setL (k := 2) S.at_ rfl ?_
    have S1 := S.set (xs := ([.ref sc, .int b, .int c, .int d, .int e, .int f] : List V).set 2 (.int (if c - 1 > 0 then c - 1 else 0))) rfl
    generalize (upd H1 p (.lst (([.ref sc, .int b, .int c, .int d, .int e, .int f] : List V).set 2 (.int (if c - 1 > 0 then c - 1 else 0))))) = H2 at S1 ⊢
    walk_at "w"
    refine S1.g4 ?_
    walk_at "w"
    refine w_iC (.inr (by decide)) ?_
    walk_at "w"
    refine S1.g5 ?_
    walk_at "w"
    refine w_iC (.inr (by decide)) ?_
    walk_at "w"
    refine w_iC (by decide) ?_
    have hx0 := Int.emod_nonneg (e * 4827 + f * 6961) (show (1000003 : Int) ≠ 0 by decide)
    have hx1 := Int.emod_lt_of_pos (e * 4827 + f * 6961) (show (0 : Int) < 1000003 by decide)
    generalize (e * 4827 + f * 6961) % 1000003 = x at hx0 hx1 ⊢
    walk_at "w"
    refine w_iC (.inl ⟨by omega, by omega⟩) ?_
    walk_at "w"
    refine S1.g4 ?_
    walk_at "w"
    refine w_iC (by decide) ?_
    have hy0 := Int.emod_nonneg (x * x + e) (show (999983 : Int) ≠ 0 by decide)
    have hy1 := Int.emod_lt_of_pos (x * x + e) (show (0 : Int) < 999983 by decide)
    generalize (x * x + e) % 999983 = y at hy0 hy1 ⊢
    walk_at "w"
    refine w_iC (.inl ⟨by omega, by omega⟩) ?_
    walk_at "w"
    refine S1.g5 ?_
    walk_at "w"
    refine w_iC (by decide) ?_
    walk_at "w"
    refine w_iC ⟨by decide, by decide⟩ ?_
    walk_at "w"
    refine w_iC (by omega) ?_
    exact fin _ S1 hb (Int.emod_nonneg _ (by omega)) (Int.emod_lt_of_pos _ (by omega))
theorem wp__law_draw {K : PySem.W.Frag} {mg : Str → Option Value} (T : Tx K mg) : ∀ vs H Q E, sp__law_draw K vs H Q E → t__law_draw K { nx := fun _ H' => Q .non H', rt := Q } (start N__law_draw vs) H := by
  rintro vs H Q E ⟨p, sc, cells, many, rfl, P, hm, hm2, q⟩
  obtain ⟨b, c, d, e, f, h1, h3⟩ := P.ex
  have h2 := P.sq
  have h4 := P.ne
  have S0 : PSt K H H p sc b c d e f := ⟨h1, Xt.refl _ H⟩
  unfold t__law_draw
  walk_at "w"
  refine S0.g5 ?_
  walk_at "w"
  refine w_setL (k := 5) S0.at_ rfl ?_
  have S1 := S0.set (xs := ([.ref sc, .int b, .int c, .int d, .int e, .int f] : List V).set 5 (.int (f + 1))) rfl
  generalize (upd H p (.lst (([.ref sc, .int b, .int c, .int d, .int e, .int f] : List V).set 5 (.int (f + 1))))) = H1 at S1 ⊢
  have go : ∀ {v2 : Option V} {b c d e f : Int} {H1 : Hp}, PSt K H H1 p sc b c d e f → 0 ≤ b → (tail_draw K) { nx := fun _ H' => Q .non H', rt := Q } [some (.ref p), some (.int many), v2, none, none] H1 := fun S hb => draw_tail S h2 h4 hb hm hm2 q
  walk_at "w"
  refine S1.g2 ?_
  walk_at "w"
  refine w_d2 (fun e1 => ?_) (fun e1 => ?_)
  rotate_left
  · walk_at "w1"
    walk_at "w1"
    exact go S1 h3
  walk_at "w"
  refine S1.g3 ?_
  walk_at "w"
  refine w_d2 (fun e2 => ?_) (fun e2 => ?_)
  rotate_left
  · walk_at "w1"
    walk_at "w1"
    exact go S1 h3
  walk_at "w"
  refine S1.g1 ?_
  walk_at "w"
  refine S1.g0 ?_
  walk_at "w"
  refine w_lenL (sqL_xp S1.xt h4 h2) ?_
  walk_at "w"
  rw [List.length_map]
  refine w_d2 (fun e3 => ?_) (fun e3 => ?_)
  rotate_left
  · walk_at "w1"
    walk_at "w1"
    exact go S1 h3
  obtain ⟨nb, rfl⟩ := Int.eq_ofNat_of_zero_le h3
  have hnb : nb < cells.length := by omega
  walk_at "w"
  refine S1.g0 ?_
  walk_at "w"
  refine S1.g1 ?_
  refine w_ixL (sqL_xp S1.xt h4 h2) (v := .int (cells.getD nb 0)) (atI_nat (by rw [List.getElem?_map, List.getElem?_eq_getElem hnb, List.getD_eq_getElem?_getD, List.getElem?_eq_getElem hnb]; rfl)) ?_
  generalize cells.getD nb 0 = cell
  walk_at "w"
  refine S1.g1 ?_
  walk_at "w"
  refine w_setL (k := 1) S1.at_ rfl ?_
  have S2 := S1.set (xs := ([.ref sc, .int nb, .int c, .int d, .int e, .int (f + 1)] : List V).set 1 (.int ((nb : Int) + 1))) rfl
  generalize (upd H1 p (.lst (([.ref sc, .int nb, .int c, .int d, .int e, .int (f + 1)] : List V).set 1 (.int ((nb : Int) + 1))))) = H2 at S2 ⊢
  walk_at "w"
  refine w_iC (by refine ⟨by decide, by decide, by decide⟩) ?_
  walk_at "w"
  refine w_d2 (fun e4 => ?_) (fun e4 => ?_)
  · walk_at "w"
    refine w_setL (k := 2) S2.at_ rfl ?_
    have S3 := S2.set (xs := ([.ref sc, .int ((nb : Int) + 1), .int c, .int d, .int e, .int (f + 1)] : List V).set 2 (.int 5)) rfl
    generalize (upd H2 p (.lst (([.ref sc, .int ((nb : Int) + 1), .int c, .int d, .int e, .int (f + 1)] : List V).set 2 (.int 5)))) = H3 at S3 ⊢
    walk_at "w"
    refine S3.g4 ?_
    walk_at "w"
    refine w_iC (.inr (by decide)) ?_
    walk_at "w"
    refine w_iC (by decide) ?_
    walk_at "w"
    refine w_setL (k := 4) S3.at_ rfl ?_
    exact go (S3.set rfl) (by omega)
  · walk_at "w"
    refine w_setL (k := 3) S2.at_ rfl ?_
    exact go (S2.set rfl) (by omega)

theorem ok__law_draw {P : Program} {w : World} {K : PySem.W.Frag} {mg : Str → Option Value} {base : Heap} (F : FnP K mg "_law_draw" s__law_draw) (T : Tx K mg) :
    Ok P w K mg base "_law_draw" 1 ps__law_draw (sp__law_draw K) :=
  ok_of (t := t__law_draw K) F sc__law_draw (len__law_draw) (fun _ _ _ _ _ _ us hl => match us, hl with | [_, _], _ => rfl)
    (fun f cdv A outer s H E hr => by
      have hu := hu_of hr
      have hu65 := u65 hr
      exact (pss_cons (ps_asg (pe_op op_add (pe_ix ix_list (pv 0) pe_int (fun _ _ => rfl)) pe_int) (pg_sub (pv 0) pe_int set_list))
      (pss_cons (ps_if (PW.pt (pw_and (pt_cmpR op_eq (pe_ix ix_list (pv 0) pe_int (fun _ _ => rfl)) pe_int (nomark _)) (pw_and (pt_cmpR op_eq (pe_ix ix_list (pv 0) pe_int (fun _ _ => rfl)) pe_int (nomark _)) (pw_and1 (pt_cmpR op_lt (pe_ix ix_list (pv 0) pe_int (fun _ _ => rfl)) (pe_callB call_len rfl T.b_len PySem.boot_len (pa_cons (pe_ix ix_list (pv 0) pe_int (fun _ _ => rfl)) pa_nil)) (nomark _)))))) (pss_cons (ps_set (i := 2) sc__law_draw.nd rfl (Or.inl rfl) (pe_ix ix_list (pe_ix ix_list (pv 0) pe_int (fun _ _ => rfl)) (pe_ix ix_list (pv 0) pe_int (fun _ _ => rfl)) (fun _ _ => rfl)))
      (pss_cons (ps_asg (pe_op op_add (pe_ix ix_list (pv 0) pe_int (fun _ _ => rfl)) pe_int) (pg_sub (pv 0) pe_int set_list))
      (pss_one (ps_if (pt_cmpR op_lt (pe_callB call_abs rfl T.b_abs (by decide +kernel) (pa_cons (pv 2) pa_nil)) (pe_op op_pow pe_int pe_int) (nomark _)) (pss_cons (ps_asg pe_int (pg_sub (pv 0) pe_int set_list))
      (pss_one (ps_asg (pe_op op_mod (pe_callTy call_int1 rfl T.b_int (by decide +kernel) (pa_cons (pe_op op_add (pe_op op_mul (pe_ix ix_list (pv 0) pe_int (fun _ _ => rfl)) pe_int) (pv 2)) pa_nil)) pe_int) (pg_sub (pv 0) pe_int set_list)))) (pss_one (ps_asg (pe_callB call_abs rfl T.b_abs (by decide +kernel) (pa_cons (pv 2) pa_nil)) (pg_sub (pv 0) pe_int set_list))))))) pss_nil)
      (pss_cons (ps_if (pt_cmpR op_gt (pe_ix ix_list (pv 0) pe_int (fun _ _ => rfl)) pe_int (nomark _)) (pss_cons (ps_set (i := 3) sc__law_draw.nd rfl (Or.inl rfl) (pe_op op_mod (pe_callTy call_int1 rfl T.b_int (by decide +kernel) (pa_cons (pe_ix ix_list (pv 0) pe_int (fun _ _ => rfl)) pa_nil)) (pv 1)))
      (pss_cons (ps_asg (pe_op op_fdiv (pe_ix ix_list (pv 0) pe_int (fun _ _ => rfl)) (pv 1)) (pg_sub (pv 0) pe_int set_list))
      (pss_one (ps_ret (pv 3))))) pss_nil)
      (pss_cons (ps_asg (pe_callB (call_max2 rfl) rfl T.b_max (by decide +kernel) (pa_cons pe_int (pa_cons (pe_op op_sub (pe_ix ix_list (pv 0) pe_int (fun _ _ => rfl)) pe_int) pa_nil))) (pg_sub (pv 0) pe_int set_list))
      (pss_cons (ps_set (i := 4) sc__law_draw.nd rfl (Or.inl rfl) (pe_op op_mod (pe_callTy call_int1 rfl T.b_int (by decide +kernel) (pa_cons (pe_op op_add (pe_op op_mul (pe_ix ix_list (pv 0) pe_int (fun _ _ => rfl)) pe_int) (pe_op op_mul (pe_ix ix_list (pv 0) pe_int (fun _ _ => rfl)) pe_int)) pa_nil)) pe_int))
      (pss_cons (ps_set (i := 4) sc__law_draw.nd rfl (Or.inl rfl) (pe_op op_mod (pe_callTy call_int1 rfl T.b_int (by decide +kernel) (pa_cons (pe_op op_add (pe_op op_mul (pv 4) (pv 4)) (pe_ix ix_list (pv 0) pe_int (fun _ _ => rfl))) pa_nil)) pe_int))
      (pss_cons (ps_set (i := 4) sc__law_draw.nd rfl (Or.inl rfl) (pe_op op_mod (pe_callTy call_int1 rfl T.b_int (by decide +kernel) (pa_cons (pe_op op_add (pe_op op_mul (pv 4) (pv 4)) (pe_ix ix_list (pv 0) pe_int (fun _ _ => rfl))) pa_nil)) pe_int))
      (pss_one (ps_ret (pe_op op_mod (pe_op op_fdiv (pv 4) pe_int) (pv 1))))))))))))
    (wp__law_draw T)

abbrev s__law_perm : Stmt := top 45
abbrev N__law_perm : List Str := ["pool", "many", "left", "images", "step", "at"]
abbrev ps__law_perm : List Str := ["pool", "many"]
theorem sc__law_perm : FnScope N__law_perm ps__law_perm (defScope s__law_perm) := ⟨rfl, rfl, rfl, by decide +kernel, rfl, by decide +kernel, by decide +kernel⟩
def t__law_perm (K : PySem.W.Frag) : TS :=
    (tSeq (tAsg (tLstRg (tRg1 (tVar 1))) (gName 2))
    (tSeq (tAsg (tLst tNil) (gName 3))
    (tSeq (tFor (iRng1 (tCons (tVar 1) tNil)) (gName 4) (tSeq (tAsg (tCall (sp__law_draw K) [] E0 (tCons (tVar 0) (tCons (tCB (rLenV K) (tCons (tVar 2) tNil)) tNil))) (gName 5))
    (tSeq (tDrop (tBM K "list" rAppend (tVar 3) (tCons (tOp (rIxL K) (tVar 2) (tVar 5)) tNil)))
    (tAsg (tOp rCat (tSl (rSlL K) (tVar 2) tNoPart (tPart (tVar 5))) (tSl (rSlL K) (tVar 2) (tPart (tOp rAddI (tVar 5) (tC (.int 1)))) tNoPart)) (gName 2)))))
    (tRet (tVar 3)))))
def sp__law_perm (K : PySem.W.Frag) : Sp := fun vs H Q _ => ∃ (p sc : Addr) (cells : List Int) (n : Nat), vs = [.ref p, .int n] ∧ PoolAt K H p sc cells ∧ 0 < n ∧ n ≤ 1000 ∧
  ∀ (pm : List Nat) l H', pm.length = n → pm.Nodup → (∀ x ∈ pm, x < n) → Xp p H H' → PoolAt K H' p sc cells → H l = none → H' l = some (.lst (nv pm)) → Q (.ref l) H'
theorem len__law_perm {K : PySem.W.Frag} : ∀ vs H Q E, sp__law_perm K vs H Q E → vs.length = ps__law_perm.length := by
  rintro vs H Q E ⟨p, sc, cells, n, rfl, _⟩
  rfl
theorem rg_nv {n : Nat} : rgV 0 (n : Nat) = nv (List.range n) := by
  unfold rgV nv
  rw [Int.sub_zero, Int.toNat_natCast]
  exact List.map_congr_left fun i _ => by rw [Int.zero_add]
theorem cut_perm {L pm : List Nat} {r : Nat} (h : r < L.length) : (((L.take r ++ L.drop (r + 1)) ++ (pm ++ [gt L r])).Perm (L ++ pm)) := by
  have e : L = L.take r ++ gt L r :: L.drop (r + 1) := by
    have h1 := (List.getElem?_eq_some_iff.mp (gt_some h)).2
    have h2 := List.drop_eq_getElem_cons h
    rw [h1] at h2
    rw [← h2, List.take_append_drop]
  refine List.perm_iff_count.mpr fun a => ?_
  conv => rhs; rw [e]
  simp only [List.count_append, List.count_cons, List.count_nil]
  omega
theorem wp__law_perm {K : PySem.W.Frag} {mg : Str → Option Value} (T : Tx K mg) : ∀ vs H Q E, sp__law_perm K vs H Q E → t__law_perm K { nx := fun _ H' => Q .non H', rt := Q } (start N__law_perm vs) H := by
  rintro vs H Q E ⟨p, sc, cells, n, rfl, P, hn0, hn, q⟩
  unfold t__law_perm
  walk_at "w"
  refine ⟨RgOk.of_le (by omega) (by omega) (by omega) (by omega), fun w hw => ?_⟩
  rw [rg_nv]
  have s1 : Same _ _ := Same.tnew (o := .lst (nv (List.range n))) hw
  walk_at "w"
  refine ⟨szl (by show 0 ≤ 1000000; decide), fun im him => ?_⟩
  have s2 : Same _ _ := Same.tnew (o := .lst ([] : List V)) him
  have s3 := s1.trans s2
  walk_at "w"
  have hwi : im ≠ w := by rintro rfl; rw [upd_same] at him; cases him
  have him0 := s1.tfr him
  have np : im ≠ p := P.nn him0
  refine fr1 (n := n) rfl (by omega) (fun i σ H' => ∃ lw L pm v4 v5, σ = [some (.ref p), some (.int n), some (.ref lw), some (.ref im), v4, v5] ∧ Xp p H H' ∧ PoolAt K H' p sc cells ∧ H lw = none ∧ lw ≠ im ∧ H' lw = some (.lst (nv L)) ∧ H' im = some (.lst (nv pm)) ∧
    pm.length = i ∧ L.length + i = n ∧ (L ++ pm).Nodup ∧ ∀ x ∈ L ++ pm, x < n) ⟨w, List.range n, [], none, none, rfl, Xt.of s3, P.same s3, hw, Ne.symm hwi, s2 _ _ upd_same, upd_same, rfl, by rw [List.length_range]; rfl, by rw [List.append_nil]; exact List.nodup_range, fun x hx => by rw [List.append_nil] at hx; exact List.mem_range.mp hx⟩ ?_ ?_
  · rintro i σ H1 hi ⟨lw, L, pm, v4, v5, rfl, X1, P1, hlw, hli, hL, hpm, hl1, hl2, hnd, hlt⟩
    walk_at "w"
    refine w_lenL (SqL.of hL) ?_
    rw [nv_len]
    walk_at "w"
    refine ⟨p, sc, cells, L.length, rfl, P1, by omega, by omega, fun r H2 hr X2 P2 => ?_⟩
    have X3 := X1.trans X2
    have nlw : lw ≠ p := P.nn hlw
    have hL2 := X2 _ _ nlw hL
    have hpm2 := X2 _ _ np hpm
    walk_at "w"
    refine ⟨tyL hpm2, ?_⟩
    walk_at "w"
    refine w_ixL (SqL.of hL2) (at_nv hr) ?_
    walk_at "w"
    refine w_app hpm2 (by rw [nv_len]; exact szlt (by omega)) ?_
    have e1 : nv pm ++ [.int (gt L r : Nat)] = nv (pm ++ [gt L r]) := by rw [← nv_app]; rfl
    rw [e1]
    have hL3 : (upd H2 im (.lst (nv (pm ++ [gt L r])))) lw = some (.lst (nv L)) := by rw [upd_ne hli]; exact hL2
    have hp3 : (upd H2 im (.lst (nv (pm ++ [gt L r])))) im = some (.lst (nv (pm ++ [gt L r]))) := upd_same
    have X4 : Xp p H (upd H2 im (.lst (nv (pm ++ [gt L r])))) := X3.mut (.inr him0)
    have V4 : PoolV (upd H2 im (.lst (nv (pm ++ [gt L r])))) p sc := P2.ex.upd np
    generalize (upd H2 im (.lst (nv (pm ++ [gt L r])))) = H3 at hL3 hp3 X4 V4 ⊢
    walk_at "w"
    refine w_slL (SqL.of hL3) fun a ha => ?_
    rw [cut_to]
    have s5 : Same _ _ := Same.tnew (o := .lst ((nv L).take r)) ha
    walk_at "w"
    refine w_slL (SqL.of (s5 _ _ hL3)) fun b hb => ?_
    have s6 : Same _ _ := Same.tnew (o := .lst (cutV (nv L) (some ((r : Int) + 1)) none)) hb
    have hab : b ≠ a := by rintro rfl; rw [upd_same] at hb; cases hb
    refine w_cat (s6 _ _ upd_same) upd_same ?_ fun c hc => ?_
    · have h1 : ((nv L).take r).length ≤ L.length := by rw [List.length_take, nv_len]; omega
      have h2 := cutV_length (nv L) (some ((r : Int) + 1)) none
      rw [nv_len] at h2
      exact szl (by omega)
    have s7 : Same _ _ := Same.tnew (o := .lst ((nv L).take r ++ cutV (nv L) (some ((r : Int) + 1)) none)) hc
    have s8 := (s5.trans s6).trans s7
    have ec : (nv L).take r ++ cutV (nv L) (some ((r : Int) + 1)) none = nv (L.take r ++ L.drop (r + 1)) := by
      have e2 : ((r : Int) + 1) = ((r + 1 : Nat) : Int) := by omega
      rw [e2, cut_from, ← nv_app]
      unfold nv
      rw [List.map_take, List.map_drop]
    have hc0 : H c = none := xp_none X4 (by
      rintro rfl
      obtain ⟨b1, c1, d1, e1', f1, g1, _⟩ := V4
      rw [(s5.trans s6) _ _ g1] at hc
      cases hc) ((s5.trans s6).tfr hc)
    have hci : c ≠ im := by
      rintro rfl
      rw [(s5.trans s6) _ _ hp3] at hc
      cases hc
    have X9 := X4.trans (Xt.of s8)
    have pr := cut_perm (pm := pm) hr
    refine ⟨c, L.take r ++ L.drop (r + 1), pm ++ [gt L r], _, _, rfl, X9, P.to X9 ?_, hc0, hci, ?_, s8 _ _ hp3, by rw [List.length_append, hl1]; rfl, ?_, pr.symm.nodup hnd, fun x hx => hlt x (pr.mem_iff.mp hx)⟩
    · obtain ⟨b1, c1, d1, e1', f1, g1, g2⟩ := V4
      exact ⟨b1, c1, d1, e1', f1, s8 _ _ g1, g2⟩
    · rw [upd_same, ec]
    · rw [List.length_append, List.length_take, List.length_drop]
      omega
  · rintro σ H1 ⟨lw, L, pm, v4, v5, rfl, X1, P1, hlw, hli, hL, hpm, hl1, hl2, hnd, hlt⟩
    walk_at "w"
    exact q pm im H1 hl1 (List.nodup_append.mp hnd).2.1 (fun x hx => hlt x (List.mem_append_right _ hx)) X1 P1 him0 hpm

theorem ok__law_perm {P : Program} {w : World} {K : PySem.W.Frag} {mg : Str → Option Value} {base : Heap} (F : FnP K mg "_law_perm" s__law_perm) (T : Tx K mg) (c__law_draw : Ok P w K mg base "_law_draw" 1 ps__law_draw (sp__law_draw K)) :
    Ok P w K mg base "_law_perm" 2 ps__law_perm (sp__law_perm K) :=
  ok_of (t := t__law_perm K) F sc__law_perm (len__law_perm) (fun _ _ _ _ _ _ us hl => match us, hl with | [_, _], _ => rfl)
    (fun f cdv A outer s H E hr => by
      have hu := hu_of hr
      have hu65 := u65 hr
      exact (pss_cons (ps_set (i := 2) sc__law_perm.nd rfl (Or.inl rfl) (pe_list_rg (prg_1 rfl T.b_range (pv 1)) rfl T.b_list))
      (pss_cons (ps_set (i := 3) sc__law_perm.nd rfl (Or.inl rfl) (pe_lst pa_nil))
      (pss_cons (ps_for PassesOwn.never rfl (pi_range1 rfl T.b_range (pa_cons (pv 1) pa_nil)) (pg_name (i := 4) sc__law_perm.nd rfl (Or.inl rfl)) (pss_cons (ps_set (i := 5) sc__law_perm.nd rfl (Or.inl rfl) (pe_callO c__law_draw hr (pa_cons (pv 0) (pa_cons (pe_callB call_len rfl T.b_len PySem.boot_len (pa_cons (pv 2) pa_nil)) pa_nil))))
      (pss_cons (ps_expr (pe_bm PySem.F.plainAttrs_list PySem.F.slot_list_append PySem.F.type_list_append mt_append (pv 3) (pa_cons (pe_ix ix_list (pv 2) (pv 5) (fun _ _ => rfl)) pa_nil)))
      (pss_one (ps_set (i := 2) sc__law_perm.nd rfl (Or.inl rfl) (pe_op op_cat (pe_slice sl_list (pv 2) po_none (po_some (pv 5))) (pe_slice sl_list (pv 2) (po_some (pe_op op_add (pv 5) pe_int)) po_none)))))))
      (pss_one (ps_ret (pv 3)))))))
    (wp__law_perm T)

abbrev s__law_map : Stmt := top 46
abbrev N__law_map : List Str := ["pool", "many", "one", "met", "step", "x", "free", "others", "y", "p", "turns"]
abbrev ps__law_map : List Str := ["pool", "many"]
theorem sc__law_map : FnScope N__law_map ps__law_map (defScope s__law_map) := ⟨rfl, rfl, rfl, by decide +kernel, rfl, by decide +kernel, by decide +kernel⟩
def t__law_map (K : PySem.W.Frag) : TS :=
    (tSeq (tAsg (tOp rRep (tLst (tCons (tUn rNegI (tC (.int 1))) tNil)) (tOp rMulI (tC (.int 4)) (tVar 1))) (gName 2))
    (tSeq (tAsg (tC (.int 1)) (gName 3))
    (tSeq (tFor (iRng1 (tCons (tOp rMulI (tC (.int 2)) (tVar 1)) tNil)) (gName 4) (tSeq (tAsg (tLc (iRng1 (tCons (tOp rMulI (tC (.int 4)) (tVar 3)) tNil)) (gName 5) (tTest (tOp rLtI (tOp (rIxL K) (tVar 2) (tVar 5)) (tC (.int 0)))) (tVar 5) [5]) (gName 6))
    (tSeq (tAsg (tSl (rSlL K) (tVar 6) (tPart (tC (.int 1))) tNoPart) (gName 7))
    (tSeq (tIfS (tAnd (tTest (tOp rLtI (tVar 3) (tVar 1))) (tTest (tOp rEq (tCB (rLenV K) (tCons (tVar 6) tNil)) (tC (.int 2))))) (tAsg (tLst (tCons (tOp rMulI (tC (.int 4)) (tVar 3)) tNil)) (gName 7)) (tIfS (tTest (tOp rLtI (tVar 3) (tVar 1))) (tAsg (tOp rCat (tVar 7) (tLst (tCons (tOp rMulI (tC (.int 4)) (tVar 3)) tNil))) (gName 7)) tNext))
    (tSeq (tAsg (tOp (rIxL K) (tVar 7) (tCall (sp__law_draw K) [] E0 (tCons (tVar 0) (tCons (tCB (rLenV K) (tCons (tVar 7) tNil)) tNil)))) (gName 8))
    (tSeq (tAsg (tVar 8) (gSub (tVar 2) (tOp (rIxL K) (tVar 6) (tC (.int 0))) rSetL))
    (tSeq (tAsg (tOp (rIxL K) (tVar 6) (tC (.int 0))) (gSub (tVar 2) (tVar 8) rSetL))
    (tAsg (tCB rMax2 (tCons (tVar 3) (tCons (tOp rAddI (tOp rDivI (tVar 8) (tC (.int 4))) (tC (.int 1))) tNil))) (gName 3)))))))))
    (tSeq (tAsg (tCall (sp__law_perm K) [] E0 (tCons (tVar 0) (tCons (tOp rMulI (tC (.int 4)) (tVar 1)) tNil))) (gName 9))
    (tSeq (tAsg (tLst (tCons (tOp rRep (tLst (tCons (tC (.int 0)) tNil)) (tOp rMulI (tC (.int 4)) (tVar 1))) (tCons (tOp rRep (tLst (tCons (tC (.int 0)) tNil)) (tOp rMulI (tC (.int 4)) (tVar 1))) (tCons (tOp rRep (tLst (tCons (tC (.int 0)) tNil)) (tOp rMulI (tC (.int 4)) (tVar 1))) tNil)))) (gName 10))
    (tSeq (tFor (iRng1 (tCons (tOp rMulI (tC (.int 4)) (tVar 1)) tNil)) (gName 5) (tSeq (tAsg (tOp (rIxL K) (tVar 9) (tOp rXorI (tVar 5) (tC (.int 1)))) (gSub (tOp (rIxL K) (tVar 10) (tC (.int 0))) (tOp (rIxL K) (tVar 9) (tVar 5)) rSetL))
    (tSeq (tAsg (tOp (rIxL K) (tVar 9) (tOp (rIxL K) (tVar 2) (tVar 5))) (gSub (tOp (rIxL K) (tVar 10) (tC (.int 1))) (tOp (rIxL K) (tVar 9) (tVar 5)) rSetL))
    (tAsg (tOp (rIxL K) (tVar 9) (tOp rXorI (tVar 5) (tC (.int 2)))) (gSub (tOp (rIxL K) (tVar 10) (tC (.int 2))) (tOp (rIxL K) (tVar 9) (tVar 5)) rSetL)))))
    (tRet (tVar 10))))))))
def sp__law_map (K : PySem.W.Frag) : Sp := fun vs H Q _ => ∃ (p sc : Addr) (cells : List Int) (m : Nat), vs = [.ref p, .int m] ∧ PoolAt K H p sc cells ∧ 1 ≤ m ∧ m ≤ 5 ∧
  ∀ z o t D H', MapT (4 * m) z o t → Xp p H H' → PoolAt K H' p sc cells → Tbl K H' D [z, o, t] → Q (.ref D) H'
theorem len__law_map {K : PySem.W.Frag} : ∀ vs H Q E, sp__law_map K vs H Q E → vs.length = ps__law_map.length := by
  rintro vs H Q E ⟨p, sc, cells, m, rfl, _⟩
  rfl
theorem pk_nv {n : Nat} {b : Nat → Bool} : picked n b (fun i => .int (i : Nat)) = nv ((List.range n).filter b) := rfl
theorem fv_w {n x y : Nat} {w : Nat → Int} (hx : x < n) (hy : y < n) (hxy : x ≠ y) : ((fv n fun i => .int (w i)).set x (.int (y : Nat))).set y (.int (x : Nat)) = fv n fun i => .int (wput w x y i) := by
  rw [fv_set hx, fv_set hy]
  refine fv_congr fun i _ => ?_
  unfold wput
  by_cases h1 : i = x
  · subst h1
    simp [hxy]
  · by_cases h2 : i = y
    · simp [h2]
      intro h3
      exact absurd h3.symm hxy
    · simp [h1, h2]
theorem wp__law_map {K : PySem.W.Frag} {mg : Str → Option Value} (T : Tx K mg) : ∀ vs H Q E, sp__law_map K vs H Q E → t__law_map K { nx := fun _ H' => Q .non H', rt := Q } (start N__law_map vs) H := by
  rintro vs H Q E ⟨p, sc, cells, m, rfl, P, hm1, hm, q⟩
  unfold t__law_map
  walk_at "w"
  refine ⟨szl (by show 1 ≤ 1000000; decide), fun a0 ha0 => ?_⟩
  have s0 : Same _ _ := Same.tnew (o := .lst [V.int (-1)]) ha0
  walk_at "w"
  refine w_iC (.inl ⟨by decide, by decide⟩) ?_
  refine w_rep1 (n := 4 * m) (by omega) (by omega) upd_same fun D1 hD1 => ?_
  have s1 : Same _ _ := Same.tnew (o := .lst (fv (4 * m) (fun _ => V.int (-1)))) hD1
  have s2 := s0.trans s1
  have hD0 := s0.tfr hD1
  have nD : D1 ≠ p := P.nn hD0
  walk_at "w"
  refine w_iC (.inl ⟨by decide, by decide⟩) ?_
  walk_at "w"
  refine fr1 (n := 2 * m) (by omega) (by omega) (fun k σ H' => ∃ met w v4 v5 v6 v7 v8, σ = [some (.ref p), some (.int m), some (.ref D1), some (.int (met : Nat)), v4, v5, v6, v7, v8, none, none] ∧ Xp p H H' ∧ PoolAt K H' p sc cells ∧ H' D1 = some (.lst (fv (4 * m) fun i => .int (w i))) ∧ OInv m met k w)
    ⟨1, fun _ => -1, none, none, none, none, none, rfl, Xt.of s2, P.same s2, upd_same, OInv.start hm1⟩ ?_ ?_
  · rintro k σ H1 hk ⟨met, w, v4, v5, v6, v7, v8, rfl, X1, P1, hone, I⟩
    have i1 := I.one
    have i2 := I.le
    have hcount := I.count
    have c2 : 2 ≤ cnt (4 * met) (fun x => decide (w x < 0)) := by
      rcases I.big with e | e
      · omega
      · exact e
    walk_at "w"
    refine w_iC (.inl ⟨by decide, by decide⟩) ?_
    walk_at "w"
    refine cr1 (n := 4 * met) (by omega) (by omega) (fun x => decide (w x < 0)) (fun i => .int (i : Nat)) (fun _ => rfl) (fun i H' R hi s k => ?_) (fun i H' R hi _ s k => ?_) fun fa H2 hfa s3 hfree => ?_
    · walk_at "w"
      refine w_ixL (SqL.of (s _ _ hone)) (at_fv (by omega)) ?_
      walk_at "w"
      exact k H' (Same.refl H')
    · walk_at "w"
      exact k H' (Same.refl H')
    rw [pk_nv] at hfree
    have hFl : ((List.range (4 * met)).filter fun x => decide (w x < 0)).length = cnt (4 * met) (fun x => decide (w x < 0)) := filt_cnt
    have hFm : ∀ x ∈ ((List.range (4 * met)).filter fun x => decide (w x < 0)), x < 4 * met ∧ w x < 0 := fun x hx => by
      obtain ⟨a, b⟩ := List.mem_filter.mp hx
      exact ⟨List.mem_range.mp a, of_decide_eq_true b⟩
    have hFn : ((List.range (4 * met)).filter fun x => decide (w x < 0)).Nodup := List.nodup_range.filter _
    generalize ((List.range (4 * met)).filter fun x => decide (w x < 0)) = FL at hfree hFl hFm hFn
    obtain ⟨x0, FR, rfl⟩ : ∃ x0 FR, FL = x0 :: FR := by
      cases FL with
      | nil => rw [List.length_nil] at hFl; omega
      | cons a r => exact ⟨a, r, rfl⟩
    obtain ⟨n1, n2⟩ := List.nodup_cons.mp hFn
    obtain ⟨x1, x2⟩ := hFm x0 List.mem_cons_self
    have hone2 := s3 _ _ hone
    have X2 := X1.trans (Xt.of s3)
    have P2 := P1.same s3
    have nfa : fa ≠ p := P1.nn hfa
    have nfD : fa ≠ D1 := by rintro rfl; rw [hone] at hfa; cases hfa
    rw [List.length_cons] at hFl
    walk_at "w"
    refine w_slL (SqL.of hfree) fun oa hoa => ?_
    rw [show (some (1 : Int)) = some ((1 : Nat) : Int) from rfl, cut_from]
    have er : (nv (x0 :: FR)).drop 1 = nv FR := rfl
    rw [er]
    have s4 : Same _ _ := Same.tnew (o := .lst (nv FR)) hoa
    refine w_gn ?_
    with_reducible refine w_seqG fun J hJ => ?_
    have cont : ∀ (oa : Addr) (OL : List Nat) (H3 : Hp), Same H2 H3 → H2 oa = none → H3 oa = some (.lst (nv OL)) → OL.length ≤ 100 → OL ≠ [] →
        (∀ y ∈ OL, (y < 4 * met ∧ w y < 0 ∧ x0 ≠ y ∧ (met < m → cnt (4 * met) (fun x => decide (w x < 0)) ≠ 2)) ∨ (met < m ∧ y = 4 * met)) →
        J [some (.ref p), some (.int m), some (.ref D1), some (.int (met : Nat)), some (.int (k : Nat)), v5, some (.ref fa), some (.ref oa), v8, none, none] H3 := by
      intro oa OL H3 s5 hoa3 ho3 hol hne hy
      refine hJ _ _ ?_
      have noa : oa ≠ p := P2.nn hoa3
      have hlp : 0 < OL.length := List.length_pos_iff.mpr hne
      walk_at "w"
      refine w_lenL (SqL.of ho3) ?_
      rw [nv_len]
      walk_at "w"
      refine ⟨p, sc, cells, OL.length, rfl, P2.same s5, hlp, by omega, fun r H4 hr X4 P4 => ?_⟩
      have ho4 := X4 _ _ noa ho3
      have hf4 := X4 _ _ nfa (s5 _ _ hfree)
      have hn4 := X4 _ _ nD (s5 _ _ hone2)
      have X5 := (X2.trans (Xt.of s5)).trans X4
      refine w_ixL (SqL.of ho4) (at_nv hr) ?_
      have hyr := hy _ (List.mem_of_getElem? (gt_some hr))
      generalize gt OL r = y at hyr
      have hym : y < 4 * m := by
        rcases hyr with h | h <;> omega
      have hxy : x0 ≠ y := by
        rcases hyr with h | h
        · exact h.2.2.1
        · omega
      walk_at "w"
      refine w_ixL (SqL.of hf4) (at0 rfl) ?_
      refine w_setL (k := x0) hn4 (ix_nat (by rw [fv_len]; omega)) ?_
      have hf5 : (upd H4 D1 (.lst ((fv (4 * m) fun i => .int (w i)).set x0 (.int (y : Nat))))) fa = some (.lst (nv (x0 :: FR))) := by rw [upd_ne nfD]; exact hf4
      have V5 : PoolV (upd H4 D1 (.lst ((fv (4 * m) fun i => .int (w i)).set x0 (.int (y : Nat))))) p sc := P4.ex.upd nD
      have X6 : Xp p H (upd H4 D1 (.lst ((fv (4 * m) fun i => .int (w i)).set x0 (.int (y : Nat))))) := X5.mut (.inr hD0)
      walk_at "w"
      refine w_ixL (SqL.of hf5) (at0 rfl) ?_
      walk_at "w"
      refine w_setL (k := y) upd_same (ix_nat (by rw [List.length_set, fv_len]; exact hym)) ?_
      have e7 := fv_w (n := 4 * m) (w := w) (by omega : x0 < 4 * m) hym hxy
      rw [e7]
      have V7 : PoolV (upd (upd H4 D1 (.lst ((fv (4 * m) fun i => .int (w i)).set x0 (.int (y : Nat))))) D1 (.lst (fv (4 * m) fun i => .int (wput w x0 y i)))) p sc := V5.upd nD
      have X7 : Xp p H (upd (upd H4 D1 (.lst ((fv (4 * m) fun i => .int (w i)).set x0 (.int (y : Nat))))) D1 (.lst (fv (4 * m) fun i => .int (wput w x0 y i)))) := X6.mut (.inr hD0)
      have h7 : (upd (upd H4 D1 (.lst ((fv (4 * m) fun i => .int (w i)).set x0 (.int (y : Nat))))) D1 (.lst (fv (4 * m) fun i => .int (wput w x0 y i)))) D1 = some (.lst (fv (4 * m) fun i => .int (wput w x0 y i))) := upd_same
      generalize (upd (upd H4 D1 (.lst ((fv (4 * m) fun i => .int (w i)).set x0 (.int (y : Nat))))) D1 (.lst (fv (4 * m) fun i => .int (wput w x0 y i)))) = H7 at V7 X7 h7 ⊢
      walk_at "w"
      refine w_iC ⟨by decide, by decide⟩ ?_
      walk_at "w"
      refine ⟨max met (y / 4 + 1), wput w x0 y, some (.int (k : Nat)), v5, some (.ref fa), some (.ref oa), some (.int (y : Nat)), ?_, X7, P.to X7 V7, h7, I.step hk x1 x2 hyr⟩
      have em : (if (y : Int) / 4 + 1 > (met : Int) then (y : Int) / 4 + 1 else (met : Int)) = ((max met (y / 4 + 1) : Nat) : Int) := by
        split <;> omega
      rw [em]
      rfl
    have hoF : ∀ y ∈ FR, y < 4 * met ∧ w y < 0 ∧ x0 ≠ y := fun y hy => by
      obtain ⟨a, b⟩ := hFm y (List.mem_cons_of_mem _ hy)
      exact ⟨a, b, fun e => n1 (e ▸ hy)⟩
    have hFR : FR.length ≤ 20 := by
      have : cnt (4 * met) (fun x => decide (w x < 0)) ≤ 4 * met := by omega
      omega
    walk_at "w"
    refine w_d2 (fun hlt => ?_) (fun hlt => ?_)
    · have hlt' : met < m := by omega
      walk_at "w"
      refine w_lenL (SqL.of (s4 _ _ hfree)) ?_
      rw [nv_len, List.length_cons]
      walk_at "w"
      refine w_d2 (fun h2 => ?_) (fun h2 => ?_)
      · walk_at "w"
        refine w_iC (.inl ⟨by decide, by decide⟩) ?_
        walk_at "w"
        refine ⟨szl (by show 1 ≤ 1000000; decide), fun ob hob => ?_⟩
        walk_at "w"
        have e4 : (4 : Int) * (met : Int) = ((4 * met : Nat) : Int) := by omega
        rw [e4]
        exact cont ob [4 * met] _ (s4.trans (Same.tnew hob)) (s4.tfr hob) upd_same (by show 1 ≤ 100; decide) (by simp) fun y hy => .inr ⟨hlt', List.mem_singleton.mp hy⟩
      · walk_at "w"
        refine w_dT hlt ?_
        walk_at "w"
        refine w_iC (.inl ⟨by decide, by decide⟩) ?_
        walk_at "w"
        refine ⟨szl (by show 1 ≤ 1000000; decide), fun ob hob => ?_⟩
        have s5 : Same _ _ := Same.tnew (o := .lst [V.int ((4 : Int) * (met : Int))]) hob
        refine w_cat (s5 _ _ upd_same) upd_same (by rw [nv_len]; exact szl (by show _ + 1 ≤ _; omega)) fun oc hoc => ?_
        walk_at "w"
        have e4 : nv FR ++ [.int ((4 : Int) * (met : Int))] = nv (FR ++ [4 * met]) := by
          rw [← nv_app]
          have : (4 : Int) * (met : Int) = ((4 * met : Nat) : Int) := by omega
          rw [this]
          rfl
        have s6 := s4.trans s5
        refine cont oc (FR ++ [4 * met]) _ (s6.trans (Same.tnew hoc)) (s6.tfr hoc) (by rw [upd_same, e4]) (by rw [List.length_append]; show _ + 1 ≤ _; omega) (by simp) fun y hy => ?_
        rcases List.mem_append.mp hy with z | z
        · obtain ⟨a, b, c⟩ := hoF y z
          exact .inl ⟨a, b, c, fun _ => by omega⟩
        · exact .inr ⟨hlt', List.mem_singleton.mp z⟩
    · walk_at "w"
      refine w_dF hlt ?_
      walk_at "w"
      refine cont oa FR _ s4 hoa upd_same (by omega) (fun z => by rw [z] at hFl; simp at hFl; omega) fun y hy => ?_
      obtain ⟨a, b, c⟩ := hoF y hy
      exact .inl ⟨a, b, c, fun z => by omega⟩
  · rintro σ H1 ⟨met, w, v4, v5, v6, v7, v8, rfl, X1, P1, hone, I⟩
    obtain ⟨M0, hw⟩ := I.map hm
    walk_at "w"
    refine w_iC (.inl ⟨by decide, by decide⟩) ?_
    walk_at "w"
    refine ⟨p, sc, cells, 4 * m, by rw [show ((4 * m : Nat) : Int) = 4 * (m : Int) by omega]; rfl, P1, by omega, by omega, fun pm pl H2 e1 e2 e3 X2 P2 hpl hpm => ?_⟩
    have R : Prm (4 * m) pm := ⟨e1, e2, e3⟩
    have X3 := X1.trans X2
    have hone2 := X2 _ _ nD hone
    walk_at "w"
    refine ⟨szl (by show 1 ≤ 1000000; decide), fun b0 hb0 => ?_⟩
    have t0 : Same _ _ := Same.tnew (o := .lst [V.int 0]) hb0
    walk_at "w"
    refine w_iC (.inl ⟨by decide, by decide⟩) ?_
    refine w_rep1 (n := 4 * m) (by omega) (by omega) upd_same fun r0 hr0 => ?_
    have t1 : Same _ _ := Same.tnew (o := .lst (fv (4 * m) (fun _ => V.int 0))) hr0
    have g1 : (upd (upd H2 b0 (.lst [V.int 0])) r0 (.lst (fv (4 * m) (fun _ => V.int 0)))) r0 = some (.lst (fv (4 * m) (fun _ => V.int 0))) := upd_same
    have f1 : H2 r0 = none := t0.tfr hr0
    have k1 := t0.trans t1
    generalize (upd (upd H2 b0 (.lst [V.int 0])) r0 (.lst (fv (4 * m) (fun _ => V.int 0)))) = H3 at k1 g1 ⊢
    walk_at "w"
    refine ⟨szl (by show 1 ≤ 1000000; decide), fun b1 hb1 => ?_⟩
    have t2 : Same _ _ := Same.tnew (o := .lst [V.int 0]) hb1
    walk_at "w"
    refine w_iC (.inl ⟨by decide, by decide⟩) ?_
    refine w_rep1 (n := 4 * m) (by omega) (by omega) upd_same fun r1 hr1 => ?_
    have t3 : Same _ _ := Same.tnew (o := .lst (fv (4 * m) (fun _ => V.int 0))) hr1
    have g2 : (upd (upd H3 b1 (.lst [V.int 0])) r1 (.lst (fv (4 * m) (fun _ => V.int 0)))) r1 = some (.lst (fv (4 * m) (fun _ => V.int 0))) := upd_same
    have f2 : H3 r1 = none := t2.tfr hr1
    have k2 := t2.trans t3
    generalize (upd (upd H3 b1 (.lst [V.int 0])) r1 (.lst (fv (4 * m) (fun _ => V.int 0)))) = H4 at k2 g2 ⊢
    walk_at "w"
    refine ⟨szl (by show 1 ≤ 1000000; decide), fun b2 hb2 => ?_⟩
    have t4 : Same _ _ := Same.tnew (o := .lst [V.int 0]) hb2
    walk_at "w"
    refine w_iC (.inl ⟨by decide, by decide⟩) ?_
    refine w_rep1 (n := 4 * m) (by omega) (by omega) upd_same fun r2 hr2 => ?_
    have t5 : Same _ _ := Same.tnew (o := .lst (fv (4 * m) (fun _ => V.int 0))) hr2
    have g3 : (upd (upd H4 b2 (.lst [V.int 0])) r2 (.lst (fv (4 * m) (fun _ => V.int 0)))) r2 = some (.lst (fv (4 * m) (fun _ => V.int 0))) := upd_same
    have f3 : H4 r2 = none := t4.tfr hr2
    have k3 := t4.trans t5
    generalize (upd (upd H4 b2 (.lst [V.int 0])) r2 (.lst (fv (4 * m) (fun _ => V.int 0)))) = H5 at k3 g3 ⊢
    walk_at "w"
    refine ⟨szl (by show 3 ≤ 1000000; decide), fun D hD => ?_⟩
    have W := rws3 f1 k1 g1 f2 k2 g2 f3 k3 g3 hD
    generalize (upd H5 D (.lst [.ref r0, .ref r1, .ref r2])) = H6 at W ⊢
    have W0 : Rws H2 H6 D [r0, r1, r2] 3 (4 * m) (fun a b => .int (((fun _ _ => 0) : Nat → Nat → Nat) a b : Nat)) := W.congr fun _ _ _ _ => rfl
    walk_at "w"
    refine w_iC (.inl ⟨by decide, by decide⟩) ?_
    walk_at "w"
    refine fr1 (n := 4 * m) (by omega) (by omega) (fun i σ H' => ∃ v5 Z, σ = [some (.ref p), some (.int m), some (.ref D1), some (.int (met : Nat)), v4, v5, v6, v7, v8, some (.ref pl), some (.ref D)] ∧ Rws H2 H' D [r0, r1, r2] 3 (4 * m) (fun a b => .int (Z a b : Nat)) ∧
      ∀ x, x < i → Z 0 (gt pm x) = gt pm (x ^^^ 1) ∧ Z 1 (gt pm x) = gt pm (gt (wl (4 * m) w) x) ∧ Z 2 (gt pm x) = gt pm (x ^^^ 2)) ⟨_, fun _ _ => 0, rfl, W0, fun x hx => absurd hx (Nat.not_lt_zero x)⟩ ?_ ?_
    · rintro x σ H7 hx ⟨u5, Z, rfl, W1, hZ⟩
      have hz := M0.hz.bd x hx
      have ho := M0.ho.bd x hx
      have ht := M0.ht.bd x hx
      rw [show gt (xz (4 * m) 1) x = x ^^^ 1 from gt_map hx] at hz
      rw [show gt (xz (4 * m) 2) x = x ^^^ 2 from gt_map hx] at ht
      have hxx := R.lt hx
      have pmL : ∀ {H'}, Same H2 H' → SqL K H' pl (nv pm) := fun s => SqL.of (s _ _ hpm)
      have oneL : ∀ {H'}, Same H2 H' → SqL K H' D1 (fv (4 * m) fun i => .int (w i)) := fun s => SqL.of (s _ _ hone2)
      walk_at "w"
      rw [xor_int1 x (by omega)]
      refine w_ixL (pmL W1.sm) (at_nv (by rw [R.len]; exact hz)) ?_
      obtain ⟨q0, a1, a2, a3, a4, a5⟩ := W1.get (i := 0) (by decide)
      walk_at "w"
      refine w_ixL (SqL.of W1.at_) a2 ?_
      walk_at "w"
      refine w_ixL (pmL W1.sm) (at_nv (by rw [R.len]; exact hx)) ?_
      refine w_setL (k := gt pm x) a3 (ix_nat (by rw [fv_len]; exact hxx)) ?_
      have W2 := W1.set (v := .int (gt pm (x ^^^ 1) : Nat)) a1 hxx
      generalize (upd H7 q0 (.lst ((fv (4 * m) fun b => V.int (Z 0 b : Nat)).set (gt pm x) (.int (gt pm (x ^^^ 1) : Nat))))) = H8 at W2 ⊢
      walk_at "w"
      refine w_ixL (oneL W2.sm) (at_fv hx) ?_
      rw [hw x hx]
      refine w_ixL (pmL W2.sm) (at_nv (by rw [R.len]; exact ho)) ?_
      obtain ⟨q1, b1', b2', b3, b4, b5⟩ := W2.get (i := 1) (by decide)
      walk_at "w"
      refine w_ixL (SqL.of W2.at_) b2' ?_
      walk_at "w"
      refine w_ixL (pmL W2.sm) (at_nv (by rw [R.len]; exact hx)) ?_
      refine w_setL (k := gt pm x) b3 (ix_nat (by rw [fv_len]; exact hxx)) ?_
      have W3 := W2.set (v := .int (gt pm (gt (wl (4 * m) w) x) : Nat)) b1' hxx
      generalize (upd H8 q1 _) = H9 at W3 ⊢
      walk_at "w"
      rw [xor_int2 x (by omega)]
      refine w_ixL (pmL W3.sm) (at_nv (by rw [R.len]; exact ht)) ?_
      obtain ⟨q2, c1, c2, c3, c4, c5⟩ := W3.get (i := 2) (by decide)
      walk_at "w"
      refine w_ixL (SqL.of W3.at_) c2 ?_
      walk_at "w"
      refine w_ixL (pmL W3.sm) (at_nv (by rw [R.len]; exact hx)) ?_
      refine w_setL (k := gt pm x) c3 (ix_nat (by rw [fv_len]; exact hxx)) ?_
      have W4 := W3.set (v := .int (gt pm (x ^^^ 2) : Nat)) c1 hxx
      refine ⟨_, fun a b => if a = 2 ∧ b = gt pm x then gt pm (x ^^^ 2) else if a = 1 ∧ b = gt pm x then gt pm (gt (wl (4 * m) w) x) else if a = 0 ∧ b = gt pm x then gt pm (x ^^^ 1) else Z a b, rfl, W4.congr fun a b _ _ => ?_, fun y hy => ?_⟩
      · show (if a = 2 ∧ b = gt pm x then _ else if a = 1 ∧ b = gt pm x then _ else if a = 0 ∧ b = gt pm x then _ else _) = V.int ((if a = 2 ∧ b = gt pm x then _ else if a = 1 ∧ b = gt pm x then _ else if a = 0 ∧ b = gt pm x then _ else Z a b : Nat) : Int)
        repeat' split
        all_goals rfl
      · by_cases e : y = x
        · subst e
          simp
        · have hne : ¬ gt pm y = gt pm x := fun z => e (R.inj (by omega) hx z)
          have := hZ y (by omega)
          simp only [hne, and_false, if_false]
          exact this
    · rintro σ H7 ⟨u5, Z, rfl, W1, hZ⟩
      walk_at "w"
      have Cj0 : ∀ k f, (∀ x, x < 4 * m → Z k (gt pm x) = gt pm (gt f x)) → Cj (4 * m) pm f ((List.range (4 * m)).map (Z k)) := fun k f h => ⟨len_map, fun x hx => by rw [gt_map (R.lt hx)]; exact h x hx⟩
      have MM := Cj.map R M0 (Cj0 0 _ fun x hx => by rw [(hZ x hx).1, show gt (xz (4 * m) 1) x = x ^^^ 1 from gt_map hx]) (Cj0 1 _ fun x hx => (hZ x hx).2.1) (Cj0 2 _ fun x hx => by rw [(hZ x hx).2.2, show gt (xz (4 * m) 2) x = x ^^^ 2 from gt_map hx])
      have X9 := X3.trans (Xt.of W1.sm)
      exact q _ _ _ D H7 MM X9 (P2.same W1.sm) W1.tbl

theorem ok__law_map {P : Program} {w : World} {K : PySem.W.Frag} {mg : Str → Option Value} {base : Heap} (F : FnP K mg "_law_map" s__law_map) (T : Tx K mg) (c__law_draw : Ok P w K mg base "_law_draw" 1 ps__law_draw (sp__law_draw K)) (c__law_perm : Ok P w K mg base "_law_perm" 2 ps__law_perm (sp__law_perm K)) :
    Ok P w K mg base "_law_map" 3 ps__law_map (sp__law_map K) :=
  ok_of (t := t__law_map K) F sc__law_map (len__law_map) (fun _ _ _ _ _ _ us hl => match us, hl with | [_, _], _ => rfl)
    (fun f cdv A outer s H E hr => by
      have hu := hu_of hr
      have hu65 := u65 hr
      exact (pss_cons (ps_set (i := 2) sc__law_map.nd rfl (Or.inr rfl) (pe_op op_rep (pe_lst (pa_cons (pe_un un_neg pe_int) pa_nil)) (pe_op op_mul pe_int (pv 1))))
      (pss_cons (ps_set (i := 3) sc__law_map.nd rfl (Or.inl rfl) pe_int)
      (pss_cons (ps_for PassesOwn.never rfl (pi_range1 rfl T.b_range (pa_cons (pe_op op_mul pe_int (pv 1)) pa_nil)) (pg_name (i := 4) sc__law_map.nd rfl (Or.inl rfl)) (pss_cons (ps_setLc (i := 6) (own := [("x", 5)]) rfl sc__law_map.nd rfl rfl (sw_true rfl rfl rfl (by decide +kernel)) (pi_range1 rfl T.b_range (pa_cons (pe_op op_mul pe_int (pv 3)) pa_nil)) (blkOk_by (own := [("x", 5)]) (N := N__law_map) (sc := defScope s__law_map) (by decide +kernel)) (fun _ _ _ _ _ => (pg_name (i := 5) sc__law_map.nd rfl (Or.inl rfl))) (fun _ _ _ _ _ => (pts_one (pt_cmpR op_lt (pe_ix ix_list (pv 2) (pv 5) (fun _ _ => rfl)) pe_int (nomark _)))) (fun _ _ _ _ _ => (pv 5)))
      (pss_cons (ps_set (i := 7) sc__law_map.nd rfl (Or.inl rfl) (pe_slice sl_list (pv 6) (po_some pe_int) po_none))
      (pss_cons (ps_if (PW.pt (pw_and (pt_cmpR op_lt (pv 3) (pv 1) (nomark _)) (pw_and1 (pt_cmpR op_eq (pe_callB call_len rfl T.b_len PySem.boot_len (pa_cons (pv 6) pa_nil)) pe_int (nomark _))))) (pss_one (ps_set (i := 7) sc__law_map.nd rfl (Or.inl rfl) (pe_lst (pa_cons (pe_op op_mul pe_int (pv 3)) pa_nil)))) (pss_one (ps_if (pt_cmpR op_lt (pv 3) (pv 1) (nomark _)) (pss_one (ps_set (i := 7) sc__law_map.nd rfl (Or.inl rfl) (pe_op op_cat (pv 7) (pe_lst (pa_cons (pe_op op_mul pe_int (pv 3)) pa_nil))))) pss_nil)))
      (pss_cons (ps_set (i := 8) sc__law_map.nd rfl (Or.inl rfl) (pe_ix ix_list (pv 7) (pe_callO c__law_draw hr (pa_cons (pv 0) (pa_cons (pe_callB call_len rfl T.b_len PySem.boot_len (pa_cons (pv 7) pa_nil)) pa_nil))) (fun _ _ => rfl)))
      (pss_cons (ps_asg (pv 8) (pg_sub (pv 2) (pe_ix ix_list (pv 6) pe_int (fun _ _ => rfl)) set_list))
      (pss_cons (ps_asg (pe_ix ix_list (pv 6) pe_int (fun _ _ => rfl)) (pg_sub (pv 2) (pv 8) set_list))
      (pss_one (ps_set (i := 3) sc__law_map.nd rfl (Or.inl rfl) (pe_callB (call_max2 rfl) rfl T.b_max (by decide +kernel) (pa_cons (pv 3) (pa_cons (pe_op op_add (pe_op op_fdiv (pv 8) pe_int) pe_int) pa_nil))))))))))))
      (pss_cons (ps_set (i := 9) sc__law_map.nd rfl (Or.inl rfl) (pe_callO c__law_perm hr (pa_cons (pv 0) (pa_cons (pe_op op_mul pe_int (pv 1)) pa_nil))))
      (pss_cons (ps_set (i := 10) sc__law_map.nd rfl (Or.inl rfl) (pe_lst (pa_cons (pe_op op_rep (pe_lst (pa_cons pe_int pa_nil)) (pe_op op_mul pe_int (pv 1))) (pa_cons (pe_op op_rep (pe_lst (pa_cons pe_int pa_nil)) (pe_op op_mul pe_int (pv 1))) (pa_cons (pe_op op_rep (pe_lst (pa_cons pe_int pa_nil)) (pe_op op_mul pe_int (pv 1))) pa_nil)))))
      (pss_cons (ps_for PassesOwn.never rfl (pi_range1 rfl T.b_range (pa_cons (pe_op op_mul pe_int (pv 1)) pa_nil)) (pg_name (i := 5) sc__law_map.nd rfl (Or.inl rfl)) (pss_cons (ps_asg (pe_ix ix_list (pv 9) (pe_op op_xor (pv 5) pe_int) (fun _ _ => rfl)) (pg_sub (pe_ix ix_list (pv 10) pe_int (fun _ _ => rfl)) (pe_ix ix_list (pv 9) (pv 5) (fun _ _ => rfl)) set_list))
      (pss_cons (ps_asg (pe_ix ix_list (pv 9) (pe_ix ix_list (pv 2) (pv 5) (fun _ _ => rfl)) (fun _ _ => rfl)) (pg_sub (pe_ix ix_list (pv 10) pe_int (fun _ _ => rfl)) (pe_ix ix_list (pv 9) (pv 5) (fun _ _ => rfl)) set_list))
      (pss_one (ps_asg (pe_ix ix_list (pv 9) (pe_op op_xor (pv 5) pe_int) (fun _ _ => rfl)) (pg_sub (pe_ix ix_list (pv 10) pe_int (fun _ _ => rfl)) (pe_ix ix_list (pv 9) (pv 5) (fun _ _ => rfl)) set_list))))))
      (pss_one (ps_ret (pv 10))))))))))
    (wp__law_map T)

abbrev s__law_edges : Stmt := top 47
abbrev N__law_edges : List Str := ["turns", "numbers", "x", "count", "y", "z"]
abbrev ps__law_edges : List Str := ["turns"]
theorem sc__law_edges : FnScope N__law_edges ps__law_edges (defScope s__law_edges) := ⟨rfl, rfl, rfl, by decide +kernel, rfl, by decide +kernel, by decide +kernel⟩
def t__law_edges (K : PySem.W.Frag) : TS :=
    (tSeq (tAsg (tOp rRep (tLst (tCons (tUn rNegI (tC (.int 1))) tNil)) (tCB (rLenV K) (tCons (tOp (rIxL K) (tVar 0) (tC (.int 0))) tNil))) (gName 1))
    (tSeq (tFor (iRng1 (tCons (tCB (rLenV K) (tCons (tVar 1) tNil)) tNil)) (gName 2) (tIfS (tTest (tOp rLtI (tOp (rIxL K) (tVar 1) (tVar 2)) (tC (.int 0)))) (tSeq (tAsg (tOp rAddI (tCB (rMax K) (tCons (tVar 1) tNil)) (tC (.int 1))) (gName 3))
    (tSeq (tAsg (tOp (rIxL K) (tOp (rIxL K) (tVar 0) (tC (.int 0))) (tVar 2)) (gName 4))
    (tFor (iTup K (tTup (tCons (tVar 2) (tCons (tVar 4) (tCons (tOp (rIxL K) (tOp (rIxL K) (tVar 0) (tC (.int 2))) (tVar 2)) (tCons (tOp (rIxL K) (tOp (rIxL K) (tVar 0) (tC (.int 2))) (tVar 4)) tNil)))))) (gName 5) (tAsg (tVar 3) (gSub (tVar 1) (tVar 5) rSetL))))) tNext))
    (tRet (tVar 1))))
def sp__law_edges (K : PySem.W.Frag) : Sp := fun vs H Q _ => ∃ (a : Addr) (n : Nat) (z o t : List Nat), vs = [.ref a] ∧ Tbl K H a [z, o, t] ∧ Edg n z t ∧ 0 < n ∧ n ≤ 240 ∧
  ∀ H' D, Same H H' → H D = none → H' D = some (.lst (nv (edgesOf n z t))) → Q (.ref D) H'
theorem len__law_edges {K : PySem.W.Frag} : ∀ vs H Q E, sp__law_edges K vs H Q E → vs.length = ps__law_edges.length := by
  rintro vs H Q E ⟨a, n, z, o, t, rfl, _⟩
  rfl
theorem wp__law_edges {K : PySem.W.Frag} {mg : Str → Option Value} (T : Tx K mg) : ∀ vs H Q E, sp__law_edges K vs H Q E → t__law_edges K { nx := fun _ H' => Q .non H', rt := Q } (start N__law_edges vs) H := by
  rintro vs H Q E0 ⟨a, n, z, o, t, rfl, hT, E, hn0, hn, q⟩
  obtain ⟨xs, r0, h1, h2, h3, h4⟩ := hT.row (i := 0) (by show 0 < 3; decide)
  obtain ⟨xs2, r2, k1, k2, k3, k4⟩ := hT.row (i := 2) (by show 2 < 3; decide)
  have h4 : SqL K H r0 (nv z) := h4
  have k4 : SqL K H r2 (nv t) := k4
  unfold t__law_edges
  walk_at "w"
  refine ⟨szl (by show 1 ≤ 1000000; decide), fun b0 hb0 => ?_⟩
  have t0 : Same _ _ := Same.tnew (o := .lst [V.int (-1)]) hb0
  walk_at "w"
  refine w_ixL (t0.tL h1) h3 ?_
  walk_at "w"
  refine w_lenL (t0.tL h4) ?_
  rw [nv_len, E.hz.len]
  refine w_rep1 (n := n) rfl (by omega) upd_same fun D hD => ?_
  have s1 := t0.tmut (p := D) (o := .lst (fv n (fun _ => V.int (-1)))) (t0.tfr hD)
  have hD0 := t0.tfr hD
  walk_at "w"
  refine w_lenL (SqL.of upd_same) ?_
  rw [fv_len]
  walk_at "w"
  refine fr1 (n := n) rfl (by omega) (fun i σ H' => ∃ v2 v3 v4 v5, σ = [some (.ref a), some (.ref D), v2, v3, v4, v5] ∧ Same H H' ∧ H' D = some (.lst (fv n (edgeV z t (.int (-1)) i)))) ⟨_, _, _, _, rfl, s1, by rw [upd_same, edgeV_zero]⟩ ?_ ?_
  · rintro i σ H1 hlt ⟨v2, v3, v4, v5, rfl, s2, h2'⟩
    have hzi := E.hz.bd i hlt
    walk_at "w"
    refine w_ixL (SqL.of h2') (at_fv hlt) ?_
    rcases edgeV_at E (u := .int (-1)) hlt with ⟨hl, he⟩ | ⟨hl, he⟩
    · rw [he]
      walk_at "w"
      refine w_dT (by decide) ?_
      walk_at "w"
      have h2i := h2'
      rw [edgeV_I] at h2i
      refine ⟨D, _, rfl, SqL.of h2i, by rw [List.length_map, List.length_range]; exact hn0, fun mx hm hle => ?_⟩
      have emax := edge_max E hlt hm hle
      walk_at "w"
      rw [emax]
      refine w_ixL (s2.tL h1) h3 ?_
      walk_at "w"
      refine w_ixL (s2.tL h4) (at_nv (by rw [E.hz.len]; exact hlt)) ?_
      walk_at "w"
      refine w_ixL (s2.tL k1) k3 ?_
      walk_at "w"
      refine w_ixL (s2.tL k4) (at_nv (by rw [E.ht.len]; exact hlt)) ?_
      walk_at "w"
      refine w_ixL (s2.tL k1) k3 ?_
      walk_at "w"
      refine w_ixL (s2.tL k4) (at_nv (by rw [E.ht.len]; exact hzi)) ?_
      walk_at "w"
      refine ⟨szl (by show 4 ≤ 1000000; decide), fun p hp => ?_⟩
      have em : [V.int (i : Nat), V.int (gt z i : Nat), V.int (gt t i : Nat), V.int (gt t (gt z i) : Nat)] = nv [i, gt z i, gt t i, gt t (gt z i)] := rfl
      rw [em]
      have npD : p ≠ D := by rintro rfl; rw [h2'] at hp; cases hp
      refine ft (SqT.of upd_same) (fun k σ' H' => ∃ v6, σ' = [some (.ref a), some (.ref D), some (.int (i : Nat)), some (.int (leads z t i : Nat)), some (.int (gt z i : Nat)), v6] ∧ Same H H' ∧ H' p = some (.tup (nv [i, gt z i, gt t i, gt t (gt z i)])) ∧
        H' D = some (.lst (fv n (fun x => if x ∈ [i, gt z i, gt t i, gt t (gt z i)].take k then .int (leads z t i : Nat) else edgeV z t (.int (-1)) i x)))) ⟨_, rfl, s2.tmut (s2.tfr hp), upd_same, ?_⟩ ?_ ?_ ?_
      · rw [upd_ne (Ne.symm npD), h2']
        congr 2
      · rintro k σ' H' _ ⟨_, _, _, hp', _⟩
        exact SqT.of hp'
      · rintro k x σ' H4 hk ⟨v6, rfl, s5, hp5, h5⟩
        obtain ⟨hlt2, rfl⟩ := nv_of hk
        have hx : gt [i, gt z i, gt t i, gt t (gt z i)] k < n := by
          have hm : gt [i, gt z i, gt t i, gt t (gt z i)] k ∈ [i, gt z i, gt t i, gt t (gt z i)] := List.mem_of_getElem? (gt_some hlt2)
          simp only [List.mem_cons, List.not_mem_nil, or_false] at hm
          rcases hm with e | e | e | e
          · rw [e]; exact hlt
          · rw [e]; exact hzi
          · rw [e]; exact E.ht.bd i hlt
          · rw [e]; exact E.ht.bd _ hzi
        have tk := take_snoc (gt_some hlt2)
        generalize gt [i, gt z i, gt t i, gt t (gt z i)] k = y at hx tk
        walk_at "w"
        refine w_setL h5 (ix_nat (by rw [fv_len]; exact hx)) ?_
        rw [fv_set hx]
        refine ⟨_, rfl, s5.tmut hD0, ?_, ?_⟩
        · rw [upd_ne npD]
          exact hp5
        · rw [upd_same, tk]
          congr 2
          refine fv_congr fun x _ => ?_
          by_cases e : x = y
          · rw [if_pos e, if_pos (by simp [e])]
          · rw [if_neg e]
            by_cases e2 : x ∈ [i, gt z i, gt t i, gt t (gt z i)].take k
            · rw [if_pos e2, if_pos (List.mem_append_left _ e2)]
            · rw [if_neg e2, if_neg (fun w => by
                rcases List.mem_append.mp w with w | w
                · exact e2 w
                · exact e (List.mem_singleton.mp w))]
      · rintro σ' H4 ⟨v6, rfl, s5, hp5, h5⟩
        refine ⟨_, _, _, _, rfl, s5, ?_⟩
        rw [h5, ← edgeV_step E hlt hl]
        rfl
    · rw [he]
      walk_at "w"
      refine w_dF (by omega) ?_
      walk_at "w"
      refine ⟨_, _, _, _, rfl, s2, ?_⟩
      rw [h2', edgeV_skip E hlt hl]
  · rintro σ H2 ⟨v2, v3, v4, v5, rfl, s2, h2'⟩
    rw [edgeV_all E] at h2'
    walk_at "w"
    exact q _ D s2 hD0 h2'

theorem ok__law_edges {P : Program} {w : World} {K : PySem.W.Frag} {mg : Str → Option Value} {base : Heap} (F : FnP K mg "_law_edges" s__law_edges) (T : Tx K mg) :
    Ok P w K mg base "_law_edges" 1 ps__law_edges (sp__law_edges K) :=
  ok_of (t := t__law_edges K) F sc__law_edges (len__law_edges) (fun _ _ _ _ _ _ us hl => match us, hl with | [_], _ => rfl)
    (fun f cdv A outer s H E hr => by
      have hu := hu_of hr
      have hu65 := u65 hr
      exact (pss_cons (ps_set (i := 1) sc__law_edges.nd rfl (Or.inl rfl) (pe_op op_rep (pe_lst (pa_cons (pe_un un_neg pe_int) pa_nil)) (pe_callB call_len rfl T.b_len PySem.boot_len (pa_cons (pe_ix ix_list (pv 0) pe_int (fun _ _ => rfl)) pa_nil))))
      (pss_cons (ps_for PassesOwn.never rfl (pi_range1 rfl T.b_range (pa_cons (pe_callB call_len rfl T.b_len PySem.boot_len (pa_cons (pv 1) pa_nil)) pa_nil)) (pg_name (i := 2) sc__law_edges.nd rfl (Or.inl rfl)) (pss_one (ps_if (pt_cmpR op_lt (pe_ix ix_list (pv 1) (pv 2) (fun _ _ => rfl)) pe_int (nomark _)) (pss_cons (ps_set (i := 3) sc__law_edges.nd rfl (Or.inl rfl) (pe_op op_add (pe_callB (cr_max rfl) rfl T.b_max (by decide +kernel) (pa_cons (pv 1) pa_nil)) pe_int))
      (pss_cons (ps_set (i := 4) sc__law_edges.nd rfl (Or.inl rfl) (pe_ix ix_list (pe_ix ix_list (pv 0) pe_int (fun _ _ => rfl)) (pv 2) (fun _ _ => rfl)))
      (pss_one (ps_for PassesOwn.never rfl (pi_tup (pe_tup (pa_cons (pv 2) (pa_cons (pv 4) (pa_cons (pe_ix ix_list (pe_ix ix_list (pv 0) pe_int (fun _ _ => rfl)) (pv 2) (fun _ _ => rfl)) (pa_cons (pe_ix ix_list (pe_ix ix_list (pv 0) pe_int (fun _ _ => rfl)) (pv 4) (fun _ _ => rfl)) pa_nil)))))) (pg_name (i := 5) sc__law_edges.nd rfl (Or.inl rfl)) (pss_one (ps_asg (pv 3) (pg_sub (pv 1) (pv 5) set_list))))))) pss_nil)))
      (pss_one (ps_ret (pv 1))))))
    (wp__law_edges T)

abbrev s__law_pairings : Stmt := top 48
abbrev N__law_pairings : List Str := ["turns", "x"]
abbrev ps__law_pairings : List Str := ["turns"]
theorem sc__law_pairings : FnScope N__law_pairings ps__law_pairings (defScope s__law_pairings) := ⟨rfl, rfl, rfl, by decide +kernel, rfl, by decide +kernel, by decide +kernel⟩
def t__law_pairings (K : PySem.W.Frag) : TS :=
    (tRet (tDisp (((tC (.str "0")), (tOp (rIxL K) (tVar 0) (tC (.int 0)))) :: (((tC (.str "2")), (tOp (rIxL K) (tVar 0) (tC (.int 2)))) :: (((tC (.str "3")), (tLc (iList K (tOp (rIxL K) (tVar 0) (tC (.int 0)))) (gName 1) tYes (tOp (rIxL K) (tOp (rIxL K) (tVar 0) (tC (.int 2))) (tVar 1)) [1])) :: [])))))
def pairD (r0 r2 l3 : Addr) : List (Key × V) := [(.inr "0", .ref r0), (.inr "2", .ref r2), (.inr "3", .ref l3)]
def sp__law_pairings (K : PySem.W.Frag) : Sp := fun vs H Q _ => ∃ (a : Addr) (n : Nat) (z o t : List Nat), vs = [.ref a] ∧ Tbl K H a [z, o, t] ∧ TurnT n z ∧ TurnT n t ∧ n ≤ 240 ∧
  ∀ H' p r0 r2 l3, Same H H' → H' p = some (.dK (pairD r0 r2 l3)) → SqL K H' r0 (nv z) → SqL K H' r2 (nv t) → SqL K H' l3 (fv n fun i => .int (gt t (gt z i) : Nat)) → Q (.ref p) H'
theorem len__law_pairings {K : PySem.W.Frag} : ∀ vs H Q E, sp__law_pairings K vs H Q E → vs.length = ps__law_pairings.length := by
  rintro vs H Q E ⟨a, n, z, o, t, rfl, _⟩
  rfl
theorem wp__law_pairings {K : PySem.W.Frag} {mg : Str → Option Value} (T : Tx K mg) : ∀ vs H Q E, sp__law_pairings K vs H Q E → t__law_pairings K { nx := fun _ H' => Q .non H', rt := Q } (start N__law_pairings vs) H := by
  rintro vs H Q E0 ⟨a, n, z, o, t, rfl, hT, Z, TT', hn, q⟩
  obtain ⟨xs, r0, h1, h2, h3, h4⟩ := hT.row (i := 0) (by show 0 < 3; decide)
  obtain ⟨xs2, r2, k1, k2, k3, k4⟩ := hT.row (i := 2) (by show 2 < 3; decide)
  have h4 : SqL K H r0 (nv z) := h4
  have k4 : SqL K H r2 (nv t) := k4
  unfold t__law_pairings
  refine w_ret fun p hp => ?_
  have s0 : Same _ _ := Same.tnew (o := .dK []) hp
  unfold tPairs
  walk_at "w"
  refine w_ixL (s0.tL h1) h3 ?_
  unfold tPairs
  walk_at "w"
  refine w_ixL (s0.tL k1) k3 ?_
  unfold tPairs
  walk_at "w"
  refine w_ixL (s0.tL h1) h3 ?_
  refine cl (s0.tL h4) (by rw [nv_len, Z.len]; omega) (fun _ => true) (fun i => .int (gt t (gt z i) : Nat)) (fun _ => rfl) (fun i x H' R hi s k => k H' (Same.refl H')) (fun i x H' R hi _ s k => ?_) fun l3 H' hl s1 h1' => ?_
  · obtain ⟨hlt, rfl⟩ := nv_of hi
    rw [Z.len] at hlt
    have s2 := s0.trans s
    walk_at "w"
    refine w_ixL (s2.tL k1) k3 ?_
    walk_at "w"
    refine w_ixL (s2.tL k4) (at_nv (by rw [TT'.len]; exact Z.bd i hlt)) ?_
    exact k _ (Same.refl _)
  · rw [picked_fv, nv_len, Z.len] at h1'
    unfold tPairs
    have npl : l3 ≠ p := by rintro rfl; rw [upd_same] at hl; cases hl
    refine ⟨s1 _ _ upd_same, pairD r0 r2 l3, rfl, by show 3 ≤ 15; decide, ?_⟩
    have s3 := (s0.trans s1).tmut (p := p) (o := .dK (mergeK [] (pairD r0 r2 l3))) hp
    refine q _ p r0 r2 l3 s3 ?_ (s3.tL h4) (s3.tL k4) (SqL.of (by rw [upd_ne npl]; exact h1'))
    rw [upd_same]
    rfl

theorem ok__law_pairings {P : Program} {w : World} {K : PySem.W.Frag} {mg : Str → Option Value} {base : Heap} (F : FnP K mg "_law_pairings" s__law_pairings) (T : Tx K mg) :
    Ok P w K mg base "_law_pairings" 1 ps__law_pairings (sp__law_pairings K) :=
  ok_of (t := t__law_pairings K) F sc__law_pairings (len__law_pairings) (fun _ _ _ _ _ _ us hl => match us, hl with | [_], _ => rfl)
    (fun f cdv A outer s H E hr => by
      have hu := hu_of hr
      have hu65 := u65 hr
      exact (pss_one (ps_ret (pe_disp (pps_cons pe_str (pe_ix ix_list (pv 0) pe_int (fun _ _ => rfl)) (pps_cons pe_str (pe_ix ix_list (pv 0) pe_int (fun _ _ => rfl)) (pps_cons pe_str (pe_lc (own := [("x", 1)]) rfl sc__law_pairings.nd (pi_list (pe_ix ix_list (pv 0) pe_int (fun _ _ => rfl))) (blkOk_by (own := [("x", 1)]) (N := N__law_pairings) (sc := defScope s__law_pairings) (by decide +kernel)) (fun _ _ _ _ _ => (pg_name (i := 1) sc__law_pairings.nd rfl (Or.inl rfl))) (fun _ _ _ _ _ => pts_nil) (fun _ _ _ _ _ => (pe_ix ix_list (pe_ix ix_list (pv 0) pe_int (fun _ _ => rfl)) (pv 1) (fun _ _ => rfl)))) pps_nil))) (by rfl) (by rfl) (fun z => by cases z) (by decide)))))
    (wp__law_pairings T)

abbrev s__law_numbers : Stmt := top 49
abbrev N__law_numbers : List Str := ["entries", "count", "x"]
abbrev ps__law_numbers : List Str := ["entries", "count"]
theorem sc__law_numbers : FnScope N__law_numbers ps__law_numbers (defScope s__law_numbers) := ⟨rfl, rfl, rfl, by decide +kernel, rfl, by decide +kernel, by decide +kernel⟩
def t__law_numbers (K : PySem.W.Frag) : TS :=
    (tSeq (tIfS (tNot (tB (tCB (rIsi K) (tCons (tVar 0) (tCons (tC (.ty "tuple")) tNil))))) (tRet (tC (.bl false))) tNext)
    (tRet (tCB (rAll K) (tCons (tLc (iTup K (tVar 0)) (gName 2) tYes (tAndV (tCB (rIsi K) (tCons (tVar 2) (tCons (tC (.ty "int")) tNil))) (tOp rLtI (tVar 2) (tVar 1))) [2]) tNil))))
def sp__law_numbers (K : PySem.W.Frag) : Sp := fun vs H Q _ => ∃ (v : V) (d : PyData) (n : Nat), vs = [v, .int n] ∧ Dp K H v d ∧ FF d ∧ ∀ H', Same H H' → Q (.bl (numsB n d)) H'
theorem len__law_numbers {K : PySem.W.Frag} : ∀ vs H Q E, sp__law_numbers K vs H Q E → vs.length = ps__law_numbers.length := by
  rintro vs H Q E ⟨v, d, n, rfl, _⟩
  rfl
theorem wp__law_numbers {K : PySem.W.Frag} {mg : Str → Option Value} (T : Tx K mg) : ∀ vs H Q E, sp__law_numbers K vs H Q E → t__law_numbers K { nx := fun _ H' => Q .non H', rt := Q } (start N__law_numbers vs) H := by
  rintro vs H Q E ⟨v, d, n, rfl, D, F, q⟩
  unfold t__law_numbers
  walk_at "w"
  refine w_isT F D ?_
  walk_at "w"
  cases F with
  | int h =>
    show if (!false) = true then _ else _
    walk_at "w"
    exact q _ (Same.refl H)
  | str h =>
    show if (!false) = true then _ else _
    walk_at "w"
    exact q _ (Same.refl H)
  | @tup k ds h1 h2 =>
    obtain ⟨a, xs, rfl, hS, hD⟩ := D.tupI
    show if (!true) = true then _ else _
    walk_at "w"
    have hl := hD.len
    refine ct hS (by omega) (fun _ => true) (fun i => .bl (byAt (numB n) ds i)) (fun _ => rfl) (fun i x H' R hi s k => k H' (Same.refl H')) (fun i x H' R hi _ s k => ?_) fun p H' hp s1 h1' => ?_
    · have hlt : i < ds.length := by
        obtain ⟨z, _⟩ := List.getElem?_eq_some_iff.mp hi
        omega
      have hdi : ds[i]? = some (ds.getD i .none) := by
        rw [List.getD_eq_getElem?_getD, List.getElem?_eq_getElem hlt]
        rfl
      have Di := hD.get hi hdi
      have Fi := h2 _ (List.mem_of_getElem? hdi)
      have Di' := Dp.keep Fi (Kp.of s) _ Di
      unfold byAt at k
      generalize ds.getD i .none = d at Fi Di' k
      clear Di hdi
      walk_at "w"
      refine w_isI Fi Di' ?_
      cases Fi with
      | tup _ _ =>
        refine ⟨false, rfl, ?_⟩
        walk_at "w"
        exact k _ (Same.refl _)
      | str _ =>
        refine ⟨false, rfl, ?_⟩
        walk_at "w"
        exact k _ (Same.refl _)
      | @int _ j hj =>
        cases Di'
        refine ⟨true, rfl, ?_⟩
        walk_at "w"
        exact k _ (Same.refl _)
    · walk_at "w"
      have eb : picked xs.length (fun _ => true) (fun i => .bl (byAt (numB n) ds i)) = ((List.range xs.length).map (byAt (numB n) ds)).map V.bl := by
        rw [picked_all, List.map_map]
        rfl
      rw [eb] at h1'
      refine ⟨p, _, rfl, SqL.of h1', ?_⟩
      rw [all_at hl]
      exact q H' s1


theorem ok__law_numbers {P : Program} {w : World} {K : PySem.W.Frag} {mg : Str → Option Value} {base : Heap} (F : FnP K mg "_law_numbers" s__law_numbers) (T : Tx K mg) :
    Ok P w K mg base "_law_numbers" 1 ps__law_numbers (sp__law_numbers K) :=
  ok_of (t := t__law_numbers K) F sc__law_numbers (len__law_numbers) (fun _ _ _ _ _ _ us hl => match us, hl with | [_, _], _ => rfl)
    (fun f cdv A outer s H E hr => by
      have hu := hu_of hr
      have hu65 := u65 hr
      exact (pss_cons (ps_if (pt_not (pt_val (pe_callB call_isi rfl T.b_isinstance (by decide +kernel) (pa_cons (pv 0) (pa_cons (pe_bltn rfl T.b_tuple (by decide +kernel) rfl) pa_nil))))) (pss_one (ps_ret pe_bl)) pss_nil)
      (pss_one (ps_ret (pe_callB (cr_all rfl) rfl T.b_all (by decide +kernel) (pa_cons (pe_lc (own := [("x", 2)]) rfl sc__law_numbers.nd (pi_tup (pv 0)) (blkOk_by (own := [("x", 2)]) (N := N__law_numbers) (sc := defScope s__law_numbers) (by decide +kernel)) (fun _ _ _ _ _ => (pg_name (i := 2) sc__law_numbers.nd rfl (Or.inl rfl))) (fun _ _ _ _ _ => pts_nil) (fun _ _ _ _ _ => (pe_and (pe_callB call_isi rfl T.b_isinstance (by decide +kernel) (pa_cons (pv 2) (pa_cons (pe_bltn rfl T.b_int (by decide +kernel) rfl) pa_nil))) (pe_one (pe_cmpR op_lt (pv 2) (pv 1) (nomark _)))))) pa_nil))))))
    (wp__law_numbers T)

abbrev s__law_entries : Stmt := top 50
abbrev N__law_entries : List Str := ["paper", "word", "count"]
abbrev ps__law_entries : List Str := ["paper", "word", "count"]
theorem sc__law_entries : FnScope N__law_entries ps__law_entries (defScope s__law_entries) := ⟨rfl, rfl, rfl, by decide +kernel, rfl, by decide +kernel, by decide +kernel⟩
def t__law_entries (K : PySem.W.Frag) : TS :=
    (tSeq (tIfS (tOr (tNot (tB (tCB (rIsi K) (tCons (tVar 0) (tCons (tC (.ty "tuple")) tNil))))) (tTest (tOp (rNeD K) (tSl (rSlA K) (tVar 0) tNoPart (tPart (tC (.int 1)))) (tTup (tCons (tVar 1) tNil))))) (tRet (tC .non)) tNext)
    (tSeq (tIfS (tAnd (tTest (tOp rGeI (tVar 2) (tC (.int 0)))) (tTest (tOp rNe (tCB (rLenV K) (tCons (tVar 0) tNil)) (tOp rAddI (tVar 2) (tC (.int 1)))))) (tRet (tC .non)) tNext)
    (tRet (tSl (rSlA K) (tVar 0) (tPart (tC (.int 1))) tNoPart))))
def sp__law_entries (K : PySem.W.Frag) : Sp := fun vs H Q _ => ∃ (v : V) (d : PyData) (w : Str) (n : Nat), vs = [v, .str w, .int n] ∧ Dp K H v d ∧ FF d ∧ w ∈ words ∧
  (ents w n d = none → ∀ H', Same H H' → Q .non H') ∧ ∀ r, ents w n d = some r → ∀ H' a xs, Same H H' → SqT K H' a xs → DpAll K H' xs r → Q (.ref a) H'
theorem len__law_entries {K : PySem.W.Frag} : ∀ vs H Q E, sp__law_entries K vs H Q E → vs.length = ps__law_entries.length := by
  rintro vs H Q E ⟨v, d, w, n, rfl, _⟩
  rfl
theorem wp__law_entries {K : PySem.W.Frag} {mg : Str → Option Value} (T : Tx K mg) : ∀ vs H Q E, sp__law_entries K vs H Q E → t__law_entries K { nx := fun _ H' => Q .non H', rt := Q } (start N__law_entries vs) H := by
  rintro vs H Q E ⟨v, d, w, n, rfl, D, F, hw, q1, q2⟩
  unfold t__law_entries
  walk_at "w"
  refine w_isT F D ?_
  walk_at "w"
  cases F with
  | int h =>
    show if (!false) = true then _ else _
    walk_at "w"
    exact q1 rfl _ (Same.refl H)
  | str h =>
    show if (!false) = true then _ else _
    walk_at "w"
    exact q1 rfl _ (Same.refl H)
  | @tup k ds h1 h2 =>
    obtain ⟨a, xs, rfl, hS, hD⟩ := D.tupI
    have hl := hD.len
    have h3 : ∀ d ∈ ds, FF d := fun d hd => (h2 d hd).mono (Nat.le_refl _) (by omega)
    show if (!true) = true then _ else _
    walk_at "w"
    refine w_slT hS fun b H1 s1 hb => ?_
    rw [show (some (1 : Int)) = some ((1 : Nat) : Int) from rfl, cut_to] at hb
    walk_at "w"
    refine ⟨szl (by show 1 ≤ 1000000; decide), fun p hp => ?_⟩
    have s2 : Same H (upd H1 p (.tup [.str w])) := s1.tmut (s1.tfr hp)
    have D1 : Dp K (upd H1 p (.tup [.str w])) (.ref b) (.tuple (ds.take 1)) := .tup ((Same.tnew hp).tT hb) (DpAll.keep (fun d hd => h3 d (List.mem_of_mem_take hd)) (Kp.of s2) (hD.take 1))
    have D2 : Dp K (upd H1 p (.tup [.str w])) (.ref p) (.tuple [.str w]) := .tup (SqT.of upd_same) (.cons (.str _) .nil)
    have S1 : SeqAt.shaped (.tuple (ds.take 1)) = true := Fm.shaped (L := 1000) (k := 40 + 1) (.tup (by rw [List.length_take]; omega) fun d hd => h3 d (List.mem_of_mem_take hd)) (by decide)
    have S2 : SeqAt.shaped (.tuple [.str w]) = true := Fm.shaped (L := 1000) (k := 0 + 1) (.tup (by show 1 ≤ 1000; decide) fun d hd => by rw [List.mem_singleton.mp hd]; exact .str hw) (by decide)
    refine ⟨_, _, D1, D2, S1, S2, ?_⟩
    generalize (upd H1 p (.tup [.str w])) = H2 at s2 D1 D2 ⊢
    have ee := entr_head h3 (w := w)
    walk_at "w"
    refine w_nb2 (fun h => ?_) (fun h => ?_)
    · walk_at "w"
      rw [h] at ee
      exact q1 (by unfold ents; rw [ee]; rfl) _ s2
    · rw [h] at ee
      walk_at "w"
      refine w_dT (Int.natCast_nonneg _) ?_
      walk_at "w"
      refine w_lenT (s2.tT hS) ?_
      walk_at "w"
      have hne : ds ≠ [] := by
        rintro rfl
        cases h
      have hpos : 0 < ds.length := List.length_pos_iff.mpr hne
      refine w_n2 (fun h => ?_) (fun h => ?_)
      · walk_at "w"
        refine q1 ?_ _ s2
        unfold ents
        rw [ee]
        show (if (ds.drop 1).length = n then some (ds.drop 1) else none) = none
        rw [if_neg (by rw [List.length_drop]; omega)]
      · walk_at "w"
        refine w_slT (s2.tT hS) fun c H3 s3 hc => ?_
        rw [show (some (1 : Int)) = some ((1 : Nat) : Int) from rfl, cut_from] at hc
        refine q2 (ds.drop 1) ?_ _ _ _ (s2.trans s3) hc (DpAll.keep (fun d hd => h3 d (List.mem_of_mem_drop hd)) (Kp.of (s2.trans s3)) (hD.drop 1))
        unfold ents
        rw [ee]
        show (if (ds.drop 1).length = n then some (ds.drop 1) else none) = some (ds.drop 1)
        rw [if_pos (by rw [List.length_drop]; omega)]

theorem ok__law_entries {P : Program} {w : World} {K : PySem.W.Frag} {mg : Str → Option Value} {base : Heap} (F : FnP K mg "_law_entries" s__law_entries) (T : Tx K mg) :
    Ok P w K mg base "_law_entries" 1 ps__law_entries (sp__law_entries K) :=
  ok_of (t := t__law_entries K) F sc__law_entries (len__law_entries) (fun _ _ _ _ _ _ us hl => match us, hl with | [_, _, _], _ => rfl)
    (fun f cdv A outer s H E hr => by
      have hu := hu_of hr
      have hu65 := u65 hr
      exact (pss_cons (ps_if (PW.pt (pw_or (pt_not (pt_val (pe_callB call_isi rfl T.b_isinstance (by decide +kernel) (pa_cons (pv 0) (pa_cons (pe_bltn rfl T.b_tuple (by decide +kernel) rfl) pa_nil))))) (pw_or1 (pt_cmpR (op_neD hr.units) (pe_slice sl_tupA (pv 0) po_none (po_some pe_int)) (pe_tup (pa_cons (pv 1) pa_nil)) (nomark _))))) (pss_one (ps_ret pe_non)) pss_nil)
      (pss_cons (ps_if (PW.pt (pw_and (pt_cmpR op_ge (pv 2) pe_int (nomark _)) (pw_and1 (pt_cmpR op_ne (pe_callB call_len rfl T.b_len PySem.boot_len (pa_cons (pv 0) pa_nil)) (pe_op op_add (pv 2) pe_int) (nomark _))))) (pss_one (ps_ret pe_non)) pss_nil)
      (pss_one (ps_ret (pe_slice sl_tupA (pv 0) (po_some pe_int) po_none))))))
    (wp__law_entries T)

abbrev s__law_table : Stmt := top 51
abbrev N__law_table : List Str := ["turns", "edges", "table", "x", "y", "row", "edge"]
abbrev ps__law_table : List Str := ["turns"]
theorem sc__law_table : FnScope N__law_table ps__law_table (defScope s__law_table) := ⟨rfl, rfl, rfl, by decide +kernel, rfl, by decide +kernel, by decide +kernel⟩
def t__law_table (K : PySem.W.Frag) : TS :=
    (tSeq (tAsg (tCall (sp__law_edges K) [] E0 (tCons (tVar 0) tNil)) (gName 1))
    (tSeq (tAsg (tLc (iRng1 (tCons (tOp rDivI (tCB (rLenV K) (tCons (tVar 1) tNil)) (tC (.int 4))) tNil)) (gName 6) tYes (tOp rRep (tLst (tCons (tC (.int 0)) tNil)) (tOp rDivI (tCB (rLenV K) (tCons (tVar 1) tNil)) (tC (.int 4)))) [6]) (gName 2))
    (tSeq (tFor (iRng1 (tCons (tCB (rLenV K) (tCons (tVar 1) tNil)) tNil)) (gName 3) (tSeq (tAsg (tOp (rIxL K) (tOp (rIxL K) (tVar 0) (tC (.int 1))) (tVar 3)) (gName 4))
    (tIfS (tOr (tTest (tOp rLtI (tVar 3) (tVar 4))) (tTest (tOp rNe (tOp (rIxL K) (tVar 1) (tVar 3)) (tOp (rIxL K) (tVar 1) (tVar 4))))) (tSeq (tAsg (tOp (rIxL K) (tVar 2) (tOp (rIxL K) (tVar 1) (tVar 3))) (gName 5))
    (tAsg (tOp rAddI (tOp (rIxL K) (tVar 5) (tOp (rIxL K) (tVar 1) (tVar 4))) (tC (.int 1))) (gSub (tVar 5) (tOp (rIxL K) (tVar 1) (tVar 4)) rSetL))) tNext)))
    (tRet (tVar 2)))))
def sp__law_table (K : PySem.W.Frag) : Sp := fun vs H Q _ => ∃ (a : Addr) (n : Nat) (z o t : List Nat), vs = [.ref a] ∧ Tbl K H a [z, o, t] ∧ MapT n z o t ∧
  ∀ H' D, Same H H' → Tbl K H' D (tabOf n z o t) → Q (.ref D) H'
theorem len__law_table {K : PySem.W.Frag} : ∀ vs H Q E, sp__law_table K vs H Q E → vs.length = ps__law_table.length := by
  rintro vs H Q E ⟨a, n, z, o, t, rfl, _⟩
  rfl
theorem wp__law_table {K : PySem.W.Frag} {mg : Str → Option Value} (T : Tx K mg) : ∀ vs H Q E, sp__law_table K vs H Q E → t__law_table K { nx := fun _ H' => Q .non H', rt := Q } (start N__law_table vs) H := by
  rintro vs H Q E0 ⟨a, n, z, o, t, rfl, hT, M, q⟩
  have E := M.edg
  have hn := M.le
  obtain ⟨xs, r1, h1, h2, h3, h4⟩ := hT.row (i := 1) (by show 1 < 3; decide)
  have h4 : SqL K H r1 (nv o) := h4
  have e4 : ((n : Int) / 4) = ((n / 4 : Nat) : Int) := by omega
  unfold t__law_table
  walk_at "w"
  refine ⟨a, n, z, o, t, rfl, hT, E, M.pos, hn, fun H1 ed s1 hed0 hed => ?_⟩
  walk_at "w"
  refine w_lenL (SqL.of hed) ?_
  rw [nv_len, edgesOf_len]
  walk_at "w"
  refine w_iC (by constructor <;> decide) ?_
  walk_at "w"
  refine cr_rows (k := n / 4) (m := n / 4) e4 (by omega) (fun _ => .int 0) (fun _ => rfl) (fun _ _ R h => h) (fun i H' R hi s k => ?_) fun D rs H2 R1 => ?_
  · walk_at "w"
    refine ⟨szl (by show 1 ≤ 1000000; decide), fun p2 hp2 => ?_⟩
    have s2 : Same _ _ := Same.tnew (o := .lst [V.int 0]) hp2
    walk_at "w"
    refine w_lenL (SqL.of (s2 _ _ (s _ _ hed))) ?_
    rw [nv_len, edgesOf_len]
    walk_at "w"
    refine w_iC (by constructor <;> decide) ?_
    refine w_rep1 e4 (by omega) upd_same fun p3 hp3 => ?_
    have f3 : H' p3 = none := s2.tfr hp3
    exact k p3 _ (s2.tmut f3) f3 upd_same
  walk_at "w"
  have R2 : Rws H1 H2 D rs (n / 4) (n / 4) (fun a b => .int (sm 0 (tabD z o t a b) : Nat)) := R1.congr fun _ _ _ _ => rfl
  refine w_lenL (SqL.of (R1.sm _ _ hed)) ?_
  rw [nv_len, edgesOf_len]
  walk_at "w"
  refine fr1 (n := n) rfl (by omega) (fun i σ H' => (∃ v3 v4 v5, σ = [some (.ref a), some (.ref ed), some (.ref D), v3, v4, v5, none]) ∧ Rws H1 H' D rs (n / 4) (n / 4) (fun a b => .int (sm i (tabD z o t a b) : Nat))) ⟨⟨_, _, _, rfl⟩, R2⟩ ?_ ?_
  · rintro i σ H3 hlt ⟨⟨v3, v4, v5, rfl⟩, R⟩
    have s3 := s1.trans R.sm
    have ho := M.ho.bd i hlt
    have hs : SqL K H3 ed (nv (edgesOf n z t)) := SqL.of (R.sm _ _ hed)
    have ea := edgeOf_lt E hlt
    have eb := edgeOf_lt E ho
    walk_at "w"
    refine w_ixL (s3.tL h1) h3 ?_
    walk_at "w"
    refine w_ixL (s3.tL h4) (at_nv (by rw [M.ho.len]; exact hlt)) ?_
    refine w_gn ?_
    with_reducible refine w_ifG fun J L hJ hL => ?_
    have no : (¬ (i < gt o i ∨ edgeOf z t i ≠ edgeOf z t (gt o i))) → L H3 := fun c => by
      refine hL _ ?_
      walk_at "w"
      refine ⟨⟨_, _, _, rfl⟩, R.congr fun a b _ _ => ?_⟩
      have e : sm (i + 1) (tabD z o t a b) = sm i (tabD z o t a b) := by
        show _ + tabD z o t a b i = _
        unfold tabD
        rw [if_neg c, Nat.add_zero]
      rw [e]
    have yes : (i < gt o i ∨ edgeOf z t i ≠ edgeOf z t (gt o i)) → J H3 := fun c => by
      refine hJ _ ?_
      have step : ∀ a b, sm (i + 1) (tabD z o t a b) = sm i (tabD z o t a b) + ib (decide (edgeOf z t i = a ∧ edgeOf z t (gt o i) = b)) := fun a b => by
        show _ + tabD z o t a b i = _
        unfold tabD
        rw [if_pos c]
      walk_at "w"
      refine w_ixL hs (at_nv (by rw [edgesOf_len]; exact hlt)) ?_
      rw [gt_edgesOf hlt]
      obtain ⟨ra, e1, e2, e3, e4, e5⟩ := R.get ea
      refine w_ixL (SqL.of R.at_) e2 ?_
      walk_at "w"
      refine w_ixL hs (at_nv (by rw [edgesOf_len]; exact ho)) ?_
      rw [gt_edgesOf ho]
      refine w_ixL (SqL.of e3) (at_fv eb) ?_
      walk_at "w"
      refine w_ixL hs (at_nv (by rw [edgesOf_len]; exact ho)) ?_
      rw [gt_edgesOf ho]
      refine w_setL e3 (ix_nat (by rw [fv_len]; exact eb)) ?_
      have R4 := R.set (v := .int ((sm i (tabD z o t (edgeOf z t i) (edgeOf z t (gt o i))) : Nat) + 1 : Int)) e1 eb
      refine ⟨⟨_, _, _, rfl⟩, R4.congr fun a b _ _ => ?_⟩
      show (if a = edgeOf z t i ∧ b = edgeOf z t (gt o i) then _ else _) = V.int (sm (i + 1) (tabD z o t a b) : Nat)
      rw [step]
      by_cases c2 : a = edgeOf z t i ∧ b = edgeOf z t (gt o i)
      · rw [if_pos c2]
        obtain ⟨rfl, rfl⟩ := c2
        simp [ib]
      · rw [if_neg c2]
        have c3 : ¬ (edgeOf z t i = a ∧ edgeOf z t (gt o i) = b) := fun w => c2 ⟨w.1.symm, w.2.symm⟩
        have c4 : ib (decide (edgeOf z t i = a ∧ edgeOf z t (gt o i) = b)) = 0 := by
          rw [decide_eq_false c3]
          rfl
        rw [c4, Nat.add_zero]
    walk_at "w"
    refine w_d2 (fun c => iteT (yes (.inl (by omega)))) (fun c => ?_)
    walk_at "w"
    refine w_ixL hs (at_nv (by rw [edgesOf_len]; exact hlt)) ?_
    walk_at "w"
    refine w_ixL hs (at_nv (by rw [edgesOf_len]; exact ho)) ?_
    rw [gt_edgesOf hlt, gt_edgesOf ho]
    walk_at "w"
    refine w_n2 (fun c2 => yes (.inr fun z => c2 (by rw [z]))) (fun c2 => no fun w => ?_)
    rcases w with w | w
    · omega
    · exact w (by omega)
  · rintro σ H3 ⟨⟨v3, v4, v5, rfl⟩, R⟩
    walk_at "w"
    exact q _ D (s1.trans R.sm) R.tbl

theorem ok__law_table {P : Program} {w : World} {K : PySem.W.Frag} {mg : Str → Option Value} {base : Heap} (F : FnP K mg "_law_table" s__law_table) (T : Tx K mg) (c__law_edges : Ok P w K mg base "_law_edges" 1 ps__law_edges (sp__law_edges K)) :
    Ok P w K mg base "_law_table" 2 ps__law_table (sp__law_table K) :=
  ok_of (t := t__law_table K) F sc__law_table (len__law_table) (fun _ _ _ _ _ _ us hl => match us, hl with | [_], _ => rfl)
    (fun f cdv A outer s H E hr => by
      have hu := hu_of hr
      have hu65 := u65 hr
      exact (pss_cons (ps_set (i := 1) sc__law_table.nd rfl (Or.inr rfl) (pe_callO c__law_edges hr (pa_cons (pv 0) pa_nil)))
      (pss_cons (ps_setLc (i := 2) (own := [("edge", 6)]) rfl sc__law_table.nd rfl rfl (sw_true rfl rfl rfl (by decide +kernel)) (pi_range1 rfl T.b_range (pa_cons (pe_op op_fdiv (pe_callB call_len rfl T.b_len PySem.boot_len (pa_cons (pv 1) pa_nil)) pe_int) pa_nil)) (blkOk_by (own := [("edge", 6)]) (N := N__law_table) (sc := defScope s__law_table) (by decide +kernel)) (fun _ _ _ _ _ => (pg_name (i := 6) sc__law_table.nd rfl (Or.inl rfl))) (fun _ _ _ _ _ => pts_nil) (fun _ _ _ _ _ => (pe_op op_rep (pe_lst (pa_cons pe_int pa_nil)) (pe_op op_fdiv (pe_callB call_len rfl T.b_len PySem.boot_len (pa_cons (pv 1) pa_nil)) pe_int))))
      (pss_cons (ps_for PassesOwn.never rfl (pi_range1 rfl T.b_range (pa_cons (pe_callB call_len rfl T.b_len PySem.boot_len (pa_cons (pv 1) pa_nil)) pa_nil)) (pg_name (i := 3) sc__law_table.nd rfl (Or.inl rfl)) (pss_cons (ps_set (i := 4) sc__law_table.nd rfl (Or.inl rfl) (pe_ix ix_list (pe_ix ix_list (pv 0) pe_int (fun _ _ => rfl)) (pv 3) (fun _ _ => rfl)))
      (pss_one (ps_if (PW.pt (pw_or (pt_cmpR op_lt (pv 3) (pv 4) (nomark _)) (pw_or1 (pt_cmpR op_ne (pe_ix ix_list (pv 1) (pv 3) (fun _ _ => rfl)) (pe_ix ix_list (pv 1) (pv 4) (fun _ _ => rfl)) (nomark _))))) (pss_cons (ps_set (i := 5) sc__law_table.nd rfl (Or.inl rfl) (pe_ix ix_list (pv 2) (pe_ix ix_list (pv 1) (pv 3) (fun _ _ => rfl)) (fun _ _ => rfl)))
      (pss_one (ps_asg (pe_op op_add (pe_ix ix_list (pv 5) (pe_ix ix_list (pv 1) (pv 4) (fun _ _ => rfl)) (fun _ _ => rfl)) pe_int) (pg_sub (pv 5) (pe_ix ix_list (pv 1) (pv 4) (fun _ _ => rfl)) set_list)))) pss_nil))))
      (pss_one (ps_ret (pv 2)))))))
    (wp__law_table T)

def sp__law_tree_due (K : PySem.W.Frag) (f : Nat) : Sp := fun vs H Q _ => ∃ (m g : Nat) (hg : g ≤ f) (a1 a2 ga : Addr) (tb ot : List (List Nat)) (given : List Nat) (v : V) (d : PyData), vs = [.ref a1, .ref a2, .ref ga, v] ∧ Tbl K H a1 tb ∧ Tbl K H a2 ot ∧ Sq m tb ∧ Sq m ot ∧ m ≤ 100 ∧
  SqT K H ga (nv given) ∧ given.length + (g + 1) = m ∧ (∀ x ∈ given, x < m) ∧ Dp K H v d ∧ FF d ∧ ∀ H', Same H H' → Q (.bl (treeB tb ot m (g + 1) given d)) H'
def spv__law_tree_due (K : PySem.W.Frag) : Nat → Sp
  | 0 => fun _ _ _ _ => False
  | f + 1 => sp__law_tree_due K f

abbrev s__law_tree_due : Stmt := top 52
abbrev N__law_tree_due : List Str := ["first", "second", "given", "paper", "parts", "edge", "order", "clash", "column", "other", "good", "row", "tie"]
abbrev ps__law_tree_due : List Str := ["first", "second", "given", "paper"]
theorem sc__law_tree_due : FnScope N__law_tree_due ps__law_tree_due (defScope s__law_tree_due) := ⟨rfl, rfl, rfl, by decide +kernel, rfl, by decide +kernel, by decide +kernel⟩
def t__law_tree_due (K : PySem.W.Frag) (f : Nat) : TS :=
    (tSeq (tAsg (tCall (sp__law_entries K) [] E0 (tCons (tVar 3) (tCons (tC (.str "cases")) (tCons (tCB (rLenV K) (tCons (tVar 1) tNil)) tNil)))) (gName 4))
    (tSeq (tIfS (tB (tIsN (tVar 4))) (tRet (tC (.bl false))) tNext)
    (tSeq (tFor (iRng1 (tCons (tCB (rLenV K) (tCons (tVar 1) tNil)) tNil)) (gName 5) (tSeq (tAsg (tOp (rCatA K) (tVar 2) (tTup (tCons (tVar 5) tNil))) (gName 6))
    (tSeq (tAsg (tCall (sp__law_entries K) [] E0 (tCons (tOp (rIxT K) (tVar 4) (tVar 5)) (tCons (tC (.str "clash")) (tCons (tC (.int 1)) tNil)))) (gName 7))
    (tSeq (tAsg (tLc (iList K (tVar 0)) (gName 11) tYes (tOp (rIxL K) (tVar 11) (tCB (rLenV K) (tCons (tVar 2) tNil))) [11]) (gName 8))
    (tSeq (tAsg (tLc (iTup K (tVar 6)) (gName 12) tYes (tOp (rIxL K) (tOp (rIxL K) (tVar 1) (tVar 12)) (tVar 5)) [12]) (gName 9))
    (tSeq (tIfS (tTest (tOp (rEqD K) (tOp (rIxT K) (tVar 4) (tVar 5)) (tTup (tCons (tC (.str "used")) tNil)))) (tAsg (tOp (rIn K false) (tVar 5) (tVar 2)) (gName 10)) (tIfS (tB (tNotN (tVar 7))) (tSeq (tAsg (tCall (sp__law_numbers K) [] E0 (tCons (tVar 7) (tCons (tCB (rLenV K) (tCons (tVar 6) tNil)) tNil))) (gName 10))
    (tAsg (tAndV (tVar 10) (tOp rNe (tOp (rIxL K) (tVar 8) (tOp (rIxT K) (tVar 7) (tC (.int 0)))) (tOp (rIxL K) (tVar 9) (tOp (rIxT K) (tVar 7) (tC (.int 0)))))) (gName 10))) (tSeq (tAsg (tAndV (tOp (rIn K true) (tVar 5) (tVar 2)) (tOp rLtI (tCB (rLenV K) (tCons (tVar 6) tNil)) (tCB (rLenV K) (tCons (tVar 1) tNil)))) (gName 10))
    (tAsg (tAndV (tVar 10) (tCall (spv__law_tree_due K f) [] E0 (tCons (tVar 0) (tCons (tVar 1) (tCons (tVar 6) (tCons (tOp (rIxT K) (tVar 4) (tVar 5)) tNil)))))) (gName 10)))))
    (tIfS (tNot (tB (tVar 10))) (tRet (tC (.bl false))) tNext)))))))
    (tRet (tC (.bl true))))))
theorem len__law_tree_due {K : PySem.W.Frag} {f : Nat} : ∀ vs H Q E, sp__law_tree_due K f vs H Q E → vs.length = ps__law_tree_due.length := by
  rintro vs H Q E ⟨m, g, hg, a1, a2, ga, tb, ot, given, v, d, rfl, _⟩
  rfl
theorem dec_nat {x y : Nat} : decide (((x : Nat) : Int) = ((y : Nat) : Int)) = decide (x = y) := by
  by_cases z : x = y
  · simp [z]
  · have z2 : ¬ ((x : Int) = (y : Int)) := by omega
    simp [z, z2]
theorem wp__law_tree_due {K : PySem.W.Frag} {mg : Str → Option Value} {f : Nat} (T : Tx K mg) : ∀ vs H Q E, sp__law_tree_due K f vs H Q E → t__law_tree_due K f { nx := fun _ H' => Q .non H', rt := Q } (start N__law_tree_due vs) H := by
  rintro vs H Q E ⟨m, g, hg, a1, a2, ga, tb, ot, given, v, d, rfl, T1, T2, Q1, Q2, hm, hG, hgl, hgm, D, F, q⟩
  have qc : ∀ H', Same H H' → Q (.bl (match ents "cases" m d with
    | none => false
    | some cs => (List.range m).all fun e => caseB tb ot m (treeB tb ot m g) given e (cs.getD e .none))) H' := q
  unfold t__law_tree_due
  walk_at "w"
  obtain ⟨xs0, hx0, hl0⟩ := T2.lenL
  refine w_lenL hx0 ?_
  rw [hl0, Q2.len]
  walk_at "w"
  refine ⟨v, d, "cases", m, rfl, D, F, by decide, fun en H1 s1 => ?_, fun r en H1 a xs s1 hS hD => ?_⟩
  · rw [en] at qc
    walk_at "w"
    refine w_dT rfl ?_
    walk_at "w"
    exact qc H1 s1
  rw [en] at qc
  have qc : ∀ H', Same H H' → Q (.bl ((List.range m).all fun e => caseB tb ot m (treeB tb ot m g) given e (r.getD e .none))) H' := qc
  obtain ⟨Fr, hrl⟩ := ents_ff en F
  have hl := hD.len
  walk_at "w"
  refine w_dF (fun z => by cases z) ?_
  walk_at "w"
  obtain ⟨xs1, hx1, hl1⟩ := (T2.same s1).lenL
  refine w_lenL hx1 ?_
  rw [hl1, Q2.len]
  walk_at "w"
  refine fr1 (n := m) rfl (by omega) (fun i σ H' => (∃ v5 v6 v7 v8 v9 v10, σ = [some (.ref a1), some (.ref a2), some (.ref ga), some v, some (.ref a), v5, v6, v7, v8, v9, v10, none, none]) ∧ Same H1 H' ∧ ∀ e, e < i → caseB tb ot m (treeB tb ot m g) given e (r.getD e .none) = true) ⟨⟨_, _, _, _, _, _, rfl⟩, Same.refl _, fun e he => absurd he (Nat.not_lt_zero e)⟩ ?_ ?_
  · rintro e σ H2 he ⟨⟨v5, v6, v7, v8, v9, v10, rfl⟩, s2, hall⟩
    have w2 := s1.trans s2
    have hdi := byAt_get (ds := r) (i := e) (by omega)
    have Fi := Fr.sub (List.mem_of_getElem? hdi)
    have hxe : xs[e]? = some (xs[e]'(by omega)) := List.getElem?_eq_getElem (by omega)
    have De := hD.get hxe hdi
    generalize hve : (xs[e]'(by omega)) = ve at hxe De
    clear hve
    walk_at "w"
    refine ⟨szl (by show 1 ≤ 1000000; decide), fun p hp => ?_⟩
    have s3 : Same _ _ := Same.tnew (o := .tup [V.int (e : Nat)]) hp
    refine w_ctT ((w2.trans s3).tT hG) (SqT.of upd_same) (by rw [nv_len]; show _ + 1 ≤ _; omega) fun c H3 s4 hO => ?_
    have s5 := s3.trans s4
    have w3 := w2.trans s5
    have hO' : SqT K H3 c (nv (given ++ [e])) := by
      rw [← nv_app]
      exact hO
    clear hO
    generalize (upd H2 p (.tup [V.int (e : Nat)])) = H0 at s3 s4 s5
    have De3 := Dp.keep Fi (Kp.of (s2.trans s5)) _ De
    have S3 := (s2.trans s5).tT hS
    have T13 := T1.same w3
    have T23 := T2.same w3
    have G3 := w3.tT hG
    have hog : ∀ i, i < given.length + 1 → gt (given ++ [e]) i < m := fun i hi => by
      have hm1 : gt (given ++ [e]) i ∈ given ++ [e] := List.mem_of_getElem? (gt_some (by rw [List.length_append, List.length_singleton]; exact hi))
      rcases List.mem_append.mp hm1 with z | z
      · exact hgm _ z
      · rw [List.mem_singleton.mp z]; exact he
    have hol : (given ++ [e]).length = given.length + 1 := by rw [List.length_append, List.length_singleton]
    -- what good is, and the end of the turn
    have fin : ∀ (b : Bool) (H' : Hp) (v7 v8 v9 : Option V), b = caseB tb ot m (treeB tb ot m g) given e (r.getD e .none) → Same H3 H' →
        (b = false → Q (.bl false) H') ∧ (b = true → Same H1 H' ∧ ∀ x, x < e + 1 → caseB tb ot m (treeB tb ot m g) given x (r.getD x .none) = true) := fun b H' v7 v8 v9 eb s6 => by
      constructor
      · intro hb
        have e0 : ((List.range m).all fun e => caseB tb ot m (treeB tb ot m g) given e (r.getD e .none)) = false := by
          rw [Bool.eq_false_iff]
          intro z
          have := List.all_eq_true.mp z e (List.mem_range.mpr he)
          rw [← eb, hb] at this
          cases this
        have := qc H' (w3.trans s6)
        rwa [e0] at this
      · intro hb
        refine ⟨(s2.trans s5).trans s6, fun x hx => ?_⟩
        by_cases hxe2 : x = e
        · subst hxe2
          rw [← eb, hb]
        · exact hall x (by omega)
    refine w_gn ?_
    with_reducible refine w_seqG fun J hJ => ?_
    have cont : ∀ (cv : V) (H4 : Hp), Same H3 H4 →
        ((cv = .non ∧ ents "clash" 1 (r.getD e .none) = none) ∨ (∃ (ca : Addr) (cx : List V) (cr : List PyData), cv = .ref ca ∧ ents "clash" 1 (r.getD e .none) = some cr ∧ SqT K H4 ca cx ∧ DpAll K H4 cx cr)) →
        J [some (.ref a1), some (.ref a2), some (.ref ga), some v, some (.ref a), some (.int (e : Nat)), some (.ref c), some cv, v8, v9, v10, none, none] H4 := by
      intro cv H4 s6 info
      refine hJ _ _ ?_
      obtain ⟨rs1, x1, x2, x3⟩ := (T13.same s6).ex
      walk_at "w"
      refine cl x1 (by rw [List.length_map, x2, Q1.len]; omega) (fun _ => true) (fun i => .int (g2 tb i given.length : Nat)) (fun _ => rfl) (fun i x H' R hi s k => k H' (Same.refl H')) (fun i x H' R hi _ s k => ?_) fun col H5 hcol s7 hcolv => ?_
      · rw [List.getElem?_map] at hi
        cases hri : rs1[i]? with
        | none => rw [hri] at hi; cases hi
        | some rr =>
          rw [hri] at hi
          have ex : V.ref rr = x := Option.some.inj hi
          subst ex
          have him : i < m := by
            obtain ⟨z, _⟩ := List.getElem?_eq_some_iff.mp hri
            rw [x2, Q1.len] at z
            exact z
          walk_at "w"
          refine w_lenT ((s6.trans s).tT G3) ?_
          rw [nv_len]
          refine w_ixL (s.tL (x3 i rr hri)) (at_nv (by rw [Q1.row i him]; omega)) ?_
          exact k _ (Same.refl _)
      rw [picked_fv, List.length_map, x2, Q1.len] at hcolv
      walk_at "w"
      refine ct ((s6.trans s7).tT hO') (by rw [nv_len, hol]; omega) (fun _ => true) (fun i => .int (g2 ot (gt (given ++ [e]) i) e : Nat)) (fun _ => rfl) (fun i x H' R hi s k => k H' (Same.refl H')) (fun i x H' R hi _ s k => ?_) fun oth H6 hoth s8 hothv => ?_
      · obtain ⟨hlt, rfl⟩ := nv_of hi
        rw [hol] at hlt
        obtain ⟨xs2, r2, k1, k2, k3, k4⟩ := (T23.same ((s6.trans s7).trans s)).row (i := gt (given ++ [e]) i) (by rw [Q2.len]; exact hog i hlt)
        walk_at "w"
        refine w_ixL k1 k3 ?_
        walk_at "w"
        refine w_ixL k4 (at_nv (by rw [Q2.row _ (hog i hlt)]; exact he)) ?_
        exact k _ (Same.refl _)
      rw [picked_fv, nv_len, hol] at hothv
      have s9 := (s6.trans s7).trans s8
      have hcol9 := s8 _ _ hcolv
      -- the tests
      refine w_gn ?_
      with_reducible refine w_seqG fun J2 hJ2 => ?_
      have cont2 : ∀ (b : Bool) (H' : Hp), b = caseB tb ot m (treeB tb ot m g) given e (r.getD e .none) → Same H3 H' →
          J2 [some (.ref a1), some (.ref a2), some (.ref ga), some v, some (.ref a), some (.int (e : Nat)), some (.ref c), some cv, some (.ref col), some (.ref oth), some (.bl b), none, none] H' := fun b H' eb s10 => by
        refine hJ2 _ _ ?_
        obtain ⟨f0, f1⟩ := fin b H' none none none eb s10
        walk_at "w"
        cases b with
        | false =>
          walk_at "w"
          exact f0 rfl
        | true =>
          walk_at "w"
          exact ⟨⟨_, _, _, _, _, _, rfl⟩, f1 rfl⟩
      walk_at "w"
      refine w_ixT (s9.tT S3) (atI_nat hxe) ?_
      walk_at "w"
      refine ⟨szl (by show 1 ≤ 1000000; decide), fun pu hpu => ?_⟩
      have s10 : Same _ _ := Same.tnew (o := .tup [V.str "used"]) hpu
      have s11 := s9.trans s10
      refine ⟨r.getD e .none, usedD, Dp.keep Fi (Kp.of s11) _ De3, Dp.used upd_same, FF.sh Fi, used_sh, ?_⟩
      have hcol11 := s10 _ _ hcol9
      have hoth11 := s10 _ _ hothv
      have s7' : Same H4 (upd H6 pu (.tup [V.str "used"])) := (s7.trans s8).trans s10
      generalize (upd H6 pu (.tup [V.str "used"])) = H7 at s10 s11 hcol11 hoth11 s7' ⊢
      have ce : caseB tb ot m (treeB tb ot m g) given e (r.getD e .none) = if PyData.eqv (r.getD e .none) usedD = true then decide (e ∈ given)
          else match ents "clash" 1 (r.getD e .none) with
            | some r' => numsB (given.length + 1) (.tuple r') && !decide (g2 tb (natOf (r'.getD 0 .none)) given.length = g2 ot (gt (given ++ [e]) (natOf (r'.getD 0 .none))) e)
            | none => decide (e ∉ given) && (decide (given.length + 1 < m) && treeB tb ot m g (given ++ [e]) (r.getD e .none)) := rfl
      walk_at "w"
      refine w_b2 (fun hu => ?_) (fun hu => ?_)
      · rw [if_pos hu] at ce
        walk_at "w"
        refine ⟨ga, _, rfl, .inr (s11.tT G3), rfl, flat_nv, ?_⟩
        show gName 10 (.bl (inV (.int e) (nv given))) _ _ _
        rw [in_nv]
        exact cont2 _ _ ce.symm s11
      rw [if_neg (by rw [hu]; decide)] at ce
      rcases info with ⟨rfl, cn⟩ | ⟨ca, cx, cr, rfl, cn, hcS, hcD⟩
      · rw [cn] at ce
        have ce : caseB tb ot m (treeB tb ot m g) given e (r.getD e .none) = (decide (e ∉ given) && (decide (given.length + 1 < m) && treeB tb ot m g (given ++ [e]) (r.getD e .none))) := ce
        walk_at "w"
        refine w_nF rfl ?_
        walk_at "w"
        refine ⟨ga, _, rfl, .inr (s11.tT G3), rfl, flat_nv, ?_⟩
        refine ⟨!inV (.int e) (nv given), rfl, ?_⟩
        rw [in_nv]
        refine w_nb2 (fun hb => ?_) (fun hb => ?_)
        · have hng : e ∉ given := of_decide_eq_false hb
          rw [decide_eq_true hng, Bool.true_and] at ce
          walk_at "w"
          refine w_lenT (s11.tT hO') ?_
          rw [nv_len, hol]
          walk_at "w"
          obtain ⟨xs3, hx3, hl3⟩ := (T23.same s11).lenL
          refine w_lenL hx3 ?_
          rw [hl3, Q2.len]
          walk_at "w"
          refine w_d2 (fun hlt => ?_) (fun hlt => ?_)
          · have hlt' : given.length + 1 < m := by omega
            rw [decide_eq_true hlt', Bool.true_and] at ce
            walk_at "w"
            refine w_ixT (s11.tT S3) (atI_nat hxe) ?_
            walk_at "w"
            cases f with
            | zero => omega
            | succ f =>
              obtain ⟨g', rfl⟩ : ∃ g', g = g' + 1 := ⟨g - 1, by omega⟩
              refine ⟨m, g', by omega, a1, a2, c, tb, ot, given ++ [e], ve, r.getD e .none, rfl, T13.same s11, T23.same s11, Q1, Q2, hm, s11.tT hO', by rw [hol]; omega, fun x hx => ?_, Dp.keep Fi (Kp.of s11) _ De3, Fi, fun H8 s12 => cont2 _ _ ce.symm (s11.trans s12)⟩
              rcases List.mem_append.mp hx with z | z
              · exact hgm x z
              · rw [List.mem_singleton.mp z]; exact he
          · have hlt' : ¬ given.length + 1 < m := by omega
            rw [decide_eq_false hlt', Bool.false_and] at ce
            walk_at "w"
            exact cont2 _ _ ce.symm s11
        · have hng : ¬ e ∉ given := fun z => z (of_decide_eq_true hb)
          rw [decide_eq_false hng, Bool.false_and] at ce
          walk_at "w"
          exact cont2 _ _ ce.symm s11
      · rw [cn] at ce
        have ce : caseB tb ot m (treeB tb ot m g) given e (r.getD e .none) = (numsB (given.length + 1) (.tuple cr) && !decide (g2 tb (natOf (cr.getD 0 .none)) given.length = g2 ot (gt (given ++ [e]) (natOf (cr.getD 0 .none))) e)) := ce
        obtain ⟨Fc, hcl⟩ := ents_ff cn Fi
        walk_at "w"
        refine w_nT (fun z => by cases z) ?_
        walk_at "w"
        refine w_lenT (s11.tT hO') ?_
        rw [nv_len, hol]
        walk_at "w"
        have Dc : Dp K H7 (.ref ca) (.tuple cr) := Dp.keep Fc (Kp.of s7') _ (.tup hcS hcD)
        refine ⟨.ref ca, .tuple cr, given.length + 1, rfl, Dc, Fc, fun H8 s12 => ?_⟩
        walk_at "w"
        have s13 := s11.trans s12
        refine w_b2 (fun hb => ?_) (fun hb => ?_)
        · rw [hb, Bool.true_and] at ce
          obtain ⟨a', ea, S5, B5⟩ := nums_of hb Fc (Dp.keep Fc (Kp.of s12) _ Dc)
          cases ea
          have hn1 : natsOf (.tuple cr) = cr.map natOf := rfl
          rw [hn1] at S5 B5
          obtain ⟨r0, rfl⟩ : ∃ r0, cr = [r0] := by
            match cr, hcl with
            | [r0], _ => exact ⟨r0, rfl⟩
          have hi : natOf r0 < given.length + 1 := B5 _ (by simp)
          have hdd : ([r0] : List PyData).getD 0 .none = r0 := rfl
          rw [hdd] at ce
          have S5 : SqT K H8 ca [.int (natOf r0 : Nat)] := S5
          generalize natOf r0 = i at hi ce S5
          walk_at "w"
          refine w_ixT S5 (at0 rfl) ?_
          refine w_ixL (SqL.of (s12 _ _ hcol11)) (at_fv (by omega)) ?_
          walk_at "w"
          refine w_ixT S5 (at0 rfl) ?_
          refine w_ixL (SqL.of (s12 _ _ hoth11)) (at_fv hi) ?_
          walk_at "w"
          rw [dec_nat]
          exact cont2 _ _ ce.symm s13
        · rw [hb, Bool.false_and] at ce
          walk_at "w"
          exact cont2 _ _ ce.symm s13
    walk_at "w"
    refine w_ixT S3 (atI_nat hxe) ?_
    walk_at "w"
    refine ⟨ve, r.getD e .none, "clash", 1, rfl, De3, Fi, by decide, fun cn H4 s6 => ?_, fun cr cn H4 ca cx s6 hcS hcD => ?_⟩
    · exact cont .non H4 s6 (.inl ⟨rfl, cn⟩)
    · exact cont (.ref ca) H4 s6 (.inr ⟨ca, cx, cr, rfl, cn, hcS, hcD⟩)
  · rintro σ H2 ⟨⟨v5, v6, v7, v8, v9, v10, rfl⟩, s2, hall⟩
    walk_at "w"
    have e : ((List.range m).all fun e => caseB tb ot m (treeB tb ot m g) given e (r.getD e .none)) = true := List.all_eq_true.mpr fun x hx => hall x (List.mem_range.mp hx)
    have := qc H2 (s1.trans s2)
    rwa [e] at this

theorem ok__law_tree_due {P : Program} {w : World} {K : PySem.W.Frag} {mg : Str → Option Value} {base : Heap} (f : Nat) (F : FnP K mg "_law_tree_due" s__law_tree_due) (T : Tx K mg) (c__law_entries : Ok P w K mg base "_law_entries" 1 ps__law_entries (sp__law_entries K)) (c__law_numbers : Ok P w K mg base "_law_numbers" 1 ps__law_numbers (sp__law_numbers K)) (c__law_tree_due : Ok P w K mg base "_law_tree_due" (f + 3) ps__law_tree_due (spv__law_tree_due K f)) :
    Ok P w K mg base "_law_tree_due" (f + 4) ps__law_tree_due (sp__law_tree_due K f) :=
  ok_of (t := t__law_tree_due K f) F sc__law_tree_due (len__law_tree_due) (fun _ _ _ _ _ _ us hl => match us, hl with | [_, _, _, _], _ => rfl)
    (fun f cdv A outer s H E hr => by
      have hu := hu_of hr
      have hu65 := u65 hr
      exact (pss_cons (ps_set (i := 4) sc__law_tree_due.nd rfl (Or.inl rfl) (pe_callO c__law_entries (hk := by omega) hr (pa_cons (pv 3) (pa_cons pe_str (pa_cons (pe_callB call_len rfl T.b_len PySem.boot_len (pa_cons (pv 1) pa_nil)) pa_nil)))))
      (pss_cons (ps_if (pt_cmp (pc_isN (pv 4))) (pss_one (ps_ret pe_bl)) pss_nil)
      (pss_cons (ps_for PassesOwn.never rfl (pi_range1 rfl T.b_range (pa_cons (pe_callB call_len rfl T.b_len PySem.boot_len (pa_cons (pv 1) pa_nil)) pa_nil)) (pg_name (i := 5) sc__law_tree_due.nd rfl (Or.inr rfl)) (pss_cons (ps_set (i := 6) sc__law_tree_due.nd rfl (Or.inl rfl) (pe_op op_catA (pv 2) (pe_tup (pa_cons (pv 5) pa_nil))))
      (pss_cons (ps_set (i := 7) sc__law_tree_due.nd rfl (Or.inl rfl) (pe_callO c__law_entries (hk := by omega) hr (pa_cons (pe_ix ix_tup (pv 4) (pv 5) (fun _ _ => rfl)) (pa_cons pe_str (pa_cons pe_int pa_nil)))))
      (pss_cons (ps_setLc (i := 8) (own := [("row", 11)]) rfl sc__law_tree_due.nd rfl rfl (sw_true rfl rfl rfl (by decide +kernel)) (pi_list (pv 0)) (blkOk_by (own := [("row", 11)]) (N := N__law_tree_due) (sc := defScope s__law_tree_due) (by decide +kernel)) (fun _ _ _ _ _ => (pg_name (i := 11) sc__law_tree_due.nd rfl (Or.inl rfl))) (fun _ _ _ _ _ => pts_nil) (fun _ _ _ _ _ => (pe_ix ix_list (pv 11) (pe_callB call_len rfl T.b_len PySem.boot_len (pa_cons (pv 2) pa_nil)) (fun _ _ => rfl))))
      (pss_cons (ps_setLc (i := 9) (own := [("tie", 12)]) rfl sc__law_tree_due.nd rfl rfl (sw_true rfl rfl rfl (by decide +kernel)) (pi_tup (pv 6)) (blkOk_by (own := [("tie", 12)]) (N := N__law_tree_due) (sc := defScope s__law_tree_due) (by decide +kernel)) (fun _ _ _ _ _ => (pg_name (i := 12) sc__law_tree_due.nd rfl (Or.inl rfl))) (fun _ _ _ _ _ => pts_nil) (fun _ _ _ _ _ => (pe_ix ix_list (pe_ix ix_list (pv 1) (pv 12) (fun _ _ => rfl)) (pv 5) (fun _ _ => rfl))))
      (pss_cons (ps_if (pt_cmpR (op_eqD hr.units) (pe_ix ix_tup (pv 4) (pv 5) (fun _ _ => rfl)) (pe_tup (pa_cons pe_str pa_nil)) (nomark _)) (pss_one (ps_set (i := 10) sc__law_tree_due.nd rfl (Or.inl rfl) (pe_cmpR op_in_seq (pv 5) (pv 2) rfl))) (pss_one (ps_if (pt_cmp (pc_notN (pv 7))) (pss_cons (ps_set (i := 10) sc__law_tree_due.nd rfl (Or.inl rfl) (pe_callO c__law_numbers (hk := by omega) hr (pa_cons (pv 7) (pa_cons (pe_callB call_len rfl T.b_len PySem.boot_len (pa_cons (pv 6) pa_nil)) pa_nil))))
      (pss_one (ps_set (i := 10) sc__law_tree_due.nd rfl (Or.inl rfl) (pe_and (pv 10) (pe_one (pe_cmpR op_ne (pe_ix ix_list (pv 8) (pe_ix ix_tup (pv 7) pe_int (fun _ _ => rfl)) (fun _ _ => rfl)) (pe_ix ix_list (pv 9) (pe_ix ix_tup (pv 7) pe_int (fun _ _ => rfl)) (fun _ _ => rfl)) (nomark _))))))) (pss_cons (ps_set (i := 10) sc__law_tree_due.nd rfl (Or.inl rfl) (pe_and (pe_cmpR op_notIn_seq (pv 5) (pv 2) rfl) (pe_one (pe_cmpR op_lt (pe_callB call_len rfl T.b_len PySem.boot_len (pa_cons (pv 6) pa_nil)) (pe_callB call_len rfl T.b_len PySem.boot_len (pa_cons (pv 1) pa_nil)) (nomark _)))))
      (pss_one (ps_set (i := 10) sc__law_tree_due.nd rfl (Or.inl rfl) (pe_and (pv 10) (pe_one (pe_callO c__law_tree_due (hk := by omega) hr (pa_cons (pv 0) (pa_cons (pv 1) (pa_cons (pv 6) (pa_cons (pe_ix ix_tup (pv 4) (pv 5) (fun _ _ => rfl)) pa_nil)))))))))))))
      (pss_one (ps_if (pt_not (pt_val (pv 10))) (pss_one (ps_ret pe_bl)) pss_nil))))))))
      (pss_one (ps_ret pe_bl))))))
    (wp__law_tree_due T)

abbrev s__law_recast : Stmt := top 53
abbrev N__law_recast : List Str := ["turns", "codes", "edges", "old", "zero", "two", "x"]
abbrev ps__law_recast : List Str := ["turns", "codes"]
theorem sc__law_recast : FnScope N__law_recast ps__law_recast (defScope s__law_recast) := ⟨rfl, rfl, rfl, by decide +kernel, rfl, by decide +kernel, by decide +kernel⟩
def t__law_recast (K : PySem.W.Frag) : TS :=
    (tSeq (tAsg (tCall (sp__law_edges K) [] E0 (tCons (tVar 0) tNil)) (gName 2))
    (tSeq (tAsg (tCall (sp__law_pairings K) [] E0 (tCons (tVar 0) tNil)) (gName 3))
    (tSeq (tAsg (tLst tNil) (gName 4))
    (tSeq (tAsg (tLst tNil) (gName 5))
    (tSeq (tFor (iRng1 (tCons (tCB (rLenV K) (tCons (tVar 2) tNil)) tNil)) (gName 6) (tSeq (tDrop (tBM K "list" rAppend (tVar 4) (tCons (tOp (rIxL K) (tDGet (tVar 3) (tOp rIxS (tOp (rIxT K) (tVar 1) (tOp (rIxL K) (tVar 2) (tVar 6))) (tC (.int 1)))) (tVar 6)) tNil)))
    (tDrop (tBM K "list" rAppend (tVar 5) (tCons (tOp (rIxL K) (tDGet (tVar 3) (tOp rIxS (tOp (rIxT K) (tVar 1) (tOp (rIxL K) (tVar 2) (tVar 6))) (tC (.int 2)))) (tVar 6)) tNil)))))
    (tRet (tLst (tCons (tVar 4) (tCons (tCB (rLstOf K) (tCons (tOp (rIxL K) (tVar 0) (tC (.int 1))) tNil)) (tCons (tVar 5) tNil))))))))))
def sp__law_recast (K : PySem.W.Frag) : Sp := fun vs H Q _ => ∃ (a ca : Addr) (n : Nat) (z o t : List Nat) (cs : List Str), vs = [.ref a, .ref ca] ∧ Tbl K H a [z, o, t] ∧ MapT n z o t ∧ SqT K H ca (cs.map V.str) ∧ cs.length = n / 4 ∧ (∀ c ∈ cs, c ∈ codes) ∧
  ∀ H' D, Same H H' → Tbl K H' D [rcZ n z o t cs 1, o, rcZ n z o t cs 2] → Q (.ref D) H'
theorem len__law_recast {K : PySem.W.Frag} : ∀ vs H Q E, sp__law_recast K vs H Q E → vs.length = ps__law_recast.length := by
  rintro vs H Q E ⟨a, ca, n, z, o, t, cs, rfl, _⟩
  rfl
theorem codes_key1 : ∀ c ∈ codes, (⟨#[c.cps.getD 1 48]⟩ = ("0" : Str) ∧ dg c 1 = 0) ∨ (⟨#[c.cps.getD 1 48]⟩ = ("2" : Str) ∧ dg c 1 = 2) ∨ (⟨#[c.cps.getD 1 48]⟩ = ("3" : Str) ∧ dg c 1 = 3) := by decide +kernel
theorem codes_key2 : ∀ c ∈ codes, (⟨#[c.cps.getD 2 48]⟩ = ("0" : Str) ∧ dg c 2 = 0) ∨ (⟨#[c.cps.getD 2 48]⟩ = ("2" : Str) ∧ dg c 2 = 2) ∨ (⟨#[c.cps.getD 2 48]⟩ = ("3" : Str) ∧ dg c 2 = 3) := by decide +kernel
theorem pair_at {K : PySem.W.Frag} {H : Hp} {n : Nat} {z o t : List Nat} {p r0 r2 l3 : Addr} (Z : TurnT n z) (T : TurnT n t) (hp : H p = some (.dK (pairD r0 r2 l3))) (h0 : SqL K H r0 (nv z)) (h2 : SqL K H r2 (nv t)) (h3 : SqL K H l3 (fv n fun i => .int (gt t (gt z i) : Nat)))
    {k : Str} {d x : Nat} (hk : (k = "0" ∧ d = 0) ∨ (k = "2" ∧ d = 2) ∨ (k = "3" ∧ d = 3)) (hx : x < n) : ∃ y l, DGet H p (.str k) (some (.ref y)) ∧ SqL K H y l ∧ atI l (x : Nat) = some (.int (tn z o t d x : Nat)) := by
  rcases hk with ⟨rfl, rfl⟩ | ⟨rfl, rfl⟩ | ⟨rfl, rfl⟩
  · exact ⟨r0, _, DGet.k (k := .inr "0") hp, h0, at_nv (by rw [Z.len]; exact hx)⟩
  · exact ⟨r2, _, DGet.k (k := .inr "2") hp, h2, at_nv (by rw [T.len]; exact hx)⟩
  · exact ⟨l3, _, DGet.k (k := .inr "3") hp, h3, at_fv hx⟩
theorem nv_snoc {n : Nat} {f : Nat → Nat} : nv ((List.range n).map f) ++ [.int (f n : Nat)] = nv ((List.range (n + 1)).map f) := by
  rw [List.range_succ, List.map_append, ← nv_app]
  rfl
theorem wp__law_recast {K : PySem.W.Frag} {mg : Str → Option Value} (T : Tx K mg) : ∀ vs H Q E, sp__law_recast K vs H Q E → t__law_recast K { nx := fun _ H' => Q .non H', rt := Q } (start N__law_recast vs) H := by
  rintro vs H Q E0 ⟨a, ca, n, z, o, t, cs, rfl, hT, M, hC, hl, hc, q⟩
  have E := M.edg
  have hn := M.le
  obtain ⟨xs, r1, h1, h2, h3, h4⟩ := hT.row (i := 1) (by show 1 < 3; decide)
  have h4 : SqL K H r1 (nv o) := h4
  unfold t__law_recast
  walk_at "w"
  refine ⟨a, n, z, o, t, rfl, hT, E, M.pos, hn, fun H1 ed s1 hed0 hed => ?_⟩
  walk_at "w"
  refine ⟨a, n, z, o, t, rfl, hT.same s1, M.hz, M.ht, hn, fun H2 p r0 r2 l3 s2 hp g0 g2 g3 => ?_⟩
  have w2 := s1.trans s2
  walk_at "w"
  refine ⟨szl (by show 0 ≤ 1000000; decide), fun za hza => ?_⟩
  have s3 : Same _ _ := Same.tnew (o := .lst ([] : List V)) hza
  have hz3 : (upd H2 za (.lst ([] : List V))) za = some (.lst ([] : List V)) := upd_same
  generalize (upd H2 za (.lst ([] : List V))) = H3 at s3 hz3 ⊢
  walk_at "w"
  refine ⟨szl (by show 0 ≤ 1000000; decide), fun ta hta => ?_⟩
  have s4 : Same _ _ := Same.tnew (o := .lst ([] : List V)) hta
  have hz4 : (upd H3 ta (.lst ([] : List V))) ta = some (.lst ([] : List V)) := upd_same
  have nzt : za ≠ ta := by rintro rfl; rw [hz3] at hta; cases hta
  have hta0 : H2 ta = none := s3.tfr hta
  have hz34 := s4 _ _ hz3
  have w4 := s3.trans s4
  generalize (upd H3 ta (.lst ([] : List V))) = H4 at s4 hz4 hz34 w4 ⊢
  walk_at "w"
  refine w_lenL (SqL.of (w4 _ _ (s2 _ _ hed))) ?_
  rw [nv_len, edgesOf_len]
  walk_at "w"
  refine fr1 (n := n) rfl (by omega) (fun i σ H' => (∃ v6, σ = [some (.ref a), some (.ref ca), some (.ref ed), some (.ref p), some (.ref za), some (.ref ta), v6]) ∧ Same H2 H' ∧
    H' za = some (.lst (nv ((List.range i).map fun x => tn z o t (dg (cAt cs (edgeOf z t x)) 1) x))) ∧ H' ta = some (.lst (nv ((List.range i).map fun x => tn z o t (dg (cAt cs (edgeOf z t x)) 2) x)))) ⟨⟨_, rfl⟩, w4, hz34, hz4⟩ ?_ ?_
  · rintro i σ H5 hi ⟨⟨v6, rfl⟩, s5, hz5, ht5⟩
    have w5 := w2.trans s5
    have hed5 : SqL K H5 ed (nv (edgesOf n z t)) := SqL.of (s5 _ _ (s2 _ _ hed))
    have hee : edgeOf z t i < cs.length := by rw [hl]; exact edgeOf_lt E hi
    obtain ⟨hc1, hc2⟩ := cAt_mem hee
    have hcm := hc _ hc2
    have hcl := words_len _ (codes_words _ hcm)
    walk_at "w"
    refine ⟨tyL hz5, ?_⟩
    walk_at "w"
    have hced : ∀ {H'}, Same H H' → SqT K H' ca (cs.map V.str) := fun s => s.tT hC
    refine w_ixL hed5 (at_nv (by rw [edgesOf_len]; exact hi)) ?_
    rw [gt_edgesOf hi]
    refine w_ixT (hced w5) (v := .str (cAt cs (edgeOf z t i))) (atI_nat (by rw [List.getElem?_map, hc1]; rfl)) ?_
    walk_at "w"
    refine ⟨_, 1, _, rfl, rfl, szl (by omega), codes_at1 _ hcm, ?_⟩
    obtain ⟨y1, l1, d1, d2, d3⟩ := pair_at M.hz M.ht (s5 _ _ hp) (s5.tL g0) (s5.tL g2) (s5.tL g3) (codes_key1 _ hcm) hi
    refine ⟨p, _, rfl, d1, ?_⟩
    walk_at "w"
    refine w_ixL d2 d3 ?_
    walk_at "w"
    refine w_app hz5 (by rw [nv_len, len_map]; exact szlt (by omega)) ?_
    rw [nv_snoc (f := fun x => tn z o t (dg (cAt cs (edgeOf z t x)) 1) x)]
    have hza0 : H2 za = none := hza
    have s6 : Same H2 (upd H5 za (.lst (nv ((List.range (i + 1)).map fun x => tn z o t (dg (cAt cs (edgeOf z t x)) 1) x)))) := s5.tmut hza0
    have hz6 : (upd H5 za (.lst (nv ((List.range (i + 1)).map fun x => tn z o t (dg (cAt cs (edgeOf z t x)) 1) x)))) za = some (.lst (nv ((List.range (i + 1)).map fun x => tn z o t (dg (cAt cs (edgeOf z t x)) 1) x))) := upd_same
    have ht6 : (upd H5 za (.lst (nv ((List.range (i + 1)).map fun x => tn z o t (dg (cAt cs (edgeOf z t x)) 1) x)))) ta = some (.lst (nv ((List.range i).map fun x => tn z o t (dg (cAt cs (edgeOf z t x)) 2) x))) := by
      rw [upd_ne (Ne.symm nzt)]
      exact ht5
    generalize (upd H5 za (.lst (nv ((List.range (i + 1)).map fun x => tn z o t (dg (cAt cs (edgeOf z t x)) 1) x)))) = H6 at s6 hz6 ht6 ⊢
    have w6 := w2.trans s6
    have hed6 : SqL K H6 ed (nv (edgesOf n z t)) := SqL.of (s6 _ _ (s2 _ _ hed))
    walk_at "w"
    refine ⟨tyL ht6, ?_⟩
    walk_at "w"
    refine w_ixL hed6 (at_nv (by rw [edgesOf_len]; exact hi)) ?_
    rw [gt_edgesOf hi]
    refine w_ixT (hced w6) (v := .str (cAt cs (edgeOf z t i))) (atI_nat (by rw [List.getElem?_map, hc1]; rfl)) ?_
    walk_at "w"
    refine ⟨_, 2, _, rfl, rfl, szl (by omega), codes_at2 _ hcm, ?_⟩
    obtain ⟨y2, l2, e1, e2, e3⟩ := pair_at M.hz M.ht (s6 _ _ hp) (s6.tL g0) (s6.tL g2) (s6.tL g3) (codes_key2 _ hcm) hi
    refine ⟨p, _, rfl, e1, ?_⟩
    walk_at "w"
    refine w_ixL e2 e3 ?_
    walk_at "w"
    refine w_app ht6 (by rw [nv_len, len_map]; exact szlt (by omega)) ?_
    rw [nv_snoc (f := fun x => tn z o t (dg (cAt cs (edgeOf z t x)) 2) x)]
    refine ⟨⟨_, rfl⟩, s6.tmut hta0, ?_, upd_same⟩
    rw [upd_ne nzt]
    exact hz6
  · rintro σ H5 ⟨⟨v6, rfl⟩, s5, hz5, ht5⟩
    walk_at "w"
    refine w_ixL ((w2.trans s5).tL h1) h3 ?_
    walk_at "w"
    refine w_lstL ((w2.trans s5).tL h4) fun la hla => ?_
    have s6 : Same _ _ := Same.tnew (o := .lst (nv o)) hla
    walk_at "w"
    refine ⟨szl (by show 3 ≤ 1000000; decide), fun D hD => ?_⟩
    have s7 : Same _ _ := Same.tnew (o := .lst [V.ref za, V.ref la, V.ref ta]) hD
    refine q _ D (((w2.trans s5).trans s6).trans s7) ⟨[za, la, ta], SqL.of upd_same, rfl, fun i r e => ?_⟩
    match i, e with
    | 0, e => cases e; exact SqL.of (s7 _ _ (s6 _ _ hz5))
    | 1, e => cases e; exact SqL.of (s7 _ _ upd_same)
    | 2, e => cases e; exact SqL.of (s7 _ _ (s6 _ _ ht5))
    | i + 3, e => simp at e

theorem ok__law_recast {P : Program} {w : World} {K : PySem.W.Frag} {mg : Str → Option Value} {base : Heap} (F : FnP K mg "_law_recast" s__law_recast) (T : Tx K mg) (c__law_edges : Ok P w K mg base "_law_edges" 1 ps__law_edges (sp__law_edges K)) (c__law_pairings : Ok P w K mg base "_law_pairings" 1 ps__law_pairings (sp__law_pairings K)) :
    Ok P w K mg base "_law_recast" 2 ps__law_recast (sp__law_recast K) :=
  ok_of (t := t__law_recast K) F sc__law_recast (len__law_recast) (fun _ _ _ _ _ _ us hl => match us, hl with | [_, _], _ => rfl)
    (fun f cdv A outer s H E hr => by
      have hu := hu_of hr
      have hu65 := u65 hr
      exact (pss_cons (ps_set (i := 2) sc__law_recast.nd rfl (Or.inl rfl) (pe_callO c__law_edges hr (pa_cons (pv 0) pa_nil)))
      (pss_cons (ps_set (i := 3) sc__law_recast.nd rfl (Or.inl rfl) (pe_callO c__law_pairings hr (pa_cons (pv 0) pa_nil)))
      (pss_cons (ps_set (i := 4) sc__law_recast.nd rfl (Or.inl rfl) (pe_lst pa_nil))
      (pss_cons (ps_set (i := 5) sc__law_recast.nd rfl (Or.inl rfl) (pe_lst pa_nil))
      (pss_cons (ps_for PassesOwn.never rfl (pi_range1 rfl T.b_range (pa_cons (pe_callB call_len rfl T.b_len PySem.boot_len (pa_cons (pv 2) pa_nil)) pa_nil)) (pg_name (i := 6) sc__law_recast.nd rfl (Or.inl rfl)) (pss_cons (ps_expr (pe_bm PySem.F.plainAttrs_list PySem.F.slot_list_append PySem.F.type_list_append mt_append (pv 4) (pa_cons (pe_ix ix_list (pe_dget hu (pv 3) (pe_ix ix_str (pe_ix ix_tup (pv 1) (pe_ix ix_list (pv 2) (pv 6) (fun _ _ => rfl)) (fun _ _ => rfl)) pe_int (fun _ _ => rfl)) (fun _ _ => rfl)) (pv 6) (fun _ _ => rfl)) pa_nil)))
      (pss_one (ps_expr (pe_bm PySem.F.plainAttrs_list PySem.F.slot_list_append PySem.F.type_list_append mt_append (pv 5) (pa_cons (pe_ix ix_list (pe_dget hu (pv 3) (pe_ix ix_str (pe_ix ix_tup (pv 1) (pe_ix ix_list (pv 2) (pv 6) (fun _ _ => rfl)) (fun _ _ => rfl)) pe_int (fun _ _ => rfl)) (fun _ _ => rfl)) (pv 6) (fun _ _ => rfl)) pa_nil))))))
      (pss_one (ps_ret (pe_lst (pa_cons (pv 4) (pa_cons (pe_callTy call_list_of rfl T.b_list (by decide +kernel) (pa_cons (pe_ix ix_list (pv 0) pe_int (fun _ _ => rfl)) pa_nil)) (pa_cons (pv 5) pa_nil))))))))))))
    (wp__law_recast T)

abbrev s__law_renamed : Stmt := top 54
abbrev N__law_renamed : List Str := ["turns", "images", "named", "turn", "x"]
abbrev ps__law_renamed : List Str := ["turns", "images"]
theorem sc__law_renamed : FnScope N__law_renamed ps__law_renamed (defScope s__law_renamed) := ⟨rfl, rfl, rfl, by decide +kernel, rfl, by decide +kernel, by decide +kernel⟩
def t__law_renamed (K : PySem.W.Frag) : TS :=
    (tSeq (tAsg (tLst (tCons (tOp rRep (tLst (tCons (tC (.int 0)) tNil)) (tCB (rLenV K) (tCons (tVar 1) tNil))) (tCons (tOp rRep (tLst (tCons (tC (.int 0)) tNil)) (tCB (rLenV K) (tCons (tVar 1) tNil))) (tCons (tOp rRep (tLst (tCons (tC (.int 0)) tNil)) (tCB (rLenV K) (tCons (tVar 1) tNil))) tNil)))) (gName 2))
    (tSeq (tFor (iRng1 (tCons (tC (.int 3)) tNil)) (gName 3) (tFor (iRng1 (tCons (tCB (rLenV K) (tCons (tVar 1) tNil)) tNil)) (gName 4) (tAsg (tOp (rIxT K) (tVar 1) (tOp (rIxL K) (tOp (rIxL K) (tVar 0) (tVar 3)) (tVar 4))) (gSub (tOp (rIxL K) (tVar 2) (tVar 3)) (tOp (rIxT K) (tVar 1) (tVar 4)) rSetL))))
    (tRet (tVar 2))))
def sp__law_renamed (K : PySem.W.Frag) : Sp := fun vs H Q _ => ∃ (a ia : Addr) (n : Nat) (z o t im : List Nat), vs = [.ref a, .ref ia] ∧ Tbl K H a [z, o, t] ∧ TurnT n z ∧ TurnT n o ∧ TurnT n t ∧ SqT K H ia (nv im) ∧ Prm n im ∧ n ≤ 240 ∧
  ∀ H' D Z O T, Same H H' → Cj n im z Z → Cj n im o O → Cj n im t T → Tbl K H' D [Z, O, T] → Q (.ref D) H'
theorem len__law_renamed {K : PySem.W.Frag} : ∀ vs H Q E, sp__law_renamed K vs H Q E → vs.length = ps__law_renamed.length := by
  rintro vs H Q E ⟨a, ia, n, z, o, t, im, rfl, _⟩
  rfl
theorem wp__law_renamed {K : PySem.W.Frag} {mg : Str → Option Value} (T : Tx K mg) : ∀ vs H Q E, sp__law_renamed K vs H Q E → t__law_renamed K { nx := fun _ H' => Q .non H', rt := Q } (start N__law_renamed vs) H := by
  rintro vs H Q E0 ⟨a, ia, n, z, o, t, im, rfl, hT, Tz, To, Tt, hI, R, hn, q⟩
  have key : ∀ i, i < 3 → TurnT n ([z, o, t].getD i []) := fun i hi => by
    match i, hi with
    | 0, _ => exact Tz
    | 1, _ => exact To
    | 2, _ => exact Tt
  unfold t__law_renamed
  walk_at "w"
  refine ⟨szl (by show 1 ≤ 1000000; decide), fun b0 hb0 => ?_⟩
  have t0 : Same _ _ := Same.tnew (o := .lst [V.int 0]) hb0
  walk_at "w"
  refine w_lenT (t0.tT hI) ?_
  rw [nv_len, R.len]
  refine w_rep1 (n := n) rfl (by omega) upd_same fun r0 hr0 => ?_
  have t1 : Same _ _ := Same.tnew (o := .lst (fv n (fun _ => V.int 0))) hr0
  have g1 : (upd (upd H b0 (.lst [V.int 0])) r0 (.lst (fv n (fun _ => V.int 0)))) r0 = some (.lst (fv n (fun _ => V.int 0))) := upd_same
  have f1 : H r0 = none := t0.tfr hr0
  have k1 := t0.trans t1
  generalize (upd (upd H b0 (.lst [V.int 0])) r0 (.lst (fv n (fun _ => V.int 0)))) = H3 at k1 g1 ⊢
  walk_at "w"
  refine ⟨szl (by show 1 ≤ 1000000; decide), fun b1 hb1 => ?_⟩
  have t2 : Same _ _ := Same.tnew (o := .lst [V.int 0]) hb1
  walk_at "w"
  refine w_lenT ((k1.trans t2).tT hI) ?_
  rw [nv_len, R.len]
  refine w_rep1 (n := n) rfl (by omega) upd_same fun r1 hr1 => ?_
  have t3 : Same _ _ := Same.tnew (o := .lst (fv n (fun _ => V.int 0))) hr1
  have g2 : (upd (upd H3 b1 (.lst [V.int 0])) r1 (.lst (fv n (fun _ => V.int 0)))) r1 = some (.lst (fv n (fun _ => V.int 0))) := upd_same
  have f2 : H3 r1 = none := t2.tfr hr1
  have k2 := t2.trans t3
  generalize (upd (upd H3 b1 (.lst [V.int 0])) r1 (.lst (fv n (fun _ => V.int 0)))) = H4 at k2 g2 ⊢
  walk_at "w"
  refine ⟨szl (by show 1 ≤ 1000000; decide), fun b2 hb2 => ?_⟩
  have t4 : Same _ _ := Same.tnew (o := .lst [V.int 0]) hb2
  walk_at "w"
  refine w_lenT (((k1.trans k2).trans t4).tT hI) ?_
  rw [nv_len, R.len]
  refine w_rep1 (n := n) rfl (by omega) upd_same fun r2 hr2 => ?_
  have t5 : Same _ _ := Same.tnew (o := .lst (fv n (fun _ => V.int 0))) hr2
  have g3 : (upd (upd H4 b2 (.lst [V.int 0])) r2 (.lst (fv n (fun _ => V.int 0)))) r2 = some (.lst (fv n (fun _ => V.int 0))) := upd_same
  have f3 : H4 r2 = none := t4.tfr hr2
  have k3 := t4.trans t5
  generalize (upd (upd H4 b2 (.lst [V.int 0])) r2 (.lst (fv n (fun _ => V.int 0)))) = H5 at k3 g3 ⊢
  walk_at "w"
  refine ⟨szl (by show 3 ≤ 1000000; decide), fun D hD => ?_⟩
  have W := rws3 f1 k1 g1 f2 k2 g2 f3 k3 g3 hD
  generalize (upd H5 D (.lst [.ref r0, .ref r1, .ref r2])) = H6 at W ⊢
  have W0 : Rws H H6 D [r0, r1, r2] 3 n (fun a b => .int (((fun _ _ => 0) : Nat → Nat → Nat) a b : Nat)) := W.congr fun _ _ _ _ => rfl
  walk_at "w"
  refine fr1 (n := 3) rfl (by omega) (fun i σ H' => ∃ v3 v4 Z, σ = [some (.ref a), some (.ref ia), some (.ref D), v3, v4] ∧ Rws H H' D [r0, r1, r2] 3 n (fun a b => .int (Z a b : Nat)) ∧
    ∀ c, c < i → ∀ x, x < n → Z c (gt im x) = gt im (gt ([z, o, t].getD c []) x)) ⟨_, _, fun _ _ => 0, rfl, W0, fun c hc => absurd hc (Nat.not_lt_zero c)⟩ ?_ ?_
  · rintro i σ H7 hi ⟨v3, v4, Z, rfl, W1, hZ⟩
    have Ti := key i hi
    walk_at "w"
    refine w_lenT (W1.sm.tT hI) ?_
    rw [nv_len, R.len]
    walk_at "w"
    refine fr1 (n := n) rfl (by omega) (fun x σ H' => ∃ v4 Z, σ = [some (.ref a), some (.ref ia), some (.ref D), some (.int (i : Nat)), v4] ∧ Rws H H' D [r0, r1, r2] 3 n (fun a b => .int (Z a b : Nat)) ∧
      (∀ c, c < i → ∀ x, x < n → Z c (gt im x) = gt im (gt ([z, o, t].getD c []) x)) ∧ ∀ y, y < x → Z i (gt im y) = gt im (gt ([z, o, t].getD i []) y)) ⟨_, Z, rfl, W1, hZ, fun y hy => absurd hy (Nat.not_lt_zero y)⟩ ?_ ?_
    · rintro x σ H8 hx ⟨v4, Z, rfl, W2, hZ, hZi⟩
      obtain ⟨xs, ri, e1, e2, e3, e4⟩ := (hT.same W2.sm).row (i := i) hi
      have hxx := R.lt hx
      walk_at "w"
      refine w_ixL e1 e3 ?_
      walk_at "w"
      refine w_ixL e4 (at_nv (by rw [Ti.len]; exact hx)) ?_
      refine w_ixT (W2.sm.tT hI) (at_nv (by rw [R.len]; exact Ti.bd x hx)) ?_
      obtain ⟨q0, a1, a2, a3, a4, a5⟩ := W2.get (i := i) hi
      walk_at "w"
      refine w_ixL (SqL.of W2.at_) a2 ?_
      walk_at "w"
      refine w_ixT (W2.sm.tT hI) (at_nv (by rw [R.len]; exact hx)) ?_
      refine w_setL (k := gt im x) a3 (ix_nat (by rw [fv_len]; exact hxx)) ?_
      have W3 := W2.set (v := .int (gt im (gt ([z, o, t].getD i []) x) : Nat)) a1 hxx
      refine ⟨_, fun a b => if a = i ∧ b = gt im x then gt im (gt ([z, o, t].getD i []) x) else Z a b, rfl, W3.congr fun a b _ _ => ?_, fun c hc y hy => ?_, fun y hy => ?_⟩
      · show (if a = i ∧ b = gt im x then _ else _) = V.int ((if a = i ∧ b = gt im x then _ else Z a b : Nat) : Int)
        split <;> rfl
      · have h0 : ¬ (c = i ∧ gt im y = gt im x) := fun w => by omega
        show (if c = i ∧ gt im y = gt im x then _ else _) = _
        rw [if_neg h0]
        exact hZ c hc y hy
      · show (if i = i ∧ gt im y = gt im x then _ else _) = _
        by_cases e : y = x
        · subst e
          rw [if_pos ⟨rfl, rfl⟩]
        · have h0 : ¬ (i = i ∧ gt im y = gt im x) := fun w => e (R.inj (by omega) hx w.2)
          rw [if_neg h0]
          exact hZi y (by omega)
    · rintro σ H8 ⟨v4, Z, rfl, W2, hZ, hZi⟩
      refine ⟨_, _, Z, rfl, W2, fun c hc x hx => ?_⟩
      by_cases e : c = i
      · subst e
        exact hZi x hx
      · exact hZ c (by omega) x hx
  · rintro σ H7 ⟨v3, v4, Z, rfl, W1, hZ⟩
    walk_at "w"
    have Cj0 : ∀ k f, (∀ x, x < n → Z k (gt im x) = gt im (gt f x)) → Cj n im f ((List.range n).map (Z k)) := fun k f h => ⟨len_map, fun x hx => by rw [gt_map (R.lt hx)]; exact h x hx⟩
    exact q H7 D _ _ _ W1.sm (Cj0 0 z (hZ 0 (by decide))) (Cj0 1 o (hZ 1 (by decide))) (Cj0 2 t (hZ 2 (by decide))) W1.tbl

theorem ok__law_renamed {P : Program} {w : World} {K : PySem.W.Frag} {mg : Str → Option Value} {base : Heap} (F : FnP K mg "_law_renamed" s__law_renamed) (T : Tx K mg) :
    Ok P w K mg base "_law_renamed" 1 ps__law_renamed (sp__law_renamed K) :=
  ok_of (t := t__law_renamed K) F sc__law_renamed (len__law_renamed) (fun _ _ _ _ _ _ us hl => match us, hl with | [_, _], _ => rfl)
    (fun f cdv A outer s H E hr => by
      have hu := hu_of hr
      have hu65 := u65 hr
      exact (pss_cons (ps_set (i := 2) sc__law_renamed.nd rfl (Or.inl rfl) (pe_lst (pa_cons (pe_op op_rep (pe_lst (pa_cons pe_int pa_nil)) (pe_callB call_len rfl T.b_len PySem.boot_len (pa_cons (pv 1) pa_nil))) (pa_cons (pe_op op_rep (pe_lst (pa_cons pe_int pa_nil)) (pe_callB call_len rfl T.b_len PySem.boot_len (pa_cons (pv 1) pa_nil))) (pa_cons (pe_op op_rep (pe_lst (pa_cons pe_int pa_nil)) (pe_callB call_len rfl T.b_len PySem.boot_len (pa_cons (pv 1) pa_nil))) pa_nil)))))
      (pss_cons (ps_for PassesOwn.never rfl (pi_range1 rfl T.b_range (pa_cons pe_int pa_nil)) (pg_name (i := 3) sc__law_renamed.nd rfl (Or.inl rfl)) (pss_one (ps_for PassesOwn.never rfl (pi_range1 rfl T.b_range (pa_cons (pe_callB call_len rfl T.b_len PySem.boot_len (pa_cons (pv 1) pa_nil)) pa_nil)) (pg_name (i := 4) sc__law_renamed.nd rfl (Or.inl rfl)) (pss_one (ps_asg (pe_ix ix_tup (pv 1) (pe_ix ix_list (pe_ix ix_list (pv 0) (pv 3) (fun _ _ => rfl)) (pv 4) (fun _ _ => rfl)) (fun _ _ => rfl)) (pg_sub (pe_ix ix_list (pv 2) (pv 3) (fun _ _ => rfl)) (pe_ix ix_tup (pv 1) (pv 4) (fun _ _ => rfl)) set_list))))))
      (pss_one (ps_ret (pv 2))))))
    (wp__law_renamed T)

abbrev s__law_due : Stmt := top 55
abbrev N__law_due : List Str := ["first", "second", "tables", "yes", "paper", "flags", "parts", "roles", "new", "code"]
abbrev ps__law_due : List Str := ["first", "second", "tables", "yes", "paper"]
theorem sc__law_due : FnScope N__law_due ps__law_due (defScope s__law_due) := ⟨rfl, rfl, rfl, by decide +kernel, rfl, by decide +kernel, by decide +kernel⟩
def t__law_due (K : PySem.W.Frag) : TS :=
    (tSeq (tAsg (tCB (rLenV K) (tCons (tOp (rIxL K) (tVar 0) (tC (.int 0))) tNil)) (gName 5))
    (tSeq (tIfS (tAnd (tNot (tB (tVar 3))) (tTest (tOp rNe (tVar 5) (tCB (rLenV K) (tCons (tOp (rIxL K) (tVar 1) (tC (.int 0))) tNil))))) (tRet (tOp (rEqD K) (tVar 4) (tTup (tCons (tC (.str "edges")) tNil)))) tNext)
    (tSeq (tIfS (tNot (tB (tVar 3))) (tRet (tCall (sp__law_tree_due K 4) [] E0 (tCons (tOp (rIxL K) (tVar 2) (tC (.int 0))) (tCons (tOp (rIxL K) (tVar 2) (tC (.int 1))) (tCons (tTup tNil) (tCons (tVar 4) tNil)))))) tNext)
    (tSeq (tAsg (tCall (sp__law_entries K) [] E0 (tCons (tVar 4) (tCons (tC (.str "recasting")) (tCons (tC (.int 2)) tNil)))) (gName 6))
    (tSeq (tIfS (tOr (tB (tIsN (tVar 6))) (tOr (tTest (tOp rNe (tVar 5) (tCB (rLenV K) (tCons (tOp (rIxL K) (tVar 1) (tC (.int 0))) tNil)))) (tNot (tB (tCall (sp__law_numbers K) [] E0 (tCons (tOp (rIxT K) (tVar 6) (tC (.int 1))) (tCons (tVar 5) tNil))))))) (tRet (tC (.bl false))) tNext)
    (tSeq (tIfS (tOr (tNot (tB (tCB (rIsi K) (tCons (tOp (rIxT K) (tVar 6) (tC (.int 0))) (tCons (tC (.ty "tuple")) tNil))))) (tTest (tOp rNe (tCB (rLenV K) (tCons (tOp (rIxT K) (tVar 6) (tC (.int 0))) tNil)) (tOp rDivI (tVar 5) (tC (.int 4)))))) (tRet (tC (.bl false))) tNext)
    (tSeq (tAsg (tTup (tCons (tC (.str "'023")) (tCons (tC (.str "'032")) (tCons (tC (.str "'203")) (tCons (tC (.str "'230")) (tCons (tC (.str "'302")) (tCons (tC (.str "'320")) tNil))))))) (gName 7))
    (tSeq (tIfS (tOr (tNot (tB (tCB (rAll K) (tCons (tLc (iTup K (tOp (rIxT K) (tVar 6) (tC (.int 0)))) (gName 9) tYes (tOp (rInT K) (tVar 9) (tVar 7)) [9]) tNil)))) (tTest (tOp rLtI (tLenSetT K (tOp (rIxT K) (tVar 6) (tC (.int 1)))) (tVar 5)))) (tRet (tC (.bl false))) tNext)
    (tSeq (tAsg (tCall (sp__law_recast K) [] E0 (tCons (tVar 0) (tCons (tOp (rIxT K) (tVar 6) (tC (.int 0))) tNil))) (gName 8))
    (tRet (tAndV (tOp rEq (tCB (rLenV K) (tCons (tOp (rIxT K) (tVar 6) (tC (.int 1))) tNil)) (tVar 5)) (tOp (rEqD K) (tCall (sp__law_renamed K) [] E0 (tCons (tVar 8) (tCons (tOp (rIxT K) (tVar 6) (tC (.int 1))) tNil))) (tVar 1)))))))))))))
def sp__law_due (K : PySem.W.Frag) : Sp := fun vs H Q _ => ∃ (a1 a2 ta b1 b2 : Addr) (yes : Bool) (v : V) (d : PyData) (n : Nat) (z o t : List Nat) (n2 : Nat) (z2 o2 t2 : List Nat), vs = [.ref a1, .ref a2, .ref ta, .bl yes, v] ∧
  Tbl K H a1 [z, o, t] ∧ Tbl K H a2 [z2, o2, t2] ∧ SqL K H ta [.ref b1, .ref b2] ∧ Tbl K H b1 (tabOf n z o t) ∧ Tbl K H b2 (tabOf n2 z2 o2 t2) ∧ MapT n z o t ∧ MapT n2 z2 o2 t2 ∧ Dp K H v d ∧ FF d ∧ 0 < n / 4 ∧ n ≤ 20 ∧
  (JudgeOk n z o t n2 z2 o2 t2 yes d → ∀ H', Same H H' → Q (.bl true) H') ∧ (¬ JudgeOk n z o t n2 z2 o2 t2 yes d → ∀ H', Same H H' → Q (.bl false) H')
theorem len__law_due {K : PySem.W.Frag} : ∀ vs H Q E, sp__law_due K vs H Q E → vs.length = ps__law_due.length := by
  rintro vs H Q E ⟨a1, a2, ta, b1, b2, yes, v, d, n, z, o, t, n2, z2, o2, t2, rfl, _⟩
  rfl
theorem says2 {Q : VK} {H' : Hp} {b : Bool} {P : Prop} (h : b = true ↔ P) (qT : P → Q (.bl true) H') (qF : ¬ P → Q (.bl false) H') : Q (.bl b) H' := by
  cases b with
  | true => exact qT (h.mp rfl)
  | false => exact qF fun p => by have := h.mpr p; cases this
theorem wp__law_due {K : PySem.W.Frag} {mg : Str → Option Value} (T : Tx K mg) : ∀ vs H Q E, sp__law_due K vs H Q E → t__law_due K { nx := fun _ H' => Q .non H', rt := Q } (start N__law_due vs) H := by
  rintro vs H Q E ⟨a1, a2, ta, b1, b2, yes, v, d, n, z, o, t, n2, z2, o2, t2, rfl, A1, A2, hta, B1, B2, M1, M2, D, F, hp, hn, qT, qF⟩
  have l1 := leads_all M1.edg
  have l2 := leads_all M2.edg
  obtain ⟨xa, ra, xa1, _, xa3, xa4⟩ := A1.row (i := 0) (by show 0 < 3; decide)
  obtain ⟨xb, rb, xb1, _, xb3, xb4⟩ := A2.row (i := 0) (by show 0 < 3; decide)
  have xa4 : SqL K H ra (nv z) := xa4
  have xb4 : SqL K H rb (nv z2) := xb4
  unfold t__law_due
  walk_at "w"
  refine w_ixL xa1 xa3 ?_
  walk_at "w"
  refine w_lenL xa4 ?_
  rw [nv_len, M1.hz.len]
  walk_at "w"
  cases yes with
  | false =>
    have eJ : JudgeOk n z o t n2 z2 o2 t2 false d ↔ if n / 4 = n2 / 4 then treeB (tabOf n z o t) (tabOf n2 z2 o2 t2) (n / 4) (n / 4) [] d = true else PyData.eqv d edgesD = true := by
      unfold JudgeOk
      rw [if_neg (by decide)]
    rw [eJ] at qT qF
    walk_at "w"
    refine w_ixL xb1 xb3 ?_
    walk_at "w"
    refine w_lenL xb4 ?_
    rw [nv_len, M2.hz.len]
    walk_at "w"
    refine w_n2 (fun hne => ?_) (fun heq => ?_)
    · have hne' : ¬ n / 4 = n2 / 4 := by omega
      rw [if_neg hne'] at qT qF
      walk_at "w"
      refine ⟨szl (by show 1 ≤ 1000000; decide), fun p3 hp3 => ?_⟩
      have s1 : Same _ _ := Same.tnew (o := .tup [V.str "edges"]) hp3
      refine ⟨d, edgesD, Dp.keep F (Kp.of s1) _ D, Dp.edges upd_same, F.sh, edges_sh, ?_⟩
      exact says2 Iff.rfl (fun w => qT w _ s1) (fun w => qF w _ s1)
    · have heq' : n / 4 = n2 / 4 := by omega
      rw [if_pos heq'] at qT qF
      walk_at "w"
      refine w_ixL hta (at0 rfl) ?_
      walk_at "w"
      refine w_ixL hta (at1 rfl) ?_
      walk_at "w"
      refine ⟨szl (by show 0 ≤ 1000000; decide), fun p3 hp3 => ?_⟩
      have s3 : Same _ _ := Same.tnew (o := .tup ([] : List V)) hp3
      walk_at "w"
      refine ⟨n / 4, n / 4 - 1, by omega, b1, b2, p3, tabOf n z o t, tabOf n2 z2 o2 t2, [], v, d, rfl, B1.same s3, B2.same s3, tabSq, by rw [heq']; exact tabSq, by omega, SqT.of upd_same, by show 0 + _ = _; omega, fun x hx => by simp at hx, Dp.keep F (Kp.of s3) _ D, F, fun H4 s4 => ?_⟩
      rw [show n / 4 - 1 + 1 = n / 4 by omega]
      exact says2 Iff.rfl (fun w => qT w _ (s3.trans s4)) (fun w => qF w _ (s3.trans s4))
  | true =>
    have eJ : JudgeOk n z o t n2 z2 o2 t2 true d ↔ ∃ e0 e1, ents "recasting" 2 d = some [e0, e1] ∧ RecOk n z o t n2 z2 o2 t2 e0 e1 := by
      unfold JudgeOk
      rw [if_pos rfl]
    rw [eJ] at qT qF
    walk_at "w"
    refine ⟨v, d, "recasting", 2, rfl, D, F, by decide, fun en H1 s1 => ?_, fun r en H1 a xs s1 hS hD => ?_⟩
    · walk_at "w"
      refine w_dT rfl ?_
      walk_at "w"
      exact qF (fun ⟨e0, e1, w, _⟩ => by rw [en] at w; cases w) _ s1
    obtain ⟨Fr, hrl⟩ := ents_ff en F
    obtain ⟨e0, e1, rfl⟩ : ∃ e0 e1, r = [e0, e1] := by
      match r, hrl with
      | [e0, e1], _ => exact ⟨e0, e1, rfl⟩
    have eR : (∃ f0 f1, ents "recasting" 2 d = some [f0, f1] ∧ RecOk n z o t n2 z2 o2 t2 f0 f1) ↔ RecOk n z o t n2 z2 o2 t2 e0 e1 := by
      constructor
      · rintro ⟨f0, f1, w1, w2⟩
        rw [en] at w1
        cases w1
        exact w2
      · exact fun w => ⟨e0, e1, en, w⟩
    rw [eR] at qT qF
    cases hD with
    | @cons v0 _ _ _ d0 hD =>
    cases hD with
    | @cons v1 _ _ _ d1 hD =>
    cases hD
    have F0 : FF e0 := Fr.sub (by simp)
    have F1 : FF e1 := Fr.sub (by simp)
    walk_at "w"
    refine w_dF (fun z => by cases z) ?_
    walk_at "w"
    refine w_ixL (s1.tL xb1) xb3 ?_
    walk_at "w"
    refine w_lenL (s1.tL xb4) ?_
    rw [nv_len, M2.hz.len]
    walk_at "w"
    refine w_n2 (fun hne => ?_) (fun heq => ?_)
    · walk_at "w"
      exact qF (fun w => hne (by rw [w.nn])) _ s1
    have en2 : n = n2 := by omega
    subst en2
    walk_at "w"
    refine w_ixT hS (at1 rfl) ?_
    walk_at "w"
    refine ⟨v1, e1, n, rfl, d1, F1, fun H2 s2 => ?_⟩
    have w2 := s1.trans s2
    walk_at "w"
    refine w_nb2 (fun hb => ?_) (fun hn1 => ?_)
    · walk_at "w"
      exact qF (fun w => by have := w.nums; rw [hb] at this; cases this) _ w2
    walk_at "w"
    refine w_ixT (s2.tT hS) (at0 rfl) ?_
    walk_at "w"
    have d0' := Dp.keep F0 (Kp.of s2) _ d0
    refine w_isT F0 d0' ?_
    walk_at "w"
    cases hiT : isT e0 with
    | false =>
      walk_at "w"
      refine qF (fun w => ?_) _ w2
      have := w.roles
      cases e0 with
      | tuple _ => cases hiT
      | _ => cases this
    | true =>
    obtain ⟨ds, rfl⟩ : ∃ ds, e0 = .tuple ds := by
      cases e0 with
      | tuple ds => exact ⟨ds, rfl⟩
      | _ => cases hiT
    obtain ⟨ca, cxs, rfl, cS, cD⟩ := d0'.tupI
    have hcl := cD.len
    have hdl := Fm.len F0
    walk_at "w"
    refine w_ixT (s2.tT hS) (at0 rfl) ?_
    walk_at "w"
    refine w_lenT cS ?_
    walk_at "w"
    refine w_iC (by constructor <;> decide) ?_
    walk_at "w"
    have rB : rolesB (n / 4) (.tuple ds) = (decide (ds.length = n / 4) && ds.all codeB) := rfl
    refine w_n2 (fun hne => ?_) (fun hlen => ?_)
    · walk_at "w"
      refine qF (fun w => ?_) _ w2
      have := w.roles
      rw [rB, decide_eq_false (by omega : ¬ ds.length = n / 4)] at this
      cases this
    rw [decide_eq_true (by omega : ds.length = n / 4), Bool.true_and] at rB
    walk_at "w"
    refine ⟨szl (by show 6 ≤ 1000000; decide), fun pr hpr => ?_⟩
    have s3 : Same _ _ := Same.tnew (o := .tup codesV) hpr
    have hro : (upd H2 pr (.tup codesV)) pr = some (.tup codesV) := upd_same
    show gName 7 (.ref pr) _ (upd H2 pr (.tup codesV)) _
    have w3 := w2.trans s3
    have s23 := s2.trans s3
    generalize (upd H2 pr (.tup codesV)) = H3 at s3 hro w3 s23 ⊢
    walk_at "w"
    refine w_ixT (s23.tT hS) (at0 rfl) ?_
    refine ct (s3.tT cS) (by omega) (fun _ => true) (fun i => .bl (byAt codeB ds i)) (fun _ => rfl) (fun i x H' R hi s k => k H' (Same.refl H')) (fun i x H' R hi _ s k => ?_) fun p H4 hp4 s4 h4 => ?_
    · have hlt : i < ds.length := by
        obtain ⟨z, _⟩ := List.getElem?_eq_some_iff.mp hi
        omega
      have hdi := byAt_get hlt
      have Di := cD.get hi hdi
      have Fi : FF (ds.getD i .none) := F0.sub (List.mem_of_getElem? hdi)
      have Di' := Dp.keep Fi (Kp.of (s3.trans s)) _ Di
      unfold byAt at k
      generalize ds.getD i .none = dd at Fi Di' k
      walk_at "w"
      refine ⟨dd, codesD, Di', .tup (SqT.of (s _ _ hro)) codesV_dp, Fi.sh, codesD_sh, ?_⟩
      rw [code_in Fi]
      exact k _ (Same.refl _)
    have eb : picked cxs.length (fun _ => true) (fun i => .bl (byAt codeB ds i)) = ((List.range cxs.length).map (byAt codeB ds)).map V.bl := by
      rw [picked_all, List.map_map]
      rfl
    rw [eb] at h4
    walk_at "w"
    refine ⟨p, _, rfl, SqL.of h4, ?_⟩
    rw [all_at hcl]
    have w4 := w3.trans s4
    walk_at "w"
    refine w_nb2 (fun hb => ?_) (fun hall => ?_)
    · walk_at "w"
      refine qF (fun w => ?_) _ w4
      have := w.roles
      rw [rB, hb] at this
      cases this
    rw [hall] at rB
    have s24 := s23.trans s4
    obtain ⟨ia, rfl, iS, iB⟩ := nums_of hn1 F1 (Dp.keep F1 (Kp.of s24) _ d1)
    walk_at "w"
    refine w_ixT (s24.tT hS) (at1 rfl) ?_
    have hil : (natsOf e1).length ≤ 1000 := by
      cases e1 with
      | tuple es => show (es.map natOf).length ≤ 1000; rw [List.length_map]; exact Fm.len F1
      | _ => exact Nat.zero_le _
    refine ⟨ia, iv (natsOf e1), rfl, by rw [iv_nv]; exact iS, by rw [iv_len]; omega, fun ks hk hm => ?_⟩
    obtain ⟨hks0, hks⟩ := set_len hk hm
    rw [iv_len] at hks0
    rw [iv_len, iv_nodup] at hks
    walk_at "w"
    refine w_d2 (fun hlt => ?_) (fun hge => ?_)
    · walk_at "w"
      refine qF (fun w => ?_) _ w4
      have h1 := hks.mpr w.nd
      have h2 := w.len
      omega
    obtain ⟨ca', eca, rS, rL, rC⟩ := roles_of rB (.tup ((s3.trans s4).tT cS) (DpAll.keep (fun d hd => F0.sub hd) (Kp.of (s3.trans s4)) cD))
    cases eca
    walk_at "w"
    refine w_ixT (s24.tT hS) (at0 rfl) ?_
    walk_at "w"
    refine ⟨a1, ca, n, z, o, t, strsOf (.tuple ds), rfl, A1.same w4, M1, rS, rL, rC, fun H5 na s5 hna => ?_⟩
    have w5 := w4.trans s5
    have s25 := s24.trans s5
    walk_at "w"
    refine w_ixT (s25.tT hS) (at1 rfl) ?_
    walk_at "w"
    refine w_lenT (s5.tT iS) ?_
    rw [nv_len]
    walk_at "w"
    refine w_d2 (fun hlen2 => ?_) (fun hne => ?_)
    · have hil2 : (natsOf e1).length = n := by omega
      have R : Prm n (natsOf e1) := ⟨hil2, hks.mp (by omega), iB⟩
      have RM := rc_map M1 rL rC
      walk_at "w"
      refine w_ixT (s25.tT hS) (at1 rfl) ?_
      walk_at "w"
      refine ⟨na, ia, n, _, _, _, natsOf e1, rfl, hna, RM.hz, RM.ho, RM.ht, s5.tT iS, R, by omega, fun H6 D6 Z O TT s6 Cz Co Ct T6 => ?_⟩
      walk_at "w"
      have w6 := w5.trans s6
      refine ⟨_, _, T6.dp, (A2.same w6).dp, tbl_sh, tbl_sh, ?_⟩
      rw [eqv_tbl]
      have key := rec_iff M1 M2 rB hn1 R Cz Co Ct
      exact says2 (by rw [decide_eq_true_iff]; exact key.symm) (fun w => qT w _ w6) (fun w => qF w _ w6)
    · exact qF (fun w => hne (by rw [w.len])) _ w5

theorem ok__law_due {P : Program} {w : World} {K : PySem.W.Frag} {mg : Str → Option Value} {base : Heap} (F : FnP K mg "_law_due" s__law_due) (T : Tx K mg) (c__law_tree_due : Ok P w K mg base "_law_tree_due" 8 ps__law_tree_due (sp__law_tree_due K 4)) (c__law_entries : Ok P w K mg base "_law_entries" 1 ps__law_entries (sp__law_entries K)) (c__law_numbers : Ok P w K mg base "_law_numbers" 1 ps__law_numbers (sp__law_numbers K)) (c__law_recast : Ok P w K mg base "_law_recast" 2 ps__law_recast (sp__law_recast K)) (c__law_renamed : Ok P w K mg base "_law_renamed" 1 ps__law_renamed (sp__law_renamed K)) :
    Ok P w K mg base "_law_due" 9 ps__law_due (sp__law_due K) :=
  ok_of (t := t__law_due K) F sc__law_due (len__law_due) (fun _ _ _ _ _ _ us hl => match us, hl with | [_, _, _, _, _], _ => rfl)
    (fun f cdv A outer s H E hr => by
      have hu := hu_of hr
      have hu65 := u65 hr
      exact (pss_cons (ps_set (i := 5) sc__law_due.nd rfl (Or.inl rfl) (pe_callB call_len rfl T.b_len PySem.boot_len (pa_cons (pe_ix ix_list (pv 0) pe_int (fun _ _ => rfl)) pa_nil)))
      (pss_cons (ps_if (PW.pt (pw_and (pt_not (pt_val (pv 3))) (pw_and1 (pt_cmpR op_ne (pv 5) (pe_callB call_len rfl T.b_len PySem.boot_len (pa_cons (pe_ix ix_list (pv 1) pe_int (fun _ _ => rfl)) pa_nil)) (nomark _))))) (pss_one (ps_ret (pe_cmpR (op_eqD hr.units) (pv 4) (pe_tup (pa_cons pe_str pa_nil)) (nomark _)))) pss_nil)
      (pss_cons (ps_if (pt_not (pt_val (pv 3))) (pss_one (ps_ret (pe_callO c__law_tree_due hr (pa_cons (pe_ix ix_list (pv 2) pe_int (fun _ _ => rfl)) (pa_cons (pe_ix ix_list (pv 2) pe_int (fun _ _ => rfl)) (pa_cons (pe_tup pa_nil) (pa_cons (pv 4) pa_nil))))))) pss_nil)
      (pss_cons (ps_set (i := 6) sc__law_due.nd rfl (Or.inl rfl) (pe_callO c__law_entries hr (pa_cons (pv 4) (pa_cons pe_str (pa_cons pe_int pa_nil)))))
      (pss_cons (ps_if (PW.pt (pw_or (pt_cmp (pc_isN (pv 6))) (pw_or (pt_cmpR op_ne (pv 5) (pe_callB call_len rfl T.b_len PySem.boot_len (pa_cons (pe_ix ix_list (pv 1) pe_int (fun _ _ => rfl)) pa_nil)) (nomark _)) (pw_or1 (pt_not (pt_val (pe_callO c__law_numbers hr (pa_cons (pe_ix ix_tup (pv 6) pe_int (fun _ _ => rfl)) (pa_cons (pv 5) pa_nil))))))))) (pss_one (ps_ret pe_bl)) pss_nil)
      (pss_cons (ps_if (PW.pt (pw_or (pt_not (pt_val (pe_callB call_isi rfl T.b_isinstance (by decide +kernel) (pa_cons (pe_ix ix_tup (pv 6) pe_int (fun _ _ => rfl)) (pa_cons (pe_bltn rfl T.b_tuple (by decide +kernel) rfl) pa_nil))))) (pw_or1 (pt_cmpR op_ne (pe_callB call_len rfl T.b_len PySem.boot_len (pa_cons (pe_ix ix_tup (pv 6) pe_int (fun _ _ => rfl)) pa_nil)) (pe_op op_fdiv (pv 5) pe_int) (nomark _))))) (pss_one (ps_ret pe_bl)) pss_nil)
      (pss_cons (ps_set (i := 7) sc__law_due.nd rfl (Or.inr rfl) (pe_tup (pa_cons pe_str (pa_cons pe_str (pa_cons pe_str (pa_cons pe_str (pa_cons pe_str (pa_cons pe_str pa_nil))))))))
      (pss_cons (ps_if (PW.pt (pw_or (pt_not (pt_val (pe_callB (cr_all rfl) rfl T.b_all (by decide +kernel) (pa_cons (pe_lc (own := [("code", 9)]) rfl sc__law_due.nd (pi_tup (pe_ix ix_tup (pv 6) pe_int (fun _ _ => rfl))) (blkOk_by (own := [("code", 9)]) (N := N__law_due) (sc := defScope s__law_due) (by decide +kernel)) (fun _ _ _ _ _ => (pg_name (i := 9) sc__law_due.nd rfl (Or.inl rfl))) (fun _ _ _ _ _ => pts_nil) (fun _ _ _ _ _ => (pe_cmpR (op_inT hu65) (pv 9) (pv 7) rfl))) pa_nil)))) (pw_or1 (pt_cmpR op_lt (pe_lenSetT rfl rfl T.b_len rfl T.b_set (pe_ix ix_tup (pv 6) pe_int (fun _ _ => rfl))) (pv 5) (nomark _))))) (pss_one (ps_ret pe_bl)) pss_nil)
      (pss_cons (ps_set (i := 8) sc__law_due.nd rfl (Or.inl rfl) (pe_callO c__law_recast hr (pa_cons (pv 0) (pa_cons (pe_ix ix_tup (pv 6) pe_int (fun _ _ => rfl)) pa_nil))))
      (pss_one (ps_ret (pe_and (pe_cmpR op_eq (pe_callB call_len rfl T.b_len PySem.boot_len (pa_cons (pe_ix ix_tup (pv 6) pe_int (fun _ _ => rfl)) pa_nil)) (pv 5) (nomark _)) (pe_one (pe_cmpR (op_eqD hr.units) (pe_callO c__law_renamed hr (pa_cons (pv 8) (pa_cons (pe_ix ix_tup (pv 6) pe_int (fun _ _ => rfl)) pa_nil))) (pv 1) (nomark _))))))))))))))))
    (wp__law_due T)

def sp__law_tree_of (K : PySem.W.Frag) (f : Nat) : Sp := fun vs H Q _ => ∃ (m g : Nat) (hg : g ≤ f) (a1 a2 ga : Addr) (tb ot : List (List Nat)) (given : List Nat) (late : Bool), vs = [.ref a1, .ref a2, .ref ga, .bl late] ∧ Tbl K H a1 tb ∧ Tbl K H a2 ot ∧ Sq m tb ∧ Sq m ot ∧ m ≤ 100 ∧
  SqT K H ga (nv given) ∧ given.length + (g + 1) = m ∧ (∀ x ∈ given, x < m) ∧ (∀ H', Same H H' → Q .non H') ∧ ∀ H' v d, Same H H' → Dp K H' v d → TreeOk 200 (g + 2) m d → Q v H'
def spv__law_tree_of (K : PySem.W.Frag) : Nat → Sp
  | 0 => fun _ _ _ _ => False
  | f + 1 => sp__law_tree_of K f

abbrev s__law_tree_of : Stmt := top 56
abbrev N__law_tree_of : List Str := ["first", "second", "given", "late", "parts", "edge", "order", "clashes", "i", "part"]
abbrev ps__law_tree_of : List Str := ["first", "second", "given", "late"]
theorem sc__law_tree_of : FnScope N__law_tree_of ps__law_tree_of (defScope s__law_tree_of) := ⟨rfl, rfl, rfl, by decide +kernel, rfl, by decide +kernel, by decide +kernel⟩
def t__law_tree_of (K : PySem.W.Frag) (f : Nat) : TS :=
    (tSeq (tAsg (tLst (tCons (tC (.str "cases")) tNil)) (gName 4))
    (tSeq (tFor (iRng1 (tCons (tCB (rLenV K) (tCons (tVar 1) tNil)) tNil)) (gName 5) (tSeq (tAsg (tOp (rCatA K) (tVar 2) (tTup (tCons (tVar 5) tNil))) (gName 6))
    (tSeq (tAsg (tLst tNil) (gName 7))
    (tSeq (tFor (iRng1 (tCons (tCB (rLenV K) (tCons (tVar 6) tNil)) tNil)) (gName 8) (tIfS (tTest (tOp rNe (tOp (rIxL K) (tOp (rIxL K) (tVar 0) (tVar 8)) (tCB (rLenV K) (tCons (tVar 2) tNil))) (tOp (rIxL K) (tOp (rIxL K) (tVar 1) (tOp (rIxT K) (tVar 6) (tVar 8))) (tVar 5)))) (tDrop (tBM K "list" rAppend (tVar 7) (tCons (tVar 8) tNil))) tNext))
    (tSeq (tAsg (tTup (tCons (tC (.str "used")) tNil)) (gName 9))
    (tSeq (tIfS (tOr (tTest (tOp (rIn K true) (tVar 5) (tVar 2))) (tAnd (tB (tVar 3)) (tTru K (tVar 7)))) (tSeq (tAsg (tC .non) (gName 9))
    (tSeq (tIfS (tAnd (tTest (tOp rLtI (tCB (rLenV K) (tCons (tVar 6) tNil)) (tCB (rLenV K) (tCons (tVar 1) tNil)))) (tTest (tOp (rIn K true) (tVar 5) (tVar 2)))) (tAsg (tCall (spv__law_tree_of K f) [] E0 (tCons (tVar 0) (tCons (tVar 1) (tCons (tVar 6) (tCons (tVar 3) tNil))))) (gName 9)) tNext)
    (tIfS (tAnd (tTru K (tVar 7)) (tOr (tB (tIsN (tVar 9))) (tNot (tB (tVar 3))))) (tAsg (tTup (tCons (tC (.str "clash")) (tCons (tOp (rIxL K) (tVar 7) (tUn rNegI (tC (.int 1)))) tNil))) (gName 9)) tNext))) tNext)
    (tSeq (tIfS (tB (tIsN (tVar 9))) (tRet (tC .non)) tNext)
    (tDrop (tBM K "list" rAppend (tVar 4) (tCons (tVar 9) tNil))))))))))
    (tRet (tCB (rTupOf K) (tCons (tVar 4) tNil)))))
theorem len__law_tree_of {K : PySem.W.Frag} {f : Nat} : ∀ vs H Q E, sp__law_tree_of K f vs H Q E → vs.length = ps__law_tree_of.length := by
  rintro vs H Q E ⟨m, g, hg, a1, a2, ga, tb, ot, given, late, rfl, _⟩
  rfl
theorem wp__law_tree_of {K : PySem.W.Frag} {mg : Str → Option Value} {f : Nat} (T : Tx K mg) : ∀ vs H Q E, sp__law_tree_of K f vs H Q E → t__law_tree_of K f { nx := fun _ H' => Q .non H', rt := Q } (start N__law_tree_of vs) H := by
  rintro vs H Q E ⟨m, g, hg, a1, a2, ga, tb, ot, given, late, rfl, T1, T2, Q1, Q2, hm, hG, hgl, hgm, qN, qT⟩
  unfold t__law_tree_of
  walk_at "w"
  refine ⟨szl (by show 1 ≤ 1000000; decide), fun pa hpa => ?_⟩
  have s0 : Same _ _ := Same.tnew (o := .lst [V.str "cases"]) hpa
  walk_at "w"
  obtain ⟨xs0, hx0, hl0⟩ := (T2.same s0).lenL
  refine w_lenL hx0 ?_
  rw [hl0, Q2.len]
  walk_at "w"
  refine fr1 (n := m) rfl (by omega) (fun i σ H' => ∃ v5 v6 v7 v8 v9 ws ps, σ = [some (.ref a1), some (.ref a2), some (.ref ga), some (.bl late), some (.ref pa), v5, v6, v7, v8, v9] ∧ Same H H' ∧ H' pa = some (.lst ws) ∧ DpAll K H' ws (.str "cases" :: ps) ∧ (∀ p ∈ ps, PartOk 200 (g + 1) p) ∧ ps.length = i)
    ⟨_, _, _, _, _, _, [], rfl, s0, upd_same, .cons (.str _) .nil, fun p hp => by simp at hp, rfl⟩ ?_ ?_
  · rintro e σ H2 he ⟨v5, v6, v7, v8, v9, ws, ps, rfl, s2, hpa2, hD2, hps, hpl⟩
    have hol : (given ++ [e]).length = given.length + 1 := by rw [List.length_append, List.length_singleton]
    have hog : ∀ i, i < given.length + 1 → gt (given ++ [e]) i < m := fun i hi => by
      have hm1 : gt (given ++ [e]) i ∈ given ++ [e] := List.mem_of_getElem? (gt_some (by rw [List.length_append, List.length_singleton]; exact hi))
      rcases List.mem_append.mp hm1 with z | z
      · exact hgm _ z
      · rw [List.mem_singleton.mp z]; exact he
    have Fall : ∀ d ∈ PyData.str "cases" :: ps, Fm 200 (g + 1) d := fun d hd => by
      rcases List.mem_cons.mp hd with z | z
      · rw [z]; exact .str (by decide)
      · exact (hps d z).1
    walk_at "w"
    refine ⟨szl (by show 1 ≤ 1000000; decide), fun p hp => ?_⟩
    have s3 : Same _ _ := Same.tnew (o := .tup [V.int (e : Nat)]) hp
    refine w_ctT ((s2.trans s3).tT hG) (SqT.of upd_same) (by rw [nv_len]; show _ + 1 ≤ _; omega) fun c H3 s4 hO => ?_
    have s5 := s3.trans s4
    have w3 := s2.trans s5
    have hO' : SqT K H3 c (nv (given ++ [e])) := by
      rw [← nv_app]
      exact hO
    clear hO
    generalize (upd H2 p (.tup [V.int (e : Nat)])) = H0 at s3 s4 s5
    walk_at "w"
    refine ⟨szl (by show 0 ≤ 1000000; decide), fun ca hca => ?_⟩
    have s6 : Same _ _ := Same.tnew (o := .lst ([] : List V)) hca
    have hc6 : (upd H3 ca (.lst ([] : List V))) ca = some (.lst (nv [])) := upd_same
    generalize (upd H3 ca (.lst ([] : List V))) = H4 at s6 hc6 ⊢
    walk_at "w"
    refine w_lenT (s6.tT hO') ?_
    rw [nv_len, hol]
    walk_at "w"
    refine fr1 (n := given.length + 1) rfl (by omega) (fun i σ H' => ∃ v8 cl, σ = [some (.ref a1), some (.ref a2), some (.ref ga), some (.bl late), some (.ref pa), some (.int (e : Nat)), some (.ref c), some (.ref ca), v8, v9] ∧ Same H3 H' ∧ H' ca = some (.lst (nv cl)) ∧ cl.length ≤ i)
      ⟨_, [], rfl, s6, hc6, Nat.le_refl _⟩ ?_ ?_
    · rintro i σ H5 hi ⟨v8, cl, rfl, s7, hc7, hcl⟩
      have w5 := w3.trans s7
      obtain ⟨xs1, r1, g1, g2, g3, g4⟩ := (T1.same w5).row (i := i) (by rw [Q1.len]; omega)
      obtain ⟨xs2, r2, k1, k2, k3, k4⟩ := (T2.same w5).row (i := gt (given ++ [e]) i) (by rw [Q2.len]; exact hog i hi)
      walk_at "w"
      refine w_ixL g1 g3 ?_
      walk_at "w"
      refine w_lenT (w5.tT hG) ?_
      rw [nv_len]
      refine w_ixL g4 (at_nv (by rw [Q1.row i (by omega)]; omega)) ?_
      walk_at "w"
      refine w_ixT (s7.tT hO') (at_nv (by rw [hol]; exact hi)) ?_
      refine w_ixL k1 k3 ?_
      walk_at "w"
      refine w_ixL k4 (at_nv (by rw [Q2.row _ (hog i hi)]; exact he)) ?_
      walk_at "w"
      refine w_n2 (fun _ => ?_) (fun _ => ?_)
      · walk_at "w"
        refine ⟨tyL hc7, ?_⟩
        walk_at "w"
        refine w_app hc7 (by rw [nv_len]; exact szlt (by omega)) ?_
        have e1 : nv cl ++ [.int (i : Nat)] = nv (cl ++ [i]) := by rw [← nv_app]; rfl
        rw [e1]
        exact ⟨_, _, rfl, s7.tmut hca, upd_same, by rw [List.length_append]; show _ + 1 ≤ _; omega⟩
      · walk_at "w"
        exact ⟨_, cl, rfl, s7, hc7, by omega⟩
    · rintro σ H5 ⟨v8, cl, rfl, s7, hc7, hcl⟩
      have w5 := w3.trans s7
      have w25 := s5.trans s7
      walk_at "w"
      refine ⟨szl (by show 1 ≤ 1000000; decide), fun pu hpu => ?_⟩
      have s8 : Same _ _ := Same.tnew (o := .tup [V.str "used"]) hpu
      have hu8 : Dp K (upd H5 pu (.tup [V.str "used"])) (.ref pu) usedD := Dp.used upd_same
      generalize (upd H5 pu (.tup [V.str "used"])) = H6 at s8 hu8 ⊢
      refine w_gn ?_
      with_reducible refine w_seqG fun J hJ => ?_
      have w6 := w5.trans s8
      have w26 := w25.trans s8
      have hc8 := s8 _ _ hc7
      have cont : ∀ (pv : V) (H' : Hp), Same H6 H' → (pv = .non ∨ ∃ d, Dp K H' pv d ∧ PartOk 200 (g + 1) d) →
          J [some (.ref a1), some (.ref a2), some (.ref ga), some (.bl late), some (.ref pa), some (.int (e : Nat)), some (.ref c), some (.ref ca), v8, some pv] H' := by
        intro pv H' s9 hpv
        refine hJ _ _ ?_
        have w9 := w6.trans s9
        have w29 := w26.trans s9
        have hpa9 := w29 _ _ hpa2
        walk_at "w"
        rcases hpv with rfl | ⟨d, Dd, Pd⟩
        · refine w_dT rfl ?_
          walk_at "w"
          exact qN _ w9
        · obtain ⟨Fd, w, qs, ed⟩ := Pd
          subst ed
          obtain ⟨dx, dxs, rfl, _, _⟩ := Dd.tupI
          refine w_dF (fun z => by cases z) ?_
          walk_at "w"
          refine ⟨tyL hpa9, ?_⟩
          walk_at "w"
          have hwl : ws.length = ps.length + 1 := hD2.len
          refine w_app hpa9 (szlt (by omega)) ?_
          have kp : Kp H' (upd H' pa (.lst (ws ++ [V.ref dx]))) := fun a u hu nl => by
            have : a ≠ pa := by
              rintro rfl
              rw [hpa9] at hu
              exact nl _ (Option.some.inj hu).symm
            rw [upd_ne this]
            exact hu
          refine ⟨_, _, _, _, _, ws ++ [.ref dx], ps ++ [.tuple (.str w :: qs)], rfl, w9.tmut hpa, upd_same, ?_, fun p hp => ?_, by rw [List.length_append, hpl]; rfl⟩
          · have h1 := (DpAll.keep Fall (Kp.of w29) hD2).app (.cons Dd .nil)
            exact DpAll.keep (L := 200) (k := g + 1) (fun d hd => by
              rcases List.mem_append.mp (show d ∈ (PyData.str "cases" :: ps) ++ [PyData.tuple (.str w :: qs)] from hd) with z | z
              · exact Fall d z
              · rw [List.mem_singleton.mp z]; exact Fd) kp h1
          · rcases List.mem_append.mp hp with z | z
            · exact hps p z
            · rw [List.mem_singleton.mp z]
              exact ⟨Fd, w, qs, rfl⟩
      with_reducible refine w_ifG fun J1 L1 hJ1 hL1 => ?_
      have no : L1 H6 := by
        refine hL1 _ ?_
        walk_at "w"
        exact cont (.ref pu) H6 (Same.refl _) (.inr ⟨usedD, hu8, .tup (by show 1 ≤ 200; decide) fun d hd => by rw [List.mem_singleton.mp hd]; exact .str (by decide), "used", [], rfl⟩)
      have yes : J1 H6 := by
        refine hJ1 _ ?_
        walk_at "w1"
        walk_at "w1"
        walk_at "w1"
        refine w_gn ?_
        with_reducible refine w_seqG fun J3 hJ3 => ?_
        have cont3 : ∀ (pv : V) (H' : Hp), Same H6 H' → (pv = .non ∨ ∃ d, Dp K H' pv d ∧ PartOk 200 (g + 1) d) →
            J3 [some (.ref a1), some (.ref a2), some (.ref ga), some (.bl late), some (.ref pa), some (.int (e : Nat)), some (.ref c), some (.ref ca), v8, some pv] H' := by
          intro pv H' s9 hpv
          refine hJ3 _ _ ?_
          with_reducible refine w_ifG fun J4 L4 hJ4 hL4 => ?_
          have no4 : L4 H' := by
            refine hL4 _ ?_
            walk_at "w"
            exact cont pv H' s9 hpv
          have hc9 := s9 _ _ hc8
          have yes4 : cl ≠ [] → J4 H' := fun hne => by
            refine hJ4 _ ?_
            obtain ⟨cl', cc, rfl⟩ : ∃ cl' cc, cl = cl' ++ [cc] := ⟨cl.dropLast, cl.getLast hne, (List.dropLast_concat_getLast hne).symm⟩
            walk_at "w"
            refine w_ixL (SqL.of hc9) (v := .int (cc : Nat)) (by rw [← nv_app]; exact atI_last (nv cl') (V.int (cc : Nat))) ?_
            walk_at "w"
            refine ⟨szl (by show 2 ≤ 1000000; decide), fun pc hpc => ?_⟩
            walk_at "w"
            refine cont (.ref pc) _ (s9.trans (Same.tnew hpc)) (.inr ⟨.tuple [.str "clash", .int (cc : Nat)], .tup (SqT.of upd_same) (.cons (.str _) (.cons (.int _) .nil)), .tup (by show 2 ≤ 200; decide) fun d hd => ?_, "clash", _, rfl⟩)
            simp only [List.mem_cons, List.not_mem_nil, or_false] at hd
            rcases hd with rfl | rfl
            · exact .str (by decide)
            · exact .int (Int.natCast_nonneg _)
          walk_at "w"
          refine ⟨!(nv cl).isEmpty, .inl ⟨_, SqL.of hc9, rfl⟩, ?_⟩
          cases cl with
          | nil =>
            show if false = true then _ else _
            walk_at "w"
            exact no4
          | cons c0 cr =>
            show if true = true then _ else _
            walk_at "w"
            refine w_d2 (fun _ => iteT (yes4 (by simp))) (fun _ => ?_)
            walk_at "w"
            cases late with
            | true =>
              walk_at "w"
              exact no4
            | false =>
              walk_at "w"
              exact yes4 (by simp)
        with_reducible refine w_ifG fun J5 L5 hJ5 hL5 => ?_
        have no5 : L5 H6 := by
          refine hL5 _ ?_
          walk_at "w"
          exact cont3 .non H6 (Same.refl _) (.inl rfl)
        walk_at "w"
        refine w_lenT ((s7.trans s8).tT hO') ?_
        rw [nv_len, hol]
        walk_at "w"
        obtain ⟨xs3, hx3, hl3⟩ := (T2.same w6).lenL
        refine w_lenL hx3 ?_
        rw [hl3, Q2.len]
        walk_at "w"
        refine w_d2 (fun hlt => ?_) (fun _ => ?_)
        · walk_at "w"
          refine ⟨ga, _, rfl, .inr (w6.tT hG), rfl, flat_nv, ?_⟩
          refine ⟨_, rfl, ?_⟩
          show if (!inV (.int (e : Nat)) (nv given)) = true then _ else _
          refine w_nb2 (fun _ => ?_) (fun _ => no5)
          refine hJ5 _ ?_
          walk_at "w"
          cases f with
          | zero => omega
          | succ f =>
            obtain ⟨g', rfl⟩ : ∃ g', g = g' + 1 := ⟨g - 1, by omega⟩
            refine ⟨m, g', by omega, a1, a2, c, tb, ot, given ++ [e], late, rfl, T1.same w6, T2.same w6, Q1, Q2, hm, (s7.trans s8).tT hO', by rw [hol]; omega, fun x hx => ?_, fun H' s9 => cont3 .non H' s9 (.inl rfl), fun H' v d s9 Dd Td => cont3 v H' s9 (.inr ⟨d, Dd, Td.part⟩)⟩
            rcases List.mem_append.mp hx with z | z
            · exact hgm x z
            · rw [List.mem_singleton.mp z]; exact he
        · walk_at "w"
          exact no5
      walk_at "w"
      refine ⟨ga, _, rfl, .inr (w6.tT hG), rfl, flat_nv, ?_⟩
      refine ⟨_, rfl, ?_⟩
      show if (!inV (.int (e : Nat)) (nv given)) = true then _ else _
      refine w_nb2 (fun _ => iteT yes) (fun _ => ?_)
      walk_at "w"
      cases late with
      | false =>
        walk_at "w"
        exact no
      | true =>
        walk_at "w"
        refine ⟨!(nv cl).isEmpty, .inl ⟨_, SqL.of hc8, rfl⟩, ?_⟩
        refine w_nb2 (fun _ => yes) (fun _ => no)
  · rintro σ H2 ⟨v5, v6, v7, v8, v9, ws, ps, rfl, s2, hpa2, hD2, hps, hpl⟩
    walk_at "w"
    refine w_tupL (SqL.of hpa2) fun l hl => ?_
    have s3 : Same _ _ := Same.tnew (o := .tup ws) hl
    have Fall : ∀ d ∈ PyData.str "cases" :: ps, Fm 200 (g + 1) d := fun d hd => by
      rcases List.mem_cons.mp hd with z | z
      · rw [z]; exact .str (by decide)
      · exact (hps d z).1
    refine qT _ (.ref l) (.tuple (.str "cases" :: ps)) (s2.trans s3) (.tup (SqT.of upd_same) (DpAll.keep Fall (Kp.of s3) hD2)) ⟨.tup (by rw [List.length_cons]; omega) Fall, ps, rfl, hpl, fun p hp => (hps p hp).2⟩

theorem ok__law_tree_of {P : Program} {w : World} {K : PySem.W.Frag} {mg : Str → Option Value} {base : Heap} (f : Nat) (F : FnP K mg "_law_tree_of" s__law_tree_of) (T : Tx K mg) (c__law_tree_of : Ok P w K mg base "_law_tree_of" (f + 3) ps__law_tree_of (spv__law_tree_of K f)) :
    Ok P w K mg base "_law_tree_of" (f + 4) ps__law_tree_of (sp__law_tree_of K f) :=
  ok_of (t := t__law_tree_of K f) F sc__law_tree_of (len__law_tree_of) (fun _ _ _ _ _ _ us hl => match us, hl with | [_, _, _, _], _ => rfl)
    (fun f cdv A outer s H E hr => by
      have hu := hu_of hr
      have hu65 := u65 hr
      exact (pss_cons (ps_set (i := 4) sc__law_tree_of.nd rfl (Or.inl rfl) (pe_lst (pa_cons pe_str pa_nil)))
      (pss_cons (ps_for PassesOwn.never rfl (pi_range1 rfl T.b_range (pa_cons (pe_callB call_len rfl T.b_len PySem.boot_len (pa_cons (pv 1) pa_nil)) pa_nil)) (pg_name (i := 5) sc__law_tree_of.nd rfl (Or.inl rfl)) (pss_cons (ps_set (i := 6) sc__law_tree_of.nd rfl (Or.inl rfl) (pe_op op_catA (pv 2) (pe_tup (pa_cons (pv 5) pa_nil))))
      (pss_cons (ps_set (i := 7) sc__law_tree_of.nd rfl (Or.inl rfl) (pe_lst pa_nil))
      (pss_cons (ps_for PassesOwn.never rfl (pi_range1 rfl T.b_range (pa_cons (pe_callB call_len rfl T.b_len PySem.boot_len (pa_cons (pv 6) pa_nil)) pa_nil)) (pg_name (i := 8) sc__law_tree_of.nd rfl (Or.inl rfl)) (pss_one (ps_if (pt_cmpR op_ne (pe_ix ix_list (pe_ix ix_list (pv 0) (pv 8) (fun _ _ => rfl)) (pe_callB call_len rfl T.b_len PySem.boot_len (pa_cons (pv 2) pa_nil)) (fun _ _ => rfl)) (pe_ix ix_list (pe_ix ix_list (pv 1) (pe_ix ix_tup (pv 6) (pv 8) (fun _ _ => rfl)) (fun _ _ => rfl)) (pv 5) (fun _ _ => rfl)) (nomark _)) (pss_one (ps_expr (pe_bm PySem.F.plainAttrs_list PySem.F.slot_list_append PySem.F.type_list_append mt_append (pv 7) (pa_cons (pv 8) pa_nil)))) pss_nil)))
      (pss_cons (ps_set (i := 9) sc__law_tree_of.nd rfl (Or.inl rfl) (pe_tup (pa_cons pe_str pa_nil)))
      (pss_cons (ps_if (PW.pt (pw_or (pt_cmpR op_notIn_seq (pv 5) (pv 2) rfl) (pw_or1 (PW.pt (pw_and (pt_val (pv 3)) (pw_and1 (pt_truth (pv 7) (fun _ => rfl)))))))) (pss_cons (ps_set (i := 9) sc__law_tree_of.nd rfl (Or.inl rfl) pe_non)
      (pss_cons (ps_if (PW.pt (pw_and (pt_cmpR op_lt (pe_callB call_len rfl T.b_len PySem.boot_len (pa_cons (pv 6) pa_nil)) (pe_callB call_len rfl T.b_len PySem.boot_len (pa_cons (pv 1) pa_nil)) (nomark _)) (pw_and1 (pt_cmpR op_notIn_seq (pv 5) (pv 2) rfl)))) (pss_one (ps_set (i := 9) sc__law_tree_of.nd rfl (Or.inl rfl) (pe_callO c__law_tree_of (hk := by omega) hr (pa_cons (pv 0) (pa_cons (pv 1) (pa_cons (pv 6) (pa_cons (pv 3) pa_nil))))))) pss_nil)
      (pss_one (ps_if (PW.pt (pw_and (pt_truth (pv 7) (fun _ => rfl)) (pw_and1 (PW.pt (pw_or (pt_cmp (pc_isN (pv 9))) (pw_or1 (pt_not (pt_val (pv 3))))))))) (pss_one (ps_set (i := 9) sc__law_tree_of.nd rfl (Or.inl rfl) (pe_tup (pa_cons pe_str (pa_cons (pe_ix ix_list (pv 7) (pe_un un_neg pe_int) (fun _ _ => rfl)) pa_nil))))) pss_nil)))) pss_nil)
      (pss_cons (ps_if (pt_cmp (pc_isN (pv 9))) (pss_one (ps_ret pe_non)) pss_nil)
      (pss_one (ps_expr (pe_bm PySem.F.plainAttrs_list PySem.F.slot_list_append PySem.F.type_list_append mt_append (pv 4) (pa_cons (pv 9) pa_nil)))))))))))
      (pss_one (ps_ret (pe_callTy call_tuple_of rfl T.b_tuple (by decide +kernel) (pa_cons (pv 4) pa_nil)))))))
    (wp__law_tree_of T)

def sp__law_bent (K : PySem.W.Frag) (L k : Nat) : Sp := fun vs H Q _ => ∃ (p sc : Addr) (cells : List Int) (v : V) (d : PyData), vs = [.ref p, v] ∧ PoolAt K H p sc cells ∧ Dp K H v d ∧ Fm L k d ∧ 5 ≤ L ∧ L ≤ 900 ∧
  ∀ H' v' d', Xp p H H' → PoolAt K H' p sc cells → Dp K H' v' d' → Fm (L + 1) (k + 2) d' → Q v' H'
def spv__law_bent (K : PySem.W.Frag) (L : Nat) : Nat → Sp
  | 0 => fun _ _ _ _ => False
  | k + 1 => sp__law_bent K L k
def tail_things (K : PySem.W.Frag) : TS :=
    (tSeq (tAsg (tLst (tCons (tTup tNil) (tCons (tC (.int 0)) (tCons (tC (.str "cases")) (tCons (tC (.str "clash")) (tCons (tC (.str "edges")) (tCons (tC (.str "recasting")) (tCons (tC (.str "'023")) (tCons (tC (.str "'320")) (tCons (tC (.str "'230")) (tCons (tTup (tCons (tC (.str "used")) tNil)) tNil))))))))))) (gName 8))
    (tRet (tOp (rIxL K) (tOp rCat (tVar 8) (tLst (tCons (tTup (tCons (tC (.str "clash")) (tCons (tC (.int 0)) tNil))) (tCons (tTup (tCons (tC (.str "clash")) (tCons (tC (.int 1)) tNil))) tNil)))) (tCall (sp__law_draw K) [] E0 (tCons (tVar 0) (tCons (tC (.int 12)) tNil))))))

abbrev s__law_bent : Stmt := top 57
abbrev N__law_bent : List Str := ["pool", "form", "at", "way", "other", "entries", "shorter", "doubled", "things"]
abbrev ps__law_bent : List Str := ["pool", "form"]
theorem sc__law_bent : FnScope N__law_bent ps__law_bent (defScope s__law_bent) := ⟨rfl, rfl, rfl, by decide +kernel, rfl, by decide +kernel, by decide +kernel⟩
def t__law_bent (K : PySem.W.Frag) (L k : Nat) : TS :=
    (tSeq (tIfS (tAnd (tB (tCB (rIsi K) (tCons (tVar 1) (tCons (tC (.ty "tuple")) tNil)))) (tAnd (tTru K (tVar 1)) (tTest (tOp rGtI (tCall (sp__law_draw K) [] E0 (tCons (tVar 0) (tCons (tC (.int 5)) tNil))) (tC (.int 0)))))) (tSeq (tAsg (tCall (sp__law_draw K) [] E0 (tCons (tVar 0) (tCons (tCB (rLenV K) (tCons (tVar 1) tNil)) tNil))) (gName 2))
    (tSeq (tAsg (tCall (sp__law_draw K) [] E0 (tCons (tVar 0) (tCons (tC (.int 8)) tNil))) (gName 3))
    (tSeq (tIfS (tTest (tOp rGtI (tVar 3) (tC (.int 3)))) (tRet (tOp (rCatA K) (tOp (rCatA K) (tSl (rSlA K) (tVar 1) tNoPart (tPart (tVar 2))) (tTup (tCons (tCall (spv__law_bent K L k) [] E0 (tCons (tVar 0) (tCons (tOp (rIxT K) (tVar 1) (tVar 2)) tNil))) tNil))) (tSl (rSlA K) (tVar 1) (tPart (tOp rAddI (tVar 2) (tC (.int 1)))) tNoPart))) tNext)
    (tSeq (tAsg (tCall (sp__law_draw K) [] E0 (tCons (tVar 0) (tCons (tCB (rLenV K) (tCons (tVar 1) tNil)) tNil))) (gName 4))
    (tSeq (tAsg (tCB (rLstOf K) (tCons (tVar 1) tNil)) (gName 5))
    (tSeq (tAsg (tOp (rIxT K) (tVar 1) (tVar 4)) (gSub (tVar 5) (tVar 2) rSetL))
    (tSeq (tAsg (tOp (rIxT K) (tVar 1) (tVar 2)) (gSub (tVar 5) (tVar 4) rSetL))
    (tSeq (tAsg (tOp (rCatA K) (tSl (rSlA K) (tVar 1) tNoPart (tPart (tVar 2))) (tSl (rSlA K) (tVar 1) (tPart (tOp rAddI (tVar 2) (tC (.int 1)))) tNoPart)) (gName 6))
    (tSeq (tAsg (tOp (rCatA K) (tSl (rSlA K) (tVar 1) tNoPart (tPart (tOp rAddI (tVar 2) (tC (.int 1))))) (tSl (rSlA K) (tVar 1) (tPart (tVar 2)) tNoPart)) (gName 7))
    (tRet (tOp (rIxL K) (tLst (tCons (tVar 6) (tCons (tVar 7) (tCons (tCB (rTupOf K) (tCons (tVar 5) tNil)) (tCons (tOp (rCatA K) (tVar 1) (tTup (tCons (tC (.int 0)) tNil))) tNil))))) (tVar 3)))))))))))) tNext)
    (tSeq (tIfS (tB (tCB (rIsi K) (tCons (tVar 1) (tCons (tC (.ty "int")) tNil)))) (tRet (tOp (rIxL K) (tLst (tCons (tOp rAddI (tVar 1) (tC (.int 1))) (tCons (tCB rMax2 (tCons (tC (.int 0)) (tCons (tOp rSubI (tVar 1) (tC (.int 1))) tNil))) (tCons (tCall (sp__law_draw K) [] E0 (tCons (tVar 0) (tCons (tC (.int 20)) tNil))) tNil)))) (tCall (sp__law_draw K) [] E0 (tCons (tVar 0) (tCons (tC (.int 3)) tNil))))) tNext)
    (tSeq (tAsg (tLst (tCons (tTup tNil) (tCons (tC (.int 0)) (tCons (tC (.str "cases")) (tCons (tC (.str "clash")) (tCons (tC (.str "edges")) (tCons (tC (.str "recasting")) (tCons (tC (.str "'023")) (tCons (tC (.str "'320")) (tCons (tC (.str "'230")) (tCons (tTup (tCons (tC (.str "used")) tNil)) tNil))))))))))) (gName 8))
    (tRet (tOp (rIxL K) (tOp rCat (tVar 8) (tLst (tCons (tTup (tCons (tC (.str "clash")) (tCons (tC (.int 0)) tNil))) (tCons (tTup (tCons (tC (.str "clash")) (tCons (tC (.int 1)) tNil))) tNil)))) (tCall (sp__law_draw K) [] E0 (tCons (tVar 0) (tCons (tC (.int 12)) tNil))))))))
theorem len__law_bent {K : PySem.W.Frag} {L k : Nat} : ∀ vs H Q E, sp__law_bent K L k vs H Q E → vs.length = ps__law_bent.length := by
  rintro vs H Q E ⟨p, sc, cells, v, d, rfl, _⟩
  rfl
def thingsD : List PyData := [.tuple [], .int 0, .str "cases", .str "clash", .str "edges", .str "recasting", .str "'023", .str "'320", .str "'230", .tuple [.str "used"], .tuple [.str "clash", .int 0], .tuple [.str "clash", .int 1]]
theorem things_ok {L k : Nat} (hL : 5 ≤ L) : ∀ d ∈ thingsD, Fm (L + 1) (k + 2) d := by
  intro d hd
  unfold thingsD at hd
  simp only [List.mem_cons, List.not_mem_nil, or_false] at hd
  rcases hd with rfl | rfl | rfl | rfl | rfl | rfl | rfl | rfl | rfl | rfl | rfl | rfl
  · exact .tup (Nat.zero_le _) fun d hd => by simp at hd
  · exact .int (by decide)
  · exact .str (by decide)
  · exact .str (by decide)
  · exact .str (by decide)
  · exact .str (by decide)
  · exact .str (by decide)
  · exact .str (by decide)
  · exact .str (by decide)
  · exact .tup (by show 1 ≤ L + 1; omega) fun d hd => by rw [List.mem_singleton.mp hd]; exact .str (by decide)
  · exact .tup (by show 2 ≤ L + 1; omega) fun d hd => by
      simp only [List.mem_cons, List.not_mem_nil, or_false] at hd
      rcases hd with rfl | rfl
      · exact .str (by decide)
      · exact .int (by decide)
  · exact .tup (by show 2 ≤ L + 1; omega) fun d hd => by
      simp only [List.mem_cons, List.not_mem_nil, or_false] at hd
      rcases hd with rfl | rfl
      · exact .str (by decide)
      · exact .int (by decide)
/-- the last row: a thing out of twelve -/
theorem wp_things {K : PySem.W.Frag} {L k : Nat} {H : Hp} {Q : VK} {p sc : Addr} {cells : List Int} {v : V} {w2 w3 w4 w5 w6 w7 : Option V} (P : PoolAt K H p sc cells) (hL : 5 ≤ L)
    (q : ∀ H' v' d', Xp p H H' → PoolAt K H' p sc cells → Dp K H' v' d' → Fm (L + 1) (k + 2) d' → Q v' H') :
    tail_things K { nx := fun _ H' => Q .non H', rt := Q } [some (.ref p), some v, w2, w3, w4, w5, w6, w7, none] H := by
  unfold tail_things
  walk_at "w"
  refine ⟨szl (by show 0 ≤ 1000000; decide), fun a1 h1 => ?_⟩
  have s1 : Same _ _ := Same.tnew (o := .tup ([] : List V)) h1
  have g1 : (upd H a1 (.tup ([] : List V))) a1 = some (.tup []) := upd_same
  generalize (upd H a1 (.tup ([] : List V))) = H1 at s1 g1 ⊢
  walk_at "w"
  refine ⟨szl (by show 1 ≤ 1000000; decide), fun a2 h2 => ?_⟩
  have s2 : Same _ _ := Same.tnew (o := .tup [V.str "used"]) h2
  have g2 : (upd H1 a2 (.tup [V.str "used"])) a2 = some (.tup [.str "used"]) := upd_same
  generalize (upd H1 a2 (.tup [V.str "used"])) = H2 at s2 g2 ⊢
  walk_at "w"
  refine ⟨szl (by show 10 ≤ 1000000; decide), fun b1 hb1 => ?_⟩
  have s3 : Same _ _ := Same.tnew (o := .lst [V.ref a1, V.int 0, V.str "cases", V.str "clash", V.str "edges", V.str "recasting", V.str "'023", V.str "'320", V.str "'230", V.ref a2]) hb1
  have g3 : (upd H2 b1 (.lst [V.ref a1, V.int 0, V.str "cases", V.str "clash", V.str "edges", V.str "recasting", V.str "'023", V.str "'320", V.str "'230", V.ref a2])) b1 = some (.lst [V.ref a1, V.int 0, V.str "cases", V.str "clash", V.str "edges", V.str "recasting", V.str "'023", V.str "'320", V.str "'230", V.ref a2]) := upd_same
  generalize (upd H2 b1 (.lst [V.ref a1, V.int 0, V.str "cases", V.str "clash", V.str "edges", V.str "recasting", V.str "'023", V.str "'320", V.str "'230", V.ref a2])) = H3 at s3 g3 ⊢
  walk_at "w"
  refine ⟨szl (by show 2 ≤ 1000000; decide), fun a3 h3 => ?_⟩
  have s4 : Same _ _ := Same.tnew (o := .tup [V.str "clash", V.int 0]) h3
  have g4 : (upd H3 a3 (.tup [V.str "clash", V.int 0])) a3 = some (.tup [.str "clash", .int 0]) := upd_same
  generalize (upd H3 a3 (.tup [V.str "clash", V.int 0])) = H4 at s4 g4 ⊢
  walk_at "w"
  refine ⟨szl (by show 2 ≤ 1000000; decide), fun a4 h4 => ?_⟩
  have s5 : Same _ _ := Same.tnew (o := .tup [V.str "clash", V.int 1]) h4
  have g5 : (upd H4 a4 (.tup [V.str "clash", V.int 1])) a4 = some (.tup [.str "clash", .int 1]) := upd_same
  generalize (upd H4 a4 (.tup [V.str "clash", V.int 1])) = H5 at s5 g5 ⊢
  walk_at "w"
  refine ⟨szl (by show 2 ≤ 1000000; decide), fun b2 hb2 => ?_⟩
  have s6 : Same _ _ := Same.tnew (o := .lst [V.ref a3, V.ref a4]) hb2
  have g6 : (upd H5 b2 (.lst [V.ref a3, V.ref a4])) b2 = some (.lst [.ref a3, .ref a4]) := upd_same
  generalize (upd H5 b2 (.lst [V.ref a3, V.ref a4])) = H6 at s6 g6 ⊢
  refine w_cat (s6 _ _ (s5 _ _ (s4 _ _ g3))) g6 (szl (by show 12 ≤ 1000000; decide)) fun b3 hb3 => ?_
  have g7 : (upd H6 b3 (.lst ([V.ref a1, V.int 0, V.str "cases", V.str "clash", V.str "edges", V.str "recasting", V.str "'023", V.str "'320", V.str "'230", V.ref a2] ++ [V.ref a3, V.ref a4]))) b3 = some (.lst [V.ref a1, V.int 0, V.str "cases", V.str "clash", V.str "edges", V.str "recasting", V.str "'023", V.str "'320", V.str "'230", V.ref a2, V.ref a3, V.ref a4]) := upd_same
  have s7 : Same _ _ := Same.tnew (o := .lst ([V.ref a1, V.int 0, V.str "cases", V.str "clash", V.str "edges", V.str "recasting", V.str "'023", V.str "'320", V.str "'230", V.ref a2] ++ [V.ref a3, V.ref a4])) hb3
  generalize (upd H6 b3 (.lst ([V.ref a1, V.int 0, V.str "cases", V.str "clash", V.str "edges", V.str "recasting", V.str "'023", V.str "'320", V.str "'230", V.ref a2] ++ [V.ref a3, V.ref a4]))) = H7 at s7 g7 ⊢
  have w7 := (((((s1.trans s2).trans s3).trans s4).trans s5).trans s6).trans s7
  have P7 := P.same w7
  have nb3 : b3 ≠ p := (P.same (((((s1.trans s2).trans s3).trans s4).trans s5).trans s6)).nn hb3
  have D7 : DpAll K H7 [V.ref a1, V.int 0, V.str "cases", V.str "clash", V.str "edges", V.str "recasting", V.str "'023", V.str "'320", V.str "'230", V.ref a2, V.ref a3, V.ref a4] thingsD :=
    .cons (.tup (SqT.of (s7 _ _ (s6 _ _ (s5 _ _ (s4 _ _ (s3 _ _ (s2 _ _ g1))))))) .nil) (.cons (.int 0) (.cons (.str _) (.cons (.str _) (.cons (.str _) (.cons (.str _) (.cons (.str _) (.cons (.str _) (.cons (.str _)
      (.cons (.tup (SqT.of (s7 _ _ (s6 _ _ (s5 _ _ (s4 _ _ (s3 _ _ g2)))))) (.cons (.str _) .nil)) (.cons (.tup (SqT.of (s7 _ _ (s6 _ _ (s5 _ _ g4)))) (.cons (.str _) (.cons (.int _) .nil)))
      (.cons (.tup (SqT.of (s7 _ _ (s6 _ _ g5))) (.cons (.str _) (.cons (.int _) .nil))) .nil)))))))))))
  walk_at "w"
  refine ⟨p, sc, cells, 12, rfl, P7, by decide, by decide, fun r H8 hr X8 P8 => ?_⟩
  have g8 := X8 _ _ nb3 g7
  have D8 := DpAll.keep (things_ok hL (k := k)) (P7.kp X8) D7
  have hx : r < [V.ref a1, V.int 0, V.str "cases", V.str "clash", V.str "edges", V.str "recasting", V.str "'023", V.str "'320", V.str "'230", V.ref a2, V.ref a3, V.ref a4].length := hr
  have hd : r < thingsD.length := hr
  refine w_ixL (SqL.of g8) (atI_nat (List.getElem?_eq_getElem hx)) ?_
  exact q H8 _ _ ((Xt.of w7).trans X8) P8 (D8.get (List.getElem?_eq_getElem hx) (List.getElem?_eq_getElem hd)) (things_ok hL _ (List.getElem_mem hd))
theorem wp__law_bent {K : PySem.W.Frag} {mg : Str → Option Value} {L k : Nat} (T : Tx K mg) : ∀ vs H Q E, sp__law_bent K L k vs H Q E → t__law_bent K L k { nx := fun _ H' => Q .non H', rt := Q } (start N__law_bent vs) H := by
  rintro vs H Q E ⟨p, sc, cells, v, d, rfl, P, D, F, hL, hL2, q⟩
  unfold t__law_bent
  with_reducible refine w_seqG fun J hJ => ?_
  -- not bent inside
  have out : ∀ H' (w2 w3 w4 w5 w6 w7 : Option V), Xp p H H' → PoolAt K H' p sc cells → J [some (.ref p), some v, w2, w3, w4, w5, w6, w7, none] H' := by
    intro H' w2 w3 w4 w5 w6 w7 X1 P1
    refine hJ _ _ ?_
    have D1 := Dp.keep F (P.kp X1) _ D
    have tl : tail_things K { nx := fun _ H' => Q .non H', rt := Q } [some (.ref p), some v, w2, w3, w4, w5, w6, w7, none] H' := wp_things P1 hL fun H2 v' d' X2 P2 D2 F2 => q H2 v' d' (X1.trans X2) P2 D2 F2
    with_reducible refine w_seqG fun J2 hJ2 => ?_
    have out2 : J2 [some (.ref p), some v, w2, w3, w4, w5, w6, w7, none] H' := hJ2 _ _ tl
    walk_at "w"
    refine w_isI F D1 ?_
    walk_at "w"
    cases F with
    | tup _ _ =>
      show if false = true then _ else _
      walk_at "w"
      exact out2
    | str _ =>
      show if false = true then _ else _
      walk_at "w"
      exact out2
    | @int _ i hi =>
      cases D1
      show if true = true then _ else _
      walk_at "w"
      refine ⟨p, sc, cells, 20, rfl, P1, by decide, by decide, fun r H2 hr X2 P2 => ?_⟩
      walk_at "w"
      refine ⟨szl (by show 3 ≤ 1000000; decide), fun b hb => ?_⟩
      have nb : b ≠ p := P2.nn hb
      have s3 : Same _ _ := Same.tnew (o := .lst [V.int (i + 1), V.int (if i - 1 > 0 then i - 1 else 0), V.int (r : Nat)]) hb
      walk_at "w"
      refine ⟨p, sc, cells, 3, rfl, P2.same s3, by decide, by decide, fun r2 H4 hr2 X4 P4 => ?_⟩
      have g4 := X4 _ _ nb (show (upd H2 b (.lst [V.int (i + 1), V.int (if i - 1 > 0 then i - 1 else 0), V.int (r : Nat)])) b = _ from upd_same)
      have X5 := ((X1.trans X2).trans (Xt.of s3)).trans X4
      match r2, hr2 with
      | 0, _ => exact w_ixL (SqL.of g4) (at0 rfl) (q H4 _ (.int (i + 1)) X5 P4 (.int _) (.int (by omega)))
      | 1, _ => exact w_ixL (SqL.of g4) (at1 rfl) (q H4 _ (.int (if i - 1 > 0 then i - 1 else 0)) X5 P4 (.int _) (.int (by split <;> omega)))
      | 2, _ => exact w_ixL (SqL.of g4) (at2 rfl) (q H4 _ (.int (r : Nat)) X5 P4 (.int _) (.int (by omega)))
  have out0 : J [some (.ref p), some v, none, none, none, none, none, none, none] H := out H none none none none none none (Xt.refl _ H) P
  walk_at "w"
  refine w_isT F D ?_
  walk_at "w"
  cases F with
  | int _ =>
    show if false = true then _ else _
    walk_at "w"
    exact out0
  | str _ =>
    show if false = true then _ else _
    walk_at "w"
    exact out0
  | @tup k ds h1 h2 =>
    obtain ⟨a, xs, rfl, hS, hD⟩ := D.tupI
    have hlen := hD.len
    show if true = true then _ else _
    walk_at "w"
    refine ⟨!xs.isEmpty, .inr (.inl ⟨_, hS, rfl⟩), ?_⟩
    cases hxe : xs.isEmpty with
    | true =>
      show if false = true then _ else _
      walk_at "w"
      exact out0
    | false =>
    have hpos : 0 < xs.length := by
      cases xs with
      | nil => cases hxe
      | cons _ _ => exact Nat.succ_pos _
    show if true = true then _ else _
    walk_at "w"
    refine ⟨p, sc, cells, 5, rfl, P, by decide, by decide, fun r0 H0 hr0 X0 P0 => ?_⟩
    walk_at "w"
    refine w_d2 (fun _ => ?_) (fun _ => ?_)
    rotate_left
    · walk_at "w"
      exact out H0 none none none none none none X0 P0
    have kp0 := P.kp X0
    have F2 : ∀ d ∈ ds, Fm (L + 1) (k + 2) d := fun d hd => (h2 d hd).mono (by omega) (by omega)
    walk_at "w"
    refine w_lenT (kp0.sqT hS) ?_
    walk_at "w"
    refine ⟨p, sc, cells, xs.length, rfl, P0, hpos, by omega, fun at' H1 hat X1 P1 => ?_⟩
    walk_at "w"
    refine ⟨p, sc, cells, 8, rfl, P1, by decide, by decide, fun way H2 hway X2 P2 => ?_⟩
    have X3 := (X0.trans X1).trans X2
    have kp := P.kp X3
    have hS2 := kp.sqT hS
    have hD2 := DpAll.keep h2 kp hD
    have e1 : ((at' : Int) + 1) = ((at' + 1 : Nat) : Int) := by omega
    walk_at "w"
    refine w_d2 (fun hw => ?_) (fun hw => ?_)
    · -- bent inside
      walk_at "w"
      refine w_slT hS2 fun b H3 s3 hb => ?_
      rw [cut_to] at hb
      walk_at "w"
      have hxa : xs[at']? = some (xs[at']'hat) := List.getElem?_eq_getElem hat
      have hda : ds[at']? = some (ds[at']'(by omega)) := List.getElem?_eq_getElem (by omega)
      refine w_ixT (s3.tT hS2) (atI_nat hxa) ?_
      walk_at "w"
      have P3 := P2.same s3
      refine ⟨p, sc, cells, _, _, rfl, P3, Dp.keep (h2 _ (List.mem_of_getElem? hda)) (Kp.of s3) _ (hD2.get hxa hda), h2 _ (List.mem_of_getElem? hda), hL, hL2, fun H4 v' d' X4 P4 D4 F4 => ?_⟩
      have kp4 := P3.kp X4
      refine ⟨szl (by show 1 ≤ 1000000; decide), fun c hc => ?_⟩
      have s5 : Same _ _ := Same.tnew (o := .tup [v']) hc
      refine w_ctT (s5.tT (kp4.sqT hb)) (SqT.of upd_same) (by rw [List.length_take]; show _ + 1 ≤ _; omega) fun e H6 s6 he => ?_
      have s56 := s5.trans s6
      walk_at "w"
      rw [e1]
      have kp6 : Kp H2 H6 := ((Kp.of s3).trans kp4).trans (Kp.of s56)
      refine w_slT (kp6.sqT hS2) fun f H7 s7 hf => ?_
      rw [cut_from] at hf
      refine w_ctT (s7.tT he) hf (by rw [List.length_append, List.length_take, List.length_drop]; show _ + 1 + _ ≤ _; omega) fun g H8 s8 hg => ?_
      have s78 := s7.trans s8
      have kp8 := kp6.trans (Kp.of s78)
      have D8 := DpAll.keep h2 kp8 hD2
      have D4' := Dp.keep F4 (Kp.of (s56.trans s78)) _ D4
      refine q H8 (.ref g) (.tuple ((ds.take at' ++ [d']) ++ ds.drop (at' + 1))) (((X3.trans (Xt.of s3)).trans X4).trans (Xt.of (s56.trans s78))) (P4.same (s56.trans s78)) (.tup hg (((D8.take at').app (.cons D4' .nil)).app (D8.drop (at' + 1)))) (.tup ?_ fun d hd => ?_)
      · rw [List.length_append, List.length_append, List.length_take, List.length_drop]
        show _ + 1 + _ ≤ _
        omega
      · rcases List.mem_append.mp hd with z | z
        · rcases List.mem_append.mp z with z | z
          · exact F2 d (List.mem_of_mem_take z)
          · rw [List.mem_singleton.mp z]; exact F4
        · exact F2 d (List.mem_of_mem_drop z)
    · walk_at "w"
      refine w_lenT hS2 ?_
      walk_at "w"
      refine ⟨p, sc, cells, xs.length, rfl, P2, hpos, by omega, fun ot H3 hot X4 P3 => ?_⟩
      have X5 := X3.trans X4
      have kp3 := P.kp X5
      have hS3 := kp3.sqT hS
      have hD3 := DpAll.keep h2 kp3 hD
      walk_at "w"
      refine w_lstT hS3 fun el hel => ?_
      have nel : el ≠ p := P3.nn hel
      have s4 : Same _ _ := Same.tnew (o := .lst xs) hel
      have hxo : xs[ot]? = some (xs[ot]'hot) := List.getElem?_eq_getElem hot
      have hxa : xs[at']? = some (xs[at']'hat) := List.getElem?_eq_getElem hat
      have hdo : ds[ot]? = some (ds[ot]'(by omega)) := List.getElem?_eq_getElem (by omega)
      have hda : ds[at']? = some (ds[at']'(by omega)) := List.getElem?_eq_getElem (by omega)
      walk_at "w"
      refine w_ixT (s4.tT hS3) (atI_nat hxo) ?_
      walk_at "w"
      refine w_setL (k := at') upd_same (ix_nat hat) ?_
      have s5 : Same H3 (upd (upd H3 el (.lst xs)) el (.lst (xs.set at' (xs[ot]'hot)))) := s4.tmut hel
      walk_at "w"
      refine w_ixT (s5.tT hS3) (atI_nat hxa) ?_
      walk_at "w"
      refine w_setL (k := ot) upd_same (ix_nat (by rw [List.length_set]; exact hot)) ?_
      have s6 : Same H3 (upd (upd (upd H3 el (.lst xs)) el (.lst (xs.set at' (xs[ot]'hot)))) el (.lst ((xs.set at' (xs[ot]'hot)).set ot (xs[at']'hat)))) := s5.tmut hel
      have hel6 : (upd (upd (upd H3 el (.lst xs)) el (.lst (xs.set at' (xs[ot]'hot)))) el (.lst ((xs.set at' (xs[ot]'hot)).set ot (xs[at']'hat)))) el = some (.lst ((xs.set at' (xs[ot]'hot)).set ot (xs[at']'hat))) := upd_same
      generalize (upd (upd (upd H3 el (.lst xs)) el (.lst (xs.set at' (xs[ot]'hot)))) el (.lst ((xs.set at' (xs[ot]'hot)).set ot (xs[at']'hat)))) = H6 at s6 hel6 ⊢
      -- shorter
      walk_at "w"
      refine w_slT (s6.tT hS3) fun b1 H7 s7 hb1 => ?_
      rw [cut_to] at hb1
      walk_at "w"
      rw [e1]
      refine w_slT ((s6.trans s7).tT hS3) fun b2 H8 s8 hb2 => ?_
      rw [cut_from] at hb2
      refine w_ctT (s8.tT hb1) hb2 (by rw [List.length_take, List.length_drop]; omega) fun sh H9 s9 hsh => ?_
      have w9 := ((s6.trans s7).trans s8).trans s9
      -- doubled
      walk_at "w"
      rw [e1]
      refine w_slT (w9.tT hS3) fun b3 H10 s10 hb3 => ?_
      rw [cut_to] at hb3
      walk_at "w"
      refine w_slT ((w9.trans s10).tT hS3) fun b4 H11 s11 hb4 => ?_
      rw [cut_from] at hb4
      refine w_ctT (s11.tT hb3) hb4 (by rw [List.length_take, List.length_drop]; omega) fun db H12 s12 hdb => ?_
      have w12 := ((w9.trans s10).trans s11).trans s12
      have hel12 := (((s7.trans s8).trans s9).trans ((s10.trans s11).trans s12)) _ _ hel6
      have hsh12 := ((s10.trans s11).trans s12).tT hsh
      -- the list of four
      walk_at "w"
      refine w_tupL (SqL.of hel12) fun te hte => ?_
      have s13 : Same _ _ := Same.tnew (o := .tup ((xs.set at' (xs[ot]'hot)).set ot (xs[at']'hat))) hte
      have hte13 : SqT K (upd H12 te (.tup ((xs.set at' (xs[ot]'hot)).set ot (xs[at']'hat)))) te ((xs.set at' (xs[ot]'hot)).set ot (xs[at']'hat)) := SqT.of upd_same
      generalize (upd H12 te (.tup ((xs.set at' (xs[ot]'hot)).set ot (xs[at']'hat)))) = H13 at s13 hte13 ⊢
      walk_at "w"
      refine ⟨szl (by show 1 ≤ 1000000; decide), fun z0 hz0 => ?_⟩
      have s14 : Same _ _ := Same.tnew (o := .tup [V.int 0]) hz0
      refine w_ctT (((w12.trans s13).trans s14).tT hS3) (SqT.of upd_same) (by show _ + 1 ≤ _; omega) fun fz H15 s15 hfz => ?_
      walk_at "w"
      refine ⟨szl (by show 4 ≤ 1000000; decide), fun fo hfo => ?_⟩
      have s16 : Same _ _ := Same.tnew (o := .lst [V.ref sh, V.ref db, V.ref te, V.ref fz]) hfo
      have hfo16 : (upd H15 fo (.lst [V.ref sh, V.ref db, V.ref te, V.ref fz])) fo = some (.lst [V.ref sh, V.ref db, V.ref te, V.ref fz]) := upd_same
      have hfz16 := s16.tT hfz
      generalize (upd H15 fo (.lst [V.ref sh, V.ref db, V.ref te, V.ref fz])) = H16 at s16 hfo16 hfz16 ⊢
      walk_at "w"
      have w1316 := ((s13.trans s14).trans s15).trans s16
      have w16 := w12.trans w1316
      have X16 := X5.trans (Xt.of w16)
      have P16 := P3.same w16
      have D16 := DpAll.keep h2 (Kp.of w16) hD3
      have len4 : ∀ {l : List PyData}, l.length ≤ L + 1 → (∀ d ∈ l, d ∈ ds ∨ d = .int 0) → Fm (L + 1) (k + 1 + 2) (.tuple l) := fun hl hm => .tup hl fun d hd => by
        rcases hm d hd with z | z
        · exact F2 d z
        · rw [z]; exact .int (by decide)
      have hw4 : way < 4 := by omega
      match way, hw4 with
      | 0, _ =>
        exact w_ixL (SqL.of hfo16) (at0 rfl) (q H16 _ (.tuple (ds.take at' ++ ds.drop (at' + 1))) X16 P16 (.tup (w1316.tT hsh12) ((D16.take _).app (D16.drop _))) (len4 (by rw [List.length_append, List.length_take, List.length_drop]; omega) fun d hd => by
          rcases List.mem_append.mp hd with z | z
          · exact .inl (List.mem_of_mem_take z)
          · exact .inl (List.mem_of_mem_drop z)))
      | 1, _ =>
        exact w_ixL (SqL.of hfo16) (at1 rfl) (q H16 _ (.tuple (ds.take (at' + 1) ++ ds.drop at')) X16 P16 (.tup (w1316.tT hdb) ((D16.take _).app (D16.drop _))) (len4 (by rw [List.length_append, List.length_take, List.length_drop]; omega) fun d hd => by
          rcases List.mem_append.mp hd with z | z
          · exact .inl (List.mem_of_mem_take z)
          · exact .inl (List.mem_of_mem_drop z)))
      | 2, _ =>
        exact w_ixL (SqL.of hfo16) (at2 rfl) (q H16 _ (.tuple ((ds.set at' (ds[ot]'(by omega))).set ot (ds[at']'(by omega)))) X16 P16 (.tup (((s14.trans s15).trans s16).tT hte13) ((D16.set _ (D16.get hxo hdo)).set _ (D16.get hxa hda))) (len4 (by rw [List.length_set, List.length_set]; omega) fun d hd => by
          rcases List.mem_or_eq_of_mem_set hd with z | z
          · rcases List.mem_or_eq_of_mem_set z with y | y
            · exact .inl y
            · rw [y]; exact .inl (List.getElem_mem _)
          · rw [z]; exact .inl (List.getElem_mem _)))
      | 3, _ =>
        exact w_ixL (SqL.of hfo16) (atI_nat (j := 3) rfl) (q H16 _ (.tuple (ds ++ [.int 0])) X16 P16 (.tup hfz16 (D16.app (.cons (.int 0) .nil))) (len4 (by rw [List.length_append]; show _ + 1 ≤ _; omega) fun d hd => by
          rcases List.mem_append.mp hd with z | z
          · exact .inl z
          · exact .inr (List.mem_singleton.mp z)))

theorem ok__law_bent {P : Program} {w : World} {K : PySem.W.Frag} {mg : Str → Option Value} {base : Heap} (L k : Nat) (F : FnP K mg "_law_bent" s__law_bent) (T : Tx K mg) (c__law_draw : Ok P w K mg base "_law_draw" 1 ps__law_draw (sp__law_draw K)) (c__law_bent : Ok P w K mg base "_law_bent" (k + 3) ps__law_bent (spv__law_bent K L k)) :
    Ok P w K mg base "_law_bent" (k + 4) ps__law_bent (sp__law_bent K L k) :=
  ok_of (t := t__law_bent K L k) F sc__law_bent (len__law_bent) (fun _ _ _ _ _ _ us hl => match us, hl with | [_, _], _ => rfl)
    (fun f cdv A outer s H E hr => by
      have hu := hu_of hr
      have hu65 := u65 hr
      exact (pss_cons (ps_if (PW.pt (pw_and (pt_val (pe_callB call_isi rfl T.b_isinstance (by decide +kernel) (pa_cons (pv 1) (pa_cons (pe_bltn rfl T.b_tuple (by decide +kernel) rfl) pa_nil)))) (pw_and (pt_truth (pv 1) (fun _ => rfl)) (pw_and1 (pt_cmpR op_gt (pe_callO c__law_draw (hk := by omega) hr (pa_cons (pv 0) (pa_cons pe_int pa_nil))) pe_int (nomark _)))))) (pss_cons (ps_set (i := 2) sc__law_bent.nd rfl (Or.inl rfl) (pe_callO c__law_draw (hk := by omega) hr (pa_cons (pv 0) (pa_cons (pe_callB call_len rfl T.b_len PySem.boot_len (pa_cons (pv 1) pa_nil)) pa_nil))))
      (pss_cons (ps_set (i := 3) sc__law_bent.nd rfl (Or.inl rfl) (pe_callO c__law_draw (hk := by omega) hr (pa_cons (pv 0) (pa_cons pe_int pa_nil))))
      (pss_cons (ps_if (pt_cmpR op_gt (pv 3) pe_int (nomark _)) (pss_one (ps_ret (pe_op op_catA (pe_op op_catA (pe_slice sl_tupA (pv 1) po_none (po_some (pv 2))) (pe_tup (pa_cons (pe_callO c__law_bent (hk := by omega) hr (pa_cons (pv 0) (pa_cons (pe_ix ix_tup (pv 1) (pv 2) (fun _ _ => rfl)) pa_nil))) pa_nil))) (pe_slice sl_tupA (pv 1) (po_some (pe_op op_add (pv 2) pe_int)) po_none)))) pss_nil)
      (pss_cons (ps_set (i := 4) sc__law_bent.nd rfl (Or.inl rfl) (pe_callO c__law_draw (hk := by omega) hr (pa_cons (pv 0) (pa_cons (pe_callB call_len rfl T.b_len PySem.boot_len (pa_cons (pv 1) pa_nil)) pa_nil))))
      (pss_cons (ps_set (i := 5) sc__law_bent.nd rfl (Or.inl rfl) (pe_callTy call_list_of rfl T.b_list (by decide +kernel) (pa_cons (pv 1) pa_nil)))
      (pss_cons (ps_asg (pe_ix ix_tup (pv 1) (pv 4) (fun _ _ => rfl)) (pg_sub (pv 5) (pv 2) set_list))
      (pss_cons (ps_asg (pe_ix ix_tup (pv 1) (pv 2) (fun _ _ => rfl)) (pg_sub (pv 5) (pv 4) set_list))
      (pss_cons (ps_set (i := 6) sc__law_bent.nd rfl (Or.inl rfl) (pe_op op_catA (pe_slice sl_tupA (pv 1) po_none (po_some (pv 2))) (pe_slice sl_tupA (pv 1) (po_some (pe_op op_add (pv 2) pe_int)) po_none)))
      (pss_cons (ps_set (i := 7) sc__law_bent.nd rfl (Or.inl rfl) (pe_op op_catA (pe_slice sl_tupA (pv 1) po_none (po_some (pe_op op_add (pv 2) pe_int))) (pe_slice sl_tupA (pv 1) (po_some (pv 2)) po_none)))
      (pss_one (ps_ret (pe_ix ix_list (pe_lst (pa_cons (pv 6) (pa_cons (pv 7) (pa_cons (pe_callTy call_tuple_of rfl T.b_tuple (by decide +kernel) (pa_cons (pv 5) pa_nil)) (pa_cons (pe_op op_catA (pv 1) (pe_tup (pa_cons pe_int pa_nil))) pa_nil))))) (pv 3) (fun _ _ => rfl))))))))))))) pss_nil)
      (pss_cons (ps_if (pt_val (pe_callB call_isi rfl T.b_isinstance (by decide +kernel) (pa_cons (pv 1) (pa_cons (pe_bltn rfl T.b_int (by decide +kernel) rfl) pa_nil)))) (pss_one (ps_ret (pe_ix ix_list (pe_lst (pa_cons (pe_op op_add (pv 1) pe_int) (pa_cons (pe_callB (call_max2 rfl) rfl T.b_max (by decide +kernel) (pa_cons pe_int (pa_cons (pe_op op_sub (pv 1) pe_int) pa_nil))) (pa_cons (pe_callO c__law_draw (hk := by omega) hr (pa_cons (pv 0) (pa_cons pe_int pa_nil))) pa_nil)))) (pe_callO c__law_draw (hk := by omega) hr (pa_cons (pv 0) (pa_cons pe_int pa_nil))) (fun _ _ => rfl)))) pss_nil)
      (pss_cons (ps_set (i := 8) sc__law_bent.nd rfl (Or.inl rfl) (pe_lst (pa_cons (pe_tup pa_nil) (pa_cons pe_int (pa_cons pe_str (pa_cons pe_str (pa_cons pe_str (pa_cons pe_str (pa_cons pe_str (pa_cons pe_str (pa_cons pe_str (pa_cons (pe_tup (pa_cons pe_str pa_nil)) pa_nil))))))))))))
      (pss_one (ps_ret (pe_ix ix_list (pe_op op_cat (pv 8) (pe_lst (pa_cons (pe_tup (pa_cons pe_str (pa_cons pe_int pa_nil))) (pa_cons (pe_tup (pa_cons pe_str (pa_cons pe_int pa_nil))) pa_nil)))) (pe_callO c__law_draw (hk := by omega) hr (pa_cons (pv 0) (pa_cons pe_int pa_nil))) (fun _ _ => rfl))))))))
    (wp__law_bent T)

abbrev s__law_special : Stmt := top 58
abbrev N__law_special : List Str := ["pool", "paper", "parts", "told", "odd"]
abbrev ps__law_special : List Str := ["pool", "paper"]
theorem sc__law_special : FnScope N__law_special ps__law_special (defScope s__law_special) := ⟨rfl, rfl, rfl, by decide +kernel, rfl, by decide +kernel, by decide +kernel⟩
def t__law_special (K : PySem.W.Frag) : TS :=
    (tSeq (tAsg (tSl (rSlA K) (tVar 1) (tPart (tC (.int 1))) tNoPart) (gName 2))
    (tSeq (tAsg (tLst (tCons (tOp (rCatA K) (tTup (tCons (tC (.str "cases")) (tCons (tTup (tCons (tC (.str "used")) tNil)) tNil))) (tSl (rSlA K) (tVar 2) (tPart (tC (.int 1))) tNoPart)) (tCons (tOp (rCatA K) (tTup (tCons (tC (.str "cases")) (tCons (tTup (tCons (tC (.str "clash")) (tCons (tC (.int 0)) tNil))) tNil))) (tSl (rSlA K) (tVar 2) (tPart (tC (.int 1))) tNoPart)) tNil))) (gName 3))
    (tSeq (tDrop (tBM K "list" rAppend (tVar 3) (tCons (tOp (rCatA K) (tTup (tCons (tC (.str "cases")) (tCons (tVar 1) tNil))) (tSl (rSlA K) (tVar 2) (tPart (tC (.int 1))) tNoPart)) tNil)))
    (tSeq (tAsg (tOp rCat (tVar 3) (tLst (tCons (tOp (rCatA K) (tSl (rSlA K) (tVar 1) tNoPart (tPart (tC (.int 1)))) (tRevT K (tVar 2))) (tCons (tOp (rCatA K) (tVar 1) (tSl (rSlA K) (tVar 1) (tPart (tUn rNegI (tC (.int 1)))) tNoPart)) tNil)))) (gName 3))
    (tSeq (tAsg (tLst (tCons (tTup tNil) (tCons (tC (.int 0)) (tCons (tC (.str "edges")) (tCons (tTup (tCons (tC (.str "edges")) tNil)) (tCons (tTup (tCons (tC (.str "edges")) (tCons (tC (.int 0)) tNil))) (tCons (tTup (tCons (tC (.str "cases")) tNil)) (tCons (tTup (tCons (tC (.str "recasting")) (tCons (tTup tNil) (tCons (tTup tNil) tNil)))) (tCons (tTup (tCons (tC (.str "void")) tNil)) tNil))))))))) (gName 4))
    (tSeq (tAsg (tOp rCat (tVar 4) (tLst (tCons (tTup (tCons (tC (.str "used")) tNil)) (tCons (tTup (tCons (tC (.str "clash")) (tCons (tC (.int 0)) tNil))) (tCons (tTup (tCons (tC (.str "table")) (tCons (tC (.int 0)) (tCons (tC (.int 1)) (tCons (tC (.int 2)) (tCons (tC (.int 3)) tNil)))))) (tCons (tTup (tCons (tC (.str "recasting")) tNil)) (tCons (tC (.str "'023")) tNil))))))) (gName 4))
    (tRet (tOp rCat (tVar 3) (tLst (tCons (tOp (rIxL K) (tVar 4) (tCall (sp__law_draw K) [] E0 (tCons (tVar 0) (tCons (tC (.int 13)) tNil)))) (tCons (tOp (rIxL K) (tVar 4) (tCall (sp__law_draw K) [] E0 (tCons (tVar 0) (tCons (tC (.int 13)) tNil)))) tNil)))))))))))
def sp__law_special (K : PySem.W.Frag) : Sp := fun vs H Q _ => ∃ (p sc : Addr) (cells : List Int) (v : V) (ds : List PyData), vs = [.ref p, v] ∧ PoolAt K H p sc cells ∧ Dp K H v (.tuple ds) ∧ Fm 200 10 (.tuple ds) ∧
  ∀ H' l ws es, Xp p H H' → PoolAt K H' p sc cells → H l = none → Fl K H' l ws es → es.length ≤ 10 → Q (.ref l) H'
theorem len__law_special {K : PySem.W.Frag} : ∀ vs H Q E, sp__law_special K vs H Q E → vs.length = ps__law_special.length := by
  rintro vs H Q E ⟨p, sc, cells, v, ds, rfl, _⟩
  rfl
theorem wp__law_special {K : PySem.W.Frag} {mg : Str → Option Value} (T : Tx K mg) : ∀ vs H Q E, sp__law_special K vs H Q E → t__law_special K { nx := fun _ H' => Q .non H', rt := Q } (start N__law_special vs) H := by
  rintro vs H Q E ⟨p, sc, cells, v, ds, rfl, P, D, F, q⟩
  have Fs : ∀ d ∈ ds, Fm 200 10 d := fun d hd => F.sub hd
  have Fd : ∀ n, ∀ d ∈ ds.drop n, Fm 200 10 d := fun n d hd => Fs d (List.mem_of_mem_drop hd)
  have Fdd : ∀ d ∈ (ds.drop 1).drop 1, Fm 200 10 d := fun d hd => Fd 1 d (List.mem_of_mem_drop hd)
  have hl := F.len
  obtain ⟨pa, xs, rfl, _, _⟩ := D.tupI
  have str : ∀ {k : Nat} {x : Str}, x ∈ words → Fm 200 k (.str x) := fun h => .str h
  have one : ∀ {x : Str}, x ∈ words → Fm 200 1 (.tuple [.str x]) := fun h => .tup (by show 1 ≤ 200; decide) (fm_cons (.str h) fm_nil)
  have two : ∀ {x : Str} {i : Int}, x ∈ words → 0 ≤ i → Fm 200 1 (.tuple [.str x, .int i]) := fun h g => .tup (by show 2 ≤ 200; decide) (fm_cons (.str h) (fm_cons (.int g) fm_nil))
  unfold t__law_special
  walk_at "w"
  refine w_fromD (n := 1) rfl D Fs fun qa H1 s1 Dq => ?_
  walk_at "w"
  refine w_tupD (K := K) (L := 200) (k := 10) (.cons (.str "used") .nil) (fm_cons (str (by decide)) fm_nil) (by show 1 ≤ 1000000; decide) fun u1 H2 ee s2 Du1 => ?_
  rw [← ee]
  clear ee
  walk_at "w"
  refine w_tupD (K := K) (L := 200) (k := 10) (.cons (.str "cases") (.cons Du1 .nil)) (fm_cons (str (by decide)) (fm_cons ((one (by decide)).mono (by decide) (by decide)) fm_nil)) (by show 2 ≤ 1000000; decide) fun t1 H3 ee s3 Dt1 => ?_
  rw [← ee]
  clear ee
  walk_at "w"
  have Dq3 := Dp.keep (L := 200) (k := 11) (.tup (by rw [List.length_drop]; omega) (Fd 1)) (Kp.of (s2.trans s3)) _ Dq
  refine w_fromD (n := 1) rfl Dq3 (Fd 1) fun b1 H4 s4 Db1 => ?_
  have Dt1' := Dp.keep (L := 200) (k := 11) (.tup (by show 2 ≤ 200; decide) (fm_cons (str (by decide)) (fm_cons ((one (by decide)).mono (by decide) (by decide)) fm_nil))) (Kp.of s4) _ Dt1
  refine w_ctD (L := 200) (k := 10) Dt1' Db1 (fm_cons (str (by decide)) (fm_cons ((one (by decide)).mono (by decide) (by decide)) fm_nil)) Fdd (by rw [List.length_drop, List.length_drop]; show 2 + _ ≤ _; omega) fun c1 H5 s5 Dc1 => ?_
  have Fc1 : Fm 210 11 (.tuple ([PyData.str "cases", .tuple [.str "used"]] ++ (ds.drop 1).drop 1)) := .tup (by rw [List.length_append, List.length_drop, List.length_drop]; show 2 + _ ≤ _; omega) (fm_app (fm_cons (.str (by decide)) (fm_cons ((one (by decide)).mono (by decide) (by decide)) fm_nil)) fun d hd => (Fdd d hd).mono (by decide) (by decide))
  have w5 := ((s2.trans s3).trans s4).trans s5
  walk_at "w"
  refine w_tupD (K := K) (L := 200) (k := 10) (.cons (.str "clash") (.cons (.int 0) .nil)) (fm_cons (str (by decide)) (fm_cons (.int (by decide)) fm_nil)) (by show 2 ≤ 1000000; decide) fun u2 H6 ee s6 Du2 => ?_
  rw [← ee]
  clear ee
  walk_at "w"
  refine w_tupD (K := K) (L := 200) (k := 10) (.cons (.str "cases") (.cons Du2 .nil)) (fm_cons (str (by decide)) (fm_cons ((two (by decide) (by decide)).mono (by decide) (by decide)) fm_nil)) (by show 2 ≤ 1000000; decide) fun t2 H7 ee s7 Dt2 => ?_
  rw [← ee]
  clear ee
  walk_at "w"
  have w7 := (w5.trans s6).trans s7
  have Dq7 := Dp.keep (L := 200) (k := 11) (.tup (by rw [List.length_drop]; omega) (Fd 1)) (Kp.of w7) _ Dq
  refine w_fromD (n := 1) rfl Dq7 (Fd 1) fun b2 H8 s8 Db2 => ?_
  have Dt2' := Dp.keep (L := 200) (k := 11) (.tup (by show 2 ≤ 200; decide) (fm_cons (str (by decide)) (fm_cons ((two (by decide) (by decide)).mono (by decide) (by decide)) fm_nil))) (Kp.of s8) _ Dt2
  refine w_ctD (L := 200) (k := 10) Dt2' Db2 (fm_cons (str (by decide)) (fm_cons ((two (by decide) (by decide)).mono (by decide) (by decide)) fm_nil)) Fdd (by rw [List.length_drop, List.length_drop]; show 2 + _ ≤ _; omega) fun c2 H9 s9 Dc2 => ?_
  have Fc2 : Fm 210 11 (.tuple ([PyData.str "cases", .tuple [.str "clash", .int 0]] ++ (ds.drop 1).drop 1)) := .tup (by rw [List.length_append, List.length_drop, List.length_drop]; show 2 + _ ≤ _; omega) (fm_app (fm_cons (.str (by decide)) (fm_cons ((two (by decide) (by decide)).mono (by decide) (by decide)) fm_nil)) fun d hd => (Fdd d hd).mono (by decide) (by decide))
  have w9 := (w7.trans s8).trans s9
  have Dc1' := Dp.keep Fc1 (Kp.of (((s6.trans s7).trans s8).trans s9)) _ Dc1
  walk_at "w"
  refine w_lstF (K := K) (.cons Dc1' (.cons Dc2 .nil)) (fm_cons (F5.of Fc1) (fm_cons (F5.of Fc2) fm_nil)) (by show 2 ≤ 1000000; decide) fun l1 H10 ee s10 hl1 L1 => ?_
  rw [← ee]
  clear ee
  walk_at "w"
  refine ⟨tyL L1.at_, ?_⟩
  walk_at "w"
  have w10 := w9.trans s10
  have D10 := Dp.keep F (Kp.of (s1.trans w10)) _ D
  refine w_tupD (K := K) (L := 200) (k := 11) (.cons (.str "cases") (.cons D10 .nil)) (fm_cons (str (by decide)) (fm_cons (F.mono (by decide) (by decide)) fm_nil)) (by show 2 ≤ 1000000; decide) fun t3 H11 ee s11 Dt3 => ?_
  rw [← ee]
  clear ee
  walk_at "w"
  have w11 := w10.trans s11
  have Dq11 := Dp.keep (L := 200) (k := 11) (.tup (by rw [List.length_drop]; omega) (Fd 1)) (Kp.of w11) _ Dq
  refine w_fromD (n := 1) rfl Dq11 (Fd 1) fun b3 H12 s12 Db3 => ?_
  have Dt3' := Dp.keep (L := 200) (k := 12) (.tup (by show 2 ≤ 200; decide) (fm_cons (str (by decide)) (fm_cons (F.mono (by decide) (by decide)) fm_nil))) (Kp.of s12) _ Dt3
  refine w_ctD (L := 200) (k := 11) Dt3' Db3 (fm_cons (str (by decide)) (fm_cons (F.mono (by decide) (by decide)) fm_nil)) (fun d hd => (Fdd d hd).mono (by decide) (by decide)) (by rw [List.length_drop, List.length_drop]; show 2 + _ ≤ _; omega) fun c3 H13 s13 Dc3 => ?_
  have Fc3 : Fm 210 12 (.tuple ([PyData.str "cases", .tuple ds] ++ (ds.drop 1).drop 1)) := .tup (by rw [List.length_append, List.length_drop, List.length_drop]; show 2 + _ ≤ _; omega) (fm_app (fm_cons (.str (by decide)) (fm_cons (F.mono (by decide) (by decide)) fm_nil)) fun d hd => (Fdd d hd).mono (by decide) (by decide))
  have s1113 := (s11.trans s12).trans s13
  have L1' := L1.same s1113
  have w13 := w10.trans s1113
  walk_at "w"
  refine w_app L1'.at_ (szlt (by show 2 ≤ 1000000; decide)) ?_
  have kpl : Kp H13 (upd H13 l1 (.lst ([V.ref c1, V.ref c2] ++ [V.ref c3]))) := fun a u hu nl => by
    have : a ≠ l1 := by
      rintro rfl
      rw [L1'.at_] at hu
      exact nl _ (Option.some.inj hu).symm
    rw [upd_ne this]
    exact hu
  have hl1' : H9 l1 = none := hl1
  have s14 : Same H9 (upd H13 l1 (.lst ([V.ref c1, V.ref c2] ++ [V.ref c3]))) := ((s10.trans s1113)).tmut hl1'
  have L2 : Fl K (upd H13 l1 (.lst ([V.ref c1, V.ref c2] ++ [V.ref c3]))) l1 ([V.ref c1, V.ref c2] ++ [V.ref c3]) ([PyData.tuple ([PyData.str "cases", .tuple [.str "used"]] ++ (ds.drop 1).drop 1), .tuple ([PyData.str "cases", .tuple [.str "clash", .int 0]] ++ (ds.drop 1).drop 1)] ++ [.tuple ([PyData.str "cases", .tuple ds] ++ (ds.drop 1).drop 1)]) :=
    ⟨upd_same, DpAll.keep (fm_app L1'.ok (fm_cons (F5.of Fc3) fm_nil)) kpl (L1'.dp.app (.cons Dc3 .nil)), fm_app L1'.ok (fm_cons (F5.of Fc3) fm_nil)⟩
  generalize (upd H13 l1 (.lst ([V.ref c1, V.ref c2] ++ [V.ref c3]))) = H14 at s14 L2 kpl ⊢
  have w14 := w9.trans s14
  have D14 := Dp.keep F (Kp.of (s1.trans w14)) _ D
  walk_at "w"
  refine w_toD (n := 1) rfl D14 Fs fun e1 H15 s15 De1 => ?_
  walk_at "w"
  have Dq15 := Dp.keep (L := 200) (k := 11) (.tup (by rw [List.length_drop]; omega) (Fd 1)) (Kp.of (w14.trans s15)) _ Dq
  obtain ⟨qa', qxs, eqa, qS, qD⟩ := Dq15.tupI
  cases eqa
  refine ⟨qa, qxs, rfl, qS, fun rv hrv => ?_⟩
  have s16 : Same _ _ := Same.tnew (o := .tup qxs.reverse) hrv
  have Frv : ∀ d ∈ (ds.drop 1).reverse, Fm 200 10 d := fun d hd => Fd 1 d (List.mem_reverse.mp hd)
  have Drv : Dp K (upd H15 rv (.tup qxs.reverse)) (.ref rv) (.tuple (ds.drop 1).reverse) := .tup (SqT.of upd_same) (DpAll.keep Frv (Kp.of s16) qD.rev)
  generalize (upd H15 rv (.tup qxs.reverse)) = H16 at s16 Drv ⊢
  have Ft1 : ∀ d ∈ ds.take 1, Fm 200 10 d := fun d hd => Fs d (List.mem_of_mem_take hd)
  have De1' := Dp.keep (L := 200) (k := 11) (.tup (by rw [List.length_take]; omega) Ft1) (Kp.of s16) _ De1
  refine w_ctD (L := 200) (k := 10) De1' Drv Ft1 Frv (by rw [List.length_reverse, List.length_take, List.length_drop]; omega) fun c4 H17 s17 Dc4 => ?_
  have Fc4 : Fm 210 11 (.tuple (ds.take 1 ++ (ds.drop 1).reverse)) := .tup (by rw [List.length_append, List.length_reverse, List.length_take, List.length_drop]; omega) fun d hd => (fm_app Ft1 Frv d hd).mono (by decide) (by decide)
  walk_at "w"
  have w17 := ((w14.trans s15).trans s16).trans s17
  have D17 := Dp.keep F (Kp.of (s1.trans w17)) _ D
  refine w_lastD D17 Fs fun e2 H18 s18 De2 => ?_
  have D18 := Dp.keep F (Kp.of s18) _ D17
  refine w_ctD (L := 200) (k := 10) D18 De2 Fs (Fd _) (by rw [List.length_drop]; omega) fun c5 H19 s19 Dc5 => ?_
  have Fc5 : Fm 410 11 (.tuple (ds ++ ds.drop (ds.length - 1))) := .tup (by rw [List.length_append, List.length_drop]; omega) fun d hd => (fm_app Fs (Fd _) d hd).mono (by decide) (by decide)
  walk_at "w"
  have Dc4' := Dp.keep Fc4 (Kp.of (s18.trans s19)) _ Dc4
  refine w_lstF (K := K) (.cons Dc4' (.cons Dc5 .nil)) (fm_cons (F5.of Fc4) (fm_cons (F5.of Fc5) fm_nil)) (by show 2 ≤ 1000000; decide) fun l2 H20 ee s20 hl2 L3 => ?_
  rw [← ee]
  clear ee
  have s1420 := ((((s15.trans s16).trans s17).trans s18).trans s19).trans s20
  refine w_catF (L2.same s1420) L3 (by show 3 + 2 ≤ 1000000; decide) fun l3 H21 s21 hl3 L4 => ?_
  have w21 := (w14.trans s1420).trans s21
  have W := s1.trans w21
  -- the odd ones
  have I0 : Fm 200 1 (.tuple []) := .tup (Nat.zero_le _) fm_nil
  walk_at "w"
  refine w_tupD (K := K) (L := 200) (k := 1) .nil fm_nil (by show 0 ≤ 1000000; decide) fun o1 H22 ee s22 Do1 => ?_
  rw [← ee]
  clear ee
  walk_at "w"
  refine w_tupD (K := K) (L := 200) (k := 1) (.cons (.str "edges") .nil) (fm_cons (str (by decide)) fm_nil) (by show 1 ≤ 1000000; decide) fun o2 H23 ee s23 Do2 => ?_
  rw [← ee]
  clear ee
  walk_at "w"
  refine w_tupD (K := K) (L := 200) (k := 1) (.cons (.str "edges") (.cons (.int 0) .nil)) (fm_cons (str (by decide)) (fm_cons (.int (by decide)) fm_nil)) (by show 2 ≤ 1000000; decide) fun o3 H24 ee s24 Do3 => ?_
  rw [← ee]
  clear ee
  walk_at "w"
  refine w_tupD (K := K) (L := 200) (k := 1) (.cons (.str "cases") .nil) (fm_cons (str (by decide)) fm_nil) (by show 1 ≤ 1000000; decide) fun o4 H25 ee s25 Do4 => ?_
  rw [← ee]
  clear ee
  walk_at "w"
  refine w_tupD (K := K) (L := 200) (k := 1) .nil fm_nil (by show 0 ≤ 1000000; decide) fun o5 H26 ee s26 Do5 => ?_
  rw [← ee]
  clear ee
  walk_at "w"
  refine w_tupD (K := K) (L := 200) (k := 1) .nil fm_nil (by show 0 ≤ 1000000; decide) fun o6 H27 ee s27 Do6 => ?_
  rw [← ee]
  clear ee
  walk_at "w"
  have Do5' := Dp.keep I0 (Kp.of s27) _ Do5
  refine w_tupD (K := K) (L := 200) (k := 1) (.cons (.str "recasting") (.cons Do5' (.cons Do6 .nil))) (fm_cons (str (by decide)) (fm_cons I0 (fm_cons I0 fm_nil))) (by show 3 ≤ 1000000; decide) fun o7 H28 ee s28 Do7 => ?_
  rw [← ee]
  clear ee
  walk_at "w"
  refine w_tupD (K := K) (L := 200) (k := 1) (.cons (.str "void") .nil) (fm_cons (str (by decide)) fm_nil) (by show 1 ≤ 1000000; decide) fun o8 H29 ee s29 Do8 => ?_
  rw [← ee]
  clear ee
  walk_at "w"
  have I7 : Fm 200 2 (.tuple [.str "recasting", .tuple [], .tuple []]) := .tup (by show 3 ≤ 200; decide) (fm_cons (.str (by decide)) (fm_cons I0 (fm_cons I0 fm_nil)))
  have Do1' := Dp.keep I0 (Kp.of ((((((s23.trans s24).trans s25).trans s26).trans s27).trans s28).trans s29)) _ Do1
  have Do2' := Dp.keep (one (by decide)) (Kp.of (((((s24.trans s25).trans s26).trans s27).trans s28).trans s29)) _ Do2
  have Do3' := Dp.keep (two (by decide) (by decide)) (Kp.of ((((s25.trans s26).trans s27).trans s28).trans s29)) _ Do3
  have Do4' := Dp.keep (one (by decide)) (Kp.of (((s26.trans s27).trans s28).trans s29)) _ Do4
  have Do7' := Dp.keep I7 (Kp.of s29) _ Do7
  refine w_lstF (K := K) (.cons Do1' (.cons (.int 0) (.cons (.str "edges") (.cons Do2' (.cons Do3' (.cons Do4' (.cons Do7' (.cons Do8 .nil))))))))
    (fm_cons (F5.of I0) (fm_cons (F5.of (L := 200) (k := 1) (.int (by decide))) (fm_cons (F5.of (L := 200) (k := 1) (.str (by decide))) (fm_cons (F5.of (one (by decide))) (fm_cons (F5.of (two (by decide) (by decide))) (fm_cons (F5.of (one (by decide))) (fm_cons (F5.of I7) (fm_cons (F5.of (one (by decide))) fm_nil)))))))) (by show 8 ≤ 1000000; decide) fun l4 H30 ee s30 hl4 L5 => ?_
  rw [← ee]
  clear ee
  walk_at "w"
  refine w_tupD (K := K) (L := 200) (k := 1) (.cons (.str "used") .nil) (fm_cons (str (by decide)) fm_nil) (by show 1 ≤ 1000000; decide) fun o9 H31 ee s31 Do9 => ?_
  rw [← ee]
  clear ee
  walk_at "w"
  refine w_tupD (K := K) (L := 200) (k := 1) (.cons (.str "clash") (.cons (.int 0) .nil)) (fm_cons (str (by decide)) (fm_cons (.int (by decide)) fm_nil)) (by show 2 ≤ 1000000; decide) fun oA H32 ee s32 DoA => ?_
  rw [← ee]
  clear ee
  walk_at "w"
  refine w_tupD (K := K) (L := 200) (k := 1) (.cons (.str "table") (.cons (.int 0) (.cons (.int 1) (.cons (.int 2) (.cons (.int 3) .nil))))) (fm_cons (str (by decide)) (fm_cons (.int (by decide)) (fm_cons (.int (by decide)) (fm_cons (.int (by decide)) (fm_cons (.int (by decide)) fm_nil))))) (by show 5 ≤ 1000000; decide) fun oB H33 ee s33 DoB => ?_
  rw [← ee]
  clear ee
  walk_at "w"
  refine w_tupD (K := K) (L := 200) (k := 1) (.cons (.str "recasting") .nil) (fm_cons (str (by decide)) fm_nil) (by show 1 ≤ 1000000; decide) fun oC H34 ee s34 DoC => ?_
  rw [← ee]
  clear ee
  walk_at "w"
  have IB : Fm 200 1 (.tuple [.str "table", .int 0, .int 1, .int 2, .int 3]) := .tup (by show 5 ≤ 200; decide) (fm_cons (str (by decide)) (fm_cons (.int (by decide)) (fm_cons (.int (by decide)) (fm_cons (.int (by decide)) (fm_cons (.int (by decide)) fm_nil)))))
  have Do9' := Dp.keep (one (by decide)) (Kp.of ((s32.trans s33).trans s34)) _ Do9
  have DoA' := Dp.keep (two (by decide) (by decide)) (Kp.of (s33.trans s34)) _ DoA
  have DoB' := Dp.keep IB (Kp.of s34) _ DoB
  refine w_lstF (K := K) (.cons Do9' (.cons DoA' (.cons DoB' (.cons DoC (.cons (.str "'023") .nil)))))
    (fm_cons (F5.of (one (by decide))) (fm_cons (F5.of (two (by decide) (by decide))) (fm_cons (F5.of IB) (fm_cons (F5.of (one (by decide))) (fm_cons (F5.of (L := 200) (k := 1) (.str (by decide))) fm_nil))))) (by show 5 ≤ 1000000; decide) fun l5 H35 ee s35 hl5 L6 => ?_
  rw [← ee]
  clear ee
  have s3035 := (((s31.trans s32).trans s33).trans s34).trans s35
  refine w_catF (L5.same s3035) L6 (by show 8 + 5 ≤ 1000000; decide) fun l6 H36 s36 hl6 L7 => ?_
  have s2136 := ((((((((((s22.trans s23).trans s24).trans s25).trans s26).trans s27).trans s28).trans s29).trans s30).trans s3035)).trans s36
  have W36 := W.trans s2136
  have P36 := P.same W36
  have L4' := L4.same s2136
  have hl3' : H l3 = none := (s1.trans (w14.trans s1420)).tfr hl3
  have nl3 : l3 ≠ p := P.nn hl3'
  have nl6 : l6 ≠ p := (P.same (W.trans (((((((((s22.trans s23).trans s24).trans s25).trans s26).trans s27).trans s28).trans s29).trans s30).trans s3035))).nn hl6
  walk_at "w"
  refine ⟨p, sc, cells, 13, rfl, P36, by decide, by decide, fun r1 H37 hr1 X37 P37 => ?_⟩
  have L8 := L7.xp P36 X37 nl6
  have L4b := L4'.xp P36 X37 nl3
  obtain ⟨x1, d1, hx1, hd1⟩ : ∃ x d, _[r1]? = some x ∧ _[r1]? = some d := ⟨_, _, List.getElem?_eq_getElem (l := ([V.ref o1, V.int 0, V.str "edges", V.ref o2, V.ref o3, V.ref o4, V.ref o7, V.ref o8] ++ [V.ref o9, V.ref oA, V.ref oB, V.ref oC, V.str "'023"])) hr1, List.getElem?_eq_getElem (l := ([PyData.tuple [], .int 0, .str "edges", .tuple [.str "edges"], .tuple [.str "edges", .int 0], .tuple [.str "cases"], .tuple [.str "recasting", .tuple [], .tuple []], .tuple [.str "void"]] ++ [PyData.tuple [.str "used"], .tuple [.str "clash", .int 0], .tuple [.str "table", .int 0, .int 1, .int 2, .int 3], .tuple [.str "recasting"], .str "'023"])) hr1⟩
  refine w_ixL (SqL.of L8.at_) (atI_nat hx1) ?_
  walk_at "w"
  refine ⟨p, sc, cells, 13, rfl, P37, by decide, by decide, fun r2 H38 hr2 X38 P38 => ?_⟩
  have L9 := L8.xp P37 X38 nl6
  have L4c := L4b.xp P37 X38 nl3
  obtain ⟨x2, d2, hx2, hd2⟩ : ∃ x d, _[r2]? = some x ∧ _[r2]? = some d := ⟨_, _, List.getElem?_eq_getElem (l := ([V.ref o1, V.int 0, V.str "edges", V.ref o2, V.ref o3, V.ref o4, V.ref o7, V.ref o8] ++ [V.ref o9, V.ref oA, V.ref oB, V.ref oC, V.str "'023"])) hr2, List.getElem?_eq_getElem (l := ([PyData.tuple [], .int 0, .str "edges", .tuple [.str "edges"], .tuple [.str "edges", .int 0], .tuple [.str "cases"], .tuple [.str "recasting", .tuple [], .tuple []], .tuple [.str "void"]] ++ [PyData.tuple [.str "used"], .tuple [.str "clash", .int 0], .tuple [.str "table", .int 0, .int 1, .int 2, .int 3], .tuple [.str "recasting"], .str "'023"])) hr2⟩
  refine w_ixL (SqL.of L9.at_) (atI_nat hx2) ?_
  walk_at "w"
  refine w_lstF (K := K) (.cons (L9.dp.get hx1 hd1) (.cons (L9.dp.get hx2 hd2) .nil)) (fm_cons (L9.ok _ (List.mem_of_getElem? hd1)) (fm_cons (L9.ok _ (List.mem_of_getElem? hd2)) fm_nil)) (by show 2 ≤ 1000000; decide) fun l7 H39 ee s39 hl7 L10 => ?_
  rw [← ee]
  clear ee
  refine w_catF (L4c.same s39) L10 (by show 5 + 2 ≤ 1000000; decide) fun l8 H40 s40 hl8 L11 => ?_
  have X38' : Xp p H H38 := ((Xt.of W36).trans X37).trans X38
  have X40 := X38'.trans (Xt.of (s39.trans s40))
  have hl8' : H l8 = none := xp_none (X38'.trans (Xt.of s39)) ((P38.same s39).nn hl8) hl8
  exact q H40 l8 _ _ X40 (P38.same (s39.trans s40)) hl8' L11 (by show 5 + 2 ≤ 10; decide)

theorem ok__law_special {P : Program} {w : World} {K : PySem.W.Frag} {mg : Str → Option Value} {base : Heap} (F : FnP K mg "_law_special" s__law_special) (T : Tx K mg) (c__law_draw : Ok P w K mg base "_law_draw" 1 ps__law_draw (sp__law_draw K)) :
    Ok P w K mg base "_law_special" 2 ps__law_special (sp__law_special K) :=
  ok_of (t := t__law_special K) F sc__law_special (len__law_special) (fun _ _ _ _ _ _ us hl => match us, hl with | [_, _], _ => rfl)
    (fun f cdv A outer s H E hr => by
      have hu := hu_of hr
      have hu65 := u65 hr
      exact (pss_cons (ps_set (i := 2) sc__law_special.nd rfl (Or.inl rfl) (pe_slice sl_tupA (pv 1) (po_some pe_int) po_none))
      (pss_cons (ps_set (i := 3) sc__law_special.nd rfl (Or.inl rfl) (pe_lst (pa_cons (pe_op op_catA (pe_tup (pa_cons pe_str (pa_cons (pe_tup (pa_cons pe_str pa_nil)) pa_nil))) (pe_slice sl_tupA (pv 2) (po_some pe_int) po_none)) (pa_cons (pe_op op_catA (pe_tup (pa_cons pe_str (pa_cons (pe_tup (pa_cons pe_str (pa_cons pe_int pa_nil))) pa_nil))) (pe_slice sl_tupA (pv 2) (po_some pe_int) po_none)) pa_nil))))
      (pss_cons (ps_expr (pe_bm PySem.F.plainAttrs_list PySem.F.slot_list_append PySem.F.type_list_append mt_append (pv 3) (pa_cons (pe_op op_catA (pe_tup (pa_cons pe_str (pa_cons (pv 1) pa_nil))) (pe_slice sl_tupA (pv 2) (po_some pe_int) po_none)) pa_nil)))
      (pss_cons (ps_set (i := 3) sc__law_special.nd rfl (Or.inl rfl) (pe_op op_cat (pv 3) (pe_lst (pa_cons (pe_op op_catA (pe_slice sl_tupA (pv 1) po_none (po_some pe_int)) (pe_revT (pv 2))) (pa_cons (pe_op op_catA (pv 1) (pe_slice sl_tupA (pv 1) (po_some (pe_un un_neg pe_int)) po_none)) pa_nil)))))
      (pss_cons (ps_set (i := 4) sc__law_special.nd rfl (Or.inl rfl) (pe_lst (pa_cons (pe_tup pa_nil) (pa_cons pe_int (pa_cons pe_str (pa_cons (pe_tup (pa_cons pe_str pa_nil)) (pa_cons (pe_tup (pa_cons pe_str (pa_cons pe_int pa_nil))) (pa_cons (pe_tup (pa_cons pe_str pa_nil)) (pa_cons (pe_tup (pa_cons pe_str (pa_cons (pe_tup pa_nil) (pa_cons (pe_tup pa_nil) pa_nil)))) (pa_cons (pe_tup (pa_cons pe_str pa_nil)) pa_nil))))))))))
      (pss_cons (ps_set (i := 4) sc__law_special.nd rfl (Or.inl rfl) (pe_op op_cat (pv 4) (pe_lst (pa_cons (pe_tup (pa_cons pe_str pa_nil)) (pa_cons (pe_tup (pa_cons pe_str (pa_cons pe_int pa_nil))) (pa_cons (pe_tup (pa_cons pe_str (pa_cons pe_int (pa_cons pe_int (pa_cons pe_int (pa_cons pe_int pa_nil)))))) (pa_cons (pe_tup (pa_cons pe_str pa_nil)) (pa_cons pe_str pa_nil))))))))
      (pss_one (ps_ret (pe_op op_cat (pv 3) (pe_lst (pa_cons (pe_ix ix_list (pv 4) (pe_callO c__law_draw hr (pa_cons (pv 0) (pa_cons pe_int pa_nil))) (fun _ _ => rfl)) (pa_cons (pe_ix ix_list (pv 4) (pe_callO c__law_draw hr (pa_cons (pv 0) (pa_cons pe_int pa_nil))) (fun _ _ => rfl)) pa_nil)))))))))))))
    (wp__law_special T)

abbrev s__law_doubled : Stmt := top 59
abbrev N__law_doubled : List Str := ["tables", "paper", "tree"]
abbrev ps__law_doubled : List Str := ["tables", "paper"]
theorem sc__law_doubled : FnScope N__law_doubled ps__law_doubled (defScope s__law_doubled) := ⟨rfl, rfl, rfl, by decide +kernel, rfl, by decide +kernel, by decide +kernel⟩
def t__law_doubled (K : PySem.W.Frag) : TS :=
    (tSeq (tIfS (tOr (tTest (tOp (rNeD K) (tOp (rIxT K) (tVar 1) (tC (.int 0))) (tC (.str "cases")))) (tOr (tTest (tOp rLtI (tCB (rLenV K) (tCons (tVar 1) tNil)) (tC (.int 4)))) (tTest (tOp (rNeD K) (tOp (rIxT K) (tOp (rIxT K) (tVar 1) (tC (.int 1))) (tC (.int 0))) (tC (.str "cases")))))) (tRet (tLst tNil)) tNext)
    (tSeq (tAsg (tCall (sp__law_tree_of K 4) [] E0 (tCons (tOp (rIxL K) (tVar 0) (tC (.int 0))) (tCons (tOp (rIxL K) (tVar 0) (tC (.int 1))) (tCons (tTup (tCons (tC (.int 0)) (tCons (tC (.int 0)) tNil))) (tCons (tC (.bl false)) tNil))))) (gName 2))
    (tSeq (tIfS (tB (tIsN (tVar 2))) (tRet (tLst tNil)) tNext)
    (tRet (tLst (tCons (tOp (rCatA K) (tTup (tCons (tC (.str "cases")) (tCons (tOp (rCatA K) (tOp (rCatA K) (tSl (rSlA K) (tOp (rIxT K) (tVar 1) (tC (.int 1))) tNoPart (tPart (tC (.int 1)))) (tTup (tCons (tVar 2) tNil))) (tSl (rSlA K) (tOp (rIxT K) (tVar 1) (tC (.int 1))) (tPart (tC (.int 2))) tNoPart)) tNil))) (tSl (rSlA K) (tVar 1) (tPart (tC (.int 2))) tNoPart)) tNil))))))
def sp__law_doubled (K : PySem.W.Frag) : Sp := fun vs H Q _ => ∃ (ta b1 b2 : Addr) (tb ot : List (List Nat)) (v : V) (d : PyData), vs = [.ref ta, v] ∧ SqL K H ta [.ref b1, .ref b2] ∧ Tbl K H b1 tb ∧ Tbl K H b2 ot ∧ Dp K H v d ∧ Fm 200 10 d ∧
  ((∃ w ps, d = .tuple (.str w :: ps) ∧ w ≠ "cases") ∨ ∃ m, m ≤ 5 ∧ Sq m tb ∧ Sq m ot ∧ TreeOk 200 10 m d) ∧
  ∀ H' l ws es, Same H H' → H l = none → Fl K H' l ws es → es.length ≤ 1 → Q (.ref l) H'
theorem len__law_doubled {K : PySem.W.Frag} : ∀ vs H Q E, sp__law_doubled K vs H Q E → vs.length = ps__law_doubled.length := by
  rintro vs H Q E ⟨ta, b1, b2, tb, ot, v, d, rfl, _⟩
  rfl
theorem wp__law_doubled {K : PySem.W.Frag} {mg : Str → Option Value} (T : Tx K mg) : ∀ vs H Q E, sp__law_doubled K vs H Q E → t__law_doubled K { nx := fun _ H' => Q .non H', rt := Q } (start N__law_doubled vs) H := by
  rintro vs H Q E ⟨ta, b1, b2, tb, ot, v, d, rfl, hta, T1, T2, D, F, cse, q⟩
  have empty : ∀ H1, Same H H1 → ([] : List V).length ≤ sizeLine ∧ ∀ p, H1 p = none → Q (.ref p) (upd H1 p (.lst [])) := fun H1 s => ⟨szl (by show 0 ≤ 1000000; decide), fun p hp => q _ p [] [] (s.trans (Same.tnew hp)) (s.tfr hp) ⟨upd_same, .nil, fm_nil⟩ (by decide)⟩
  have sc : ∀ x ∈ words, SeqAt.shaped (.str x) = true := fun x hx => Fm.shaped (L := 0) (k := 0) (.str hx) (by decide)
  unfold t__law_doubled
  with_reducible refine w_seqG fun J hJ => ?_
  with_reducible refine w_ifG fun J1 L1 hJ1 hL1 => ?_
  have yes : J1 H := hJ1 _ (by
    walk_at "w"
    exact empty H (Same.refl H))
  rcases cse with ⟨w, ps, rfl, hw⟩ | ⟨m, hm, Q1, Q2, Fm', ps, rfl, hpl, hps⟩
  · obtain ⟨a, xs, rfl, hS, hD⟩ := D.tupI
    cases hD with
    | @cons v0 xs0 _ _ h0 hr =>
    have F0 := F.sub (d := .str w) List.mem_cons_self
    cases F0 with
    | str hwm =>
    walk_at "w"
    refine w_ixT hS (at0 rfl) ?_
    walk_at "w"
    refine ⟨_, _, h0, .str _, sc w hwm, sc _ (by decide), ?_⟩
    have e : PyData.eqv (.str w) (.str "cases") = false := by
      show (w == ("cases" : Str)) = false
      exact beq_eq_false_iff_ne.mpr hw
    rw [e]
    walk_at "w"
    exact yes
  · obtain ⟨a, xs, rfl, hS, hD⟩ := D.tupI
    have hDl := hD.len
    cases hD with
    | @cons v0 xs0 _ _ h0 hr =>
    rw [List.length_cons, List.length_cons] at hDl
    have no : (∀ p0 pr, ps = p0 :: pr → 3 ≤ ps.length → ∃ qs, p0 = .tuple (.str "cases" :: qs)) → 3 ≤ ps.length → L1 H := by
      intro hc h3
      refine hL1 _ ?_
      walk_at "w"
      refine hJ _ _ ?_
      obtain ⟨p0, pr, rfl⟩ : ∃ p0 pr, ps = p0 :: pr := by
        cases ps with
        | nil => simp at h3
        | cons a b => exact ⟨a, b, rfl⟩
      obtain ⟨qs, rfl⟩ := hc p0 pr rfl h3
      cases hr with
      | @cons v1 xs1 _ _ h1 hr =>
      have Fp1 := F.sub (d := .tuple (.str "cases" :: qs)) (List.mem_cons_of_mem _ List.mem_cons_self)
      have Fps : ∀ d ∈ PyData.str "cases" :: .tuple (.str "cases" :: qs) :: pr, Fm 200 10 d := fun d hd => F.sub hd
      have Fqs : ∀ d ∈ PyData.str "cases" :: qs, Fm 200 10 d := fun d hd => Fp1.sub hd
      obtain ⟨a1, ys, rfl, gS, gD⟩ := h1.tupI
      have hq1 := Fp1.len
      have hq2 := F.len
      rw [List.length_cons] at hq1
      rw [List.length_cons, List.length_cons] at hq2
      walk_at "w"
      refine w_ixL hta (at0 rfl) ?_
      walk_at "w"
      refine w_ixL hta (at1 rfl) ?_
      walk_at "w"
      refine ⟨szl (by show 2 ≤ 1000000; decide), fun ga hga => ?_⟩
      have s1 : Same _ _ := Same.tnew (o := .tup [V.int 0, V.int 0]) hga
      walk_at "w"
      have hGa : SqT K (upd H ga (.tup [V.int 0, V.int 0])) ga (nv [0, 0]) := SqT.of upd_same
      generalize (upd H ga (.tup [V.int 0, V.int 0])) = H1 at s1 hGa ⊢
      have hpr : 3 ≤ m := by rw [← hpl]; exact h3
      refine ⟨m, m - 3, by omega, b1, b2, ga, tb, ot, [0, 0], false, rfl, T1.same s1, T2.same s1, Q1, Q2, by omega, hGa, by show 2 + _ = _; omega, fun x hx => ?_, fun H2 s2 => ?_, fun H2 tv td s2 Dt Tt => ?_⟩
      · simp only [List.mem_cons, List.not_mem_nil, or_false, or_self] at hx
        omega
      · walk_at "w"
        refine w_dT rfl ?_
        walk_at "w"
        exact empty H2 (s1.trans s2)
      · obtain ⟨Ft0, tps, rfl, _, _⟩ := Tt
        have Ft : Fm 200 10 (.tuple (.str "cases" :: tps)) := Ft0.mono (by decide) (by omega)
        obtain ⟨tva, tvx, rfl, _, _⟩ := Dt.tupI
        have w2 := s1.trans s2
        walk_at "w"
        refine w_dF (fun z => by cases z) ?_
        walk_at "w"
        refine w_ixT (w2.tT hS) (at1 rfl) ?_
        walk_at "w"
        have D1 : Dp K H2 (.ref a1) (.tuple (.str "cases" :: qs)) := Dp.keep Fp1 (Kp.of w2) _ h1
        refine w_toD (n := 1) rfl D1 Fqs fun c1 H3 s3 Dc1 => ?_
        walk_at "w"
        have Dt3 := Dp.keep Ft (Kp.of s3) _ Dt
        refine w_tupD (K := K) (L := 200) (k := 10) (.cons Dt3 .nil) (fm_cons Ft fm_nil) (by show 1 ≤ 1000000; decide) fun c2 H4 ee s4 Dc2 => ?_
        rw [← ee]
        clear ee
        have Ft1 : ∀ d ∈ (PyData.str "cases" :: qs).take 1, Fm 200 10 d := fun d hd => Fqs d (List.mem_of_mem_take hd)
        have Dc1' := Dp.keep (L := 200) (k := 11) (.tup (by rw [List.length_take]; omega) Ft1) (Kp.of s4) _ Dc1
        refine w_ctD (L := 200) (k := 10) Dc1' Dc2 Ft1 (fm_cons Ft fm_nil) (by rw [List.length_take]; show _ + 1 ≤ _; omega) fun c3 H5 s5 Dc3 => ?_
        have Fc3 : ∀ d ∈ (PyData.str "cases" :: qs).take 1 ++ [.tuple (.str "cases" :: tps)], Fm 200 10 d := fm_app Ft1 (fm_cons Ft fm_nil)
        walk_at "w"
        have w5 := ((w2.trans s3).trans s4).trans s5
        refine w_ixT (w5.tT hS) (at1 rfl) ?_
        walk_at "w"
        have D5 : Dp K H5 (.ref a1) (.tuple (.str "cases" :: qs)) := Dp.keep Fp1 (Kp.of w5) _ h1
        refine w_fromD (n := 2) rfl D5 Fqs fun c4 H6 s6 Dc4 => ?_
        have Dc3' := Dp.keep (L := 200) (k := 11) (.tup (by rw [List.length_append, List.length_take]; show _ + 1 ≤ _; omega) Fc3) (Kp.of s6) _ Dc3
        have Fq2 : ∀ d ∈ (PyData.str "cases" :: qs).drop 2, Fm 200 10 d := fun d hd => Fqs d (List.mem_of_mem_drop hd)
        refine w_ctD (L := 200) (k := 10) Dc3' Dc4 Fc3 Fq2 (by rw [List.length_append, List.length_take, List.length_drop, List.length_cons]; show _ + 1 + _ ≤ _; omega) fun c5 H7 s7 Dc5 => ?_
        have Fc5 : Fm 210 11 (.tuple ((PyData.str "cases" :: qs).take 1 ++ [.tuple (.str "cases" :: tps)] ++ (PyData.str "cases" :: qs).drop 2)) := .tup (by rw [List.length_append, List.length_append, List.length_take, List.length_drop, List.length_cons]; show _ + 1 + _ ≤ _; omega) fun d hd => (fm_app Fc3 Fq2 d hd).mono (by decide) (by decide)
        walk_at "w"
        refine w_tupD (K := K) (L := 210) (k := 11) (.cons (.str "cases") (.cons Dc5 .nil)) (fm_cons (.str (by decide)) (fm_cons Fc5 fm_nil)) (by show 2 ≤ 1000000; decide) fun c6 H8 ee s8 Dc6 => ?_
        rw [← ee]
        clear ee
        walk_at "w"
        have w8 := ((w5.trans s6).trans s7).trans s8
        have D8 := Dp.keep F (Kp.of w8) _ D
        refine w_fromD (n := 2) rfl D8 Fps fun c7 H9 s9 Dc7 => ?_
        have Fc6 : ∀ d ∈ [PyData.str "cases", .tuple ((PyData.str "cases" :: qs).take 1 ++ [.tuple (.str "cases" :: tps)] ++ (PyData.str "cases" :: qs).drop 2)], Fm 210 11 d := fm_cons (.str (by decide)) (fm_cons Fc5 fm_nil)
        have Dc6' := Dp.keep (L := 210) (k := 12) (.tup (by show 2 ≤ 210; decide) Fc6) (Kp.of s9) _ Dc6
        have Fp2 : ∀ d ∈ (PyData.str "cases" :: .tuple (.str "cases" :: qs) :: pr).drop 2, Fm 210 11 d := fun d hd => (Fps d (List.mem_of_mem_drop hd)).mono (by decide) (by decide)
        refine w_ctD (L := 210) (k := 11) Dc6' Dc7 Fc6 Fp2 (by simp only [List.length_drop, List.length_cons, List.length_nil]; omega) fun c8 H10 s10 Dc8 => ?_
        have Fc8 : Fm 220 12 (.tuple ([PyData.str "cases", .tuple ((PyData.str "cases" :: qs).take 1 ++ [.tuple (.str "cases" :: tps)] ++ (PyData.str "cases" :: qs).drop 2)] ++ (PyData.str "cases" :: .tuple (.str "cases" :: qs) :: pr).drop 2)) :=
          .tup (by simp only [List.length_append, List.length_drop, List.length_cons, List.length_nil]; omega) fun d hd => (fm_app Fc6 Fp2 d hd).mono (by decide) (by decide)
        walk_at "w"
        have w10 := (w8.trans s9).trans s10
        refine w_lstF (K := K) (.cons Dc8 .nil) (fm_cons (F5.of Fc8) fm_nil) (by show 1 ≤ 1000000; decide) fun l H11 ee s11 hl L => ?_
        rw [← ee]
        exact q H11 l _ _ (w10.trans s11) (w10.tfr hl) L (by show 1 ≤ 1; decide)
    walk_at "w"
    cases h0
    refine w_ixT hS (at0 rfl) ?_
    walk_at "w"
    refine ⟨_, _, .str _, .str _, sc _ (by decide), sc _ (by decide), ?_⟩
    have e : PyData.eqv (.str "cases") (.str "cases") = true := by
      show (("cases" : Str) == ("cases" : Str)) = true
      exact beq_self_eq_true _
    rw [e]
    walk_at "w"
    refine w_lenT hS ?_
    rw [List.length_cons]
    walk_at "w"
    refine w_d2 (fun _ => yes) (fun h4 => ?_)
    have h3 : 3 ≤ ps.length := by omega
    obtain ⟨p0, pr, rfl⟩ : ∃ p0 pr, ps = p0 :: pr := by
      cases ps with
      | nil => simp at h3
      | cons a b => exact ⟨a, b, rfl⟩
    obtain ⟨w, qs, rfl⟩ := hps p0 List.mem_cons_self
    have F1 := F.sub (d := .tuple (.str w :: qs)) (List.mem_cons_of_mem _ List.mem_cons_self)
    have Fw := F1.sub (d := .str w) List.mem_cons_self
    cases Fw with
    | str hwm =>
    cases hr with
    | @cons v1 xs1 _ _ h1 hr =>
    obtain ⟨a1, ys, rfl, gS, gD⟩ := h1.tupI
    cases gD with
    | @cons y0 ys0 _ _ k0 kr =>
    walk_at "w"
    refine w_ixT hS (at1 rfl) ?_
    walk_at "w"
    refine w_ixT gS (at0 rfl) ?_
    walk_at "w"
    refine ⟨_, _, k0, .str _, sc w hwm, sc _ (by decide), ?_⟩
    by_cases hw : w = "cases"
    · subst hw
      rw [e]
      walk_at "w"
      exact no (fun p0 pr' e' _ => by cases e'; exact ⟨qs, rfl⟩) h3
    · have e2 : PyData.eqv (.str w) (.str "cases") = false := by
        show (w == ("cases" : Str)) = false
        exact beq_eq_false_iff_ne.mpr hw
      rw [e2]
      walk_at "w"
      exact yes

theorem ok__law_doubled {P : Program} {w : World} {K : PySem.W.Frag} {mg : Str → Option Value} {base : Heap} (F : FnP K mg "_law_doubled" s__law_doubled) (T : Tx K mg) (c__law_tree_of : Ok P w K mg base "_law_tree_of" 8 ps__law_tree_of (sp__law_tree_of K 4)) :
    Ok P w K mg base "_law_doubled" 9 ps__law_doubled (sp__law_doubled K) :=
  ok_of (t := t__law_doubled K) F sc__law_doubled (len__law_doubled) (fun _ _ _ _ _ _ us hl => match us, hl with | [_, _], _ => rfl)
    (fun f cdv A outer s H E hr => by
      have hu := hu_of hr
      have hu65 := u65 hr
      exact (pss_cons (ps_if (PW.pt (pw_or (pt_cmpR (op_neD hr.units) (pe_ix ix_tup (pv 1) pe_int (fun _ _ => rfl)) pe_str (nomark _)) (pw_or (pt_cmpR op_lt (pe_callB call_len rfl T.b_len PySem.boot_len (pa_cons (pv 1) pa_nil)) pe_int (nomark _)) (pw_or1 (pt_cmpR (op_neD hr.units) (pe_ix ix_tup (pe_ix ix_tup (pv 1) pe_int (fun _ _ => rfl)) pe_int (fun _ _ => rfl)) pe_str (nomark _)))))) (pss_one (ps_ret (pe_lst pa_nil))) pss_nil)
      (pss_cons (ps_set (i := 2) sc__law_doubled.nd rfl (Or.inl rfl) (pe_callO c__law_tree_of hr (pa_cons (pe_ix ix_list (pv 0) pe_int (fun _ _ => rfl)) (pa_cons (pe_ix ix_list (pv 0) pe_int (fun _ _ => rfl)) (pa_cons (pe_tup (pa_cons pe_int (pa_cons pe_int pa_nil))) (pa_cons pe_bl pa_nil))))))
      (pss_cons (ps_if (pt_cmp (pc_isN (pv 2))) (pss_one (ps_ret (pe_lst pa_nil))) pss_nil)
      (pss_one (ps_ret (pe_lst (pa_cons (pe_op op_catA (pe_tup (pa_cons pe_str (pa_cons (pe_op op_catA (pe_op op_catA (pe_slice sl_tupA (pe_ix ix_tup (pv 1) pe_int (fun _ _ => rfl)) po_none (po_some pe_int)) (pe_tup (pa_cons (pv 2) pa_nil))) (pe_slice sl_tupA (pe_ix ix_tup (pv 1) pe_int (fun _ _ => rfl)) (po_some pe_int) po_none)) pa_nil))) (pe_slice sl_tupA (pv 1) (po_some pe_int) po_none)) pa_nil))))))))
    (wp__law_doubled T)

abbrev s__law_pair_right : Stmt := top 60
abbrev N__law_pair_right : List Str := ["pool", "first", "second", "papers", "bases", "turns", "tables", "tried", "paper", "yes", "due", "step"]
abbrev ps__law_pair_right : List Str := ["pool", "first", "second", "papers"]
theorem sc__law_pair_right : FnScope N__law_pair_right ps__law_pair_right (defScope s__law_pair_right) := ⟨rfl, rfl, rfl, by decide +kernel, rfl, by decide +kernel, by decide +kernel⟩
def t__law_pair_right (K : PySem.W.Frag) : TS :=
    (tSeq (tAsg (tLst tNil) (gName 4))
    (tSeq (tFor (iTup K (tTup (tCons (tVar 1) (tCons (tVar 2) tNil)))) (gName 5) (tDrop (tBM K "list" rAppend (tVar 4) (tCons (tMake (He.ga K "Map") (sp_Map K) [] E0 (tCons (tCB (rLstOf K) (tCons (tOp (rIxL K) (tVar 5) (tC (.int 0))) tNil)) (tCons (tCB (rLstOf K) (tCons (tOp (rIxL K) (tVar 5) (tC (.int 1))) tNil)) (tCons (tCB (rLstOf K) (tCons (tOp (rIxL K) (tVar 5) (tC (.int 2))) tNil)) tNil)))) tNil))))
    (tSeq (tAsg (tLst (tCons (tCall (sp__law_table K) [] E0 (tCons (tVar 1) tNil)) (tCons (tCall (sp__law_table K) [] E0 (tCons (tVar 2) tNil)) tNil))) (gName 6))
    (tSeq (tAsg (tCB (rLstOf K) (tCons (tVar 3) tNil)) (gName 7))
    (tSeq (tFor (iList K (tVar 3)) (gName 8) (tSeq (tAsg (tOp rCat (tOp rCat (tVar 7) (tCall (sp__law_special K) [] E0 (tCons (tVar 0) (tCons (tVar 8) tNil)))) (tCall (sp__law_doubled K) [] E0 (tCons (tVar 6) (tCons (tVar 8) tNil)))) (gName 7))
    (tAsg (tOp rCat (tVar 7) (tLc (iRng1 (tCons (tC (.int 5)) tNil)) (gName 11) tYes (tCall (sp__law_bent K 200 10) [] E0 (tCons (tVar 0) (tCons (tVar 8) tNil))) [11])) (gName 7))))
    (tSeq (tFor (iList K (tOp rCat (tVar 7) (tVar 3))) (gName 8) (tFor (iTup K (tTup (tCons (tC (.bl true)) (tCons (tC (.bl false)) tNil)))) (gName 9) (tSeq (tAsg (tCall (sp__law_due K) [] E0 (tCons (tVar 1) (tCons (tVar 2) (tCons (tVar 6) (tCons (tVar 9) (tCons (tVar 8) tNil)))))) (gName 10))
    (tIfS (tTest (tOp rNe (tCB rReprB (tCons (tCall (sp_judge_recasts K) [] E0 (tCons (tOp (rIxL K) (tVar 4) (tC (.int 0))) (tCons (tOp (rIxL K) (tVar 4) (tC (.int 1))) (tCons (tVar 9) (tCons (tVar 8) tNil))))) tNil)) (tCB rReprB (tCons (tVar 10) tNil)))) (tRet (tC (.bl false))) tNext))))
    (tRet (tC (.bl true)))))))))
def sp__law_pair_right (K : PySem.W.Frag) : Sp := fun vs H Q _ => ∃ (p sc : Addr) (cells : List Int) (a1 a2 pa : Addr) (n : Nat) (z o t : List Nat) (n2 : Nat) (z2 o2 t2 : List Nat) (ws : List V) (ds : List PyData), vs = [.ref p, .ref a1, .ref a2, .ref pa] ∧
  PoolAt K H p sc cells ∧ Tbl K H a1 [z, o, t] ∧ Tbl K H a2 [z2, o2, t2] ∧ MapT n z o t ∧ MapT n2 z2 o2 t2 ∧ n ≤ 20 ∧ n2 ≤ 20 ∧ Fl K H pa ws ds ∧ pa ≠ p ∧ ds.length ≤ 5 ∧ (∀ d ∈ ds, PaperOk n n2 d) ∧
  ∀ H', Xp p H H' → PoolAt K H' p sc cells → Q (.bl true) H'
theorem len__law_pair_right {K : PySem.W.Frag} : ∀ vs H Q E, sp__law_pair_right K vs H Q E → vs.length = ps__law_pair_right.length := by
  rintro vs H Q E ⟨p, sc, cells, a1, a2, pa, n, z, o, t, n2, z2, o2, t2, ws, ds, rfl, _⟩
  rfl
theorem wp__law_pair_right {K : PySem.W.Frag} {mg : Str → Option Value} (T : Tx K mg) : ∀ vs H Q E, sp__law_pair_right K vs H Q E → t__law_pair_right K { nx := fun _ H' => Q .non H', rt := Q } (start N__law_pair_right vs) H := by
  rintro vs H Q E ⟨p, sc, cells, a1, a2, pa, n, z, o, t, n2, z2, o2, t2, ws, ds, rfl, P, A1, A2, M1, M2, hn, hn2, FL, npa, hdl, hok, q⟩
  have l1 := leads_all M1.edg
  have l2 := leads_all M2.edg
  have hp1 := M1.pos
  have hp2 := M2.pos
  unfold t__law_pair_right
  walk_at "w"
  refine ⟨szl (by show 0 ≤ 1000000; decide), fun ba hba => ?_⟩
  have s0 : Same _ _ := Same.tnew (o := .lst ([] : List V)) hba
  have hb0 : (upd H ba (.lst ([] : List V))) ba = some (.lst (([] : List Addr).map V.ref)) := upd_same
  generalize (upd H ba (.lst ([] : List V))) = H0 at s0 hb0 ⊢
  walk_at "w"
  refine ⟨szl (by show 2 ≤ 1000000; decide), fun tp htp => ?_⟩
  have s1 : Same _ _ := Same.tnew (o := .tup [V.ref a1, V.ref a2]) htp
  have ntb : tp ≠ ba := by rintro rfl; rw [hb0] at htp; cases htp
  walk_at "w"
  have key : ∀ (i : Nat) (x : V), ([V.ref a1, V.ref a2] : List V)[i]? = some x → ∃ a, x = V.ref a ∧ Tbl K H a [[z, z2].getD i [], [o, o2].getD i [], [t, t2].getD i []] ∧ MapT ([n, n2].getD i 0) ([z, z2].getD i []) ([o, o2].getD i []) ([t, t2].getD i []) := by
    intro i x hx
    match i, hx with
    | 0, hx => exact ⟨a1, (Option.some.inj hx).symm, A1, M1⟩
    | 1, hx => exact ⟨a2, (Option.some.inj hx).symm, A2, M2⟩
    | i + 2, hx => simp at hx
  refine ft (SqT.of upd_same) (fun i σ H' => ∃ v5 bs, σ = [some (.ref p), some (.ref a1), some (.ref a2), some (.ref pa), some (.ref ba), v5, none, none, none, none, none, none] ∧ Same H H' ∧ H' tp = some (.tup [V.ref a1, V.ref a2]) ∧
    H' ba = some (.lst (bs.map V.ref)) ∧ bs.length = i ∧ ∀ j r, bs[j]? = some r → MapAt K H' r ([n, n2].getD j 0) ([z, z2].getD j []) ([o, o2].getD j []) ([t, t2].getD j [])) ⟨_, [], rfl, s0.trans s1, upd_same, s1 _ _ hb0, rfl, fun j r e => by simp at e⟩ ?_ ?_ ?_
  · rintro i σ H' _ ⟨_, _, _, _, h, _⟩
    exact SqT.of h
  · rintro i x σ H1 hi ⟨v5, bs, rfl, u1, htp1, hb1, hbl, hbs⟩
    obtain ⟨a, rfl, hT, MM⟩ := key i x hi
    have hT1 := hT.same u1
    obtain ⟨xs, r0, x1, _, x3, x4⟩ := hT1.row (i := 0) (by show 0 < 3; decide)
    obtain ⟨ys, r1, y1, _, y3, y4⟩ := hT1.row (i := 1) (by show 1 < 3; decide)
    obtain ⟨zs, r2, z1, _, z3, z4⟩ := hT1.row (i := 2) (by show 2 < 3; decide)
    have x4 : SqL K H1 r0 (nv ([z, z2].getD i [])) := x4
    have y4 : SqL K H1 r1 (nv ([o, o2].getD i [])) := y4
    have z4 : SqL K H1 r2 (nv ([t, t2].getD i [])) := z4
    walk_at "w"
    refine ⟨tyL hb1, ?_⟩
    walk_at "w"
    refine w_ixL x1 x3 ?_
    walk_at "w"
    refine w_lstL x4 fun c0 hc0 => ?_
    have g0 : Same _ _ := Same.tnew (o := .lst (nv ([z, z2].getD i []))) hc0
    have k0 : (upd H1 c0 (.lst (nv ([z, z2].getD i [])))) c0 = some (.lst (nv ([z, z2].getD i []))) := upd_same
    generalize (upd H1 c0 (.lst (nv ([z, z2].getD i [])))) = H2 at g0 k0 ⊢
    walk_at "w"
    refine w_ixL (g0.tL y1) y3 ?_
    walk_at "w"
    refine w_lstL (g0.tL y4) fun c1 hc1 => ?_
    have g1 : Same _ _ := Same.tnew (o := .lst (nv ([o, o2].getD i []))) hc1
    have k1 : (upd H2 c1 (.lst (nv ([o, o2].getD i [])))) c1 = some (.lst (nv ([o, o2].getD i []))) := upd_same
    generalize (upd H2 c1 (.lst (nv ([o, o2].getD i [])))) = H3 at g1 k1 ⊢
    walk_at "w"
    refine w_ixL ((g0.trans g1).tL z1) z3 ?_
    walk_at "w"
    refine w_lstL ((g0.trans g1).tL z4) fun c2 hc2 => ?_
    have g2 : Same _ _ := Same.tnew (o := .lst (nv ([t, t2].getD i []))) hc2
    have k2 : (upd H3 c2 (.lst (nv ([t, t2].getD i [])))) c2 = some (.lst (nv ([t, t2].getD i []))) := upd_same
    generalize (upd H3 c2 (.lst (nv ([t, t2].getD i [])))) = H4 at g2 k2 ⊢
    have g02 := (g0.trans g1).trans g2
    walk_at "w"
    intro x dx hx hdx hne
    have s5 : Same H4 (upd (upd H4 dx (.own x)) x (.ins (He.ga K "Map") dx [])) := (Same.tnew hdx).tmut hx
    refine ⟨x, dx, c0, c1, c2, _, _, _, _, rfl, s5.tL (SqL.of (g2 _ _ (g1 _ _ k0))), s5.tL (SqL.of (g2 _ _ k1)), s5.tL (SqL.of k2), MM, upd_same, fun H5 X5 m5 => ⟨rfl, ?_⟩⟩
    have s6 : Same H4 H5 := fun b u e => by
      have nb : b ≠ x := by rintro rfl; rw [hx] at e; cases e
      exact X5 b u nb (s5 b u e)
    have s7 := g02.trans s6
    have hb5 := s7 _ _ hb1
    walk_at "w"
    refine w_app hb5 (by rw [List.length_map, hbl]; exact szlt (by
      have := (List.getElem?_eq_some_iff.mp hi).1
      simp at this
      omega)) ?_
    have eb : bs.map V.ref ++ [V.ref x] = (bs ++ [x]).map V.ref := by rw [List.map_append]; rfl
    rw [eb]
    have Xb : Xt (fun y => y = ba) H5 (upd H5 ba (.lst ((bs ++ [x]).map V.ref))) := (Xt.refl _ H5).mut (.inl rfl)
    have hBb : ∀ a, a = ba → ∃ xs, H5 a = some (.lst xs) := fun a e => by rw [e]; exact ⟨_, hb5⟩
    refine ⟨_, bs ++ [x], rfl, (u1.trans s7).tmut hba, ?_, upd_same, by rw [List.length_append, hbl]; rfl, fun j r e => ?_⟩
    · rw [upd_ne ntb]
      exact s7 _ _ htp1
    · by_cases hj : j < bs.length
      · rw [List.getElem?_append_left hj] at e
        exact ((hbs j r e).same s7).keep Xb hBb
      · rw [List.getElem?_append_right (by omega)] at e
        have hj0 : j - bs.length = 0 := by
          obtain ⟨z, _⟩ := List.getElem?_eq_some_iff.mp e
          simp at z
          omega
        rw [hj0] at e
        have er : x = r := Option.some.inj e
        subst er
        have ej : j = i := by omega
        subst ej
        exact m5.keep Xb hBb
  · rintro σ H1 ⟨v5, bs, rfl, u1, htp1, hb1, hbl, hbs⟩
    obtain ⟨x1, x2, rfl⟩ : ∃ x1 x2, bs = [x1, x2] := by
      match bs, hbl with
      | [x1, x2], _ => exact ⟨x1, x2, rfl⟩
    have m1 : MapAt K H1 x1 n z o t := hbs 0 x1 rfl
    have m2 : MapAt K H1 x2 n2 z2 o2 t2 := hbs 1 x2 rfl
    clear hbs hbl
    walk_at "w"
    refine ⟨a1, n, z, o, t, rfl, A1.same u1, M1, fun H2 b1 g1 B1 => ?_⟩
    walk_at "w"
    refine ⟨a2, n2, z2, o2, t2, rfl, (A2.same u1).same g1, M2, fun H3 b2 g2 B2 => ?_⟩
    walk_at "w"
    refine ⟨szl (by show 2 ≤ 1000000; decide), fun ta hta => ?_⟩
    have g3 : Same _ _ := Same.tnew (o := .lst [V.ref b1, V.ref b2]) hta
    have hta4 : SqL K (upd H3 ta (.lst [V.ref b1, V.ref b2])) ta (([b1, b2] : List Addr).map V.ref) := SqL.of upd_same
    generalize (upd H3 ta (.lst [V.ref b1, V.ref b2])) = H4 at g3 hta4 ⊢
    have u4 := ((u1.trans g1).trans g2).trans g3
    walk_at "w"
    refine w_lstL (SqL.of (u4 _ _ FL.at_)) fun tl htl => ?_
    have g4 : Same _ _ := Same.tnew (o := .lst ws) htl
    have FT : Fl K (upd H4 tl (.lst ws)) tl ws ds := ⟨upd_same, DpAll.keep FL.ok (Kp.of (u4.trans g4)) FL.dp, FL.ok⟩
    have htl0 := u4.tfr htl
    generalize (upd H4 tl (.lst ws)) = H5 at g4 FT ⊢
    have u5 := u4.trans g4
    have P5 := P.same u5
    have FL5 := FL.same u5
    have hw := FL.len
    walk_at "w"
    -- the papers that are tried
    refine fl (SqL.of FL5.at_) (fun i σ H' => ∃ v5 tl v8 tws tds, σ = [some (.ref p), some (.ref a1), some (.ref a2), some (.ref pa), some (.ref ba), v5, some (.ref ta), some (.ref tl), v8, none, none, none] ∧ Xp p H5 H' ∧ PoolAt K H' p sc cells ∧ tl ≠ p ∧ Fl K H' tl tws tds ∧ tds.length ≤ 5 + 20 * i)
      ⟨_, tl, _, ws, ds, rfl, Xt.refl _ _, P5, P.nn htl0, FT, by omega⟩ ?_ ?_ ?_
    · rintro i σ H' _ ⟨_, _, _, _, _, _, X, _⟩
      exact SqL.of (X _ _ npa FL5.at_)
    · rintro i x σ H6 hi ⟨w5, tl, v8, tws, tds, rfl, X6, P6, ntl, F6, hl6⟩
      have hil : i < ws.length := (List.getElem?_eq_some_iff.mp hi).1
      have hdi : ds[i]? = some (ds[i]'(by omega)) := List.getElem?_eq_getElem (by omega)
      have hdm := List.mem_of_getElem? hdi
      have D5 := FL5.dp.get hi hdi
      obtain ⟨Fd, hcase⟩ := hok _ hdm
      obtain ⟨dd, hdd⟩ := (hok _ hdm).tup
      generalize (ds[i]'(by omega)) = d at D5 Fd hcase hdd
      subst hdd
      have D6 := Dp.keep Fd (P5.kp X6) _ D5
      walk_at "w"
      refine ⟨p, sc, cells, x, dd, rfl, P6, D6, Fd, fun H7 sl sws ses X7 P7 hsl S7 hs7 => ?_⟩
      have F7 := F6.xp P6 X7 ntl
      refine w_catF F7 S7 (by omega) fun c1 H8 g8 hc1 F8 => ?_
      have X8 := (X6.trans X7).trans (Xt.of g8)
      have P8 := P7.same g8
      walk_at "w"
      have hta8 : SqL K H8 ta (([b1, b2] : List Addr).map V.ref) := P5.refs X8 (g4.tL hta4)
      have B18 : Tbl K H8 b1 (tabOf n z o t) := P5.tbl X8 (((B1.same g2).same g3).same g4)
      have B28 : Tbl K H8 b2 (tabOf n2 z2 o2 t2) := P5.tbl X8 ((B2.same g3).same g4)
      refine ⟨ta, b1, b2, tabOf n z o t, tabOf n2 z2 o2 t2, x, .tuple dd, rfl, hta8, B18, B28, Dp.keep Fd (P5.kp X8) _ D5, Fd, ?_, fun H9 dl dws des g9 hdl9 F9 hd9 => ?_⟩
      · rcases hcase with h | ⟨e, h⟩
        · exact .inl h
        · subst e
          exact .inr ⟨n / 4, by omega, tabSq, tabSq, h⟩
      have F89 := F8.same g9
      refine w_catF F89 F9 (by rw [List.length_append]; omega) fun c2 H10 g10 hc2 F10 => ?_
      have g910 := g9.trans g10
      have P9 := P8.same g9
      have P10 := P8.same g910
      have nc2 : c2 ≠ p := P9.nn hc2
      have X10 := X8.trans (Xt.of g910)
      walk_at "w"
      refine crp (n := 5) rfl (by decide) (fun k D H' => ∃ cws ces, Xp p H10 H' ∧ PoolAt K H' p sc cells ∧ D ≠ p ∧ Fl K H' D cws ces ∧ ces.length = k) (fun D hD => ⟨[], [], Xt.of (Same.tnew hD), P10.same (Same.tnew hD), P10.nn hD, ⟨upd_same, .nil, fm_nil⟩, rfl⟩) (fun _ => rfl) (fun _ _ R h => h) (fun k D H' hk hD ⟨cws, ces, X11, P11, nD, F11, hl11⟩ => ?_) fun D H11 hD ⟨cws, ces, X11, P11, nD, F11, hl11⟩ => ?_
      · walk_at "w"
        refine ⟨p, sc, cells, x, .tuple dd, rfl, P11, Dp.keep Fd (P5.kp (X10.trans X11)) _ D5, Fd, by decide, by decide, fun H12 v' d' X12 P12 D12 F12 => ?_⟩
        have F11' := F11.xp P11 X12 nD
        refine ⟨cws, F11'.at_, by rw [F11'.len, hl11]; exact szlt (by omega), ?_⟩
        have kp : Kp H12 (upd H12 D (.lst (cws ++ [v']))) := fun a u hu nl => by
          have : a ≠ D := by
            rintro rfl
            rw [F11'.at_] at hu
            exact nl _ (Option.some.inj hu).symm
          rw [upd_ne this]
          exact hu
        have X13 : Xp p H10 (upd H12 D (.lst (cws ++ [v']))) := (X11.trans X12).mut (.inr hD)
        have F5' : F5 d' := F12.mono (by decide) (by decide)
        exact ⟨cws ++ [v'], ces ++ [d'], X13, P10.to X13 (P12.ex.upd nD), nD, ⟨upd_same, DpAll.keep (fm_app F11'.ok (fm_cons F5' fm_nil)) kp (F11'.dp.app (.cons D12 .nil)), fm_app F11'.ok (fm_cons F5' fm_nil)⟩, by rw [List.length_append, hl11]; rfl⟩
      · have F10' := F10.xp P10 X11 nc2
        refine w_catF F10' F11 (by rw [List.length_append, List.length_append]; omega) fun c3 H12 g12 hc3 F12 => ?_
        walk_at "w"
        exact ⟨_, c3, _, _, _, rfl, (X10.trans X11).trans (Xt.of g12), P11.same g12, P11.nn hc3, F12, by rw [List.length_append, List.length_append, List.length_append]; omega⟩
    · rintro σ H6 ⟨w5, tl, v8, tws, tds, rfl, X6, P6, ntl, F6, hl6⟩
      have FL6 := FL5.xp P5 X6 npa
      walk_at "w"
      refine w_catF F6 FL6 (by omega) fun al H7 g7 hal F7 => ?_
      have X7 := X6.trans (Xt.of g7)
      have P7 := P6.same g7
      have hta7 : SqL K H7 ta (([b1, b2] : List Addr).map V.ref) := P5.refs X7 (g4.tL hta4)
      have B17 : Tbl K H7 b1 (tabOf n z o t) := P5.tbl X7 (((B1.same g2).same g3).same g4)
      have B27 : Tbl K H7 b2 (tabOf n2 z2 o2 t2) := P5.tbl X7 ((B2.same g3).same g4)
      have A17 : Tbl K H7 a1 [z, o, t] := P5.tbl X7 (A1.same u5)
      have A27 : Tbl K H7 a2 [z2, o2, t2] := P5.tbl X7 (A2.same u5)
      have m17 : MapAt K H7 x1 n z o t := P5.mapAt X7 (m1.same (((g1.trans g2).trans g3).trans g4))
      have m27 : MapAt K H7 x2 n2 z2 o2 t2 := P5.mapAt X7 (m2.same (((g1.trans g2).trans g3).trans g4))
      have hb7 : SqL K H7 ba (([x1, x2] : List Addr).map V.ref) := P5.refs X7 ((((g1.trans g2).trans g3).trans g4).tL (SqL.of hb1))
      refine fl (SqL.of F7.at_) (fun i σ H' => ∃ v8 v9 v10, σ = [some (.ref p), some (.ref a1), some (.ref a2), some (.ref pa), some (.ref ba), w5, some (.ref ta), some (.ref tl), v8, v9, v10, none] ∧ Same H7 H') ⟨_, _, _, rfl, Same.refl _⟩ ?_ ?_ ?_
      · rintro i σ H' _ ⟨_, _, _, _, s⟩
        exact SqL.of (s _ _ F7.at_)
      · rintro i x σ H8 hi ⟨v8, v9, v10, rfl, s8⟩
        have hil : i < (tws ++ ws).length := (List.getElem?_eq_some_iff.mp hi).1
        have hdl7 := F7.len
        have hdi : (tds ++ ds)[i]? = some ((tds ++ ds)[i]'(by omega)) := List.getElem?_eq_getElem (by omega)
        have D7 := F7.dp.get hi hdi
        have Fd : FF ((tds ++ ds)[i]'(by omega)) := (F7.ok _ (List.mem_of_getElem? hdi)).mono (by decide) (by decide)
        generalize ((tds ++ ds)[i]'(by omega)) = d at D7 Fd
        walk_at "w"
        refine ⟨szl (by show 2 ≤ 1000000; decide), fun yt hyt => ?_⟩
        have s9 : Same _ _ := Same.tnew (o := .tup [V.bl true, V.bl false]) hyt
        have hy9 : (upd H8 yt (.tup [V.bl true, V.bl false])) yt = some (.tup [V.bl true, V.bl false]) := upd_same
        generalize (upd H8 yt (.tup [V.bl true, V.bl false])) = H9 at s9 hy9 ⊢
        walk_at "w"
        have s79 := s8.trans s9
        have keyb : ∀ (i : Nat) (x : V), ([V.bl true, V.bl false] : List V)[i]? = some x → ∃ b, x = V.bl b := by
          intro i x hx
          match i, hx with
          | 0, hx => exact ⟨true, (Option.some.inj hx).symm⟩
          | 1, hx => exact ⟨false, (Option.some.inj hx).symm⟩
          | i + 2, hx => simp at hx
        refine ft (SqT.of hy9) (fun k σ H' => ∃ v9 v10, σ = [some (.ref p), some (.ref a1), some (.ref a2), some (.ref pa), some (.ref ba), w5, some (.ref ta), some (.ref tl), some x, v9, v10, none] ∧ Same H9 H') ⟨_, _, rfl, Same.refl _⟩ ?_ ?_ ?_
        · rintro k σ H' _ ⟨_, _, _, s⟩
          exact SqT.of (s _ _ hy9)
        · rintro k y σ H10 hk ⟨v9, v10, rfl, s10⟩
          obtain ⟨yes, rfl⟩ := keyb k y hk
          have w10 := s79.trans s10
          refine w_gn ?_
          with_reducible refine w_seqG fun J hJ => ?_
          have cont : ∀ (b : Bool) (H' : Hp), (b = true ↔ JudgeOk n z o t n2 z2 o2 t2 yes d) → Same H10 H' → J [some (.ref p), some (.ref a1), some (.ref a2), some (.ref pa), some (.ref ba), w5, some (.ref ta), some (.ref tl), some x, some (.bl yes), some (.bl b), none] H' := by
            intro b H' hb s11
            have w11 := w10.trans s11
            refine hJ _ _ ?_
            walk_at "w"
            refine w_ixL (w11.tL hb7) (at0 rfl) ?_
            walk_at "w"
            refine w_ixL (w11.tL hb7) (at1 rfl) ?_
            walk_at "w"
            refine ⟨x1, x2, yes, x, d, n, z, o, t, n2, z2, o2, t2, rfl, m17.same w11, M1, m27.same w11, M2, Dp.keep Fd (Kp.of w11) _ D7, Fd, by omega, hn, fun w H12 s12 => ?_, fun w H12 s12 => ?_⟩
            · have eb : b = true := hb.mpr w
              subst eb
              walk_at "w"
              refine w_nF rfl ?_
              walk_at "w"
              exact ⟨_, _, rfl, (s10.trans s11).trans s12⟩
            · have eb : b = false := by
                cases b with
                | true => exact absurd (hb.mp rfl) w
                | false => rfl
              subst eb
              walk_at "w"
              refine w_nF rfl ?_
              walk_at "w"
              exact ⟨_, _, rfl, (s10.trans s11).trans s12⟩
          walk_at "w"
          refine ⟨a1, a2, ta, b1, b2, yes, x, d, n, z, o, t, n2, z2, o2, t2, rfl, A17.same w10, A27.same w10, w10.tL hta7, B17.same w10, B27.same w10, M1, M2, Dp.keep Fd (Kp.of w10) _ D7, Fd, by omega, hn, fun w H' s => ?_, fun w H' s => ?_⟩
          · walk_at "w"
            exact cont true H' ⟨fun _ => w, fun _ => rfl⟩ s
          · walk_at "w"
            exact cont false H' ⟨fun h => Bool.noConfusion h, fun h => absurd h w⟩ s
        · rintro σ H10 ⟨v9, v10, rfl, s10⟩
          exact ⟨_, _, _, rfl, s79.trans s10⟩
      · rintro σ H8 ⟨v8, v9, v10, rfl, s8⟩
        walk_at "w"
        exact q H8 (((Xt.of u5).trans X7).trans (Xt.of s8)) (P7.same s8)

theorem ok__law_pair_right {P : Program} {w : World} {K : PySem.W.Frag} {mg : Str → Option Value} {base : Heap} (F : FnP K mg "_law_pair_right" s__law_pair_right) (T : Tx K mg) (c_Map : OkC P w K mg base "Map" 5 ps_Map_init (sp_Map K)) (c__law_table : Ok P w K mg base "_law_table" 2 ps__law_table (sp__law_table K)) (c__law_special : Ok P w K mg base "_law_special" 2 ps__law_special (sp__law_special K)) (c__law_doubled : Ok P w K mg base "_law_doubled" 9 ps__law_doubled (sp__law_doubled K)) (c__law_bent : Ok P w K mg base "_law_bent" 14 ps__law_bent (sp__law_bent K 200 10)) (c__law_due : Ok P w K mg base "_law_due" 9 ps__law_due (sp__law_due K)) (c_judge_recasts : Ok P w K mg base "judge_recasts" 14 ps_judge_recasts (sp_judge_recasts K)) :
    Ok P w K mg base "_law_pair_right" 25 ps__law_pair_right (sp__law_pair_right K) :=
  ok_of (t := t__law_pair_right K) F sc__law_pair_right (len__law_pair_right) (fun _ _ _ _ _ _ us hl => match us, hl with | [_, _, _, _], _ => rfl)
    (fun f cdv A outer s H E hr => by
      have hu := hu_of hr
      have hu65 := u65 hr
      exact (pss_cons (ps_set (i := 4) sc__law_pair_right.nd rfl (Or.inl rfl) (pe_lst pa_nil))
      (pss_cons (ps_for PassesOwn.never rfl (pi_tup (pe_tup (pa_cons (pv 1) (pa_cons (pv 2) pa_nil)))) (pg_name (i := 5) sc__law_pair_right.nd rfl (Or.inl rfl)) (pss_one (ps_expr (pe_bm PySem.F.plainAttrs_list PySem.F.slot_list_append PySem.F.type_list_append mt_append (pv 4) (pa_cons (pe_makeO c_Map hr (pa_cons (pe_callTy call_list_of rfl T.b_list (by decide +kernel) (pa_cons (pe_ix ix_list (pv 5) pe_int (fun _ _ => rfl)) pa_nil)) (pa_cons (pe_callTy call_list_of rfl T.b_list (by decide +kernel) (pa_cons (pe_ix ix_list (pv 5) pe_int (fun _ _ => rfl)) pa_nil)) (pa_cons (pe_callTy call_list_of rfl T.b_list (by decide +kernel) (pa_cons (pe_ix ix_list (pv 5) pe_int (fun _ _ => rfl)) pa_nil)) pa_nil)))) pa_nil)))))
      (pss_cons (ps_set (i := 6) sc__law_pair_right.nd rfl (Or.inl rfl) (pe_lst (pa_cons (pe_callO c__law_table hr (pa_cons (pv 1) pa_nil)) (pa_cons (pe_callO c__law_table hr (pa_cons (pv 2) pa_nil)) pa_nil))))
      (pss_cons (ps_set (i := 7) sc__law_pair_right.nd rfl (Or.inl rfl) (pe_callTy call_list_of rfl T.b_list (by decide +kernel) (pa_cons (pv 3) pa_nil)))
      (pss_cons (ps_for PassesOwn.never rfl (pi_list (pv 3)) (pg_name (i := 8) sc__law_pair_right.nd rfl (Or.inr rfl)) (pss_cons (ps_set (i := 7) sc__law_pair_right.nd rfl (Or.inl rfl) (pe_op op_cat (pe_op op_cat (pv 7) (pe_callO c__law_special hr (pa_cons (pv 0) (pa_cons (pv 8) pa_nil)))) (pe_callO c__law_doubled hr (pa_cons (pv 6) (pa_cons (pv 8) pa_nil)))))
      (pss_one (ps_set (i := 7) sc__law_pair_right.nd rfl (Or.inl rfl) (pe_op op_cat (pv 7) (pe_lc (own := [("step", 11)]) rfl sc__law_pair_right.nd (pi_range1 rfl T.b_range (pa_cons pe_int pa_nil)) (blkOk_by (own := [("step", 11)]) (N := N__law_pair_right) (sc := defScope s__law_pair_right) (by decide +kernel)) (fun _ _ _ _ _ => (pg_name (i := 11) sc__law_pair_right.nd rfl (Or.inl rfl))) (fun _ _ _ _ _ => pts_nil) (fun _ _ _ _ _ => (pe_callO c__law_bent hr (pa_cons (pv 0) (pa_cons (pv 8) pa_nil))))))))))
      (pss_cons (ps_for PassesOwn.never rfl (pi_list (pe_op op_cat (pv 7) (pv 3))) (pg_name (i := 8) sc__law_pair_right.nd rfl (Or.inr rfl)) (pss_one (ps_for PassesOwn.never rfl (pi_tup (pe_tup (pa_cons pe_bl (pa_cons pe_bl pa_nil)))) (pg_name (i := 9) sc__law_pair_right.nd rfl (Or.inl rfl)) (pss_cons (ps_set (i := 10) sc__law_pair_right.nd rfl (Or.inl rfl) (pe_callO c__law_due hr (pa_cons (pv 1) (pa_cons (pv 2) (pa_cons (pv 6) (pa_cons (pv 9) (pa_cons (pv 8) pa_nil)))))))
      (pss_one (ps_if (pt_cmpR op_ne (pe_callB call_reprB rfl T.b_repr (by decide +kernel) (pa_cons (pe_callO c_judge_recasts hr (pa_cons (pe_ix ix_list (pv 4) pe_int (fun _ _ => rfl)) (pa_cons (pe_ix ix_list (pv 4) pe_int (fun _ _ => rfl)) (pa_cons (pv 9) (pa_cons (pv 8) pa_nil))))) pa_nil)) (pe_callB call_reprB rfl T.b_repr (by decide +kernel) (pa_cons (pv 10) pa_nil)) (nomark _)) (pss_one (ps_ret pe_bl)) pss_nil))))))
      (pss_one (ps_ret pe_bl)))))))))
    (wp__law_pair_right T)

abbrev s_law : Stmt := top 61
abbrev N_law : List Str := ["script", "pool", "many", "first", "roles", "codes", "images", "copy", "yes", "pair", "late", "tree", "papers", "larger", "edge"]
abbrev ps_law : List Str := ["script"]
theorem sc_law : FnScope N_law ps_law (defScope s_law) := ⟨rfl, rfl, rfl, by decide +kernel, rfl, by decide +kernel, by decide +kernel⟩
def t_law (K : PySem.W.Frag) : TS :=
    (tSeq (tAsg (tCall (sp__law_start K) [] E0 (tCons (tVar 0) tNil)) (gName 1))
    (tSeq (tAsg (tOp rAddI (tC (.int 1)) (tCall (sp__law_draw K) [] E0 (tCons (tVar 1) (tCons (tC (.int 3)) tNil)))) (gName 2))
    (tSeq (tIfS (tTest (tOp rEq (tCall (sp__law_draw K) [] E0 (tCons (tVar 1) (tCons (tC (.int 8)) tNil))) (tC (.int 0)))) (tAsg (tC (.int 4)) (gName 2)) tNext)
    (tSeq (tAsg (tCall (sp__law_map K) [] E0 (tCons (tVar 1) (tCons (tVar 2) tNil))) (gName 3))
    (tSeq (tAsg (tLst (tCons (tC (.str "'023")) (tCons (tC (.str "'032")) (tCons (tC (.str "'203")) (tCons (tC (.str "'230")) (tCons (tC (.str "'302")) (tCons (tC (.str "'320")) tNil))))))) (gName 4))
    (tSeq (tAsg (tCB (rTupOf K) (tCons (tLc (iRng1 (tCons (tVar 2) tNil)) (gName 14) tYes (tOp (rIxL K) (tVar 4) (tCall (sp__law_draw K) [] E0 (tCons (tVar 1) (tCons (tC (.int 6)) tNil)))) [14]) tNil)) (gName 5))
    (tSeq (tAsg (tCB (rTupOf K) (tCons (tCall (sp__law_perm K) [] E0 (tCons (tVar 1) (tCons (tOp rMulI (tC (.int 4)) (tVar 2)) tNil))) tNil)) (gName 6))
    (tSeq (tAsg (tCall (sp__law_renamed K) [] E0 (tCons (tCall (sp__law_recast K) [] E0 (tCons (tVar 3) (tCons (tVar 5) tNil))) (tCons (tVar 6) tNil))) (gName 7))
    (tSeq (tAsg (tTup (tCons (tC (.str "recasting")) (tCons (tVar 5) (tCons (tVar 6) tNil)))) (gName 8))
    (tSeq (tIfS (tNot (tB (tCall (sp__law_pair_right K) [] E0 (tCons (tVar 1) (tCons (tVar 3) (tCons (tVar 7) (tCons (tLst (tCons (tVar 8) tNil)) tNil))))))) (tRet (tC (.bl false))) tNext)
    (tSeq (tAsg (tLst (tCons (tCall (sp__law_map K) [] E0 (tCons (tVar 1) (tCons (tVar 2) tNil))) (tCons (tVar 7) tNil))) (gName 9))
    (tSeq (tIfS (tTest (tOp rEq (tCall (sp__law_draw K) [] E0 (tCons (tVar 1) (tCons (tC (.int 2)) tNil))) (tC (.int 0)))) (tAsg (tLst (tCons (tVar 3) (tCons (tOp (rIxL K) (tVar 9) (tC (.int 0))) tNil))) (gName 9)) tNext)
    (tSeq (tAsg (tOp rEq (tCall (sp__law_draw K) [] E0 (tCons (tVar 1) (tCons (tC (.int 2)) tNil))) (tC (.int 0))) (gName 10))
    (tSeq (tAsg (tCall (sp__law_tree_of K 4) [] E0 (tCons (tCall (sp__law_table K) [] E0 (tCons (tOp (rIxL K) (tVar 9) (tC (.int 0))) tNil)) (tCons (tCall (sp__law_table K) [] E0 (tCons (tOp (rIxL K) (tVar 9) (tC (.int 1))) tNil)) (tCons (tTup tNil) (tCons (tVar 10) tNil))))) (gName 11))
    (tSeq (tAsg (tLst (tCons (tVar 8) tNil)) (gName 12))
    (tSeq (tIfS (tB (tNotN (tVar 11))) (tDrop (tBM K "list" rAppend (tVar 12) (tCons (tVar 11) tNil))) tNext)
    (tSeq (tIfS (tNot (tB (tCall (sp__law_pair_right K) [] E0 (tCons (tVar 1) (tCons (tOp (rIxL K) (tVar 9) (tC (.int 0))) (tCons (tOp (rIxL K) (tVar 9) (tC (.int 1))) (tCons (tVar 12) tNil))))))) (tRet (tC (.bl false))) tNext)
    (tSeq (tAsg (tCall (sp__law_map K) [] E0 (tCons (tVar 1) (tCons (tOp rAddI (tVar 2) (tC (.int 1))) tNil))) (gName 13))
    (tSeq (tIfS (tNot (tB (tCall (sp__law_pair_right K) [] E0 (tCons (tVar 1) (tCons (tVar 13) (tCons (tVar 3) (tCons (tLst (tCons (tTup (tCons (tC (.str "edges")) tNil)) tNil)) tNil))))))) (tRet (tC (.bl false))) tNext)
    (tRet (tCall (sp__law_pair_right K) [] E0 (tCons (tVar 1) (tCons (tVar 3) (tCons (tVar 13) (tCons (tLst (tCons (tTup (tCons (tC (.str "edges")) tNil)) tNil)) tNil)))))))))))))))))))))))))
def sp_law (K : PySem.W.Frag) : Sp := fun vs H Q _ => ∃ (s : Addr) (cells : List Int), vs = [.ref s] ∧ SqL K H s (cells.map V.int) ∧ ∀ H', Q (.bl true) H'
theorem len_law {K : PySem.W.Frag} : ∀ vs H Q E, sp_law K vs H Q E → vs.length = ps_law.length := by
  rintro vs H Q E ⟨s, cells, rfl, _⟩
  rfl
def yesD (cs : List Str) (im : List Nat) : PyData := .tuple [.str "recasting", .tuple (cs.map .str), .tuple (im.map fun (x : Nat) => PyData.int x)]
theorem yes_ok {cs : List Str} {im : List Nat} (hc : ∀ c ∈ cs, c ∈ codes) (h1 : cs.length ≤ 200) (h2 : im.length ≤ 200) {n n2 : Nat} : PaperOk n n2 (yesD cs im) := by
  refine ⟨.tup (by show 3 ≤ 200; decide) (fm_cons (.str (by decide)) (fm_cons (.tup (by rw [List.length_map]; exact h1) fun d hd => ?_) (fm_cons (.tup (by rw [List.length_map]; exact h2) fun d hd => ?_) fm_nil))), .inl ⟨"recasting", _, rfl, by decide⟩⟩
  · obtain ⟨c, hm, rfl⟩ := List.mem_map.mp hd
    exact .str (codes_words c (hc c hm))
  · obtain ⟨x, hm, rfl⟩ := List.mem_map.mp hd
    exact .int (Int.natCast_nonneg _)
theorem edges_ok {n n2 : Nat} : PaperOk n n2 edgesD := ⟨.tup (by show 1 ≤ 200; decide) (fm_cons (.str (by decide)) fm_nil), .inl ⟨"edges", _, rfl, by decide⟩⟩
theorem strs_dp {K : PySem.W.Frag} {H : Hp} : ∀ {cs : List Str}, DpAll K H (cs.map V.str) (cs.map PyData.str)
  | [] => .nil
  | c :: r => .cons (.str c) strs_dp
theorem nats_dp {K : PySem.W.Frag} {H : Hp} : ∀ {im : List Nat}, DpAll K H (nv im) (im.map fun (x : Nat) => PyData.int x)
  | [] => .nil
  | c :: r => .cons (.int _) nats_dp
theorem wp_law {K : PySem.W.Frag} {mg : Str → Option Value} (T : Tx K mg) : ∀ vs H Q E, sp_law K vs H Q E → t_law K { nx := fun _ H' => Q .non H', rt := Q } (start N_law vs) H := by
  rintro vs H Q E ⟨s, cells0, rfl, hS, q⟩
  unfold t_law
  walk_at "w"
  refine ⟨s, cells0, rfl, hS, fun H0 p sc cells _ _ P0 => ?_⟩
  walk_at "w"
  refine ⟨p, sc, cells, 3, rfl, P0, by decide, by decide, fun r1 H1 hr1 _ P1 => ?_⟩
  refine w_i0 ?_
  refine w_gn ?_
  with_reducible refine w_seqG fun J hJ => ?_
  have cont : ∀ (m : Nat) (H' : Hp), 1 ≤ m → m ≤ 4 → PoolAt K H' p sc cells → J [some (.ref s), some (.ref p), some (.int m), none, none, none, none, none, none, none, none, none, none, none, none] H' := by
    intro m H2 m1 m4 P2
    refine hJ _ _ ?_
    walk_at "w"
    refine ⟨p, sc, cells, m, rfl, P2, m1, by omega, fun z o t fa H3 M X3 P3 TF => ?_⟩
    walk_at "w"
    refine ⟨szl (by show 6 ≤ 1000000; decide), fun rl hrl => ?_⟩
    have g4 : Same _ _ := Same.tnew (o := .lst codesV) hrl
    have hrl4 : (upd H3 rl (.lst codesV)) rl = some (.lst codesV) := upd_same
    have nrl : rl ≠ p := P3.nn hrl
    show gName 4 (.ref rl) _ (upd H3 rl (.lst codesV)) _
    have P4 := P3.same g4
    have TF4 := TF.same g4
    generalize (upd H3 rl (.lst codesV)) = H4 at g4 hrl4 P4 TF4 ⊢
    walk_at "w"
    refine crp (n := m) rfl (by omega) (fun k D H' => ∃ cs : List Str, Xp p H4 H' ∧ PoolAt K H' p sc cells ∧ D ≠ p ∧ H' D = some (.lst (cs.map V.str)) ∧ cs.length = k ∧ ∀ c ∈ cs, c ∈ codes) (fun D hD => ⟨[], Xt.of (Same.tnew hD), P4.same (Same.tnew hD), P4.nn hD, upd_same, rfl, fun c hc => by simp at hc⟩) (fun _ => rfl) (fun _ _ R h => h) (fun k D H' hk hD ⟨cs, X, P, nD, hDl, hcl, hcm⟩ => ?_) fun D H5 hD ⟨cs, X5, P5, nD, hDl, hcl, hcm⟩ => ?_
    · walk_at "w"
      refine ⟨p, sc, cells, 6, rfl, P, by decide, by decide, fun r H'' hr X'' P'' => ?_⟩
      have hrl'' := (X.trans X'') _ _ nrl hrl4
      have hcr : codes[r]? = some (codes[r]'hr) := List.getElem?_eq_getElem hr
      refine w_ixL (SqL.of hrl'') (v := .str (codes[r]'hr)) (atI_nat (by show (codes.map V.str)[r]? = _; rw [List.getElem?_map, hcr]; rfl)) ?_
      have X9 : Xp p H4 (upd H'' D (.lst (cs.map V.str ++ [V.str (codes[r]'hr)]))) := (X.trans X'').mut (.inr hD)
      refine ⟨_, X'' _ _ nD hDl, by rw [List.length_map, hcl]; exact szlt (by omega), cs ++ [codes[r]'hr], X9, P4.to X9 (P''.ex.upd nD), nD, by rw [upd_same, List.map_append]; rfl, by rw [List.length_append, hcl]; rfl, fun c hc => ?_⟩
      rcases List.mem_append.mp hc with z | z
      · exact hcm c z
      · rw [List.mem_singleton.mp z]; exact List.getElem_mem hr
    walk_at "w"
    refine w_tupL (SqL.of hDl) fun ca hca => ?_
    have g6 : Same _ _ := Same.tnew (o := .tup (cs.map V.str)) hca
    have hca6 : SqT K (upd H5 ca (.tup (cs.map V.str))) ca (cs.map V.str) := SqT.of upd_same
    have P6 := P5.same g6
    have TF6 := (P4.tbl X5 TF4).same g6
    generalize (upd H5 ca (.tup (cs.map V.str))) = H6 at g6 hca6 P6 TF6 ⊢
    walk_at "w"
    refine w_iC (.inl ⟨by decide, by decide⟩) ?_
    walk_at "w"
    refine ⟨p, sc, cells, 4 * m, by rw [show ((4 * m : Nat) : Int) = 4 * (m : Int) by omega]; rfl, P6, by omega, by omega, fun im il H7 e1 e2 e3 X7 P7 _ hil => ?_⟩
    have R : Prm (4 * m) im := ⟨e1, e2, e3⟩
    walk_at "w"
    refine w_tupL (SqL.of hil) fun ia hia => ?_
    have g8 : Same _ _ := Same.tnew (o := .tup (nv im)) hia
    have hia8 : SqT K (upd H7 ia (.tup (nv im))) ia (nv im) := SqT.of upd_same
    have P8 := P7.same g8
    have TF8 := (P6.tbl X7 TF6).same g8
    have hca8 := (Kp.of g8).sqT ((P6.kp X7).sqT hca6)
    generalize (upd H7 ia (.tup (nv im))) = H8 at g8 hia8 P8 TF8 hca8 ⊢
    walk_at "w"
    refine ⟨fa, ca, 4 * m, z, o, t, cs, rfl, TF8, M, hca8, by omega, hcm, fun H9 na g9 TN => ?_⟩
    have RM := rc_map M (cs := cs) (by omega) hcm
    walk_at "w"
    refine ⟨na, ia, 4 * m, _, _, _, im, rfl, TN, RM.hz, RM.ho, RM.ht, g9.tT hia8, R, by omega, fun H10 co Zc Oc Tc g10 Cz Co Ct TC => ?_⟩
    have MC := Cj.map R RM Cz Co Ct
    have g810 := g9.trans g10
    have P10 := P8.same g810
    have TF10 := TF8.same g810
    have hca10 := g810.tT hca8
    have hia10 := g810.tT hia8
    walk_at "w"
    have Dy0 : DpAll K H10 [V.str "recasting", V.ref ca, V.ref ia] [.str "recasting", .tuple (cs.map .str), .tuple (im.map fun (x : Nat) => PyData.int x)] := .cons (.str _) (.cons (.tup hca10 strs_dp) (.cons (.tup hia10 nats_dp) .nil))
    have Yok := fun {n n2 : Nat} => yes_ok (n := n) (n2 := n2) hcm (by omega : cs.length ≤ 200) (by omega : im.length ≤ 200)
    have Fy : Fm 200 10 (yesD cs im) := (Yok (n := 0) (n2 := 0)).1
    refine w_tupD (K := K) (L := 200) (k := 10) Dy0 (fun d hd => Fy.sub hd) (by show 3 ≤ 1000000; decide) fun ya H11 ee g11 Dy => ?_
    rw [← ee]
    clear ee
    have Dy : Dp K H11 (.ref ya) (yesD cs im) := Dy
    have P11 := P10.same g11
    have TF11 := TF10.same g11
    have TC11 := TC.same g11
    walk_at "w"
    refine w_lstF (K := K) (.cons Dy .nil) (fm_cons (F5.of Fy) fm_nil) (by show 1 ≤ 1000000; decide) fun l1 H12 ee g12 hl1 F12 => ?_
    rw [← ee]
    clear ee
    walk_at "w"
    refine ⟨p, sc, cells, fa, co, l1, 4 * m, z, o, t, 4 * m, Zc, Oc, Tc, _, _, rfl, P11.same g12, TF11.same g12, TC11.same g12, M, MC, by omega, by omega, F12, P11.nn hl1, by show 1 ≤ 5; decide, fun d hd => by rw [List.mem_singleton.mp hd]; exact Yok, fun H13 X13 P13 => ?_⟩
    have X1113 : Xp p H11 H13 := (Xt.of g12).trans X13
    have TF13 := P11.tbl X1113 TF11
    have TC13 := P11.tbl X1113 TC11
    have Dy13 := Dp.keep Fy (P11.kp X1113) _ Dy
    walk_at "w"
    refine ⟨p, sc, cells, m, rfl, P13, m1, by omega, fun z3 o3 t3 ga H14 M3 X14 P14 TG => ?_⟩
    have TF14 := P13.tbl X14 TF13
    have TC14 := P13.tbl X14 TC13
    have Dy14 := Dp.keep Fy (P13.kp X14) _ Dy13
    walk_at "w"
    refine ⟨szl (by show 2 ≤ 1000000; decide), fun pr hpr => ?_⟩
    have g15 : Same _ _ := Same.tnew (o := .lst [V.ref ga, V.ref co]) hpr
    have hpr15 : SqL K (upd H14 pr (.lst [V.ref ga, V.ref co])) pr (([ga, co] : List Addr).map V.ref) := SqL.of upd_same
    have P15 := P14.same g15
    have TF15 := TF14.same g15
    have TC15 := TC14.same g15
    have TG15 := TG.same g15
    have Dy15 := Dp.keep Fy (Kp.of g15) _ Dy14
    generalize (upd H14 pr (.lst [V.ref ga, V.ref co])) = H15 at g15 hpr15 P15 TF15 TC15 TG15 Dy15 ⊢
    refine w_gn ?_
    with_reducible refine w_seqG fun J2 hJ2 => ?_
    have cont2 : ∀ (pr u v : Addr) (H' : Hp) (zu ou tu zv ov tv : List Nat), PoolAt K H' p sc cells → SqL K H' pr (([u, v] : List Addr).map V.ref) → Tbl K H' u [zu, ou, tu] → Tbl K H' v [zv, ov, tv] → MapT (4 * m) zu ou tu → MapT (4 * m) zv ov tv → Tbl K H' fa [z, o, t] → Dp K H' (.ref ya) (yesD cs im) →
        J2 [some (.ref s), some (.ref p), some (.int m), some (.ref fa), some (.ref rl), some (.ref ca), some (.ref ia), some (.ref co), some (.ref ya), some (.ref pr), none, none, none, none, none] H' := by
      intro pr u v H16 zu ou tu zv ov tv P16 hpr16 TU TV MU MV TF16 Dy16
      refine hJ2 _ _ ?_
      walk_at "w"
      refine ⟨p, sc, cells, 2, rfl, P16, by decide, by decide, fun r H17 hr X17 P17 => ?_⟩
      have hpr17 := P16.refs X17 hpr16
      have TU17 := P16.tbl X17 TU
      have TV17 := P16.tbl X17 TV
      have TF17 := P16.tbl X17 TF16
      have Dy17 := Dp.keep Fy (P16.kp X17) _ Dy16
      have e44 : 4 * m / 4 = m := by omega
      have sq : ∀ {z o t : List Nat}, Sq m (tabOf (4 * m) z o t) := fun {z o t} => by
        have := tabSq (n := 4 * m) (z := z) (o := o) (t := t)
        rwa [e44] at this
      walk_at "w1"
      refine w_eqI ?_
      refine w_gn ?_
      with_reducible refine w_seqG fun J3 hJ3 => ?_
      have cont3 : ∀ (tree : V) (H' : Hp), Same H17 H' → (tree = .non ∨ ∃ d, Dp K H' tree d ∧ TreeOk 200 10 m d) →
          J3 [some (.ref s), some (.ref p), some (.int m), some (.ref fa), some (.ref rl), some (.ref ca), some (.ref ia), some (.ref co), some (.ref ya), some (.ref pr), some (.bl (decide ((r : Int) = 0))), some tree, none, none, none] H' := by
        intro tree H18 g18 htree
        refine hJ3 _ _ ?_
        have P18 := P17.same g18
        have Dy18 := Dp.keep Fy (Kp.of g18) _ Dy17
        walk_at "w"
        refine w_lstF (K := K) (.cons Dy18 .nil) (fm_cons (F5.of Fy) fm_nil) (by show 1 ≤ 1000000; decide) fun l2 H19 ee g19 hl2 F19 => ?_
        rw [← ee]
        clear ee
        have nl2 : l2 ≠ p := P18.nn hl2
        have g1719 := g18.trans g19
        refine w_gn ?_
        with_reducible refine w_seqG fun J4 hJ4 => ?_
        have cont4 : ∀ (H' : Hp) (ws : List V) (ds : List PyData), Same H18 H' → Fl K H' l2 ws ds → ds.length ≤ 5 → (∀ d ∈ ds, PaperOk (4 * m) (4 * m) d) →
            J4 [some (.ref s), some (.ref p), some (.int m), some (.ref fa), some (.ref rl), some (.ref ca), some (.ref ia), some (.ref co), some (.ref ya), some (.ref pr), some (.bl (decide ((r : Int) = 0))), some tree, some (.ref l2), none, none] H' := by
          intro H20 ws ds g20 F20 hd20 hok20
          refine hJ4 _ _ ?_
          have gA := g18.trans g20
          have P20 := P17.same gA
          walk_at "w"
          refine w_ixL (gA.tL hpr17) (at0 rfl) ?_
          walk_at "w"
          refine w_ixL (gA.tL hpr17) (at1 rfl) ?_
          walk_at "w"
          refine ⟨p, sc, cells, u, v, l2, 4 * m, zu, ou, tu, 4 * m, zv, ov, tv, ws, ds, rfl, P20, TU17.same gA, TV17.same gA, MU, MV, by omega, by omega, F20, nl2, hd20, hok20, fun H21 X21 P21 => ?_⟩
          have TF21 := P20.tbl X21 (TF17.same gA)
          walk_at "w"
          refine ⟨p, sc, cells, m + 1, rfl, P21, by omega, by omega, fun z5 o5 t5 ka H22 M5 X22 P22 TK => ?_⟩
          have TF22 := P21.tbl X22 TF21
          have Fe : Fm 200 10 edgesD := (edges_ok (n := 0) (n2 := 0)).1
          walk_at "w"
          refine w_tupD (K := K) (L := 200) (k := 1) (.cons (.str "edges") .nil) (fm_cons (.str (by decide)) fm_nil) (by show 1 ≤ 1000000; decide) fun e1 H23 ee g23 De1 => ?_
          rw [← ee]
          clear ee
          have De1 : Dp K H23 (.ref e1) edgesD := De1
          walk_at "w"
          refine w_lstF (K := K) (.cons De1 .nil) (fm_cons (F5.of Fe) fm_nil) (by show 1 ≤ 1000000; decide) fun l3 H24 ee g24 hl3 F24 => ?_
          rw [← ee]
          clear ee
          have g2224 := g23.trans g24
          have P24 := P22.same g2224
          walk_at "w"
          refine ⟨p, sc, cells, ka, fa, l3, 4 * (m + 1), z5, o5, t5, 4 * m, z, o, t, _, _, rfl, P24, TK.same g2224, TF22.same g2224, M5, M, by omega, by omega, F24, (P22.same g23).nn hl3, by show 1 ≤ 5; decide, fun d hd => by rw [List.mem_singleton.mp hd]; exact edges_ok, fun H25 X25 P25 => ?_⟩
          have TF25 := P24.tbl X25 (TF22.same g2224)
          have TK25 := P24.tbl X25 (TK.same g2224)
          walk_at "w"
          refine w_tupD (K := K) (L := 200) (k := 1) (.cons (.str "edges") .nil) (fm_cons (.str (by decide)) fm_nil) (by show 1 ≤ 1000000; decide) fun e2 H26 ee g26 De2 => ?_
          rw [← ee]
          clear ee
          have De2 : Dp K H26 (.ref e2) edgesD := De2
          walk_at "w"
          refine w_lstF (K := K) (.cons De2 .nil) (fm_cons (F5.of Fe) fm_nil) (by show 1 ≤ 1000000; decide) fun l4 H27 ee g27 hl4 F27 => ?_
          rw [← ee]
          clear ee
          have g2527 := g26.trans g27
          have P27 := P25.same g2527
          walk_at "w"
          exact ⟨p, sc, cells, fa, ka, l4, 4 * m, z, o, t, 4 * (m + 1), z5, o5, t5, _, _, rfl, P27, TF25.same g2527, TK25.same g2527, M, M5, by omega, by omega, F27, (P25.same g26).nn hl4, by show 1 ≤ 5; decide, fun d hd => by rw [List.mem_singleton.mp hd]; exact edges_ok, fun H28 _ _ => q H28⟩
        walk_at "w"
        rcases htree with rfl | ⟨d, Dd, Td⟩
        · refine w_nF rfl ?_
          walk_at "w"
          exact cont4 H19 _ _ g19 F19 (by show 1 ≤ 5; decide) fun d hd => by rw [List.mem_singleton.mp hd]; exact Yok
        · have Fd := Td.1
          have Dd19 := Dp.keep Fd (Kp.of g19) _ Dd
          obtain ⟨ps, ed⟩ : ∃ ps, d = .tuple ps := by
            obtain ⟨_, ps, e, _⟩ := Td
            exact ⟨_, e⟩
          obtain ⟨ta, ea⟩ : ∃ ta, tree = .ref ta := by
            subst ed
            obtain ⟨ta, _, e, _⟩ := Dd.tupI
            exact ⟨ta, e⟩
          subst ea
          refine w_nT (fun z => by cases z) ?_
          walk_at "w"
          refine ⟨tyL F19.at_, ?_⟩
          walk_at "w"
          refine w_app F19.at_ (szlt (by show 1 ≤ 1000000; decide)) ?_
          have kp : Kp H19 (upd H19 l2 (.lst ([V.ref ya] ++ [V.ref ta]))) := fun a u hu nl => by
            have : a ≠ l2 := by
              rintro rfl
              rw [F19.at_] at hu
              exact nl _ (Option.some.inj hu).symm
            rw [upd_ne this]
            exact hu
          have okd : PaperOk (4 * m) (4 * m) d := ⟨Fd, .inr ⟨rfl, by rw [e44]; exact Td⟩⟩
          exact cont4 _ _ ([yesD cs im] ++ [d]) (g19.tmut hl2) ⟨upd_same, DpAll.keep (fm_app F19.ok (fm_cons (F5.of Fd) fm_nil)) kp (F19.dp.app (.cons Dd19 .nil)), fm_app F19.ok (fm_cons (F5.of Fd) fm_nil)⟩ (by show 2 ≤ 5; decide)
            (fm_app (fm_cons Yok fm_nil) (fm_cons okd fm_nil))
      walk_at "w"
      refine w_ixL hpr17 (at0 rfl) ?_
      walk_at "w"
      refine ⟨u, 4 * m, zu, ou, tu, rfl, TU17, MU, fun H18 b1 g18 B1 => ?_⟩
      walk_at "w"
      refine w_ixL (g18.tL hpr17) (at1 rfl) ?_
      walk_at "w"
      refine ⟨v, 4 * m, zv, ov, tv, rfl, TV17.same g18, MV, fun H19 b2 g19 B2 => ?_⟩
      walk_at "w"
      refine ⟨szl (by show 0 ≤ 1000000; decide), fun ea hea => ?_⟩
      have g20 : Same _ _ := Same.tnew (o := .tup ([] : List V)) hea
      have hea20 : SqT K (upd H19 ea (.tup ([] : List V))) ea (nv []) := SqT.of upd_same
      generalize (upd H19 ea (.tup ([] : List V))) = H20 at g20 hea20 ⊢
      walk_at "w"
      have g1720 := (g18.trans g19).trans g20
      refine ⟨m, m - 1, by omega, b1, b2, ea, tabOf (4 * m) zu ou tu, tabOf (4 * m) zv ov tv, [], decide ((r : Int) = 0), rfl, (B1.same g19).same g20, B2.same g20, sq, sq, by omega, hea20, by show 0 + _ = _; omega, fun x hx => by simp at hx, fun H' g21 => ?_, fun H' tv' td g21 Dt Tt => ?_⟩
      · walk_at "w"
        exact cont3 .non H' (g1720.trans g21) (.inl rfl)
      · walk_at "w"
        obtain ⟨Ft, tr⟩ := Tt
        exact cont3 tv' H' (g1720.trans g21) (.inr ⟨td, Dt, Ft.mono (by decide) (by omega), tr⟩)
    walk_at "w"
    refine ⟨p, sc, cells, 2, rfl, P15, by decide, by decide, fun r H16 hr X16 P16 => ?_⟩
    have hpr16 := P15.refs X16 hpr15
    have TF16 := P15.tbl X16 TF15
    have TC16 := P15.tbl X16 TC15
    have TG16 := P15.tbl X16 TG15
    have Dy16 := Dp.keep Fy (P15.kp X16) _ Dy15
    walk_at "w"
    refine w_d2 (fun _ => ?_) (fun _ => ?_)
    · walk_at "w"
      refine w_ixL hpr16 (at0 rfl) ?_
      walk_at "w"
      refine ⟨szl (by show 2 ≤ 1000000; decide), fun pr2 hpr2 => ?_⟩
      have g17 : Same _ _ := Same.tnew (o := .lst [V.ref fa, V.ref ga]) hpr2
      walk_at "w"
      exact cont2 pr2 fa ga _ z o t z3 o3 t3 (P16.same g17) (SqL.of upd_same) (TF16.same g17) (TG16.same g17) M M3 (TF16.same g17) (Dp.keep Fy (Kp.of g17) _ Dy16)
    · walk_at "w"
      exact cont2 pr ga co H16 z3 o3 t3 Zc Oc Tc P16 hpr16 TG16 TC16 M3 MC TF16 Dy16
  walk_at "w"
  refine ⟨p, sc, cells, 8, rfl, P1, by decide, by decide, fun r2 H2 hr2 _ P2 => ?_⟩
  walk_at "w"
  refine w_d2 (fun _ => ?_) (fun _ => ?_)
  · walk_at "w"
    exact cont 4 H2 (by decide) (by decide) P2
  · walk_at "w"
    have := cont (1 + r1) H2 (by omega) (by omega) P2
    rw [show ((1 + r1 : Nat) : Int) = 1 + (r1 : Int) by omega] at this
    exact this

theorem ok_law {P : Program} {w : World} {K : PySem.W.Frag} {mg : Str → Option Value} {base : Heap} {f : Addr} {fd : FuncData} (F : FunD K "law" "law" (defArgs s_law) (defBody s_law) (defScope s_law) [] [] f fd) (T : Tx K mg) (c__law_start : Ok P w K mg base "_law_start" 1 ps__law_start (sp__law_start K)) (c__law_draw : Ok P w K mg base "_law_draw" 1 ps__law_draw (sp__law_draw K)) (c__law_map : Ok P w K mg base "_law_map" 3 ps__law_map (sp__law_map K)) (c__law_perm : Ok P w K mg base "_law_perm" 2 ps__law_perm (sp__law_perm K)) (c__law_recast : Ok P w K mg base "_law_recast" 2 ps__law_recast (sp__law_recast K)) (c__law_renamed : Ok P w K mg base "_law_renamed" 1 ps__law_renamed (sp__law_renamed K)) (c__law_pair_right : Ok P w K mg base "_law_pair_right" 25 ps__law_pair_right (sp__law_pair_right K)) (c__law_table : Ok P w K mg base "_law_table" 2 ps__law_table (sp__law_table K)) (c__law_tree_of : Ok P w K mg base "_law_tree_of" 8 ps__law_tree_of (sp__law_tree_of K 4)) :
    FnOk P w K mg base CX0 26 f fd ps_law (sp_law K) ∧ Binds K fd ps_law [] :=
  fok_of (t := t_law K) F sc_law (len_law) (fun _ _ _ _ _ _ us hl => match us, hl with | [_], _ => rfl)
    (fun f cdv A outer s H E hr => by
      have hu := hu_of hr
      have hu65 := u65 hr
      exact (pss_cons (ps_set (i := 1) sc_law.nd rfl (Or.inr rfl) (pe_callO c__law_start hr (pa_cons (pv 0) pa_nil)))
      (pss_cons (ps_set (i := 2) sc_law.nd rfl (Or.inl rfl) (pe_op op_add pe_int (pe_callO c__law_draw hr (pa_cons (pv 1) (pa_cons pe_int pa_nil)))))
      (pss_cons (ps_if (pt_cmpR op_eq (pe_callO c__law_draw hr (pa_cons (pv 1) (pa_cons pe_int pa_nil))) pe_int (nomark _)) (pss_one (ps_set (i := 2) sc_law.nd rfl (Or.inl rfl) pe_int)) pss_nil)
      (pss_cons (ps_set (i := 3) sc_law.nd rfl (Or.inl rfl) (pe_callO c__law_map hr (pa_cons (pv 1) (pa_cons (pv 2) pa_nil))))
      (pss_cons (ps_set (i := 4) sc_law.nd rfl (Or.inr rfl) (pe_lst (pa_cons pe_str (pa_cons pe_str (pa_cons pe_str (pa_cons pe_str (pa_cons pe_str (pa_cons pe_str pa_nil))))))))
      (pss_cons (ps_set (i := 5) sc_law.nd rfl (Or.inl rfl) (pe_callTy call_tuple_of rfl T.b_tuple (by decide +kernel) (pa_cons (pe_lc (own := [("edge", 14)]) rfl sc_law.nd (pi_range1 rfl T.b_range (pa_cons (pv 2) pa_nil)) (blkOk_by (own := [("edge", 14)]) (N := N_law) (sc := defScope s_law) (by decide +kernel)) (fun _ _ _ _ _ => (pg_name (i := 14) sc_law.nd rfl (Or.inl rfl))) (fun _ _ _ _ _ => pts_nil) (fun _ _ _ _ _ => (pe_ix ix_list (pv 4) (pe_callO c__law_draw hr (pa_cons (pv 1) (pa_cons pe_int pa_nil))) (fun _ _ => rfl)))) pa_nil)))
      (pss_cons (ps_set (i := 6) sc_law.nd rfl (Or.inl rfl) (pe_callTy call_tuple_of rfl T.b_tuple (by decide +kernel) (pa_cons (pe_callO c__law_perm hr (pa_cons (pv 1) (pa_cons (pe_op op_mul pe_int (pv 2)) pa_nil))) pa_nil)))
      (pss_cons (ps_set (i := 7) sc_law.nd rfl (Or.inl rfl) (pe_callO c__law_renamed hr (pa_cons (pe_callO c__law_recast hr (pa_cons (pv 3) (pa_cons (pv 5) pa_nil))) (pa_cons (pv 6) pa_nil))))
      (pss_cons (ps_set (i := 8) sc_law.nd rfl (Or.inl rfl) (pe_tup (pa_cons pe_str (pa_cons (pv 5) (pa_cons (pv 6) pa_nil)))))
      (pss_cons (ps_if (pt_not (pt_val (pe_callO c__law_pair_right hr (pa_cons (pv 1) (pa_cons (pv 3) (pa_cons (pv 7) (pa_cons (pe_lst (pa_cons (pv 8) pa_nil)) pa_nil))))))) (pss_one (ps_ret pe_bl)) pss_nil)
      (pss_cons (ps_set (i := 9) sc_law.nd rfl (Or.inl rfl) (pe_lst (pa_cons (pe_callO c__law_map hr (pa_cons (pv 1) (pa_cons (pv 2) pa_nil))) (pa_cons (pv 7) pa_nil))))
      (pss_cons (ps_if (pt_cmpR op_eq (pe_callO c__law_draw hr (pa_cons (pv 1) (pa_cons pe_int pa_nil))) pe_int (nomark _)) (pss_one (ps_set (i := 9) sc_law.nd rfl (Or.inl rfl) (pe_lst (pa_cons (pv 3) (pa_cons (pe_ix ix_list (pv 9) pe_int (fun _ _ => rfl)) pa_nil))))) pss_nil)
      (pss_cons (ps_set (i := 10) sc_law.nd rfl (Or.inl rfl) (pe_cmpR op_eq (pe_callO c__law_draw hr (pa_cons (pv 1) (pa_cons pe_int pa_nil))) pe_int (nomark _)))
      (pss_cons (ps_set (i := 11) sc_law.nd rfl (Or.inl rfl) (pe_callO c__law_tree_of hr (pa_cons (pe_callO c__law_table hr (pa_cons (pe_ix ix_list (pv 9) pe_int (fun _ _ => rfl)) pa_nil)) (pa_cons (pe_callO c__law_table hr (pa_cons (pe_ix ix_list (pv 9) pe_int (fun _ _ => rfl)) pa_nil)) (pa_cons (pe_tup pa_nil) (pa_cons (pv 10) pa_nil))))))
      (pss_cons (ps_set (i := 12) sc_law.nd rfl (Or.inl rfl) (pe_lst (pa_cons (pv 8) pa_nil)))
      (pss_cons (ps_if (pt_cmp (pc_notN (pv 11))) (pss_one (ps_expr (pe_bm PySem.F.plainAttrs_list PySem.F.slot_list_append PySem.F.type_list_append mt_append (pv 12) (pa_cons (pv 11) pa_nil)))) pss_nil)
      (pss_cons (ps_if (pt_not (pt_val (pe_callO c__law_pair_right hr (pa_cons (pv 1) (pa_cons (pe_ix ix_list (pv 9) pe_int (fun _ _ => rfl)) (pa_cons (pe_ix ix_list (pv 9) pe_int (fun _ _ => rfl)) (pa_cons (pv 12) pa_nil))))))) (pss_one (ps_ret pe_bl)) pss_nil)
      (pss_cons (ps_set (i := 13) sc_law.nd rfl (Or.inl rfl) (pe_callO c__law_map hr (pa_cons (pv 1) (pa_cons (pe_op op_add (pv 2) pe_int) pa_nil))))
      (pss_cons (ps_if (pt_not (pt_val (pe_callO c__law_pair_right hr (pa_cons (pv 1) (pa_cons (pv 13) (pa_cons (pv 3) (pa_cons (pe_lst (pa_cons (pe_tup (pa_cons pe_str pa_nil)) pa_nil)) pa_nil))))))) (pss_one (ps_ret pe_bl)) pss_nil)
      (pss_one (ps_ret (pe_callO c__law_pair_right hr (pa_cons (pv 1) (pa_cons (pv 3) (pa_cons (pv 13) (pa_cons (pe_lst (pa_cons (pe_tup (pa_cons pe_str pa_nil)) pa_nil)) pa_nil)))))))))))))))))))))))))))
    (wp_law T)

set_option maxHeartbeats 0
/-! ## the head: what the top leaves, read off by a hook of one's own -/
section
open He
def dd_looked_count : He.DefD := ⟨("looked_count", none), "looked_count", "looked_count", defArgs s_looked_count, defBody s_looked_count, defScope s_looked_count, [], []⟩
def dd_looked_images : He.DefD := ⟨("looked_images", none), "looked_images", "looked_images", defArgs s_looked_images, defBody s_looked_images, defScope s_looked_images, [], []⟩
def dd_joined_from : He.DefD := ⟨("joined_from", none), "joined_from", "joined_from", defArgs s_joined_from, defBody s_joined_from, defScope s_joined_from, [], []⟩
def dd_first_apart : He.DefD := ⟨("first_apart", none), "first_apart", "first_apart", defArgs s_first_apart, defBody s_first_apart, defScope s_first_apart, [], []⟩
def dd_looked_turns : He.DefD := ⟨("looked_turns", none), "looked_turns", "looked_turns", defArgs s_looked_turns, defBody s_looked_turns, defScope s_looked_turns, [], []⟩
def dd_first_fold : He.DefD := ⟨("first_fold", none), "first_fold", "first_fold", defArgs s_first_fold, defBody s_first_fold, defScope s_first_fold, [], []⟩
def dd_Figure_init : He.DefD := ⟨("Figure", some "__init__"), "__init__", "Figure.__init__", defArgs s_Figure_init, defBody s_Figure_init, defScope s_Figure_init, [], []⟩
def dd_numbered_edges : He.DefD := ⟨("numbered_edges", none), "numbered_edges", "numbered_edges", defArgs s_numbered_edges, defBody s_numbered_edges, defScope s_numbered_edges, [], []⟩
def dd_turns_of : He.DefD := ⟨("turns_of", none), "turns_of", "turns_of", defArgs s_turns_of, defBody s_turns_of, defScope s_turns_of, [], []⟩
def dd_crossing_table : He.DefD := ⟨("crossing_table", none), "crossing_table", "crossing_table", defArgs s_crossing_table, defBody s_crossing_table, defScope s_crossing_table, [], []⟩
def dd_is_code : He.DefD := ⟨("is_code", none), "is_code", "is_code", defArgs s_is_code, defBody s_is_code, defScope s_is_code, [], []⟩
def dd_entries_of : He.DefD := ⟨("entries_of", none), "entries_of", "entries_of", defArgs s_entries_of, defBody s_entries_of, defScope s_entries_of, [], []⟩
def dd_so_many : He.DefD := ⟨("so_many", none), "so_many", "so_many", defArgs s_so_many, defBody s_so_many, defScope s_so_many, [], []⟩
def dd_are_numbers : He.DefD := ⟨("are_numbers", none), "are_numbers", "are_numbers", defArgs s_are_numbers, defBody s_are_numbers, defScope s_are_numbers, [], []⟩
def dd_are_roles : He.DefD := ⟨("are_roles", none), "are_roles", "are_roles", defArgs s_are_roles, defBody s_are_roles, defScope s_are_roles, [], []⟩
def dd_is_recasting : He.DefD := ⟨("is_recasting", none), "is_recasting", "is_recasting", defArgs s_is_recasting, defBody s_is_recasting, defScope s_is_recasting, [], []⟩
def dd_is_case : He.DefD := ⟨("is_case", none), "is_case", "is_case", defArgs s_is_case, defBody s_is_case, defScope s_is_case, [], []⟩
def dd_is_case_tree : He.DefD := ⟨("is_case_tree", none), "is_case_tree", "is_case_tree", defArgs s_is_case_tree, defBody s_is_case_tree, defScope s_is_case_tree, [], []⟩
def dd_judge_recasts : He.DefD := ⟨("judge_recasts", none), "judge_recasts", "judge_recasts", defArgs s_judge_recasts, defBody s_judge_recasts, defScope s_judge_recasts, [], []⟩
def dd__law_start : He.DefD := ⟨("_law_start", none), "_law_start", "_law_start", defArgs s__law_start, defBody s__law_start, defScope s__law_start, [], []⟩
def dd__law_draw : He.DefD := ⟨("_law_draw", none), "_law_draw", "_law_draw", defArgs s__law_draw, defBody s__law_draw, defScope s__law_draw, [], []⟩
def dd__law_perm : He.DefD := ⟨("_law_perm", none), "_law_perm", "_law_perm", defArgs s__law_perm, defBody s__law_perm, defScope s__law_perm, [], []⟩
def dd__law_map : He.DefD := ⟨("_law_map", none), "_law_map", "_law_map", defArgs s__law_map, defBody s__law_map, defScope s__law_map, [], []⟩
def dd__law_edges : He.DefD := ⟨("_law_edges", none), "_law_edges", "_law_edges", defArgs s__law_edges, defBody s__law_edges, defScope s__law_edges, [], []⟩
def dd__law_pairings : He.DefD := ⟨("_law_pairings", none), "_law_pairings", "_law_pairings", defArgs s__law_pairings, defBody s__law_pairings, defScope s__law_pairings, [], []⟩
def dd__law_numbers : He.DefD := ⟨("_law_numbers", none), "_law_numbers", "_law_numbers", defArgs s__law_numbers, defBody s__law_numbers, defScope s__law_numbers, [], []⟩
def dd__law_entries : He.DefD := ⟨("_law_entries", none), "_law_entries", "_law_entries", defArgs s__law_entries, defBody s__law_entries, defScope s__law_entries, [], []⟩
def dd__law_table : He.DefD := ⟨("_law_table", none), "_law_table", "_law_table", defArgs s__law_table, defBody s__law_table, defScope s__law_table, [], []⟩
def dd__law_tree_due : He.DefD := ⟨("_law_tree_due", none), "_law_tree_due", "_law_tree_due", defArgs s__law_tree_due, defBody s__law_tree_due, defScope s__law_tree_due, [], []⟩
def dd__law_recast : He.DefD := ⟨("_law_recast", none), "_law_recast", "_law_recast", defArgs s__law_recast, defBody s__law_recast, defScope s__law_recast, [], []⟩
def dd__law_renamed : He.DefD := ⟨("_law_renamed", none), "_law_renamed", "_law_renamed", defArgs s__law_renamed, defBody s__law_renamed, defScope s__law_renamed, [], []⟩
def dd__law_due : He.DefD := ⟨("_law_due", none), "_law_due", "_law_due", defArgs s__law_due, defBody s__law_due, defScope s__law_due, [], []⟩
def dd__law_tree_of : He.DefD := ⟨("_law_tree_of", none), "_law_tree_of", "_law_tree_of", defArgs s__law_tree_of, defBody s__law_tree_of, defScope s__law_tree_of, [], []⟩
def dd__law_bent : He.DefD := ⟨("_law_bent", none), "_law_bent", "_law_bent", defArgs s__law_bent, defBody s__law_bent, defScope s__law_bent, [], []⟩
def dd__law_special : He.DefD := ⟨("_law_special", none), "_law_special", "_law_special", defArgs s__law_special, defBody s__law_special, defScope s__law_special, [], []⟩
def dd__law_doubled : He.DefD := ⟨("_law_doubled", none), "_law_doubled", "_law_doubled", defArgs s__law_doubled, defBody s__law_doubled, defScope s__law_doubled, [], []⟩
def dd__law_pair_right : He.DefD := ⟨("_law_pair_right", none), "_law_pair_right", "_law_pair_right", defArgs s__law_pair_right, defBody s__law_pair_right, defScope s__law_pair_right, [], []⟩
def dd_law : He.DefD := ⟨("law", none), "law", "law", defArgs s_law, defBody s_law, defScope s_law, [], []⟩
def hdFn0 : List He.DefD := [dd_looked_count, dd_looked_images, dd_joined_from, dd_first_apart, dd_looked_turns, dd_first_fold, dd_Figure_init, dd_numbered_edges, dd_turns_of, dd_crossing_table, dd_is_code, dd_entries_of, dd_so_many, dd_are_numbers, dd_are_roles, dd_is_recasting, dd_is_case, dd_is_case_tree, dd_judge_recasts, dd__law_start]
def hdFn1 : List He.DefD := [dd__law_draw, dd__law_perm, dd__law_map, dd__law_edges, dd__law_pairings, dd__law_numbers, dd__law_entries, dd__law_table, dd__law_tree_due, dd__law_recast, dd__law_renamed, dd__law_due, dd__law_tree_of, dd__law_bent, dd__law_special, dd__law_doubled, dd__law_pair_right, dd_law]
def hdFn : List He.DefD := hdFn0 ++ hdFn1
def hdFa0 : List He.Fa := [.free "len", .free "range", .free "enumerate", .free "abs", .free "max", .free "int", .free "isinstance", .free "tuple", .free "list", .free "str", .free "set", .free "all", .free "repr", .free "super", .int "MOST_FLAGS" 240, .int "MOST_STEPS" 1000, .str "STEPS" "0123", .glo "ROLES", .glo "Map", .cls "Map"]
def hdFa1 : List He.Fa := [.mkr "Map", .noat "Map" "zero", .noat "Map" "one", .noat "Map" "two", .noat "Map" "flags", .noat "Map" "edge_count", .noat "Map" "edge_numbers", .glo "looked_count", .glo "looked_images", .glo "joined_from", .glo "first_apart", .glo "looked_turns", .glo "first_fold", .glo "numbered_edges", .glo "turns_of", .glo "crossing_table", .glo "is_code", .glo "entries_of", .glo "so_many", .glo "are_numbers"]
def hdFa2 : List He.Fa := [.glo "are_roles", .glo "is_recasting", .glo "is_case", .glo "is_case_tree", .glo "judge_recasts", .glo "_law_start", .glo "_law_draw", .glo "_law_perm", .glo "_law_map", .glo "_law_edges", .glo "_law_pairings", .glo "_law_numbers", .glo "_law_entries", .glo "_law_table", .glo "_law_tree_due", .glo "_law_recast", .glo "_law_renamed", .glo "_law_due", .glo "_law_tree_of", .glo "_law_bent"]
def hdFa3 : List He.Fa := [.glo "_law_special", .glo "_law_doubled", .glo "_law_pair_right", .glo "law"]
def hdFa : List He.Fa := hdFa0 ++ hdFa1 ++ hdFa2 ++ hdFa3
def hdNames0 : List PySem.Str := ["_wall", "TurnmapsError", "SizeError", "NumberError", "FlagError", "ApartError", "TurnError", "PairError", "FoldError", "looked_size", "looked_count", "ROLES", "joined_from", "first_apart", "MOST_FLAGS", "looked_flag", "looked_images", "looked_turns", "first_fold", "Figure"]
def hdNames1 : List PySem.Str := ["turns_of", "Map", "numbered_edges", "crossing_table", "STEPS", "MOST_STEPS", "is_code", "entries_of", "so_many", "are_numbers", "are_roles", "is_recasting", "is_case", "is_case_tree", "judge_recasts", "_law_start", "_law_draw", "_law_perm", "_law_map", "_law_edges"]
def hdNames2 : List PySem.Str := ["_law_pairings", "_law_numbers", "_law_entries", "_law_table", "_law_tree_due", "_law_recast", "_law_renamed", "_law_due", "_law_tree_of", "_law_bent", "_law_special", "_law_doubled", "_law_pair_right"]
def hdNames : List PySem.Str := hdNames0 ++ hdNames1 ++ hdNames2
def hdRoles : List He.Dv := [.str "023", .str "032", .str "203", .str "230", .str "302", .str "320"]
abbrev hdP : Program := (PySem.Challenge.rw_turnmaps_k94_recast_papers_judged).prog
/-- Map.__init__, its class cell, its code -/
def mInit (K : PySem.W.Frag) : Addr := He.ma K (He.ga K "Map") "__init__"
def mBase (K : PySem.W.Frag) : Addr := He.ma K (He.ga K "Figure") "__init__"
def mCell (K : PySem.W.Frag) : Addr := match K.lookup (mInit K) with
  | some ⟨_, _, .func fd, _⟩ => (match fd.closure with
    | [(_, c)] => c
    | _ => 0)
  | _ => 0
def mCode (K : PySem.W.Frag) : Addr := match K.lookup (mInit K) with
  | some ⟨_, _, .func fd, _⟩ => (match fd.code with
    | .ref c => c
    | _ => 0)
  | _ => 0
abbrev FnM : Type := Option (Str × Str × Arguments × FuncBody × Scope × Addr × Value × Value × Addr)
def mObs (K : PySem.W.Frag) : FnM := match K.lookup (mInit K) with
  | some ⟨_, _, .func fd, _⟩ => some (fd.name, fd.qualname, fd.params, fd.body, fd.scope, fd.globals, fd.defaults, fd.kwdefaults, fd.builtins)
  | _ => none
def mVal : FnM := some ("__init__", "Map.__init__", defArgs s_Map_init, .stmts (defBody s_Map_init), defScope s_Map_init, mainGlobals, .none, .none, builtinsNs)
def b1 (K : PySem.W.Frag) : Bool := match K.lookup (mInit K) with
  | some ⟨_, _, .func fd, _⟩ => decide (fd.closure = [(("__class__" : Str), mCell K)]) && decide (fd.code = .ref (mCode K))
  | _ => false
def b2 (K : PySem.W.Frag) : Bool := match K.lookup (mCell K) with
  | some ⟨_, _, .cell (some (.ref D)), _⟩ => decide (D = He.ga K "Map")
  | _ => false
def b3 (K : PySem.W.Frag) : Bool := match K.lookup (mCode K) with
  | some ⟨_, _, .fields cvs, _⟩ => (match (cvs[2]? : Option Value) with
    | some (.str file _) => (hdP.main.file : Str) == file
    | _ => false)
  | _ => false
def supB (K : PySem.W.Frag) : Bool := b1 K && (b2 K && (b3 K && (PySem.W.codeIn K (.ref (mCode K)) "Map.__init__" && ((PySem.W.clsIn K (He.ga K "Map")).isSome && (decide (PySem.W.mroIn K (He.ga K "Map") (.ref (He.ga K "Map")) = some true) &&
  (He.eqO (PySem.W.ks_superIn K (He.ga K "Map") (He.ga K "Map") "__init__") (some (some (.ref (mBase K)))) && (decide (PySem.W.typeIn K (.ref (mBase K)) = some (.type "function")) && (PySem.W.fnIn K (mBase K) &&
  (He.eqO (PySem.W.nsIn K cStatics "thirdparty.any") (some none) && He.tupB K "ROLES" hdRoles)))))))))
abbrev AlM : Type := He.AlD × Bool × FnM
def hObs (K : PySem.W.Frag) : AlM := (He.obsD hdFa hdFn K, supB K, mObs K)
def hVal : AlM := (He.valD hdFn, true, mVal)
def SaysM (K : PySem.W.Frag) : Prop := hObs K = hVal
def hObsG (g : Addr → Option Obj) : AlM := hObs (He.frG g (He.asD g 6 ++ [cStatics]))
def hk : PySem.W.Hook where
  α := AlM
  obs := fun s => hObsG s.heap.get?
  val := fun _ => hVal
  says := fun _ h => ∃ K : PySem.W.Frag, K.In h ∧ SaysM K
  of := fun _ _ e => ⟨_, He.frG_in, e⟩
  keeps := fun _ _ _ ⟨K, hK, c⟩ k => ⟨K, PySem.W.Frag.In.keeps hK k, c⟩
theorem hObsG_eq {g : Addr → Option Obj} {s : Shared} (h : ∀ a, g a = s.heap.get? a) : hObsG g = hk.obs s := by
  have e : g = s.heap.get? := funext h
  rw [e] <;> rfl
abbrev hdR : PySem.W.OpenRow := PySem.W.OpenLaw.row PySem.Challenge.rw_turnmaps_k94_recast_papers_judged
def hdOb (s : PySem.W.SharedT) : AlM := hObsG (HandSHeadRun.getT s)
theorem hdOb_eq (s : PySem.W.SharedT) : hdOb s = hk.obs s.abs := hObsG_eq (HandSHeadRun.getT_eq s)
theorem hd_run (w : World) : HandSHeadRun.RunEq hdR (PySem.W.view hdR.prog [61]) hk hdOb 30000 hdNames w := by
  intro os
  kernel_rfl
theorem ba2 {a b : Bool} (h : (a && b) = true) : a = true ∧ b = true := Bool.and_eq_true_iff.mp h
/-- what super().__init__ asks of the written part -/
theorem sup_of {K : PySem.W.Frag} {mg : Str → Option Value} (hs : supB K = true) (hm : mObs K = mVal) (hsup : mg "super" = none) :
    ∃ fd, SupTxt hdP K mg (nf_Map_init (mCell K) (mCode K)) (mInit K) (mCell K) (He.ga K "Map") (He.ga K "Map") (mBase K) fd "self" ∧ Binds K fd ps_Map_init [] := by
  unfold supB at hs
  obtain ⟨c1, hs⟩ := ba2 hs
  obtain ⟨c2, hs⟩ := ba2 hs
  obtain ⟨c3, hs⟩ := ba2 hs
  obtain ⟨c4, hs⟩ := ba2 hs
  obtain ⟨c5, hs⟩ := ba2 hs
  obtain ⟨c6, hs⟩ := ba2 hs
  obtain ⟨c7, hs⟩ := ba2 hs
  obtain ⟨c8, hs⟩ := ba2 hs
  obtain ⟨c9, hs⟩ := ba2 hs
  obtain ⟨c10, hs⟩ := ba2 hs
  unfold b1 at c1
  unfold mObs at hm
  cases q : K.lookup (mInit K) with
  | none => rw [q] at c1; cases c1
  | some o =>
    obtain ⟨oc, od, dt, osl⟩ := o
    rw [q] at c1 hm
    cases dt with
    | func fd =>
      obtain ⟨n1, n2, n3, n4, n5, n6, n7, n8, n9, n10, n11, n12, n13, n14, n15⟩ := fd
      have e2 : (some (n1, n2, n3, n4, n5, n6, n8, n9, n15) : FnM) = some (("__init__" : Str), ("Map.__init__" : Str), defArgs s_Map_init, FuncBody.stmts (defBody s_Map_init), defScope s_Map_init, mainGlobals, Value.none, Value.none, builtinsNs) := hm
      simp only [Option.some.injEq, Prod.mk.injEq] at e2
      obtain ⟨h1, h2, h3, h4, h5, h6, h7, h8, h9⟩ := e2
      have c1' : (decide (n7 = [(("__class__" : Str), mCell K)]) && decide (n13 = .ref (mCode K))) = true := c1
      obtain ⟨k1, k2⟩ := ba2 c1'
      have k1 := of_decide_eq_true k1
      have k2 := of_decide_eq_true k2
      subst h1 h2 h3 h4 h5 h6 h7 h8 h9 k1 k2
      refine ⟨_, ⟨rfl, ⟨oc, od, osl, n10, n11, n12, n14, rfl, q⟩, c4, ?_, ?_, ⟨_, rfl, rfl⟩, ?_, ?_, of_decide_eq_true c6, He.eqO_ok c7, of_decide_eq_true c8, c9, He.eqO_ok c10, hsup, by kernel_rfl, by show (defScope s_Map_init).names.lookup ("super" : Str) = some .globalImplicit; decide +kernel, by show (defScope s_Map_init).names.lookup ("__class__" : Str) = some .free; decide +kernel⟩, .all fun us hl => match us, hl with | [_, _, _, _], _ => rfl⟩
      · unfold b2 at c2
        cases q2 : K.lookup (mCell K) with
        | none => rw [q2] at c2; cases c2
        | some o2 =>
          obtain ⟨oc2, od2, dt2, osl2⟩ := o2
          rw [q2] at c2
          cases dt2 with
          | cell v =>
            cases v with
            | none => cases c2
            | some v =>
              cases v with
              | ref D =>
                have e : D = He.ga K "Map" := of_decide_eq_true c2
                subst e
                exact ⟨_, _, _, rfl⟩
              | _ => cases c2
          | _ => cases c2
      · unfold b3 at c3
        cases q2 : K.lookup (mCode K) with
        | none => rw [q2] at c3; cases c3
        | some o2 =>
          obtain ⟨oc2, od2, dt2, osl2⟩ := o2
          rw [q2] at c3
          cases dt2 with
          | fields cvs =>
            have c3' : (match (cvs[2]? : Option Value) with
              | some (.str file _) => (hdP.main.file : Str) == file
              | _ => false) = true := c3
            cases q3 : cvs[2]? with
            | none => rw [q3] at c3'; cases c3'
            | some v =>
              rw [q3] at c3'
              cases v with
              | str file tf => exact ⟨_, _, cvs, _, file, tf, rfl, q3, c3'⟩
              | _ => cases c3'
          | _ => cases c3
      · exact Option.isSome_iff_exists.mp c5
      · exact Option.isSome_iff_exists.mp c5
    | _ => cases c1
theorem facts {w : World} {K : PySem.W.Frag} {h : Heap} {mg : Str → Option Value} {f : Addr} (X : K.In h) (G : h.Ns mainGlobals mg) (hfa : mg ("law" : Str) = some (.ref f)) (cc : SaysM K) :
    ∃ fd : FuncData, (∀ (s : Shared) (v : Value), BindsTo s fd ⟨[v], []⟩ [("script", v)]) ∧ ∀ base : Heap, K.In base → base.Ns mainGlobals mg → FnOk hdP w K mg base CX0 26 f fd ["script"] (sp_law K) := by
  have c : He.SaysD hdFa hdFn K := congrArg (fun z : AlM => z.1) cc
  have hs : supB K = true := congrArg (fun z : AlM => z.2.1) cc
  have hm : mObs K = mVal := congrArg (fun z : AlM => z.2.2) cc
  have hroles : He.tupB K "ROLES" hdRoles = true := by
    unfold supB at hs
    exact (ba2 (ba2 (ba2 (ba2 (ba2 (ba2 (ba2 (ba2 (ba2 (ba2 hs).2).2).2).2).2).2).2).2).2).2
  have T : Tx K mg := ⟨He.free_ok X G (c.fact 0 (f := .free "len") rfl), He.free_ok X G (c.fact 1 (f := .free "range") rfl), He.free_ok X G (c.fact 2 (f := .free "enumerate") rfl), He.free_ok X G (c.fact 3 (f := .free "abs") rfl), He.free_ok X G (c.fact 4 (f := .free "max") rfl), He.free_ok X G (c.fact 5 (f := .free "int") rfl), He.free_ok X G (c.fact 6 (f := .free "isinstance") rfl), He.free_ok X G (c.fact 7 (f := .free "tuple") rfl), He.free_ok X G (c.fact 8 (f := .free "list") rfl), He.free_ok X G (c.fact 9 (f := .free "str") rfl), He.free_ok X G (c.fact 10 (f := .free "set") rfl), He.free_ok X G (c.fact 11 (f := .free "all") rfl), He.free_ok X G (c.fact 12 (f := .free "repr") rfl), He.int_ok X G (c.fact 14 (f := .int "MOST_FLAGS" 240) rfl), He.int_ok X G (c.fact 15 (f := .int "MOST_STEPS" 1000) rfl), He.str_ok X G (c.fact 16 (f := .str "STEPS" "0123") rfl), He.glo_ok X G (c.fact 17 (f := .glo "ROLES") rfl), He.cls_ok (c.fact 19 (f := .cls "Map") rfl), He.noat_ok (c.fact 21 (f := .noat "Map" "zero") rfl), He.noat_ok (c.fact 22 (f := .noat "Map" "one") rfl), He.noat_ok (c.fact 23 (f := .noat "Map" "two") rfl), He.noat_ok (c.fact 24 (f := .noat "Map" "flags") rfl), He.noat_ok (c.fact 25 (f := .noat "Map" "edge_count") rfl), He.noat_ok (c.fact 26 (f := .noat "Map" "edge_numbers") rfl), fun H => He.tupB_ok hroles H⟩
  have hsup : mg "super" = none := He.free_ok X G (c.fact 13 (f := .free "super") rfl)
  have F_looked_count : FnP K mg "looked_count" s_looked_count := ⟨c.def_ 0 (d := dd_looked_count) rfl, He.glo_ok X G (c.fact 27 (f := .glo "looked_count") rfl)⟩
  have F_looked_images : FnP K mg "looked_images" s_looked_images := ⟨c.def_ 1 (d := dd_looked_images) rfl, He.glo_ok X G (c.fact 28 (f := .glo "looked_images") rfl)⟩
  have F_joined_from : FnP K mg "joined_from" s_joined_from := ⟨c.def_ 2 (d := dd_joined_from) rfl, He.glo_ok X G (c.fact 29 (f := .glo "joined_from") rfl)⟩
  have F_first_apart : FnP K mg "first_apart" s_first_apart := ⟨c.def_ 3 (d := dd_first_apart) rfl, He.glo_ok X G (c.fact 30 (f := .glo "first_apart") rfl)⟩
  have F_looked_turns : FnP K mg "looked_turns" s_looked_turns := ⟨c.def_ 4 (d := dd_looked_turns) rfl, He.glo_ok X G (c.fact 31 (f := .glo "looked_turns") rfl)⟩
  have F_first_fold : FnP K mg "first_fold" s_first_fold := ⟨c.def_ 5 (d := dd_first_fold) rfl, He.glo_ok X G (c.fact 32 (f := .glo "first_fold") rfl)⟩
  have F_numbered_edges : FnP K mg "numbered_edges" s_numbered_edges := ⟨c.def_ 7 (d := dd_numbered_edges) rfl, He.glo_ok X G (c.fact 33 (f := .glo "numbered_edges") rfl)⟩
  have F_turns_of : FnP K mg "turns_of" s_turns_of := ⟨c.def_ 8 (d := dd_turns_of) rfl, He.glo_ok X G (c.fact 34 (f := .glo "turns_of") rfl)⟩
  have F_crossing_table : FnP K mg "crossing_table" s_crossing_table := ⟨c.def_ 9 (d := dd_crossing_table) rfl, He.glo_ok X G (c.fact 35 (f := .glo "crossing_table") rfl)⟩
  have F_is_code : FnP K mg "is_code" s_is_code := ⟨c.def_ 10 (d := dd_is_code) rfl, He.glo_ok X G (c.fact 36 (f := .glo "is_code") rfl)⟩
  have F_entries_of : FnP K mg "entries_of" s_entries_of := ⟨c.def_ 11 (d := dd_entries_of) rfl, He.glo_ok X G (c.fact 37 (f := .glo "entries_of") rfl)⟩
  have F_so_many : FnP K mg "so_many" s_so_many := ⟨c.def_ 12 (d := dd_so_many) rfl, He.glo_ok X G (c.fact 38 (f := .glo "so_many") rfl)⟩
  have F_are_numbers : FnP K mg "are_numbers" s_are_numbers := ⟨c.def_ 13 (d := dd_are_numbers) rfl, He.glo_ok X G (c.fact 39 (f := .glo "are_numbers") rfl)⟩
  have F_are_roles : FnP K mg "are_roles" s_are_roles := ⟨c.def_ 14 (d := dd_are_roles) rfl, He.glo_ok X G (c.fact 40 (f := .glo "are_roles") rfl)⟩
  have F_is_recasting : FnP K mg "is_recasting" s_is_recasting := ⟨c.def_ 15 (d := dd_is_recasting) rfl, He.glo_ok X G (c.fact 41 (f := .glo "is_recasting") rfl)⟩
  have F_is_case : FnP K mg "is_case" s_is_case := ⟨c.def_ 16 (d := dd_is_case) rfl, He.glo_ok X G (c.fact 42 (f := .glo "is_case") rfl)⟩
  have F_is_case_tree : FnP K mg "is_case_tree" s_is_case_tree := ⟨c.def_ 17 (d := dd_is_case_tree) rfl, He.glo_ok X G (c.fact 43 (f := .glo "is_case_tree") rfl)⟩
  have F_judge_recasts : FnP K mg "judge_recasts" s_judge_recasts := ⟨c.def_ 18 (d := dd_judge_recasts) rfl, He.glo_ok X G (c.fact 44 (f := .glo "judge_recasts") rfl)⟩
  have F__law_start : FnP K mg "_law_start" s__law_start := ⟨c.def_ 19 (d := dd__law_start) rfl, He.glo_ok X G (c.fact 45 (f := .glo "_law_start") rfl)⟩
  have F__law_draw : FnP K mg "_law_draw" s__law_draw := ⟨c.def_ 20 (d := dd__law_draw) rfl, He.glo_ok X G (c.fact 46 (f := .glo "_law_draw") rfl)⟩
  have F__law_perm : FnP K mg "_law_perm" s__law_perm := ⟨c.def_ 21 (d := dd__law_perm) rfl, He.glo_ok X G (c.fact 47 (f := .glo "_law_perm") rfl)⟩
  have F__law_map : FnP K mg "_law_map" s__law_map := ⟨c.def_ 22 (d := dd__law_map) rfl, He.glo_ok X G (c.fact 48 (f := .glo "_law_map") rfl)⟩
  have F__law_edges : FnP K mg "_law_edges" s__law_edges := ⟨c.def_ 23 (d := dd__law_edges) rfl, He.glo_ok X G (c.fact 49 (f := .glo "_law_edges") rfl)⟩
  have F__law_pairings : FnP K mg "_law_pairings" s__law_pairings := ⟨c.def_ 24 (d := dd__law_pairings) rfl, He.glo_ok X G (c.fact 50 (f := .glo "_law_pairings") rfl)⟩
  have F__law_numbers : FnP K mg "_law_numbers" s__law_numbers := ⟨c.def_ 25 (d := dd__law_numbers) rfl, He.glo_ok X G (c.fact 51 (f := .glo "_law_numbers") rfl)⟩
  have F__law_entries : FnP K mg "_law_entries" s__law_entries := ⟨c.def_ 26 (d := dd__law_entries) rfl, He.glo_ok X G (c.fact 52 (f := .glo "_law_entries") rfl)⟩
  have F__law_table : FnP K mg "_law_table" s__law_table := ⟨c.def_ 27 (d := dd__law_table) rfl, He.glo_ok X G (c.fact 53 (f := .glo "_law_table") rfl)⟩
  have F__law_tree_due : FnP K mg "_law_tree_due" s__law_tree_due := ⟨c.def_ 28 (d := dd__law_tree_due) rfl, He.glo_ok X G (c.fact 54 (f := .glo "_law_tree_due") rfl)⟩
  have F__law_recast : FnP K mg "_law_recast" s__law_recast := ⟨c.def_ 29 (d := dd__law_recast) rfl, He.glo_ok X G (c.fact 55 (f := .glo "_law_recast") rfl)⟩
  have F__law_renamed : FnP K mg "_law_renamed" s__law_renamed := ⟨c.def_ 30 (d := dd__law_renamed) rfl, He.glo_ok X G (c.fact 56 (f := .glo "_law_renamed") rfl)⟩
  have F__law_due : FnP K mg "_law_due" s__law_due := ⟨c.def_ 31 (d := dd__law_due) rfl, He.glo_ok X G (c.fact 57 (f := .glo "_law_due") rfl)⟩
  have F__law_tree_of : FnP K mg "_law_tree_of" s__law_tree_of := ⟨c.def_ 32 (d := dd__law_tree_of) rfl, He.glo_ok X G (c.fact 58 (f := .glo "_law_tree_of") rfl)⟩
  have F__law_bent : FnP K mg "_law_bent" s__law_bent := ⟨c.def_ 33 (d := dd__law_bent) rfl, He.glo_ok X G (c.fact 59 (f := .glo "_law_bent") rfl)⟩
  have F__law_special : FnP K mg "_law_special" s__law_special := ⟨c.def_ 34 (d := dd__law_special) rfl, He.glo_ok X G (c.fact 60 (f := .glo "_law_special") rfl)⟩
  have F__law_doubled : FnP K mg "_law_doubled" s__law_doubled := ⟨c.def_ 35 (d := dd__law_doubled) rfl, He.glo_ok X G (c.fact 61 (f := .glo "_law_doubled") rfl)⟩
  have F__law_pair_right : FnP K mg "_law_pair_right" s__law_pair_right := ⟨c.def_ 36 (d := dd__law_pair_right) rfl, He.glo_ok X G (c.fact 62 (f := .glo "_law_pair_right") rfl)⟩
  obtain ⟨fdF, F_Figure_init⟩ := c.def_ 6 (d := dd_Figure_init) rfl
  obtain ⟨fd, F_law⟩ := c.def_ 37 (d := dd_law) rfl
  obtain ⟨fdM, TS, bM⟩ := sup_of hs hm hsup
  have e := hfa.symm.trans (He.glo_ok X G (c.fact 63 (f := .glo "law") rfl))
  cases e
  have b := FunD.bindsA (ps := ["script"]) F_law fun _ _ _ _ _ _ us hl => match us, hl with | [_], _ => rfl
  refine ⟨fd, fun s v => b s [v] rfl, fun base _ _ => ?_⟩
  have none_ : ∀ {x : Str} {st : Stmt} {ps : List Str} {k : Nat} (F : FnP K mg x st) (hb : ∀ (kV doc pm : Value) (an : Option Addr) (cdv ct : Value) (us : List Value), us.length = ps.length → bindArgs (PySem.W.fnOf x x (defArgs st) (defBody st) (defScope st) .none kV doc pm an cdv ct) ⟨us, []⟩ = pure (ps.zip us)), Ok hdP w K mg base x k ps (fun _ _ _ _ => False) := fun F hb => ok_none F hb
  have o_looked_count := ok_looked_count (P := hdP) (w := w) (base := base) F_looked_count T 
  have o_looked_images := ok_looked_images (P := hdP) (w := w) (base := base) F_looked_images T 
  have o_joined_from := ok_joined_from (P := hdP) (w := w) (base := base) F_joined_from T 
  have o_first_apart := ok_first_apart (P := hdP) (w := w) (base := base) F_first_apart T o_joined_from
  have o_looked_turns := ok_looked_turns (P := hdP) (w := w) (base := base) F_looked_turns T o_first_apart
  have o_first_fold := ok_first_fold (P := hdP) (w := w) (base := base) F_first_fold T 
  have o_Figure_init := ok_Figure_init (P := hdP) (w := w) (base := base) F_Figure_init T o_looked_count o_looked_images o_looked_turns
  have o_numbered_edges := ok_numbered_edges (P := hdP) (w := w) (base := base) F_numbered_edges T 
  have o_Map := ok_Map_init (P := hdP) (w := w) (base := base) TS bM (He.mkr_ok (c.fact 20 (f := .mkr "Map") rfl)) (He.glo_ok X G (c.fact 18 (f := .glo "Map") rfl)) o_Figure_init T o_first_fold o_numbered_edges
  have o_turns_of := ok_turns_of (P := hdP) (w := w) (base := base) F_turns_of T 
  have o_crossing_table := ok_crossing_table (P := hdP) (w := w) (base := base) F_crossing_table T 
  have o_is_code := ok_is_code (P := hdP) (w := w) (base := base) F_is_code T 
  have o_entries_of := ok_entries_of (P := hdP) (w := w) (base := base) F_entries_of T 
  have o_so_many := ok_so_many (P := hdP) (w := w) (base := base) F_so_many T o_entries_of
  have o_are_numbers := ok_are_numbers (P := hdP) (w := w) (base := base) F_are_numbers T 
  have o_are_roles := ok_are_roles (P := hdP) (w := w) (base := base) F_are_roles T o_is_code
  have o_is_recasting := ok_is_recasting (P := hdP) (w := w) (base := base) F_is_recasting T o_are_roles o_are_numbers o_turns_of
  have o_rec : ∀ f, Ok hdP w K mg base "is_case_tree" (2 * f + 3) ps_is_case_tree (spv_is_case_tree K f) := by
    intro f
    induction f with
    | zero => exact none_ F_is_case_tree (fun _ _ _ _ _ _ us hl => match us, hl with | [_, _, _, _], _ => rfl)
    | succ f ih => exact ok_is_case_tree f F_is_case_tree T o_so_many (ok_is_case f F_is_case T o_so_many o_are_numbers ih)
  have o_is_case_tree : Ok hdP w K mg base "is_case_tree" 13 ps_is_case_tree (sp_is_case_tree K 4) := o_rec 5
  have o_judge_recasts := ok_judge_recasts (P := hdP) (w := w) (base := base) F_judge_recasts T o_so_many o_is_recasting o_crossing_table o_is_case_tree
  have o__law_start := ok__law_start (P := hdP) (w := w) (base := base) F__law_start T 
  have o__law_draw := ok__law_draw (P := hdP) (w := w) (base := base) F__law_draw T 
  have o__law_perm := ok__law_perm (P := hdP) (w := w) (base := base) F__law_perm T o__law_draw
  have o__law_map := ok__law_map (P := hdP) (w := w) (base := base) F__law_map T o__law_draw o__law_perm
  have o__law_edges := ok__law_edges (P := hdP) (w := w) (base := base) F__law_edges T 
  have o__law_pairings := ok__law_pairings (P := hdP) (w := w) (base := base) F__law_pairings T 
  have o__law_numbers := ok__law_numbers (P := hdP) (w := w) (base := base) F__law_numbers T 
  have o__law_entries := ok__law_entries (P := hdP) (w := w) (base := base) F__law_entries T 
  have o__law_table := ok__law_table (P := hdP) (w := w) (base := base) F__law_table T o__law_edges
  have r__law_tree_due : ∀ f, Ok hdP w K mg base "_law_tree_due" (f + 3) ps__law_tree_due (spv__law_tree_due K f) := by
    intro f
    induction f with
    | zero => exact none_ F__law_tree_due (fun _ _ _ _ _ _ us hl => match us, hl with | [_, _, _, _], _ => rfl)
    | succ f ih => exact ok__law_tree_due f F__law_tree_due T o__law_entries o__law_numbers ih
  have o__law_tree_due : Ok hdP w K mg base "_law_tree_due" 8 ps__law_tree_due (sp__law_tree_due K 4) := r__law_tree_due 5
  have o__law_recast := ok__law_recast (P := hdP) (w := w) (base := base) F__law_recast T o__law_edges o__law_pairings
  have o__law_renamed := ok__law_renamed (P := hdP) (w := w) (base := base) F__law_renamed T 
  have o__law_due := ok__law_due (P := hdP) (w := w) (base := base) F__law_due T o__law_tree_due o__law_entries o__law_numbers o__law_recast o__law_renamed
  have r__law_tree_of : ∀ f, Ok hdP w K mg base "_law_tree_of" (f + 3) ps__law_tree_of (spv__law_tree_of K f) := by
    intro f
    induction f with
    | zero => exact none_ F__law_tree_of (fun _ _ _ _ _ _ us hl => match us, hl with | [_, _, _, _], _ => rfl)
    | succ f ih => exact ok__law_tree_of f F__law_tree_of T ih
  have o__law_tree_of : Ok hdP w K mg base "_law_tree_of" 8 ps__law_tree_of (sp__law_tree_of K 4) := r__law_tree_of 5
  have r__law_bent : ∀ k, Ok hdP w K mg base "_law_bent" (k + 3) ps__law_bent (spv__law_bent K 200 k) := by
    intro k
    induction k with
    | zero => exact none_ F__law_bent (fun _ _ _ _ _ _ us hl => match us, hl with | [_, _], _ => rfl)
    | succ k ih => exact ok__law_bent 200 k F__law_bent T o__law_draw ih
  have o__law_bent : Ok hdP w K mg base "_law_bent" 14 ps__law_bent (sp__law_bent K 200 10) := r__law_bent 11
  have o__law_special := ok__law_special (P := hdP) (w := w) (base := base) F__law_special T o__law_draw
  have o__law_doubled := ok__law_doubled (P := hdP) (w := w) (base := base) F__law_doubled T o__law_tree_of
  have o__law_pair_right := ok__law_pair_right (P := hdP) (w := w) (base := base) F__law_pair_right T o_Map o__law_table o__law_special o__law_doubled o__law_bent o__law_due o_judge_recasts
  exact (ok_law (P := hdP) (w := w) (base := base) F_law T o__law_start o__law_draw o__law_map o__law_perm o__law_recast o__law_renamed o__law_pair_right o__law_table o__law_tree_of).1
end
end Tm
open PySem PySem.W PySem.Calls PyProof.Rows
theorem PySem.Challenge.cw_turnmaps_k94_recast_papers_judged_holds : PySem.Challenge.rw_turnmaps_k94_recast_papers_judged.Holds := by
  w_on; o_law
  refine HandSHeadRun.head_any (r := OpenLaw.row PySem.Challenge.rw_turnmaps_k94_recast_papers_judged) (q := view (OpenLaw.row PySem.Challenge.rw_turnmaps_k94_recast_papers_judged).prog [61]) (H := Tm.hk) (ob := Tm.hdOb) (M := 30000) (loose := Tm.hdNames) (d := HandSHeadRun.topDef (OpenLaw.row PySem.Challenge.rw_turnmaps_k94_recast_papers_judged).prog 61) (kwd := []) Tm.hdOb_eq
    (by kernel_rfl) (fun s => by kernel_rfl) Tm.hd_run (by kernel_rfl) (by kernel_rfl) (by kernel_rfl) (by rfl) (by first | assumption | decide +kernel) (by decide +kernel) ⟨rfl, rfl, rfl, rfl, rfl, by decide +kernel⟩ ?hw ?hc
  case hw => w_witness2
  case hc =>
    refine L2.walk_ofE (l := PySem.Challenge.rw_turnmaps_k94_recast_papers_judged) (n := 63) (k := 26) (x := "script") (CX := L2.CX0) rfl (by decide) (by kernel_rfl) ⟨rfl, by decide, by decide⟩ ?F (fun _ _ _ _ z => z)
    intro w mg fa h Y G hmg0
    obtain ⟨K, KX, c⟩ := Y
    have hmg : mg ("law" : PySem.Str) = some (.ref fa) := by
      have e : (HandSHeadRun.topDef (OpenLaw.row PySem.Challenge.rw_turnmaps_k94_recast_papers_judged).prog 61).name = ("law" : PySem.Str) := by kernel_rfl
      rw [← e]
      exact hmg0
    obtain ⟨fd, hb, hF⟩ := Tm.facts (w := w) KX G hmg c
    exact ⟨K, fd, Tm.sp_law K, KX, hb, fun H a ns hl _ hS => ⟨a, ns, rfl, hS, fun _ => rfl⟩, hF⟩
