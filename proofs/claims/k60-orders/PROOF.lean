import PyProof.Rows.All
import Wide.All
import OpenK.AllK
import Wide.FinOn
import PyProof.EqAt
import PyProof.EqKinds
import PyProof.TupleCall
import PyProof.TupleOfSeq
import PyProof.Rows.SortShell
import PyProof.Draws
import PyProof.EnumMake
import KE.KSortTup
import KE.GoesMore
import KE.GoesEnum
import HandS.ForMost
import HandS.Sort
import HandS.SortOrd
import HandS.SortRule
import HandS.SortInts
import HandS.SetFor
import HandS.Strs
import HandS.IsInst
import HandS.Conv
import HandS.TupAny
import HandS.Evl
import HandS.More
import PySem.Challenge.RW_sharewell_k60_whole_orders_of_jobs
set_option Elab.async false
set_option linter.all false
set_option maxRecDepth 100000
set_option maxHeartbeats 4000000
/-! Three rules that the layer has of lists alone, for tuples: sorted, set, enumerate. -/
namespace KX
open PySem PySem.Spec PyProof.Rows L2

/-! ### sorted of a tuple of whole numbers: what it gathers is laid as a list, and that list is sorted -/
theorem run_sortedT {P : Program} {w : World} {A : Around} {E : Value → Shared → Prop} {s : Shared} {a : Addr} {us : List Value} {ns : List Int} {Q : Value → Shared → Prop} (ht : s.heap.IsTuple a us.toArray) (hn : IntsAre us ns) (room : us.length ≤ sizeLine)
    (hq : ∀ (g g2 : Heap) (out : List Value) (e : Nat), (∀ b o, s.heap.get? b = some o → g.get? b = some o) → (∀ b o, g.get? b = some o → g2.get? b = some o) → g2.get? g.objs.size = some (seqObj "list" out.toArray e) →
      (IntsAre out (out.map SrtO.iv) ∧ (out.map SrtO.iv).Perm ns ∧ (out.map SrtO.iv).Pairwise (· ≤ ·)) → Q (.ref g.objs.size) { s with heap := g2 }) : wpAny (model P w) A (call (.builtin "sorted") [.ref a]) Q E s := by
  obtain ⟨o, ho, cls, n, dat⟩ := ht
  apply Calls.call_function_entry kind_sorted plain_sorted entry_sorted (args_sorted1 _)
  unfold Builtin.«sorted»
  apply wpAny_bind (m := checkCount "sorted" 1 1 _)
  apply wpAny_pure
  apply wpAny_bind
  refine wpAny_collect_seq a (.inr rfl) ho cls dat (fun g keep => ?_) (by simpa using room)
  apply wpAny_bind
  refine PySem.wpAny_newList (items := us) ?_ room
  have laid : (g.push (seqObj "list" us.toArray 0)).get? g.objs.size = some (seqObj "list" us.toArray 0) := Heap.get?_push_size g rfl
  apply wpAny_bind
  apply wpAny_holding
  refine wpAny_call_entry slot_list_sort ⟨_, laid, rfl⟩ entry_list_sort (SrtO.list_sort_ord SrtO.swo_int laid room (SrtO.ints_sortable hn) fun out up stable => ⟨.none, rfl, ?_⟩) (args_list_sort _)
  apply wpAny_pure
  refine ⟨_, rfl, ?_⟩
  obtain ⟨e, he⟩ := sortedHeap_at (vs := us) (out := out.toArray) laid
  refine hq g _ out e keep (fun b u hb => ?_) he (SrtO.ints_out hn up stable)
  have lt := Heap.lt_size hb
  rw [sortedHeap_old (Nat.ne_of_lt lt) (Heap.lt_size (Heap.get?_push_of_some _ hb))]
  exact Heap.get?_push_of_some _ hb
/-- sorted(t): a new list of t's numbers, rising -/
def rSortedTI (K : PySem.W.Frag) : List V → Hp → VK → Prop := fun vs H Q => ∃ (a : Addr) (ns : List Int), vs = [V.ref a] ∧ SqT K H a (ns.map V.int) ∧ ∀ (up : List Int) (p : Addr), up.Perm ns → up.Pairwise (· ≤ ·) → H p = none → Q (.ref p) (upd H p (.lst (up.map V.int)))
theorem cr_sortedTI {X : Cx} : CallR X (.builtin "sorted") (rSortedTI X.K) := by
  intro pins s σ H vs us Q I r ⟨a, ns, ev, hs, q⟩
  subst ev
  obtain ⟨its, rv, hl, room⟩ := I.tuple hs
  rw [Vals.ref1 r]
  apply run_sortedT (us := its) hl rv.ints (Vals.length rv ▸ room)
  intro g g2 out e k1 k2 hat ⟨isI, perm, up⟩
  have J : Inv X pins σ H { s with heap := g } := I.kept (t' := s.toks) k1
  have small : ((out.map SrtO.iv).map V.int).length ≤ sizeLine := by
    rw [List.length_map, perm.length_eq, ← List.length_map (f := V.int)]
    exact room
  exact ⟨.ref g.objs.size, upd H g.objs.size (.lst ((out.map SrtO.iv).map V.int)), J.laid (t' := s.toks) k2 (Nat.le_refl _) ⟨small, out, e, vals_of_ints isI, hat⟩, rfl, q _ _ perm up (J.hok.fresh (Nat.le_refl _))⟩

/-! ### set of a tuple of different whole numbers, and its length -/
theorem length_le_of_mem {l m : List Int} (hn : l.Nodup) (hs : ∀ x ∈ l, x ∈ m) : l.length ≤ m.length := by
  induction l generalizing m with
  | nil => exact Nat.zero_le _
  | cons a r ih =>
    obtain ⟨ha, hr⟩ := List.nodup_cons.mp hn
    have am := hs a List.mem_cons_self
    have := ih hr (m := m.erase a) fun x hx => (List.mem_erase_of_ne fun e => ha (by rw [← e]; exact hx)).mpr (hs x (List.mem_cons_of_mem _ hx))
    have := List.length_erase_of_mem am
    have := List.length_pos_of_mem am
    simp only [List.length_cons]
    omega
theorem setR_count {w : World} {h : Heap} {a : Addr} {ns : List Int} {c : Nat} (R : SetR w h a (fun j => decide (j ∈ ns)) c) (hc : c ≤ ns.length) (nd : ns.Nodup) : c = ns.length := by
  obtain ⟨o, es, ep, t, _, _, _, _, _, mem, _, _, size, _, _⟩ := R
  have low : ns.length ≤ (es.toList.map keyOf).length := length_le_of_mem nd fun x hx => (mem x).mp (decide_eq_true hx)
  simp only [List.length_map, Array.length_toList] at low
  omega
def rSetT (X : Cx) : List V → Hp → VK → Prop := fun vs H Q => ∃ (a : Addr) (ns : List Int), vs = [V.ref a] ∧ SqT X.K H a (ns.map V.int) ∧ ns.length ≤ 4000 ∧ ns.Nodup ∧ ∀ p, H p = none → Q (.ref p) (upd H p (SetO X.w p (fun j => decide (j ∈ ns)) ns.length))
theorem cr_setT {X : Cx} (hc : X.calm = true) : CallR X (.type "set") (rSetT X) := by
  intro pins s σ H vs us Q I r ⟨a, ns, ev, hs, few, nd, q⟩
  subst ev
  obtain ⟨its, rv, hl, room⟩ := I.tuple hs
  rw [Vals.ref1 r]
  apply call_set_tupI (items := its.toArray) ns (I.ok.hd hc) hl rv.ints (by unfold scanBound; omega)
  intro g tk c R le keep
  have R2 := setR_count R le nd ▸ R
  exact ⟨.ref s.heap.objs.size, _, I.laid (t' := tk) keep (Nat.le_refl _) (setO_new R2), rfl, q _ (I.hok.fresh (Nat.le_refl _))⟩
def rLenSet (X : Cx) : List V → Hp → VK → Prop := fun vs H Q => ∃ (a : Addr) (S : Int → Bool) (n : Nat), vs = [V.ref a] ∧ H a = some (SetO X.w a S n) ∧ n ≤ 4000 ∧ Q (.int (n : Nat)) H
theorem cr_lenSet {X : Cx} : CallR X (.builtin "len") (rLenSet X) := by
  intro pins s σ H vs us Q I r ⟨a, S, n, ev, hs, few, q⟩
  subst ev
  rw [Vals.ref1 r]
  obtain ⟨o, es, ep, t, ho, exact, dat, _, _, _, _, fits, size, _, _⟩ := setO_get I hs
  subst size
  exact call_len_set ho exact dat fits (by omega) ⟨.int es.size, H, I.tok _, ⟨_, rfl⟩, q⟩

/-! ### enumerate of a tuple -/
/-- where it stands ahead of the turn i -/
def StE (a e it : Addr) (i : Nat) (h : Heap) : Prop := (∃ old, IsEnum h e it ((i : Nat) : Int) old) ∧ h.IsTupleIter it a i
def ItE (K : PySem.W.Frag) (a : Addr) : It where
  go i H := ∃ (xs : List V) (x : V), SqT K H a xs ∧ xs[i]? = some x
  yld i H v H' := ∃ T x, v = .ref T ∧ H T = none ∧ H' = upd H T (.tup [.int (i : Nat), x]) ∧ ∀ xs, SqT K H a xs → xs[i]? = some x
  stop i H := ∃ xs : List V, SqT K H a xs ∧ xs.length = i
theorem turnE {P : Program} {w : World} {K : PySem.W.Frag} {elts : List Expr} {kk : Nat} {tpos : Pos} {a e it : Addr} (n1 : e ≠ it) (n2 : a ≠ it) (n3 : e ≠ a) : Turn P w K (.Tuple elts kk tpos) (ItE K a) [e, it] e (StE a e it) where
  mem := List.mem_cons_self
  obj i h st b hb := by
    obtain ⟨⟨old, he⟩, o, ho, _, dat⟩ := st
    simp only [List.mem_cons, List.not_mem_nil, or_false] at hb
    rcases hb with rfl | rfl
    · exact ⟨_, he, fun v z => by cases z⟩
    · exact ⟨o, ho, fun v z => by rw [dat] at z; cases z⟩
  keep i h h' st k := ⟨st.1.imp fun old he => k e (by simp) _ he, st.2.at fun o ho => k it (by simp) o ho⟩
  self A i s Q E st q := st.1.elim fun old he => wpAny_pyIter_enum he q
  item := by
    rintro X rfl rfl rfl calm i pins s σ H E I free ⟨he, hit⟩ ⟨xs, x, sq, hx⟩
    obtain ⟨its, rv, hl, room⟩ := I.tuple sq
    obtain ⟨u, hu, ru⟩ := rv.get hx
    have W := WalksT.enumerateD (Draws.tuple (prog := X.prog) (w := X.w) (A := X.A.in1) (I.ok.hd calm) it a n2 its.toArray) e n1 (by simp [n1, n3]) (by simp)
    have lt : i < its.toArray.size := by
      have := (List.getElem?_eq_some_iff.mp hu).1
      simpa using this
    apply W.item i s _ E lt ⟨he, hit, hl⟩
    rintro T vals g tk ⟨t, y, hy, rfl⟩ new hT mid k1
    have ey : y = u := by
      simp only [List.getElem?_toArray, hu] at hy
      exact (Option.some.inj hy).symm
    subst ey
    refine ⟨_, rfl, W.go elts kk tpos i T { s with heap := g, toks := tk } _ E mid fun g2 st k2 => ?_⟩
    obtain ⟨o, ho, cls, n, dat⟩ := hT
    have laid : ObjOk X.prog X.w (upd H T (.tup [.int (i : Nat), x])) g2 T (.tup [.int (i : Nat), x]) := ⟨(by decide : 2 ≤ sizeLine), _, .cons ⟨t, rfl⟩ (.cons ru .nil), o, k2 T o (W.apart i T g mid) ho, cls, n, dat⟩
    refine ⟨.ref T, _, I.turnedNew (t' := tk) (fun b v nb hb => k2 b v nb (k1 b v nb hb)) free new laid, rfl, ⟨T, x, rfl, I.hok.fresh new, rfl, fun ys hy => I.tuple_inj hy sq ▸ hx⟩, ⟨st.1, st.2.1⟩, fun b hb => ?_⟩
    have old : b ≠ T := fun z => W.apart i T g mid (z ▸ hb)
    rw [upd_ne old]
    exact (free b hb).1
  done := by
    rintro X rfl rfl rfl calm i pins s σ H E I free ⟨⟨old, he⟩, hit⟩ ⟨xs, sq, rfl⟩
    obtain ⟨its, rv, hl, room⟩ := I.tuple sq
    have len : xs.length = its.toArray.size := by simp [rv.length]
    rw [len] at he hit
    apply wpAny_pyNext_enum_endD (Draws.tuple (A := X.A.in1) (I.ok.hd calm) it a n2 its.toArray) he ⟨hit, hl⟩
    intro g k
    have ⟨f0, f1, _, f3, f4, f5⟩ := free it (by simp)
    exact ⟨rfl, I.turned (t' := s.toks) (fun b o nb hb => k b o nb hb) f0 f1 f3 f4 f5⟩
/-- enumerate(v), v told by how its iterator begins -/
theorem new_enum {v : Value} {o : Obj} {B : Heap → Prop} (b : Begins v o B) : Meets (Builtin.«enumerate.__new__» ⟨[.type "enumerate", v], []⟩) fun _ R s => B s.heap ∧
    R (.ok (.ret (.ref (s.heap.push o).objs.size))) { s with heap := (s.heap.push o).push { cls := .type "enumerate", data := .fields #[.none, .bool false, .ref s.heap.objs.size, rawInt 0, .none, .none] } } :=
  .of_wp fun P w A R ⟨hp, g, d, tk, os⟩ ⟨hb, q⟩ => by
    have sub := sub_enumerate
    have begin' : ∀ {A' : Around} {E Q : Value → Shared → Prop}, Q (.ref hp.objs.size) ⟨hp.push o, g, d, tk, os⟩ → wpAny (model P w) A' (pyIter v) Q E ⟨hp, g, d, tk, os⟩ := fun z => b.iter P w _ _ _ _ hb z
    wp_walk using begin'
    refine wpAny_stack_any fun st => wpAny_pure ?_
    split
    · rename_i c _ _ _ _ _
      cases (c == Value.type "enumerate") <;> (wp_walk using begin'; exact ⟨_, rfl, q⟩)
    · wp_walk using begin'
      exact ⟨_, rfl, q⟩
def iEnumT (K : PySem.W.Frag) (ta : TA) : TI := fun σ H R => ta σ H fun vs H1 => ∃ a xs, vs = [.ref a] ∧ SqT K H1 a xs ∧ R (ItE K a) H1
theorem pi_enumT {X : Cx} {e : Expr} {ta : TA} {p pos tpos : Pos} {elts : List Expr} {kk : Nat} (glo : Gl X "enumerate") (unset : X.mg "enumerate" = none) (arg : PA X [e] ta) (one : starEach [e] X.env = [(false, eval e X.env)] := by rfl) :
    PI X (.Tuple elts kk tpos) (.Call (.Name "enumerate" p) [e] [] pos) (iEnumT X.K ta) where
  run pins s σ H R I h := by
    refine Call_ (ld_blt I glo unset boot_enumerate ?_)
    refine PyProof.Rows.callWith_type1 (thn (arg.run pos pins s σ H _ I h) ?_) one rfl
    rintro us s1 ⟨vs, H1, J, rv, a, xs, rfl, sq, q⟩
    cases rv with
    | cons ru rest =>
      cases rest
      cases ru
      obtain ⟨its, _, hl, _⟩ := J.tuple sq
      have lt : a < s1.heap.objs.size := hl.elim fun o z => Heap.lt_size z.1
      have two : (s1.heap.push { cls := .type "tuple_iterator", data := .fields #[.ref a, .int 0 0] }).objs.size = s1.heap.objs.size + 1 := Heap.size_push ..
      refine callType_new F.called_enumerate (by decide) (F.typeCall_enumerate_1 _) (F.newCall_enumerate_1 _) (fun obj => F.args_object_init_2 obj _) F.entry_enumerate_new (new_enum (begins_tuple a its.toArray)) ⟨hl, ?_⟩
      rw [two]
      have en : IsEnum ((s1.heap.push { cls := .type "tuple_iterator", data := .fields #[.ref a, .int 0 0] }).push { cls := .type "enumerate", data := .fields #[.none, .bool false, .ref s1.heap.objs.size, rawInt 0, .none, .none] }) (s1.heap.objs.size + 1) s1.heap.objs.size 0 .none := two ▸ Heap.get?_push_size _ rfl
      refine ⟨⟨_, en, rfl⟩, wpAny_pyIter_enum en ?_⟩
      refine ⟨s1.heap.objs.size + 1, [s1.heap.objs.size + 1, s1.heap.objs.size], _, _, H1, rfl, J.kept (t' := s1.toks) fun b o hb => Heap.get?_push_of_some _ (Heap.get?_push_of_some _ hb),
        turnE (a := a) (it := s1.heap.objs.size) (Nat.succ_ne_self _) (Nat.ne_of_lt lt) (Nat.ne_of_gt (Nat.lt_succ_of_lt lt)), ⟨⟨.none, en⟩, _, Heap.get?_push_of_some _ (Heap.get?_push_size _ rfl), rfl, rfl⟩, fun b hb => ?_, q⟩
      have le : s1.heap.objs.size ≤ b := by
        simp only [List.mem_cons, List.not_mem_nil, or_false] at hb
        rcases hb with rfl | rfl
        · exact Nat.le_succ _
        · exact Nat.le_refl _
      exact J.fpOk le (J.hok.fresh le)
/-- for i, x in enumerate(t), t standing still -/
theorem for_enumT {K : PySem.W.Frag} {a : Addr} {xs : List V} {g : TG} {tb : TS} {D : Ends} {σ : L2.St} {H : Hp} (Pv : Nat → L2.St → Hp → Prop) (start : Pv 0 σ H) (still : ∀ i σ H, i ≤ xs.length → Pv i σ H → SqT K H a xs)
    (turn : ∀ i x σ H, xs[i]? = some x → Pv i σ H → ∀ T, H T = none → g (.ref T) σ (upd H T (.tup [.int (i : Nat), x])) fun σ2 H2 => tb { D with nx := Pv (i + 1), ct := Pv (i + 1), bk := D.nx } σ2 H2) (after : ∀ σ H, Pv xs.length σ H → D.nx σ H) :
    ∃ W : Nat → Nat → L2.St → Hp → Prop, (∃ m, W 0 m σ H) ∧ ∀ i m σ H, W i m σ H → ((ItE K a).stop i H ∧ D.nx σ H) ∨
      ((ItE K a).go i H ∧ ∃ N : L2.St → Hp → Prop, (∀ σ' H', N σ' H' → ∃ m', m' < m ∧ W (i + 1) m' σ' H') ∧ ∀ x H', (ItE K a).yld i H x H' → g x σ H' fun σ2 H2 => tb { D with nx := N, ct := N, bk := D.nx } σ2 H2) := by
  refine ⟨fun i m σ H => m + i = xs.length ∧ Pv i σ H, ⟨xs.length, Nat.add_zero _, start⟩, fun i m σ H ⟨em, p⟩ => ?_⟩
  have sq := still i σ H (by omega) p
  by_cases hi : i < xs.length
  · refine .inr ⟨⟨xs, xs[i], sq, List.getElem?_eq_getElem hi⟩, Pv (i + 1), fun σ' H' p' => ⟨m - 1, by omega, by omega, p'⟩, ?_⟩
    rintro v H' ⟨T, x, rfl, fresh, rfl, at'⟩
    exact turn i x σ H (at' xs sq) p T fresh
  · obtain rfl : xs.length = i := by omega
    exact .inl ⟨⟨xs, sq, rfl⟩, after σ H p⟩
end KX

set_option Elab.async false
set_option linter.all false
set_option maxRecDepth 100000
set_option maxHeartbeats 4000000
/-! The mathematics: jobs (length, price), what an order costs, Smith's order, all orders. -/
namespace KM
abbrev Jobs := List (Int × Int)
def lenOf (js : Jobs) (x : Int) : Int := (js.getD x.toNat (1, 0)).1
def priceOf (js : Jobs) (x : Int) : Int := (js.getD x.toNat (1, 0)).2
/-- the jobs that are let -/
def Fit (js : Jobs) : Prop := ∀ j ∈ js, 1 ≤ j.1 ∧ j.1 ≤ 99 ∧ 0 ≤ j.2 ∧ j.2 ≤ 99
theorem Fit.getD {js : Jobs} (h : Fit js) (i : Nat) : 1 ≤ (js.getD i (1, 0)).1 ∧ (js.getD i (1, 0)).1 ≤ 99 ∧ 0 ≤ (js.getD i (1, 0)).2 ∧ (js.getD i (1, 0)).2 ≤ 99 := by
  by_cases hi : i < js.length
  · rw [List.getD_eq_getElem?_getD, List.getElem?_eq_getElem hi]
    exact h _ (List.getElem_mem hi)
  · rw [List.getD_eq_getElem?_getD, List.getElem?_eq_none (by omega)]
    exact ⟨by decide, by decide, by decide, by decide⟩
theorem Fit.len {js : Jobs} (h : Fit js) (x : Int) : 1 ≤ lenOf js x ∧ lenOf js x ≤ 99 := ⟨(h.getD _).1, (h.getD _).2.1⟩
theorem Fit.price {js : Jobs} (h : Fit js) (x : Int) : 0 ≤ priceOf js x ∧ priceOf js x ≤ 99 := ⟨(h.getD _).2.2.1, (h.getD _).2.2.2⟩

/-! ### what an order costs -/
/-- a turn of the loop: (what is found, the time) -/
def turn (js : Jobs) (s : Int × Int) (x : Int) : Int × Int := (s.1 + priceOf js x * (s.2 + lenOf js x), s.2 + lenOf js x)
def run (js : Jobs) (o : List Int) : Int × Int := o.foldl (turn js) (0, 0)
def costOf (js : Jobs) (o : List Int) : Int := (run js o).1
def sumP (js : Jobs) : List Int → Int
  | [] => 0
  | x :: r => priceOf js x + sumP js r
def W (js : Jobs) : List Int → Int
  | [] => 0
  | x :: r => lenOf js x * (priceOf js x + sumP js r) + W js r
theorem fold_W (js : Jobs) : ∀ (o : List Int) (f t : Int), (o.foldl (turn js) (f, t)).1 = f + t * sumP js o + W js o
  | [], f, t => by simp [sumP, W]
  | x :: r, f, t => by
    rw [List.foldl_cons]
    show (r.foldl (turn js) (f + priceOf js x * (t + lenOf js x), t + lenOf js x)).1 = _
    rw [fold_W js r]
    simp only [sumP, W]
    grind
theorem cost_W (js : Jobs) (o : List Int) : costOf js o = W js o := by
  unfold costOf run
  rw [fold_W]
  simp
theorem run_take {js : Jobs} {o : List Int} {i : Nat} {x : Int} (h : o[i]? = some x) : run js (o.take (i + 1)) = turn js (run js (o.take i)) x := by
  unfold run
  rw [List.take_add_one, h, List.foldl_append]
  rfl
theorem sumP_app (js : Jobs) : ∀ (a b : List Int), sumP js (a ++ b) = sumP js a + sumP js b
  | [], b => by simp [sumP]
  | x :: a, b => by
    have ih := sumP_app js a b
    simp only [List.cons_append, sumP, ih]
    omega
theorem sumP_perm {js : Jobs} {a b : List Int} (h : a.Perm b) : sumP js a = sumP js b := by
  induction h with
  | nil => rfl
  | cons x _ ih => simp only [sumP, ih]
  | swap x y l => simp only [sumP]; omega
  | trans _ _ h1 h2 => rw [h1, h2]
/-- x may stand ahead of y -/
def R (js : Jobs) (x y : Int) : Prop := priceOf js y * lenOf js x ≤ priceOf js x * lenOf js y
theorem W_move {js : Jobs} {x : Int} : ∀ (a b : List Int), (∀ y ∈ a, R js x y) → W js (x :: (a ++ b)) ≤ W js (a ++ x :: b)
  | [], b, _ => Int.le_refl _
  | y :: a, b, h => by
    have ih := W_move a b fun z hz => h z (List.mem_cons_of_mem _ hz)
    have hy : R js x y := h y List.mem_cons_self
    unfold R at hy
    have s1 : sumP js (a ++ x :: b) = priceOf js x + sumP js (a ++ b) := by
      rw [sumP_app, sumP_app]
      simp only [sumP]
      omega
    simp only [List.cons_append, W, sumP] at ih ⊢
    rw [s1]
    generalize sumP js (a ++ b) = S at *
    generalize W js (a ++ b) = T at *
    generalize W js (a ++ x :: b) = U at *
    grind
theorem W_least {js : Jobs} : ∀ (l m : List Int), l.Pairwise (R js) → m.Perm l → W js l ≤ W js m
  | [], m, _, h => by
    have e : m = [] := List.Perm.eq_nil h
    rw [e]
    exact Int.le_refl _
  | x :: l, m, hp, h => by
    obtain ⟨h1, h2⟩ := List.pairwise_cons.mp hp
    have hx : x ∈ m := h.mem_iff.mpr List.mem_cons_self
    obtain ⟨a, b, rfl⟩ := List.append_of_mem hx
    have hab : (a ++ b).Perm l := (List.perm_middle.symm.trans h).cons_inv
    have ih := W_least l (a ++ b) h2 hab
    have hm : W js (x :: (a ++ b)) ≤ W js (a ++ x :: b) := W_move a b fun y hy => h1 y (hab.mem_iff.mp (List.mem_append_left _ hy))
    have es := sumP_perm (js := js) hab
    have e2 : W js (x :: l) = lenOf js x * (priceOf js x + sumP js l) + W js l := rfl
    have e3 : W js (x :: (a ++ b)) = lenOf js x * (priceOf js x + sumP js (a ++ b)) + W js (a ++ b) := rfl
    rw [es] at e3
    omega

/-! ### the order that is grown by insertion -/
/-- x stands ahead of y: it presses more, or as much and its number is less -/
def Ahead (js : Jobs) (x y : Int) : Prop := priceOf js y * lenOf js x < priceOf js x * lenOf js y ∨ (priceOf js y * lenOf js x = priceOf js x * lenOf js y ∧ x < y)
theorem Ahead.r {js : Jobs} {x y : Int} (h : Ahead js x y) : R js x y := by
  unfold R
  rcases h with h | ⟨h, _⟩ <;> omega
/-- the loop's test: what stands at the spot stays ahead of t -/
def Stays (js : Jobs) (f t : Int) : Prop := priceOf js t * lenOf js f ≤ priceOf js f * lenOf js t
theorem ahead_trans {js : Jobs} (F : Fit js) {t f g : Int} (h1 : priceOf js f * lenOf js t < priceOf js t * lenOf js f) (h2 : R js f g) : Ahead js t g := by
  refine .inl ?_
  have lt := (F.len t).1
  have lf := (F.len f).1
  have lg := (F.len g).1
  unfold R at h2
  generalize lenOf js t = lt' at *
  generalize lenOf js f = lf' at *
  generalize lenOf js g = lg' at *
  generalize priceOf js t = pt at *
  generalize priceOf js f = pf at *
  generalize priceOf js g = pg at *
  -- pg * lf ≤ pf * lg, pf * lt < pt * lf; claim pg * lt < pt * lg
  have a1 : pg * lf' * lt' ≤ pf * lg' * lt' := Int.mul_le_mul_of_nonneg_right h2 (by omega)
  have a2 : pf * lt' * lg' < pt * lf' * lg' := Int.mul_lt_mul_of_pos_right h1 (by omega)
  have a3 : lf' * (pg * lt') < lf' * (pt * lg') := by grind
  exact Int.lt_of_mul_lt_mul_left a3 (by omega)
theorem insert_perm {L g : List Int} {t : Int} (k : Nat) (h : L.Perm g) : (L.take k ++ [t] ++ L.drop k).Perm (g ++ [t]) := by
  have e : (L.take k ++ [t] ++ L.drop k).Perm (L.take k ++ L.drop k ++ [t]) := by
    rw [List.append_assoc, List.append_assoc]
    exact List.Perm.append_left _ List.perm_append_comm
  rw [List.take_append_drop] at e
  exact e.trans (h.append_right _)
theorem insert_ahead {js : Jobs} (F : Fit js) {L : List Int} {t : Int} {k : Nat} (hp : L.Pairwise (Ahead js)) (hlt : ∀ f ∈ L, f < t) (hk : k ≤ L.length)
    (h1 : ∀ (i : Nat) (f : Int), i < k → L[i]? = some f → Stays js f t) (h2 : ∀ f, L[k]? = some f → ¬ Stays js f t) : (L.take k ++ [t] ++ L.drop k).Pairwise (Ahead js) := by
  have ht : ∀ f ∈ L.take k, Ahead js f t := fun f hf => by
    obtain ⟨i, hi⟩ := List.mem_iff_getElem?.mp hf
    rw [List.getElem?_take] at hi
    by_cases hik : i < k
    · rw [if_pos hik] at hi
      have q := h1 i f hik hi
      unfold Stays at q
      have l := hlt f (List.mem_of_mem_take hf)
      unfold Ahead
      omega
    · rw [if_neg hik] at hi
      cases hi
  have hd : ∀ g ∈ L.drop k, Ahead js t g := fun g hg => by
    by_cases hkl : k < L.length
    · have e : L.drop k = L[k] :: L.drop (k + 1) := List.drop_eq_getElem_cons hkl
      have q := h2 L[k] (List.getElem?_eq_getElem hkl)
      unfold Stays at q
      have hdp : (L.drop k).Pairwise (Ahead js) := hp.sublist (List.drop_sublist k L)
      rw [e] at hg hdp
      rcases List.mem_cons.mp hg with e2 | hg
      · subst e2
        refine .inl (by omega)
      · exact ahead_trans F (by omega) ((List.pairwise_cons.mp hdp).1 g hg).r
    · rw [List.drop_eq_nil_of_le (by omega)] at hg
      cases hg
  rw [List.append_assoc]
  refine List.pairwise_append.mpr ⟨hp.sublist (List.take_sublist k L), ?_, ?_⟩
  · rw [List.singleton_append]
    exact List.pairwise_cons.mpr ⟨hd, hp.sublist (List.drop_sublist k L)⟩
  · intro f hf g hg
    rw [List.singleton_append] at hg
    rcases List.mem_cons.mp hg with e | hg
    · rw [e]
      exact ht f hf
    · have e : L.take k ++ L.drop k = L := List.take_append_drop k L
      rw [← e] at hp
      exact (List.pairwise_append.mp hp).2.2 f hf g hg

/-! ### all orders -/
def rangeI (n : Nat) : List Int := (List.range n).map fun (k : Nat) => (k : Int)
theorem rangeI_succ (n : Nat) : rangeI (n + 1) = rangeI n ++ [(n : Int)] := by
  unfold rangeI
  rw [List.range_succ, List.map_append]
  rfl
theorem rangeI_length (n : Nat) : (rangeI n).length = n := by
  unfold rangeI
  rw [List.length_map, List.length_range]
theorem rangeI_get {n i : Nat} (h : i < n) : (rangeI n)[i]? = some (i : Int) := by
  unfold rangeI
  rw [List.getElem?_map, List.getElem?_range h]
  rfl
theorem rangeI_mem {n : Nat} {x : Int} : x ∈ rangeI n ↔ 0 ≤ x ∧ x < n := by
  unfold rangeI
  rw [List.mem_map]
  constructor
  · rintro ⟨k, hk, rfl⟩
    have := List.mem_range.mp hk
    omega
  · intro h
    exact ⟨x.toNat, List.mem_range.mpr (by omega), by omega⟩
theorem rangeI_nodup (n : Nat) : (rangeI n).Nodup := by
  unfold rangeI
  unfold List.Nodup
  rw [List.pairwise_map]
  exact (List.nodup_range (n := n)).imp fun {a b} h e => h (by omega)
theorem rangeI_sorted (n : Nat) : (rangeI n).Pairwise (· ≤ ·) := by
  unfold rangeI
  rw [List.pairwise_map]
  exact (List.pairwise_lt_range (n := n)).imp fun {a b} h => by omega
/-- the orders one longer that begin with o -/
def cand (m : Nat) (o : List Int) : List (List Int) := ((List.range m).filter fun (k : Nat) => !o.contains (k : Int)).map fun (k : Nat) => o ++ [(k : Int)]
theorem cand_yes {o : List Int} {i : Nat} (h : o.contains (i : Int) = false) : cand (i + 1) o = cand i o ++ [o ++ [(i : Int)]] := by
  unfold cand
  rw [List.range_succ, List.filter_append, List.map_append, List.filter_cons, if_pos (by rw [h]; rfl)]
  rfl
theorem cand_no {o : List Int} {i : Nat} (h : o.contains (i : Int) = true) : cand (i + 1) o = cand i o := by
  unfold cand
  rw [List.range_succ, List.filter_append, List.map_append, List.filter_cons, if_neg (by rw [h]; decide)]
  show _ ++ [] = _
  rw [List.append_nil]
theorem cand_length (m : Nat) (o : List Int) : (cand m o).length ≤ m := by
  unfold cand
  rw [List.length_map]
  have h := List.length_filter_le (fun k : Nat => !o.contains (k : Int)) (List.range m)
  rw [List.length_range] at h
  exact h
def orders (n : Nat) : Nat → List (List Int)
  | 0 => [[]]
  | k + 1 => (orders n k).flatMap (cand n)
theorem flat_more {α β : Type} {f : α → List β} {l : List α} {i : Nat} {x : α} (h : l[i]? = some x) : (l.take (i + 1)).flatMap f = (l.take i).flatMap f ++ f x := by
  rw [List.take_add_one, h, List.flatMap_append]
  simp
theorem orders_have {n : Nat} {o : List Int} (h : o.Perm (rangeI n)) : ∀ k, k ≤ n → o.take k ∈ orders n k
  | 0, _ => by simp [orders]
  | k + 1, hk => by
    have ih := orders_have h k (by omega)
    have hl : o.length = n := by rw [h.length_eq, rangeI_length]
    have hkl : k < o.length := by omega
    have hn : o.Nodup := h.symm.nodup (rangeI_nodup n)
    have hm : o[k] ∈ rangeI n := h.mem_iff.mp (List.getElem_mem hkl)
    obtain ⟨h0, h1⟩ := rangeI_mem.mp hm
    show o.take (k + 1) ∈ (orders n k).flatMap (cand n)
    rw [List.mem_flatMap]
    refine ⟨o.take k, ih, ?_⟩
    unfold cand
    rw [List.mem_map]
    refine ⟨o[k].toNat, ?_, ?_⟩
    · rw [List.mem_filter]
      refine ⟨List.mem_range.mpr (by omega), ?_⟩
      have e : ((o[k].toNat : Nat) : Int) = o[k] := by omega
      rw [e]
      cases hc : (o.take k).contains o[k] with
      | false => rfl
      | true =>
        have hm2 : o[k] ∈ o.take k := List.contains_iff_mem.mp hc
        obtain ⟨j, hj⟩ := List.mem_iff_getElem?.mp hm2
        rw [List.getElem?_take] at hj
        by_cases hjk : j < k
        · rw [if_pos hjk] at hj
          obtain ⟨hjl, ej⟩ := List.getElem?_eq_some_iff.mp hj
          exact absurd ej (List.pairwise_iff_getElem.mp hn j k hjl hkl hjk)
        · rw [if_neg hjk] at hj
          cases hj
    · have e : ((o[k].toNat : Nat) : Int) = o[k] := by omega
      rw [e, List.take_add_one, List.getElem?_eq_getElem hkl]
      rfl
theorem orders_all {n : Nat} {o : List Int} (h : o.Perm (rangeI n)) : o ∈ orders n n := by
  have q := orders_have h n (Nat.le_refl _)
  have hl : o.length = n := by rw [h.length_eq, rangeI_length]
  rw [List.take_of_length_le (by omega)] at q
  exact q
def chk (n : Nat) : Bool := (orders n n).all fun o => o.isPerm (rangeI n)
theorem chk_all : ∀ n, n ≤ 5 → chk n = true := by decide +kernel
theorem orders_perm {n : Nat} (hn : n ≤ 5) {o : List Int} (h : o ∈ orders n n) : o.Perm (rangeI n) :=
  List.isPerm_iff.mp (List.all_eq_true.mp (chk_all n hn) o h)
def chkLen (n : Nat) : Bool := (List.range 6).all fun k => decide (n < k ∨ ((orders n k).length ≤ 120 ∧ 0 < (orders n k).length ∧ ∀ o ∈ orders n k, o.length = k))
theorem chkLen_all : ∀ n, n ≤ 5 → chkLen n = true := by decide +kernel
theorem orders_len {n k : Nat} (hn : n ≤ 5) (hk : k ≤ n) : (orders n k).length ≤ 120 ∧ 0 < (orders n k).length ∧ ∀ o ∈ orders n k, o.length = k := by
  have q := List.all_eq_true.mp (chkLen_all n hn) k (List.mem_range.mpr (by omega))
  have q2 := of_decide_eq_true q
  rcases q2 with z | z
  · omega
  · exact z

/-! ### the law's end -/
theorem sorted_same : ∀ {a b : List Int}, a.Perm b → a.Pairwise (· ≤ ·) → b.Pairwise (· ≤ ·) → a = b
  | [], b, h, _, _ => (List.Perm.eq_nil h.symm).symm
  | x :: a, [], h, _, _ => List.Perm.eq_nil h
  | x :: a, y :: b, h, h1, h2 => by
    obtain ⟨p1, p2⟩ := List.pairwise_cons.mp h1
    obtain ⟨q1, q2⟩ := List.pairwise_cons.mp h2
    have e : x = y := by
      have m1 : x ∈ y :: b := h.mem_iff.mp List.mem_cons_self
      have m2 : y ∈ x :: a := h.mem_iff.mpr List.mem_cons_self
      have a1 : y ≤ x := by
        rcases List.mem_cons.mp m1 with e | m
        · omega
        · exact q1 x m
      have a2 : x ≤ y := by
        rcases List.mem_cons.mp m2 with e | m
        · omega
        · exact p1 y m
      omega
    subst e
    rw [sorted_same h.cons_inv p2 q2]
/-- the least of all orders' costs is that of the one that is grown -/
theorem best_least {js : Jobs} {n : Nat} {L : List Int} {m : Int} (hn : n ≤ 5) (hL : L.Perm (rangeI n)) (hp : L.Pairwise (Ahead js)) (hm : m ∈ (orders n n).map (costOf js)) (hle : ∀ y, y ∈ (orders n n).map (costOf js) → m ≤ y) : costOf js L = m := by
  have h1 : m ≤ costOf js L := hle _ (List.mem_map.mpr ⟨L, orders_all hL, rfl⟩)
  obtain ⟨o, ho, eo⟩ := List.mem_map.mp hm
  have hop := orders_perm hn ho
  have h2 : costOf js L ≤ costOf js o := by
    rw [cost_W, cost_W]
    exact W_least L o (hp.imp fun h => h.r) (hop.trans hL.symm)
  omega
/-- neighbors stand in their order -/
theorem gap_ok {js : Jobs} {L : List Int} (hp : L.Pairwise (Ahead js)) {i : Nat} {x y : Int} (hx : L[i]? = some x) (hy : L[i + 1]? = some y) :
    ¬ (priceOf js x * lenOf js y - priceOf js y * lenOf js x < 0) ∧ (priceOf js x * lenOf js y - priceOf js y * lenOf js x = 0 → ¬ x > y) := by
  obtain ⟨h1, e1⟩ := List.getElem?_eq_some_iff.mp hx
  obtain ⟨h2, e2⟩ := List.getElem?_eq_some_iff.mp hy
  have q := List.pairwise_iff_getElem.mp hp i (i + 1) h1 h2 (by omega)
  rw [e1, e2] at q
  unfold Ahead at q
  constructor
  · omega
  · intro h
    omega
end KM

set_option Elab.async false
set_option linter.all false
set_option maxRecDepth 100000
set_option maxHeartbeats 4000000
namespace KX
open PySem PySem.Spec PyProof.Rows L2
/-! ### the text -/
def topS (i : Nat) : Stmt := PySem.Challenge.pw_sharewell_k60_whole_orders_of_jobs.main.body.getD i (.Pass ⟨0, 0, 0, 0⟩)
abbrev sWhole : Stmt := topS 5
abbrev sWithin : Stmt := topS 6
abbrev sTupleOf : Stmt := topS 7
abbrev sIsOrder : Stmt := topS 8
abbrev sNeedOrder : Stmt := topS 9
abbrev sNeedJobs : Stmt := topS 13
/-- what the module's names hold -/
structure Names (mg : Str → Option Value) : Prop where
  isi : mg "isinstance" = none
  int : mg "int" = none
  bool : mg "bool" = none
  str : mg "str" = none
  tuple : mg "tuple" = none
  list : mg "list" = none
  set : mg "set" = none
  len : mg "len" = none
  all : mg "all" = none
  range : mg "range" = none
  enum : mg "enumerate" = none
  min : mg "min" = none
  sorted : mg "sorted" = none
  mostJobs : ∃ t, mg "MOST_JOBS" = some (.int 7 t)
  mostSize : ∃ t, mg "MOST_SIZE" = some (.int 99 t)
/-! ### heaps -/
theorem same_upd {H : Hp} {p : Addr} {o : HO} (h : H p = none) : Same H (upd H p o) := fun b x e => by
  rw [upd_ne (ne_of_none e h)]
  exact e
theorem sqT {K : PySem.W.Frag} {H : Hp} {a : Addr} {xs : List V} (h : H a = some (.tup xs)) : SqT K H a xs := .inl (.inl h)
theorem sqL {K : PySem.W.Frag} {H : Hp} {a : Addr} {xs : List V} (h : H a = some (.lst xs)) : SqL K H a xs := .inl (.inl h)
/-- the jobs stand at p -/
def JobsAt (H : Hp) (p : Addr) (js : KM.Jobs) : Prop :=
  ∃ ts : List Addr, ts.length = js.length ∧ H p = some (.tup (ts.map V.ref)) ∧ ∀ (i : Nat) (t : Addr) (j : Int × Int), ts[i]? = some t → js[i]? = some j → H t = some (.tup [.int j.1, .int j.2])
theorem JobsAt.same {H H' : Hp} {p : Addr} {js : KM.Jobs} (h : JobsAt H p js) (s : Same H H') : JobsAt H' p js := by
  obtain ⟨ts, h1, h2, h3⟩ := h
  exact ⟨ts, h1, s _ _ h2, fun i t j a b => s _ _ (h3 i t j a b)⟩
theorem refs_get {ts : List Addr} {i : Nat} {x : V} (h : (ts.map V.ref)[i]? = some x) : ∃ t, ts[i]? = some t ∧ x = .ref t := by
  rw [List.getElem?_map] at h
  cases e : ts[i]? with
  | none =>
    rw [e] at h
    cases h
  | some t =>
    rw [e] at h
    exact ⟨t, rfl, (Option.some.inj h).symm⟩
theorem ints_get {ns : List Int} {i : Nat} {x : V} (h : (ns.map V.int)[i]? = some x) : ∃ z, ns[i]? = some z ∧ x = .int z := by
  rw [List.getElem?_map] at h
  cases e : ns[i]? with
  | none =>
    rw [e] at h
    cases h
  | some t =>
    rw [e] at h
    exact ⟨t, rfl, (Option.some.inj h).symm⟩
theorem get_of {α : Type} {l : List α} {m : Nat} {i : Nat} (hl : l.length = m) (hi : i < m) : ∃ x, l[i]? = some x := ⟨l[i]'(by omega), List.getElem?_eq_getElem (by omega)⟩
theorem yes_ok {σ : L2.St} {H : Hp} {Q : Bool → Hp → Prop} (h : Q true H) : tYes σ H Q := h
section
variable {P : Program} {w : World} {K : PySem.W.Frag} {mg : Str → Option Value} {base : Heap}
/-! ### whole, within, tuple_of -/
def spWhole : Sp := fun vs H Q _ => ∃ n : Int, vs = [.int n] ∧ Q (.bl true) H
theorem scWhole : FnScope ["value"] ["value"] (defScope sWhole) := ⟨rfl, rfl, rfl, by decide +kernel, rfl, by decide +kernel, by decide +kernel⟩
theorem ok_whole {f : Addr} {fd : FuncData} (F : Fun K "whole" "whole" sWhole f fd) (T : Names mg) : FnOk P w K mg base CX0 1 f fd ["value"] spWhole := by
  refine F.ok scWhole (fun vs H Q E h => ?_) (fun cdv A outer s H vs Q E hr h => ?_)
  · obtain ⟨n, rfl, _⟩ := h
    rfl
  · obtain ⟨n, rfl, q⟩ := h
    refine ⟨_, pss_one (ps_ret (pe_and (pe_callB call_isi (by rfl) T.isi (by decide +kernel) (pa_cons (pv 0) (pa_cons (pe_bltn (v := .ty "int") (by rfl) T.int (by decide +kernel) rfl) pa_nil)))
      (pe_one (pe_not (pe_callB call_isi (by rfl) T.isi (by decide +kernel) (pa_cons (pv 0) (pa_cons (pe_bltn (v := .ty "bool") (by rfl) T.bool (by decide +kernel) rfl) pa_nil))))))), ?_⟩
    refine ⟨.int n, rfl, _, _, _, _, true, rfl, .ty "int", .base (.int n), kit_ty (by decide +kernel), true, rfl, iteT ?_⟩
    exact ⟨.int n, rfl, _, _, _, _, false, rfl, .ty "bool", .base (.int n), kit_ty (by decide +kernel), false, rfl, q⟩
def spWithin : Sp := fun vs H Q _ => ∃ n lo hi : Int, vs = [.int n, .int lo, .int hi] ∧ lo ≤ n ∧ n ≤ hi ∧ Q (.bl true) H
theorem scWithin : FnScope ["value", "low", "high"] ["value", "low", "high"] (defScope sWithin) := ⟨rfl, rfl, rfl, by decide +kernel, rfl, by decide +kernel, by decide +kernel⟩
theorem ok_within {f fW : Addr} {fd fdW : FuncData} (F : Fun K "within" "within" sWithin f fd) (GW : FnOk P w K mg base CX0 1 fW fdW ["value"] spWhole) (kW : PySem.W.keepIn K (.ref fW) = true) (bW : Binds K fdW ["value"] []) (gW : mg "whole" = some (.ref fW)) : FnOk P w K mg base CX0 2 f fd ["value", "low", "high"] spWithin := by
  refine F.ok scWithin (fun vs H Q E h => ?_) (fun cdv A outer s H vs Q E hr h => ?_)
  · obtain ⟨n, lo, hi, rfl, _⟩ := h
    rfl
  · obtain ⟨n, lo, hi, rfl, h1, h2, q⟩ := h
    refine ⟨_, pss_one (ps_ret (pe_and (pe_call GW hr (by rfl) gW kW bW .nil pass0 (pa_cons (pv 0) pa_nil)) (pe_one (pe_chain op_le op_le (pv 1) (pv 0) (pv 2))))), ?_⟩
    refine ⟨.int n, rfl, n, rfl, true, rfl, iteT ?_⟩
    refine ⟨.int lo, rfl, .int n, rfl, lo, n, rfl, rfl, _, rfl, ?_⟩
    rw [if_pos (decide_eq_true h1)]
    refine ⟨.int hi, rfl, n, hi, rfl, rfl, ?_⟩
    show Q (V.bl (decide (n ≤ hi))) H
    rw [decide_eq_true h2]
    exact q
def spTupleOf : Sp := fun vs H Q _ => ∃ (t : Addr) (xs : List V) (lo hi : Int), vs = [.ref t, .int lo, .int hi] ∧ H t = some (.tup xs) ∧ lo ≤ (xs.length : Int) ∧ (xs.length : Int) ≤ hi ∧ Q (.bl true) H
theorem scTupleOf : FnScope ["value", "low", "high"] ["value", "low", "high"] (defScope sTupleOf) := ⟨rfl, rfl, rfl, by decide +kernel, rfl, by decide +kernel, by decide +kernel⟩
theorem ok_tupleOf {f : Addr} {fd : FuncData} (F : Fun K "tuple_of" "tuple_of" sTupleOf f fd) (T : Names mg) : FnOk P w K mg base CX0 1 f fd ["value", "low", "high"] spTupleOf := by
  refine F.ok scTupleOf (fun vs H Q E h => ?_) (fun cdv A outer s H vs Q E hr h => ?_)
  · obtain ⟨t, xs, lo, hi, rfl, _⟩ := h
    rfl
  · obtain ⟨t, xs, lo, hi, rfl, ht, h1, h2, q⟩ := h
    refine ⟨_, pss_one (ps_ret (pe_and (pe_callB call_isi (by rfl) T.isi (by decide +kernel) (pa_cons (pv 0) (pa_cons (pe_bltn (v := .ty "tuple") (by rfl) T.tuple (by decide +kernel) rfl) pa_nil)))
      (pe_one (pe_chain op_le op_le (pv 1) (pe_callB call_len_seq (by rfl) T.len PySem.boot_len (pa_cons (pv 0) pa_nil)) (pv 2))))), ?_⟩
    refine ⟨.ref t, rfl, _, _, _, _, true, rfl, .ty "tuple", .base (.tup ht), kit_ty (by decide +kernel), true, rfl, iteT ?_⟩
    refine ⟨.int lo, rfl, .ref t, rfl, t, xs, rfl, .inr (sqT ht), lo, _, rfl, rfl, _, rfl, ?_⟩
    rw [if_pos (decide_eq_true h1)]
    refine ⟨.int hi, rfl, _, hi, rfl, rfl, ?_⟩
    show Q (V.bl (decide ((xs.length : Int) ≤ hi))) H
    rw [decide_eq_true h2]
    exact q
/-! ### is_order, need_order -/
def spIsOrder : Sp := fun vs H Q _ => ∃ (n : Int) (t : Addr) (o : List Int), vs = [.int n, .ref t] ∧ H t = some (.tup (o.map V.int)) ∧ (o.length : Int) = n ∧ n ≤ 1000 ∧ (∀ x ∈ o, 0 ≤ x ∧ x < n) ∧ o.Nodup ∧ ∀ H', Same H H' → Q (.bl true) H'
theorem scIsOrder : FnScope ["many", "value", "told"] ["many", "value"] (defScope sIsOrder) := ⟨rfl, rfl, rfl, by decide +kernel, rfl, by decide +kernel, by decide +kernel⟩
theorem ok_isOrder {f fT fW : Addr} {fd fdT fdW : FuncData} (F : Fun K "is_order" "is_order" sIsOrder f fd) (T : Names mg)
    (GT : FnOk P w K mg base CX0 1 fT fdT ["value", "low", "high"] spTupleOf) (kT : PySem.W.keepIn K (.ref fT) = true) (bT : Binds K fdT ["value", "low", "high"] []) (gT : mg "tuple_of" = some (.ref fT))
    (GW : FnOk P w K mg base CX0 2 fW fdW ["value", "low", "high"] spWithin) (kW : PySem.W.keepIn K (.ref fW) = true) (bW : Binds K fdW ["value", "low", "high"] []) (gW : mg "within" = some (.ref fW)) : FnOk P w K mg base CX0 3 f fd ["many", "value"] spIsOrder := by
  refine F.ok scIsOrder (fun vs H Q E h => ?_) (fun cdv A outer s H vs Q E hr h => ?_)
  · obtain ⟨n, t, o, rfl, _⟩ := h
    rfl
  · obtain ⟨n, t, o, rfl, ht, hl, h1000, ho, hnd, q⟩ := h
    have hr1 : Room 1 _ := hr.mono (by decide)
    refine ⟨_, pss_cons (ps_if (PW.pt (pw_or (pt_not (pt_val (pe_call GT hr1 (by rfl) gT kT bT .nil pass0 (pa_cons (pv 1) (pa_cons (pv 0) (pa_cons (pv 0) pa_nil))))))
        (pw_or1 (pt_not (pt_val (pe_callB (cr_all rfl) (by rfl) T.all (by decide +kernel) (pa_cons (pe_lc (own := [("told", 2)]) (g := gName 2) (by rfl) scIsOrder.nd (pi_tup (pv 1))
            (blkOk_by (own := [("told", 2)]) (N := ["many", "value", "told"]) (sc := defScope sIsOrder) (by decide +kernel)) (fun _ _ _ _ _ => pg_name (i := 2) scIsOrder.nd rfl (Or.inl rfl)) (fun _ _ _ _ _ => pts_nil)
            (fun _ _ _ _ _ => pe_call GW hr (by rfl) gW kW bW .nil pass0 (pa_cons (pv 2) (pa_cons pe_int (pa_cons (pe_op op_sub (pv 0) pe_int) pa_nil))))) pa_nil)))))))
          (pss_one ps_never) pss_nil)
      (pss_one (ps_ret (pe_cmpR op_eq (pe_callB cr_lenSet (by rfl) T.len PySem.boot_len (pa_cons (pe_callTy (cr_setT rfl) (by rfl) T.set (by decide +kernel) (pa_cons (pv 1) pa_nil)) pa_nil)) (pv 0) (nomark _)))), ?_⟩
    have hml : ((o.map V.int).length : Int) = n := by rw [List.length_map]; exact hl
    refine ⟨.ref t, rfl, .int n, rfl, .int n, rfl, t, _, n, n, rfl, ht, Int.le_of_eq hml.symm, Int.le_of_eq hml, true, rfl, iteF ?_⟩
    refine ⟨.ref t, rfl, t, rfl, ⟨_, sqT ht⟩, fun D hD => ?_⟩
    refine lc_tup (xs := o.map V.int) (fun i H' => Same H H' ∧ H' D = some (.lst ((List.replicate i true).map V.bl))) ⟨same_upd hD, upd_same⟩ (fun i H' _ p => sqT (p.1 _ _ ht)) (fun i x H' hx p => ?_) (fun H' p => ?_)
    · obtain ⟨z, hz, rfl⟩ := ints_get hx
      have hzo := ho z (List.mem_of_getElem? hz)
      have hio : i < o.length := (List.getElem?_eq_some_iff.mp hz).1
      refine ⟨rfl, yes_ok (iteT ?_)⟩
      refine ⟨.int z, rfl, .int n, rfl, n, 1, rfl, rfl, z, 0, n - 1, rfl, hzo.1, by omega, _, p.2, ?_, ?_, ?_⟩
      · rw [List.length_map, List.length_replicate]
        exact small1000 (by omega)
      · intro b u e
        rw [upd_ne (ne_of_none e hD)]
        exact p.1 _ _ e
      · rw [upd_same, List.replicate_succ', List.map_append]
        rfl
    · have e : (List.replicate (o.map V.int).length true).all id = true := by
        rw [List.all_eq_true]
        intro x hx
        rw [(List.mem_replicate.mp hx).2]
        rfl
      refine ⟨D, _, rfl, sqL p.2, true, by rw [e], iteF ?_⟩
      have hnn : (o.length : Int) ≤ 1000 := by omega
      refine ⟨.ref t, rfl, t, o, rfl, sqT (p.1 _ _ ht), by omega, hnd, fun z hz => ?_⟩
      refine ⟨z, _, _, rfl, upd_same, by omega, .int n, rfl, rfl, ?_⟩
      show Q (V.bl (decide (V.int (o.length : Int) = V.int n))) _
      rw [hl, decide_eq_true rfl]
      exact q _ (p.1.trans (same_upd hz))
def spNeedOrder : Sp := fun vs H Q _ => ∃ (n : Int) (t : Addr) (o : List Int), vs = [.int n, .ref t] ∧ H t = some (.tup (o.map V.int)) ∧ (o.length : Int) = n ∧ n ≤ 1000 ∧ (∀ x ∈ o, 0 ≤ x ∧ x < n) ∧ o.Nodup ∧ ∀ H', Same H H' → Q .non H'
theorem scNeedOrder : FnScope ["many", "value"] ["many", "value"] (defScope sNeedOrder) := ⟨rfl, rfl, rfl, by decide +kernel, rfl, by decide +kernel, by decide +kernel⟩
theorem ok_needOrder {f fO : Addr} {fd fdO : FuncData} (F : Fun K "need_order" "need_order" sNeedOrder f fd) 
    (GO : FnOk P w K mg base CX0 3 fO fdO ["many", "value"] spIsOrder) (kO : PySem.W.keepIn K (.ref fO) = true) (bO : Binds K fdO ["many", "value"] []) (gO : mg "is_order" = some (.ref fO)) : FnOk P w K mg base CX0 4 f fd ["many", "value"] spNeedOrder := by
  refine F.ok scNeedOrder (fun vs H Q E h => ?_) (fun cdv A outer s H vs Q E hr h => ?_)
  · obtain ⟨n, t, o, rfl, _⟩ := h
    rfl
  · obtain ⟨n, t, o, rfl, ht, hl, h1000, ho, hnd, q⟩ := h
    refine ⟨_, pss_one (ps_if (pt_not (pt_val (pe_call GO hr (by rfl) gO kO bO .nil pass0 (pa_cons (pv 0) (pa_cons (pv 1) pa_nil))))) (pss_one ps_never) pss_nil), ?_⟩
    exact ⟨.int n, rfl, .ref t, rfl, n, t, o, rfl, ht, hl, h1000, ho, hnd, fun H' s => ⟨true, rfl, iteF (q H' s)⟩⟩
/-! ### need_jobs -/
def spNeedJobs : Sp := fun vs H Q _ => ∃ (p : Addr) (js : KM.Jobs), vs = [.ref p] ∧ JobsAt H p js ∧ KM.Fit js ∧ 1 ≤ js.length ∧ js.length ≤ 7 ∧ ∀ H', Same H H' → Q .non H'
theorem scNeedJobs : FnScope ["value", "index", "job"] ["value"] (defScope sNeedJobs) := ⟨rfl, rfl, rfl, by decide +kernel, rfl, by decide +kernel, by decide +kernel⟩
theorem ok_needJobs {f fT fW : Addr} {fd fdT fdW : FuncData} (F : Fun K "need_jobs" "need_jobs" sNeedJobs f fd) (T : Names mg)
    (GT : FnOk P w K mg base CX0 1 fT fdT ["value", "low", "high"] spTupleOf) (kT : PySem.W.keepIn K (.ref fT) = true) (bT : Binds K fdT ["value", "low", "high"] []) (gT : mg "tuple_of" = some (.ref fT))
    (GW : FnOk P w K mg base CX0 2 fW fdW ["value", "low", "high"] spWithin) (kW : PySem.W.keepIn K (.ref fW) = true) (bW : Binds K fdW ["value", "low", "high"] []) (gW : mg "within" = some (.ref fW)) : FnOk P w K mg base CX0 3 f fd ["value"] spNeedJobs := by
  obtain ⟨tJ, gJ⟩ := T.mostJobs
  obtain ⟨tS, gS⟩ := T.mostSize
  refine F.ok scNeedJobs (fun vs H Q E h => ?_) (fun cdv A outer s H vs Q E hr h => ?_)
  · obtain ⟨p, js, rfl, _⟩ := h
    rfl
  · obtain ⟨p, js, rfl, hJ, hF, hl1, hl7, q⟩ := h
    have hr1 : Room 1 _ := hr.mono (by decide)
    refine ⟨_, pss_cons (ps_if (pt_not (pt_val (pe_call GT hr1 (by rfl) gT kT bT .nil pass0 (pa_cons (pv 0) (pa_cons pe_int (pa_cons (pe_glob (v := .int 7) rfl gJ ⟨_, rfl⟩) pa_nil)))))) (pss_one ps_never) pss_nil)
      (pss_one (ps_for PassesOwn.never rfl (pi_enumT (by rfl) T.enum (pa_cons (pv 0) pa_nil)) (pg_tup rfl (pgs_cons (pg_name (i := 1) scNeedJobs.nd rfl (.inl rfl)) (pgs_cons (pg_name (i := 2) scNeedJobs.nd rfl (.inl rfl)) pgs_nil)))
        (pss_one (ps_if (PW.pt (pw_or (pt_not (pt_val (pe_call GT hr1 (by rfl) gT kT bT .nil pass0 (pa_cons (pv 2) (pa_cons pe_int (pa_cons pe_int pa_nil))))))
          (pw_or (pt_not (pt_val (pe_call GW hr (by rfl) gW kW bW .nil pass0 (pa_cons (pe_ix ix_tup (pv 2) pe_int (fun _ _ => rfl)) (pa_cons pe_int (pa_cons (pe_glob (v := .int 99) rfl gS ⟨_, rfl⟩) pa_nil))))))
          (pw_or1 (pt_not (pt_val (pe_call GW hr (by rfl) gW kW bW .nil pass0 (pa_cons (pe_ix ix_tup (pv 2) pe_int (fun _ _ => rfl)) (pa_cons pe_int (pa_cons (pe_glob (v := .int 99) rfl gS ⟨_, rfl⟩) pa_nil)))))))))) (pss_one ps_never) pss_nil)))), ?_⟩
    obtain ⟨ts, hts, hp, hj⟩ := id hJ
    have htl : (ts.map V.ref).length = js.length := by rw [List.length_map, hts]
    refine ⟨.ref p, rfl, p, _, 1, 7, rfl, hp, by omega, by omega, true, rfl, iteF ?_⟩
    refine ⟨.ref p, rfl, p, ts.map V.ref, rfl, sqT hp, for_enumT (xs := ts.map V.ref) (fun i σ H' => ∃ y1 y2, σ = [some (.ref p), y1, y2] ∧ Same H H') ⟨none, none, rfl, Same.refl _⟩ (fun i σ H' _ ⟨_, _, _, s⟩ => sqT (s _ _ hp)) ?_ ?_⟩
    · rintro i x σ H' hx ⟨y1, y2, rfl, s⟩ T0 nT
      obtain ⟨t, ht, rfl⟩ := refs_get hx
      have hi : i < js.length := by rw [← hts]; exact (List.getElem?_eq_some_iff.mp ht).1
      obtain ⟨j, hjj⟩ := get_of (l := js) rfl hi
      have hjf := hF j (List.mem_of_getElem? hjj)
      have s2 : Same H (upd H' T0 (.tup [.int (i : Nat), .ref t])) := s.trans (same_upd nT)
      have htt := s2 _ _ (hj i t j ht hjj)
      refine ⟨T0, _, rfl, sqT upd_same, rfl, .int (i : Nat), [.ref t], rfl, .ref t, [], rfl, rfl, ?_⟩
      refine ⟨.ref t, rfl, t, _, 2, 2, rfl, htt, Int.le_refl 2, Int.le_refl 2, true, rfl, iteF ?_⟩
      refine ⟨.ref t, rfl, t, _, 0, .int j.1, rfl, rfl, sqT htt, atI_nat (j := 0) rfl, j.1, 1, 99, rfl, hjf.1, hjf.2.1, true, rfl, iteF ?_⟩
      refine ⟨.ref t, rfl, t, _, 1, .int j.2, rfl, rfl, sqT htt, atI_nat (j := 1) rfl, j.2, 0, 99, rfl, hjf.2.2.1, hjf.2.2.2, true, rfl, iteF ?_⟩
      exact ⟨_, _, rfl, s2⟩
    · rintro σ H' ⟨y1, y2, rfl, s⟩
      exact q _ s
end
end KX

set_option Elab.async false
set_option linter.all false
set_option maxRecDepth 100000
set_option maxHeartbeats 4000000
namespace KX
open PySem PySem.Spec PyProof.Rows L2
abbrev sCostIn : Stmt := topS 14
abbrev sWaitingCost : Stmt := topS 15
abbrev sSortedJobs : Stmt := topS 16
abbrev sBestOrder : Stmt := topS 17
abbrev sWaits : Stmt := topS 24
/-! ### what evaluates to a value, the heap left as it is -/
def Vl (te : TE) (σ : L2.St) (H : Hp) (v : V) : Prop := ∀ Q : VK, Q v H → te σ H Q
section
variable {K : PySem.W.Frag} {σ : L2.St} {H : Hp} {ta tb tx : TE} {v : V}
theorem vl_var {i : Nat} (h : σ[i]? = some (some v)) : Vl (tVar i) σ H v := fun Q q => ⟨v, h, q⟩
theorem vl_c : Vl (tC v) σ H v := fun Q q => q
theorem vl_ixT {p : Addr} {xs : List V} {i : Int} (ha : Vl ta σ H (.ref p)) (hb : Vl tb σ H (.int i)) (hp : SqT K H p xs) (hv : atI xs i = some v) : Vl (tOp (rIxT K) ta tb) σ H v :=
  fun Q q => ha _ (hb _ ⟨p, xs, i, v, rfl, rfl, hp, hv, q⟩)
theorem vl_ixL {p : Addr} {xs : List V} {i : Int} (ha : Vl ta σ H (.ref p)) (hb : Vl tb σ H (.int i)) (hp : SqL K H p xs) (hv : atI xs i = some v) : Vl (tOp (rIxL K) ta tb) σ H v :=
  fun Q q => ha _ (hb _ ⟨p, xs, i, v, rfl, rfl, hp, hv, q⟩)
theorem vl_mul {i j : Int} (ha : Vl ta σ H (.int i)) (hb : Vl tb σ H (.int j)) (hc : CMul i j) : Vl (tOp (rI CMul fun i j => .int (i * j)) ta tb) σ H (.int (i * j)) :=
  fun Q q => ha _ (hb _ ⟨i, j, rfl, rfl, hc, q⟩)
theorem vl_op {g : Int → Int → V} {i j : Int} (ha : Vl ta σ H (.int i)) (hb : Vl tb σ H (.int j)) : Vl (tOp (rI0 g) ta tb) σ H (g i j) :=
  fun Q q => ha _ (hb _ ⟨i, j, rfl, rfl, q⟩)
theorem vl_opC {C : Int → Int → Prop} {g : Int → Int → V} {i j : Int} (ha : Vl ta σ H (.int i)) (hb : Vl tb σ H (.int j)) (hc : C i j) : Vl (tOp (rI C g) ta tb) σ H (g i j) :=
  fun Q q => ha _ (hb _ ⟨i, j, rfl, rfl, hc, q⟩)
theorem vl_len {p : Addr} {xs : List V} (ha : Vl ta σ H (.ref p)) (hp : SqL K H p xs ∨ SqT K H p xs) :
    Vl (tCB (fun xs H Q => ∃ p ys, xs = [V.ref p] ∧ (SqL K H p ys ∨ SqT K H p ys) ∧ Q (.int ys.length) H) (tCons ta tNil)) σ H (.int xs.length) := fun Q q => ha _ ⟨p, xs, rfl, hp, q⟩
theorem vl_test {b : Bool} (h : Vl ta σ H (.bl b)) {Q : Bool → Hp → Prop} (q : Q b H) : tTest ta σ H Q := h _ ⟨b, rfl, q⟩
theorem atI_int {xs : List V} {i : Int} (h0 : 0 ≤ i) (h : xs[i.toNat]? = some v) : atI xs i = some v := by
  have e : ((i.toNat : Nat) : Int) = i := by omega
  rw [← e]
  exact atI_nat h
theorem job_at {p : Addr} {js : KM.Jobs} {x : Int} (hJ : JobsAt H p js) (h0 : 0 ≤ x) (h1 : x < js.length) :
    ∃ (ts : List Addr) (t : Addr), SqT K H p (ts.map V.ref) ∧ atI (ts.map V.ref) x = some (.ref t) ∧ SqT K H t [.int (KM.lenOf js x), .int (KM.priceOf js x)] := by
  obtain ⟨ts, hts, hp, hj⟩ := hJ
  have hx : x.toNat < js.length := by omega
  obtain ⟨t, ht⟩ := get_of hts hx
  obtain ⟨j, hjj⟩ := get_of (l := js) rfl hx
  refine ⟨ts, t, sqT hp, atI_int h0 ?_, sqT ?_⟩
  · rw [List.getElem?_map, ht]
    rfl
  · have e := hj _ t j ht hjj
    have ej : js.getD x.toNat (1, 0) = j := by rw [List.getD_eq_getElem?_getD, hjj]; rfl
    unfold KM.lenOf KM.priceOf
    rw [ej]
    exact e
theorem vl_len_of {p : Addr} {js : KM.Jobs} {x : Int} (hJ : JobsAt H p js) (h0 : 0 ≤ x) (h1 : x < js.length) (ha : Vl ta σ H (.ref p)) (hx : Vl tx σ H (.int x)) : Vl (tOp (rIxT K) (tOp (rIxT K) ta tx) (tC (.int 0))) σ H (.int (KM.lenOf js x)) := by
  obtain ⟨ts, t, h2, h3, h4⟩ := job_at (K := K) hJ h0 h1
  exact vl_ixT (vl_ixT ha hx h2 h3) vl_c h4 (atI_nat (j := 0) rfl)
theorem vl_price_of {p : Addr} {js : KM.Jobs} {x : Int} (hJ : JobsAt H p js) (h0 : 0 ≤ x) (h1 : x < js.length) (ha : Vl ta σ H (.ref p)) (hx : Vl tx σ H (.int x)) : Vl (tOp (rIxT K) (tOp (rIxT K) ta tx) (tC (.int 1))) σ H (.int (KM.priceOf js x)) := by
  obtain ⟨ts, t, h2, h3, h4⟩ := job_at (K := K) hJ h0 h1
  exact vl_ixT (vl_ixT ha hx h2 h3) vl_c h4 (atI_nat (j := 1) rfl)
end
theorem cmul_price {js : KM.Jobs} (F : KM.Fit js) (x y : Int) : CMul (KM.priceOf js x) y := by
  have h := F.price x
  refine .inl ⟨?_, ?_⟩ <;> omega
theorem rgV_range (n : Nat) : rgV 0 (n : Int) = (KM.rangeI n).map V.int := by
  unfold rgV KM.rangeI
  rw [List.map_map]
  have e : ((n : Int) - 0).toNat = n := by omega
  rw [e]
  refine List.map_congr_left fun k _ => ?_
  show V.int (0 + (k : Int)) = V.int (k : Int)
  rw [Int.zero_add]
section
variable {P : Program} {w : World} {K : PySem.W.Frag} {mg : Str → Option Value} {base : Heap}
/-! ### cost_in, _law_waits -/
def spCost : Sp := fun vs H Q _ => ∃ (p t : Addr) (js : KM.Jobs) (o : List Int), vs = [.ref p, .ref t] ∧ JobsAt H p js ∧ KM.Fit js ∧ H t = some (.tup (o.map V.int)) ∧ (∀ x ∈ o, 0 ≤ x ∧ x < js.length) ∧ ∀ H', Same H H' → Q (.int (KM.costOf js o)) H'
theorem scCostIn : FnScope ["jobs", "order", "found", "time", "told"] ["jobs", "order"] (defScope sCostIn) := ⟨rfl, rfl, rfl, by decide +kernel, rfl, by decide +kernel, by decide +kernel⟩
theorem ok_costIn {f : Addr} {fd : FuncData} (F : Fun K "cost_in" "cost_in" sCostIn f fd) : FnOk P w K mg base CX0 1 f fd ["jobs", "order"] spCost := by
  refine F.ok scCostIn (fun vs H Q E h => ?_) (fun cdv A outer s H vs Q E hr h => ?_)
  · obtain ⟨p, t, js, o, rfl, _⟩ := h
    rfl
  · obtain ⟨p, t, js, o, rfl, hJ, hF, ht, ho, q⟩ := h
    refine ⟨_, pss_cons (ps_asg (pe_tup (pa_cons pe_int (pa_cons pe_int pa_nil))) (pg_tup rfl (pgs_cons (pg_name (i := 2) scCostIn.nd rfl (.inl rfl)) (pgs_cons (pg_name (i := 3) scCostIn.nd rfl (.inl rfl)) pgs_nil))))
      (pss_cons (ps_for PassesOwn.never rfl (pi_tup (pv 1)) (pg_name (i := 4) scCostIn.nd rfl (.inl rfl))
        (pss_cons (ps_aug (i := 3) scCostIn.nd rfl (.inl rfl) (pe_ix ix_tup (pe_ix ix_tup (pv 0) (pv 4) (fun _ _ => rfl)) pe_int (fun _ _ => rfl)) ip_add)
        (pss_one (ps_aug (i := 2) scCostIn.nd rfl (.inl rfl) (pe_op op_mul (pe_ix ix_tup (pe_ix ix_tup (pv 0) (pv 4) (fun _ _ => rfl)) pe_int (fun _ _ => rfl)) (pv 3)) ip_add))))
      (pss_one (ps_ret (pv 2)))), ?_⟩
    refine ⟨by show 2 ≤ sizeLine; decide, fun c hc => ?_⟩
    have s1 : Same H (upd H c (.tup [.int 0, .int 0])) := same_upd hc
    refine ⟨c, _, rfl, sqT upd_same, rfl, .int 0, [.int 0], rfl, .int 0, [], rfl, rfl, ?_⟩
    refine ⟨.ref t, rfl, t, rfl, ⟨_, sqT (s1 _ _ ht)⟩, for_tup (K := K) (xs := o.map V.int) (fun i σ H' => ∃ y, σ = [some (.ref p), some (.ref t), some (.int (KM.run js (o.take i)).1), some (.int (KM.run js (o.take i)).2), y] ∧ Same H H')
      ⟨none, rfl, s1⟩ (fun i σ H' _ ⟨_, _, s⟩ => sqT (s _ _ ht)) ?_ ?_⟩
    · rintro i x σ H' hx ⟨y, rfl, s⟩
      obtain ⟨z, hz, rfl⟩ := ints_get hx
      obtain ⟨h0, h1⟩ := ho z (List.mem_of_getElem? hz)
      have hJ' := hJ.same s
      have e := KM.run_take (js := js) hz
      refine ⟨_, rfl, vl_len_of hJ' h0 h1 (vl_var rfl) (vl_var rfl) _ ⟨_, _, rfl, rfl, ?_⟩⟩
      refine ⟨_, rfl, vl_mul (vl_price_of hJ' h0 h1 (vl_var rfl) (vl_var rfl)) (vl_var rfl) (cmul_price hF _ _) _ ⟨_, _, rfl, rfl, ?_⟩⟩
      exact ⟨_, by rw [e]; rfl, s⟩
    · rintro σ H' ⟨y, rfl, s⟩
      refine ⟨_, rfl, ?_⟩
      rw [List.length_map, List.take_length]
      exact q _ s
theorem scWaits : FnScope ["_law_jobs_here", "_law_order", "_law_found", "_law_time", "_law_told"] ["_law_jobs_here", "_law_order"] (defScope sWaits) := ⟨rfl, rfl, rfl, by decide +kernel, rfl, by decide +kernel, by decide +kernel⟩
theorem ok_waits {f : Addr} {fd : FuncData} (F : Fun K "_law_waits" "_law_waits" sWaits f fd) : FnOk P w K mg base CX0 1 f fd ["_law_jobs_here", "_law_order"] spCost := by
  refine F.ok scWaits (fun vs H Q E h => ?_) (fun cdv A outer s H vs Q E hr h => ?_)
  · obtain ⟨p, t, js, o, rfl, _⟩ := h
    rfl
  · obtain ⟨p, t, js, o, rfl, hJ, hF, ht, ho, q⟩ := h
    refine ⟨_, pss_cons (ps_asg (pe_tup (pa_cons pe_int (pa_cons pe_int pa_nil))) (pg_tup rfl (pgs_cons (pg_name (i := 2) scWaits.nd rfl (.inl rfl)) (pgs_cons (pg_name (i := 3) scWaits.nd rfl (.inl rfl)) pgs_nil))))
      (pss_cons (ps_for PassesOwn.never rfl (pi_tup (pv 1)) (pg_name (i := 4) scWaits.nd rfl (.inl rfl))
        (pss_cons (ps_set (i := 3) scWaits.nd rfl (.inl rfl) (pe_op op_add (pv 3) (pe_ix ix_tup (pe_ix ix_tup (pv 0) (pv 4) (fun _ _ => rfl)) pe_int (fun _ _ => rfl))))
        (pss_one (ps_set (i := 2) scWaits.nd rfl (.inl rfl) (pe_op op_add (pv 2) (pe_op op_mul (pe_ix ix_tup (pe_ix ix_tup (pv 0) (pv 4) (fun _ _ => rfl)) pe_int (fun _ _ => rfl)) (pv 3)))))))
      (pss_one (ps_ret (pv 2)))), ?_⟩
    refine ⟨by show 2 ≤ sizeLine; decide, fun c hc => ?_⟩
    have s1 : Same H (upd H c (.tup [.int 0, .int 0])) := same_upd hc
    refine ⟨c, _, rfl, sqT upd_same, rfl, .int 0, [.int 0], rfl, .int 0, [], rfl, rfl, ?_⟩
    refine ⟨.ref t, rfl, t, rfl, ⟨_, sqT (s1 _ _ ht)⟩, for_tup (K := K) (xs := o.map V.int) (fun i σ H' => ∃ y, σ = [some (.ref p), some (.ref t), some (.int (KM.run js (o.take i)).1), some (.int (KM.run js (o.take i)).2), y] ∧ Same H H')
      ⟨none, rfl, s1⟩ (fun i σ H' _ ⟨_, _, s⟩ => sqT (s _ _ ht)) ?_ ?_⟩
    · rintro i x σ H' hx ⟨y, rfl, s⟩
      obtain ⟨z, hz, rfl⟩ := ints_get hx
      obtain ⟨h0, h1⟩ := ho z (List.mem_of_getElem? hz)
      have hJ' := hJ.same s
      have e := KM.run_take (js := js) hz
      refine vl_op (vl_var rfl) (vl_len_of hJ' h0 h1 (vl_var rfl) (vl_var rfl)) _ ?_
      refine vl_op (vl_var rfl) (vl_mul (vl_price_of hJ' h0 h1 (vl_var rfl) (vl_var rfl)) (vl_var rfl) (cmul_price hF _ _)) _ ?_
      exact ⟨_, by rw [e]; rfl, s⟩
    · rintro σ H' ⟨y, rfl, s⟩
      refine ⟨_, rfl, ?_⟩
      rw [List.length_map, List.take_length]
      exact q _ s
/-! ### waiting_cost -/
def spWaitingCost : Sp := fun vs H Q _ => ∃ (p t : Addr) (js : KM.Jobs) (o : List Int), vs = [.ref p, .ref t] ∧ JobsAt H p js ∧ KM.Fit js ∧ 1 ≤ js.length ∧ js.length ≤ 7 ∧ H t = some (.tup (o.map V.int)) ∧ o.length = js.length ∧ (∀ x ∈ o, 0 ≤ x ∧ x < js.length) ∧ o.Nodup ∧ ∀ H', Same H H' → Q (.int (KM.costOf js o)) H'
theorem scWaitingCost : FnScope ["jobs", "order"] ["jobs", "order"] (defScope sWaitingCost) := ⟨rfl, rfl, rfl, by decide +kernel, rfl, by decide +kernel, by decide +kernel⟩
theorem ok_waitingCost {f fJ fO fC : Addr} {fd fdJ fdO fdC : FuncData} (F : Fun K "waiting_cost" "waiting_cost" sWaitingCost f fd) (T : Names mg)
    (GJ : FnOk P w K mg base CX0 3 fJ fdJ ["value"] spNeedJobs) (kJ : PySem.W.keepIn K (.ref fJ) = true) (bJ : Binds K fdJ ["value"] []) (gJ : mg "need_jobs" = some (.ref fJ))
    (GO : FnOk P w K mg base CX0 4 fO fdO ["many", "value"] spNeedOrder) (kO : PySem.W.keepIn K (.ref fO) = true) (bO : Binds K fdO ["many", "value"] []) (gO : mg "need_order" = some (.ref fO))
    (GC : FnOk P w K mg base CX0 1 fC fdC ["jobs", "order"] spCost) (kC : PySem.W.keepIn K (.ref fC) = true) (bC : Binds K fdC ["jobs", "order"] []) (gC : mg "cost_in" = some (.ref fC)) : FnOk P w K mg base CX0 5 f fd ["jobs", "order"] spWaitingCost := by
  refine F.ok scWaitingCost (fun vs H Q E h => ?_) (fun cdv A outer s H vs Q E hr h => ?_)
  · obtain ⟨p, t, js, o, rfl, _⟩ := h
    rfl
  · obtain ⟨p, t, js, o, rfl, hJ, hF, hl1, hl7, ht, hol, ho, hnd, q⟩ := h
    have hr3 : Room 3 _ := hr.mono (by decide)
    have hr1 : Room 1 _ := hr.mono (by decide)
    refine ⟨_, pss_cons (ps_expr (pe_call GJ hr3 (by rfl) gJ kJ bJ .nil pass0 (pa_cons (pv 0) pa_nil)))
      (pss_cons (ps_expr (pe_call GO hr (by rfl) gO kO bO .nil pass0 (pa_cons (pe_callB call_len_seq (by rfl) T.len PySem.boot_len (pa_cons (pv 0) pa_nil)) (pa_cons (pv 1) pa_nil))))
      (pss_one (ps_ret (pe_call GC hr1 (by rfl) gC kC bC .nil pass0 (pa_cons (pv 0) (pa_cons (pv 1) pa_nil)))))), ?_⟩
    refine ⟨.ref p, rfl, p, js, rfl, hJ, hF, hl1, hl7, fun H1 s1 => ?_⟩
    obtain ⟨ts, hts, hp, hj⟩ := hJ.same s1
    refine ⟨.ref p, rfl, p, ts.map V.ref, rfl, .inr (sqT hp), .ref t, rfl, _, t, o, rfl, s1 _ _ ht, ?_, ?_, ?_, hnd, fun H2 s2 => ?_⟩
    · rw [List.length_map]; omega
    · rw [List.length_map]; omega
    · rw [List.length_map, hts]; exact ho
    · exact ⟨.ref p, rfl, .ref t, rfl, p, t, js, o, rfl, hJ.same (s1.trans s2), hF, s2 _ _ (s1 _ _ ht), ho, fun H3 s3 => q _ ((s1.trans s2).trans s3)⟩
/-! ### sorted_jobs -/
def spSortedJobs : Sp := fun vs H Q _ => ∃ (p g : Addr) (js : KM.Jobs), vs = [.ref p, .ref g] ∧ JobsAt H p js ∧ KM.Fit js ∧ js.length ≤ 7 ∧ H g = some (.lst ((KM.rangeI js.length).map V.int)) ∧
  ∀ (H' : Hp) (r : Addr) (L : List Int), H r = none → Same H H' → H' r = some (.lst (L.map V.int)) → L.Perm (KM.rangeI js.length) → L.Pairwise (KM.Ahead js) → Q (.ref r) H'
theorem scSortedJobs : FnScope ["jobs", "group", "found", "told", "spot"] ["jobs", "group"] (defScope sSortedJobs) := ⟨rfl, rfl, rfl, by decide +kernel, rfl, by decide +kernel, by decide +kernel⟩
theorem ok_sortedJobs {f : Addr} {fd : FuncData} (F : Fun K "sorted_jobs" "sorted_jobs" sSortedJobs f fd) (T : Names mg) : FnOk P w K mg base CX0 1 f fd ["jobs", "group"] spSortedJobs := by
  refine F.ok scSortedJobs (fun vs H Q E h => ?_) (fun cdv A outer s H vs Q E hr h => ?_)
  · obtain ⟨p, g, js, rfl, _⟩ := h
    rfl
  · obtain ⟨p, g, js, rfl, hJ, hF, hl7, hg, q⟩ := h
    refine ⟨_, pss_cons (ps_set (i := 2) scSortedJobs.nd rfl (.inl rfl) (pe_lst pa_nil))
      (pss_cons (ps_for PassesOwn.never rfl (pi_list (pv 1)) (pg_name (i := 3) scSortedJobs.nd rfl (.inl rfl))
        (pss_cons (ps_set (i := 4) scSortedJobs.nd rfl (.inl rfl) pe_int)
        (pss_cons (ps_while PassesOwn.never (PW.pt (pw_and (pt_cmpR op_lt (pv 4) (pe_callB call_len_seq (by rfl) T.len PySem.boot_len (pa_cons (pv 2) pa_nil)) (nomark _))
            (pw_and1 (pt_cmpR op_ge (pe_op op_mul (pe_ix ix_tup (pe_ix ix_tup (pv 0) (pe_ix ix_list (pv 2) (pv 4) (fun _ _ => rfl)) (fun _ _ => rfl)) pe_int (fun _ _ => rfl)) (pe_ix ix_tup (pe_ix ix_tup (pv 0) (pv 3) (fun _ _ => rfl)) pe_int (fun _ _ => rfl)))
              (pe_op op_mul (pe_ix ix_tup (pe_ix ix_tup (pv 0) (pv 3) (fun _ _ => rfl)) pe_int (fun _ _ => rfl)) (pe_ix ix_tup (pe_ix ix_tup (pv 0) (pe_ix ix_list (pv 2) (pv 4) (fun _ _ => rfl)) (fun _ _ => rfl)) pe_int (fun _ _ => rfl))) (nomark _)))))
          (pss_one (ps_aug (i := 4) scSortedJobs.nd rfl (.inl rfl) pe_int ip_add)))
        (pss_one (ps_expr (pe_bm PySem.F.plainAttrs_list PySem.F.slot_list_insert PySem.F.type_list_insert mt_insert (pv 2) (pa_cons (pv 4) (pa_cons (pv 3) pa_nil))))))))
      (pss_one (ps_ret (pv 2)))), ?_⟩
    refine ⟨Nat.zero_le _, fun o no => ?_⟩
    have s1 : Same H (upd H o (.lst [])) := same_upd no
    refine ⟨.ref g, rfl, g, rfl, ⟨_, sqL (s1 _ _ hg)⟩, for_list (K := K) (xs := (KM.rangeI js.length).map V.int) (fun i σ H' => ∃ (L : List Int) (y3 y4 : Option V), σ = [some (.ref p), some (.ref g), some (.ref o), y3, y4] ∧ Same H H' ∧ H' o = some (.lst (L.map V.int)) ∧ L.Perm (KM.rangeI i) ∧ L.Pairwise (KM.Ahead js))
      ⟨[], none, none, rfl, s1, upd_same, List.Perm.nil, List.Pairwise.nil⟩ (fun i σ H' _ ⟨_, _, _, _, s, _⟩ => sqL (s _ _ hg)) ?_ ?_⟩
    · rintro i x σ H' hx ⟨L, y3, y4, rfl, s, eo, hP, hW⟩
      obtain ⟨z, hz, rfl⟩ := ints_get hx
      have hi : i < js.length := by
        have q := (List.getElem?_eq_some_iff.mp hz).1
        rw [KM.rangeI_length] at q
        exact q
      rw [KM.rangeI_get hi] at hz
      cases hz
      have hLl : L.length = i := by rw [hP.length_eq, KM.rangeI_length]
      have hLm : ∀ f ∈ L, 0 ≤ f ∧ f < (i : Int) := fun f hf => KM.rangeI_mem.mp (hP.mem_iff.mp hf)
      have hJ' := hJ.same s
      -- spot = 0; the while
      refine ⟨fun m σ H2 => ∃ k : Nat, k ≤ L.length ∧ m = L.length - k ∧ H2 = H' ∧ σ = [some (.ref p), some (.ref g), some (.ref o), some (.int (i : Nat)), some (.int (k : Nat))] ∧ ∀ (j : Nat) (f : Int), j < k → L[j]? = some f → KM.Stays js f (i : Int),
        ⟨L.length, 0, Nat.zero_le _, rfl, rfl, rfl, fun j f hj _ => absurd hj (Nat.not_lt_zero _)⟩, ?_⟩
      rintro m σ H2 ⟨k, hk, rfl, rfl, rfl, hst⟩
      -- what follows the while, once its test is known to be false
      have after : (∀ f, L[k]? = some f → ¬ KM.Stays js f (i : Int)) → ∃ (L' : List Int) (y3 y4 : Option V), [some (V.ref p), some (.ref g), some (.ref o), some (.int (i : Nat)), some (.int (k : Nat))] = [some (.ref p), some (.ref g), some (.ref o), y3, y4] ∧
          Same H (upd H2 o (.lst ((L.map V.int).take ((k : Int).toNat) ++ [.int (i : Nat)] ++ (L.map V.int).drop ((k : Int).toNat)))) ∧ (upd H2 o (.lst ((L.map V.int).take ((k : Int).toNat) ++ [.int (i : Nat)] ++ (L.map V.int).drop ((k : Int).toNat)))) o = some (.lst (L'.map V.int)) ∧ L'.Perm (KM.rangeI (i + 1)) ∧ L'.Pairwise (KM.Ahead js) := fun hno => by
        refine ⟨L.take k ++ [(i : Int)] ++ L.drop k, _, _, rfl, ?_, ?_, ?_, ?_⟩
        · intro b u e
          rw [upd_ne (ne_of_none e no)]
          exact s _ _ e
        · rw [upd_same, Int.toNat_natCast, List.map_append, List.map_append, List.map_take, List.map_drop]
          rfl
        · rw [KM.rangeI_succ]
          exact KM.insert_perm k hP
        · exact KM.insert_ahead hF hW (fun f hf => (hLm f hf).2) hk hst hno
      have ins : (∀ f, L[k]? = some f → ¬ KM.Stays js f (i : Int)) → tDrop (tBM K "list" (fun x vs H Q => ∃ (l : Addr) (xs : List V) (i : Int) (y : V), x = .ref l ∧ vs = [.int i, y] ∧ H l = some (.lst xs) ∧ xs.length < sizeLine ∧ 0 ≤ i ∧ i < 2 ^ 63 ∧ Q .non (upd H l (.lst (xs.take i.toNat ++ [y] ++ xs.drop i.toNat)))) (tVar 2) (tCons (tVar 4) (tCons (tVar 3) tNil)))
          { nx := fun σ H' => ∃ (L : List Int) (y3 y4 : Option V), σ = [some (.ref p), some (.ref g), some (.ref o), y3, y4] ∧ Same H H' ∧ H' o = some (.lst (L.map V.int)) ∧ L.Perm (KM.rangeI (i + 1)) ∧ L.Pairwise (KM.Ahead js), rt := Q } [some (.ref p), some (.ref g), some (.ref o), some (.int (i : Nat)), some (.int (k : Nat))] H2 := fun hno => by
        refine ⟨.ref o, rfl, .inl ⟨rfl, _, sqL eo⟩, .int (k : Nat), rfl, .int (i : Nat), rfl, o, L.map V.int, (k : Int), .int (i : Nat), rfl, rfl, eo, ?_, by omega, by omega, after hno⟩
        rw [List.length_map]
        exact small1000 (by omega)
      have hi0 : (0 : Int) ≤ (i : Int) := by omega
      have hi1 : (i : Int) < js.length := by omega
      refine vl_test (vl_op (vl_var rfl) (vl_len (vl_var rfl) (.inl (sqL eo)))) ?_
      refine ite2 (fun h => ?_) (fun h => ?_)
      · have hk2 : k < L.length := by
          have h' : (k : Int) < ((L.map V.int).length : Int) := of_decide_eq_true h
          rw [List.length_map] at h'
          omega
        obtain ⟨z, hz⟩ := get_of (l := L) rfl hk2
        have hzm := hLm z (List.mem_of_getElem? hz)
        have hz1 : z < js.length := by omega
        have hzl : Vl (tOp (rIxL K) (tVar 2) (tVar 4)) [some (.ref p), some (.ref g), some (.ref o), some (.int (i : Nat)), some (.int (k : Nat))] H2 (.int z) :=
          vl_ixL (vl_var rfl) (vl_var rfl) (sqL eo) (atI_nat (by rw [List.getElem?_map, hz]; rfl))
        refine vl_test (vl_op (vl_mul (vl_price_of hJ' hzm.1 hz1 (vl_var rfl) hzl) (vl_len_of hJ' hi0 hi1 (vl_var rfl) (vl_var rfl)) (cmul_price hF _ _))
          (vl_mul (vl_price_of hJ' hi0 hi1 (vl_var rfl) (vl_var rfl)) (vl_len_of hJ' hzm.1 hz1 (vl_var rfl) hzl) (cmul_price hF _ _))) ?_
        refine ite2 (fun h2 => ?_) (fun h2 => ?_)
        · have hs : KM.priceOf js (i : Int) * KM.lenOf js z ≤ KM.priceOf js z * KM.lenOf js (i : Int) := of_decide_eq_true h2
          refine ⟨fun σ' H' => σ' = [some (.ref p), some (.ref g), some (.ref o), some (.int (i : Nat)), some (.int ((k + 1 : Nat) : Int))] ∧ H' = H2, fun σ' H' ⟨e1, e2⟩ => ⟨L.length - (k + 1), by omega, k + 1, hk2, rfl, e2, e1, fun j y hj hy => ?_⟩, .int (k : Nat), rfl, (k : Int), 1, rfl, rfl, rfl, rfl⟩
          by_cases hjk : j < k
          · exact hst j y hjk hy
          · have ejk : j = k := by omega
            rw [ejk, hz] at hy
            cases hy
            exact hs
        · refine ins fun y hy => ?_
          rw [hz] at hy
          cases hy
          exact fun hs => h2 (decide_eq_true (show KM.priceOf js (i : Int) * KM.lenOf js z ≤ KM.priceOf js z * KM.lenOf js (i : Int) from hs))
      · refine iteF (ins fun y hy => ?_)
        have hkl := (List.getElem?_eq_some_iff.mp hy).1
        refine absurd (decide_eq_true ?_) h
        show (k : Int) < ((L.map V.int).length : Int)
        rw [List.length_map]
        omega
    · rintro σ H' ⟨L, y3, y4, rfl, s, eo, hP, hW⟩
      rw [List.length_map, KM.rangeI_length] at hP
      exact ⟨.ref o, rfl, q H' o L no s eo hP hW⟩
/-! ### best_order -/
def spBestOrder : Sp := fun vs H Q _ => ∃ (p : Addr) (js : KM.Jobs), vs = [.ref p] ∧ JobsAt H p js ∧ KM.Fit js ∧ 1 ≤ js.length ∧ js.length ≤ 7 ∧
  ∀ (H' : Hp) (r : Addr) (L : List Int), H r = none → Same H H' → H' r = some (.tup (L.map V.int)) → L.Perm (KM.rangeI js.length) → L.Pairwise (KM.Ahead js) → Q (.ref r) H'
theorem scBestOrder : FnScope ["jobs"] ["jobs"] (defScope sBestOrder) := ⟨rfl, rfl, rfl, by decide +kernel, rfl, by decide +kernel, by decide +kernel⟩
theorem ok_bestOrder {f fJ fS : Addr} {fd fdJ fdS : FuncData} (F : Fun K "best_order" "best_order" sBestOrder f fd) (T : Names mg)
    (GJ : FnOk P w K mg base CX0 3 fJ fdJ ["value"] spNeedJobs) (kJ : PySem.W.keepIn K (.ref fJ) = true) (bJ : Binds K fdJ ["value"] []) (gJ : mg "need_jobs" = some (.ref fJ))
    (GS : FnOk P w K mg base CX0 1 fS fdS ["jobs", "group"] spSortedJobs) (kS : PySem.W.keepIn K (.ref fS) = true) (bS : Binds K fdS ["jobs", "group"] []) (gS : mg "sorted_jobs" = some (.ref fS)) : FnOk P w K mg base CX0 4 f fd ["jobs"] spBestOrder := by
  refine F.ok scBestOrder (fun vs H Q E h => ?_) (fun cdv A outer s H vs Q E hr h => ?_)
  · obtain ⟨p, js, rfl, _⟩ := h
    rfl
  · obtain ⟨p, js, rfl, hJ, hF, hl1, hl7, q⟩ := h
    have hr1 : Room 1 _ := hr.mono (by decide)
    refine ⟨_, pss_cons (ps_expr (pe_call GJ hr (by rfl) gJ kJ bJ .nil pass0 (pa_cons (pv 0) pa_nil)))
      (pss_one (ps_ret (pe_callTy call_tuple_of (by rfl) T.tuple (by decide +kernel) (pa_cons (pe_call GS hr1 (by rfl) gS kS bS .nil pass0 (pa_cons (pv 0) (pa_cons (pe_listRg rfl (by rfl) T.list (prg_1 (by rfl) T.range (pe_callB call_len_seq (by rfl) T.len PySem.boot_len (pa_cons (pv 0) pa_nil)))) pa_nil))) pa_nil)))), ?_⟩
    refine ⟨.ref p, rfl, p, js, rfl, hJ, hF, hl1, hl7, fun H1 s1 => ?_⟩
    obtain ⟨ts, hts, hp, hj⟩ := hJ.same s1
    have hml : ((ts.map V.ref).length : Int) = (js.length : Int) := by rw [List.length_map, hts]
    refine ⟨.ref p, rfl, .ref p, rfl, p, ts.map V.ref, rfl, .inr (sqT hp), _, rfl, ?_, fun g hg => ?_⟩
    · rw [hml]
      exact RgOk.of_le (Int.le_refl 0) (by omega) (by decide) (by omega)
    · have s2 : Same H (upd H1 g (.lst (rgV 0 ((ts.map V.ref).length : Int)))) := s1.trans (same_upd hg)
      refine ⟨p, g, js, rfl, hJ.same s2, hF, hl7, ?_, fun H2 r L nr s3 er hP hW => ?_⟩
      · rw [upd_same, hml, rgV_range]
      · refine ⟨r, _, rfl, .inl ⟨sqL er, fun u hu => ?_⟩⟩
        exact q _ u L ((s2.trans s3).free hu) ((s2.trans s3).trans (same_upd hu)) upd_same hP hW
end
end KX

set_option Elab.async false
set_option linter.all false
set_option maxRecDepth 100000
set_option maxHeartbeats 4000000
namespace KX
open PySem PySem.Spec PyProof.Rows L2
abbrev sTaken : Stmt := topS 19
abbrev sPick : Stmt := topS 20
abbrev sJobs : Stmt := topS 21
/-! ### the row of draws, the heap beside it -/
/-- all but the object at r is as it was -/
def But (r : Addr) (H H' : Hp) : Prop := ∀ b o, b ≠ r → H b = some o → H' b = some o
theorem But.refl (r : Addr) (H : Hp) : But r H H := fun _ _ _ h => h
theorem But.trans {r : Addr} {H H1 H2 : Hp} (a : But r H H1) (b : But r H1 H2) : But r H H2 := fun c o n h => b c o n (a c o n h)
theorem But.upd {r : Addr} {H : Hp} {o : HO} : But r H (upd H r o) := fun b u n e => by
  rw [upd_ne n]
  exact e
theorem Same.but {r : Addr} {H H' : Hp} (s : Same H H') : But r H H' := fun b o _ e => s b o e
theorem But.seq {K : PySem.W.Frag} {r a : Addr} {H H' : Hp} {xs : List V} (s : But r H H') (n : a ≠ r) (h : SqL K H a xs) : SqL K H' a xs := by
  rcases h with (h | ⟨o, h⟩) | h
  · exact .inl (.inl (s _ _ n h))
  · exact .inl (.inr ⟨o, s _ _ n h⟩)
  · exact .inr h
/-- tuples stand as they stood -/
def KeepT (H H' : Hp) : Prop := ∀ b xs, H b = some (.tup xs) → H' b = some (.tup xs)
theorem KeepT.trans {H H1 H2 : Hp} (a : KeepT H H1) (b : KeepT H1 H2) : KeepT H H2 := fun c xs h => b c xs (a c xs h)
theorem Same.keepT {H H' : Hp} (s : Same H H') : KeepT H H' := fun b xs e => s b _ e
theorem But.keepT {r : Addr} {H H' : Hp} {ys : List V} (s : But r H H') (h : H r = some (.lst ys)) : KeepT H H' := fun b xs e => s b _ (fun q => by
  rw [q, h] at e
  cases e) e
theorem keepT_upd {H : Hp} {d : Addr} {ys : List V} {o : HO} (h : H d = some (.lst ys)) : KeepT H (upd H d o) := fun b xs e => by
  rw [upd_ne (fun q => by
    rw [q, h] at e
    cases e)]
  exact e
theorem JobsAt.keepT {H H' : Hp} {p : Addr} {js : KM.Jobs} (h : JobsAt H p js) (s : KeepT H H') : JobsAt H' p js := by
  obtain ⟨ts, h1, h2, h3⟩ := h
  exact ⟨ts, h1, s _ _ h2, fun i t j a b => s _ _ (h3 i t j a b)⟩
/-- tuples at ts that hold what f makes of l's things -/
def TupsAt {α : Type} (f : α → List V) (H : Hp) (ts : List Addr) (l : List α) : Prop :=
  ts.length = l.length ∧ ∀ (i : Nat) (t : Addr) (x : α), ts[i]? = some t → l[i]? = some x → H t = some (.tup (f x))
theorem TupsAt.keepT {α : Type} {f : α → List V} {H H' : Hp} {ts : List Addr} {l : List α} (h : TupsAt f H ts l) (s : KeepT H H') : TupsAt f H' ts l := ⟨h.1, fun i t x a b => s _ _ (h.2 i t x a b)⟩
theorem TupsAt.nil {α : Type} {f : α → List V} {H : Hp} : TupsAt f H [] [] := ⟨rfl, fun i t x a _ => by simp at a⟩
theorem TupsAt.app {α : Type} {f : α → List V} {H : Hp} {ts us : List Addr} {l m : List α} (h : TupsAt f H ts l) (k : TupsAt f H us m) : TupsAt f H (ts ++ us) (l ++ m) := by
  obtain ⟨h1, h2⟩ := h
  obtain ⟨k1, k2⟩ := k
  refine ⟨by rw [List.length_append, List.length_append, h1, k1], fun i t x a b => ?_⟩
  by_cases hi : i < ts.length
  · rw [List.getElem?_append_left hi] at a
    rw [List.getElem?_append_left (by omega)] at b
    exact h2 i t x a b
  · rw [List.getElem?_append_right (by omega)] at a
    rw [List.getElem?_append_right (by omega)] at b
    rw [h1] at a
    exact k2 _ t x a b
theorem TupsAt.one {α : Type} {f : α → List V} {H : Hp} {t : Addr} {x : α} (h : H t = some (.tup (f x))) : TupsAt f H [t] [x] := by
  refine ⟨rfl, fun i u y a b => ?_⟩
  cases i with
  | zero =>
    cases a
    cases b
    exact h
  | succ i => simp at a
/-- the row: the script at a, and three numbers -/
def RowV (H : Hp) (r a : Addr) : Prop := ∃ i s d : Int, H r = some (.lst [.ref a, .int i, .int s, .int d]) ∧ 0 ≤ i
def RowAt (K : PySem.W.Frag) (H : Hp) (r a : Addr) (ns : List Int) : Prop := RowV H r a ∧ SqL K H a (ns.map V.int)
theorem RowV.ne {K : PySem.W.Frag} {H : Hp} {r a : Addr} {ns : List Int} (h : RowV H r a) (hs : SqL K H a (ns.map V.int)) : a ≠ r ∨ SqL K (fun _ => none) a (ns.map V.int) := by
  obtain ⟨i, s, d, e, _⟩ := h
  rcases hs with (hs | ⟨o, hs⟩) | hs
  · refine .inl fun q => ?_
    rw [q, e] at hs
    have z := HO.lst.inj (Option.some.inj hs)
    cases ns with
    | nil => cases z
    | cons n r =>
      have z2 := (List.cons.inj z).1
      cases z2
  · refine .inl fun q => ?_
    rw [q, e] at hs
    cases hs
  · exact .inr (.inr hs)
theorem RowAt.sq {K : PySem.W.Frag} {H H' : Hp} {r a : Addr} {ns : List Int} (h : RowAt K H r a ns) (b : But r H H') : SqL K H' a (ns.map V.int) := by
  rcases h.1.ne h.2 with n | k
  · exact b.seq n h.2
  · rcases k with (k | ⟨o, k⟩) | k
    · cases k
    · cases k
    · exact .inr k
theorem RowAt.to {K : PySem.W.Frag} {H H' : Hp} {r a : Addr} {ns : List Int} (h : RowAt K H r a ns) (b : But r H H') (v : RowV H' r a) : RowAt K H' r a ns := ⟨v, h.sq b⟩
theorem RowV.lst {H : Hp} {r a : Addr} (h : RowV H r a) : ∃ ys, H r = some (.lst ys) := by
  obtain ⟨i, s, d, e, _⟩ := h
  exact ⟨_, e⟩
section
variable {K : PySem.W.Frag} {σ : L2.St} {H : Hp} {ta tb tx : TE} {v : V}
theorem vl_int {i : Int} (ha : Vl ta σ H (.int i)) : Vl (tCB (fun xs H Q => (∃ i, xs = [V.int i] ∧ Q (.int i) H) ∨ ∃ k, xs = [V.bl k] ∧ Q (.int (if k then 1 else 0)) H) (tCons ta tNil)) σ H (.int i) := fun Q q => ha _ (.inl ⟨i, rfl, q⟩)
theorem vl_add {i j : Int} (ha : Vl ta σ H (.int i)) (hb : Vl tb σ H (.int j)) : Vl (tOp (rI0 fun i j => .int (i + j)) ta tb) σ H (.int (i + j)) := vl_op ha hb
theorem vl_sub {i j : Int} (ha : Vl ta σ H (.int i)) (hb : Vl tb σ H (.int j)) : Vl (tOp (rI0 fun i j => .int (i - j)) ta tb) σ H (.int (i - j)) := vl_op ha hb
theorem vl_mod {i j : Int} (h : 0 < j) (ha : Vl ta σ H (.int i)) (hb : Vl tb σ H (.int j)) : Vl (tOp (rI (fun _ j => 0 < j) fun i j => .int (i % j)) ta tb) σ H (.int (i % j)) := vl_opC ha hb h
theorem vl_div {i j : Int} (h : 0 < j) (h' : j < 1073741824) (ha : Vl ta σ H (.int i)) (hb : Vl tb σ H (.int j)) : Vl (tOp (rI CDiv fun i j => .int (i / j)) ta tb) σ H (.int (i / j)) := vl_opC ha hb ⟨h, h'⟩
theorem vl_gt {i j : Int} (ha : Vl ta σ H (.int i)) (hb : Vl tb σ H (.int j)) : Vl (tOp (rI0 fun i j => .bl (decide (j < i))) ta tb) σ H (.bl (decide (j < i))) := vl_op ha hb
theorem vl_ge {i j : Int} (ha : Vl ta σ H (.int i)) (hb : Vl tb σ H (.int j)) : Vl (tOp (rI0 fun i j => .bl (decide (j ≤ i))) ta tb) σ H (.bl (decide (j ≤ i))) := vl_op ha hb
theorem vl_mul48 {i : Int} (ha : Vl ta σ H (.int i)) : Vl (tOp (rI CMul fun i j => .int (i * j)) ta (tC (.int 48271))) σ H (.int (i * 48271)) := vl_mul ha vl_c (.inr ⟨by decide, by decide⟩)
theorem vl_mod31 {i : Int} (ha : Vl ta σ H (.int i)) : Vl (tOp (rI (fun _ j => 0 < j) fun i j => .int (i % j)) ta (tC (.int 2147483647))) σ H (.int (i % 2147483647)) := vl_mod (by decide) ha vl_c
theorem vl_div7 {i : Int} (ha : Vl ta σ H (.int i)) : Vl (tOp (rI CDiv fun i j => .int (i / j)) ta (tC (.int 7))) σ H (.int (i / 7)) := vl_div (by decide) (by decide) ha vl_c
theorem vl_pow18 : Vl (tOp (rI CPow fun i j => .int (i ^ j.toNat)) (tC (.int 10)) (tC (.int 18))) σ H (.int (10 ^ (18 : Int).toNat)) := vl_opC vl_c vl_c ⟨by decide, by decide, by decide⟩
/-- an item of the row -/
theorem vl_row {r : Addr} {xs : List V} {k : Nat} (hr : Vl ta σ H (.ref r)) (e : H r = some (.lst xs)) (hx : xs[k]? = some v) : Vl (tOp (rIxL K) ta (tC (.int (k : Nat)))) σ H v := vl_ixL hr vl_c (sqL e) (atI_nat hx)
end
section
variable {P : Program} {w : World} {K : PySem.W.Frag} {mg : Str → Option Value} {base : Heap}
/-! ### _law_taken -/
def spTaken (K : PySem.W.Frag) : Sp := fun vs H Q _ => ∃ (r : Addr) (m : Int) (a : Addr) (ns : List Int), vs = [.ref r, .int m] ∧ RowAt K H r a ns ∧ 0 < m ∧ m < 1073741824 ∧
  ∀ (H' : Hp) (v : Int), But r H H' → RowV H' r a → 0 ≤ v → v < m → Q (.int v) H'
theorem scTaken : FnScope ["_law_row", "_law_many", "_law_found", "_law_cell"] ["_law_row", "_law_many"] (defScope sTaken) := ⟨rfl, rfl, rfl, by decide +kernel, rfl, by decide +kernel, by decide +kernel⟩
theorem ok_taken {f : Addr} {fd : FuncData} (F : Fun K "_law_taken" "_law_taken" sTaken f fd) (T : Names mg) : FnOk P w K mg base CX0 1 f fd ["_law_row", "_law_many"] (spTaken K) := by
  refine F.ok scTaken (fun vs H Q E h => ?_) (fun cdv A outer s H vs Q E hr h => ?_)
  · obtain ⟨r, m, a, ns, rfl, _⟩ := h
    rfl
  · obtain ⟨r, m, a, ns, rfl, hR, h0, hm, q⟩ := h
    refine ⟨_, pss_cons (ps_if (pt_cmpR op_gt (pe_ix ix_list (pv 0) pe_int (fun _ _ => rfl)) pe_int (nomark _))
        (pss_cons (ps_set (i := 2) scTaken.nd rfl (.inl rfl) (pe_op op_mod (pe_callTy call_int1 (by rfl) T.int (by decide +kernel) (pa_cons (pe_ix ix_list (pv 0) pe_int (fun _ _ => rfl)) pa_nil)) (pv 1)))
        (pss_cons (ps_asg (pe_op op_fdiv (pe_ix ix_list (pv 0) pe_int (fun _ _ => rfl)) (pv 1)) (pg_sub (pv 0) pe_int set_list))
        (pss_one (ps_ret (pv 2))))) pss_nil)
      (pss_cons (ps_asg (pe_op op_add (pe_ix ix_list (pv 0) pe_int (fun _ _ => rfl)) pe_int) (pg_sub (pv 0) pe_int set_list))
      (pss_cons (ps_if (pt_cmpR op_gt (pe_ix ix_list (pv 0) pe_int (fun _ _ => rfl)) (pe_callB call_len_seq (by rfl) T.len PySem.boot_len (pa_cons (pe_ix ix_list (pv 0) pe_int (fun _ _ => rfl)) pa_nil)) (nomark _))
        (pss_cons (ps_asg (pe_op op_mod (pe_callTy call_int1 (by rfl) T.int (by decide +kernel) (pa_cons (pe_op op_add (pe_op op_mul (pe_ix ix_list (pv 0) pe_int (fun _ _ => rfl)) pe_int) pe_int) pa_nil)) pe_int) (pg_sub (pv 0) pe_int set_list))
        (pss_one (ps_ret (pe_op op_mod (pe_callTy call_int1 (by rfl) T.int (by decide +kernel) (pa_cons (pe_op op_fdiv (pe_ix ix_list (pv 0) pe_int (fun _ _ => rfl)) pe_int) pa_nil)) (pv 1))))) pss_nil)
      (pss_cons (ps_set (i := 3) scTaken.nd rfl (.inl rfl) (pe_ix ix_list (pe_ix ix_list (pv 0) pe_int (fun _ _ => rfl)) (pe_op op_sub (pe_ix ix_list (pv 0) pe_int (fun _ _ => rfl)) pe_int) (fun _ _ => rfl)))
      (pss_cons (ps_asg (pe_op op_mod (pe_callTy call_int1 (by rfl) T.int (by decide +kernel) (pa_cons (pe_op op_add (pe_op op_add (pe_op op_mul (pe_ix ix_list (pv 0) pe_int (fun _ _ => rfl)) pe_int) (pv 3)) pe_int) pa_nil)) pe_int) (pg_sub (pv 0) pe_int set_list))
      (pss_cons (ps_if (pt_cmpR op_ge (pv 3) (pe_op op_pow pe_int pe_int) (nomark _))
        (pss_one (ps_asg (pe_op op_fdiv (pv 3) (pv 1)) (pg_sub (pv 0) pe_int set_list))) pss_nil)
      (pss_one (ps_ret (pe_op op_mod (pe_callTy call_int1 (by rfl) T.int (by decide +kernel) (pa_cons (pv 3) pa_nil)) (pv 1))))))))), ?_⟩
    obtain ⟨⟨i, sd, d, e, hi⟩, hs⟩ := id hR
    have fin : ∀ (H' : Hp) (i' s' d' v : Int), But r H H' → H' r = some (.lst [.ref a, .int i', .int s', .int d']) → 0 ≤ i' → 0 ≤ v → v < m → Q (.int v) H' := fun H' i' s' d' v b e' hi' h1 h2 => q H' v b ⟨i', s', d', e', hi'⟩ h1 h2
    have md : ∀ x : Int, 0 ≤ x % m ∧ x % m < m := fun x => ⟨Int.emod_nonneg _ (by omega), Int.emod_lt_of_pos _ h0⟩
    refine vl_test (vl_gt (vl_row (k := 3) (vl_var rfl) e rfl) vl_c) ?_
    refine ite2 (fun _ => ?_) (fun _ => ?_)
    · -- a great cell's rest
      refine vl_mod h0 (vl_int (vl_row (k := 3) (vl_var rfl) e rfl)) (vl_var rfl) _ ?_
      refine vl_div h0 hm (vl_row (k := 3) (vl_var rfl) e rfl) (vl_var rfl) _ ?_
      refine ⟨.ref r, rfl, r, _, 3, 3, rfl, rfl, e, rfl, ?_⟩
      exact ⟨_, rfl, fin _ _ _ _ _ But.upd upd_same hi (md d).1 (md d).2⟩
    · -- row[1] = row[1] + 1
      refine vl_add (vl_row (k := 1) (vl_var rfl) e rfl) vl_c _ ?_
      refine ⟨.ref r, rfl, r, _, 1, 1, rfl, rfl, e, rfl, ?_⟩
      have b1 : But r H (upd H r (.lst [.ref a, .int (i + 1), .int sd, .int d])) := But.upd
      have hs1 := hR.sq b1
      have e1 : (upd H r (.lst [.ref a, .int (i + 1), .int sd, .int d])) r = some (.lst [.ref a, .int (i + 1), .int sd, .int d]) := upd_same
      refine vl_test (vl_gt (vl_row (k := 1) (vl_var rfl) e1 rfl) (vl_len (vl_row (k := 0) (vl_var rfl) e1 rfl) (.inl hs1))) ?_
      refine ite2 (fun _ => ?_) (fun hle => ?_)
      · -- behind the script's end
        refine vl_mod31 (vl_int (vl_add (vl_mul48 (vl_row (k := 2) (vl_var rfl) e1 rfl)) vl_c)) _ ?_
        refine ⟨.ref r, rfl, r, _, 2, 2, rfl, rfl, e1, rfl, ?_⟩
        refine vl_mod h0 (vl_int (vl_div7 (vl_row (k := 2) (vl_var rfl) upd_same rfl))) (vl_var rfl) _ ?_
        exact fin _ _ _ _ _ (b1.trans But.upd) upd_same (by omega) (md _).1 (md _).2
      · have hle2 : i + 1 ≤ (ns.length : Int) := by
          have h' : ¬ (((ns.map V.int).length : Int) < i + 1) := fun z => hle (decide_eq_true z)
          rw [List.length_map] at h'
          omega
        obtain ⟨z, hz⟩ := get_of (l := ns) (m := ns.length) (i := (i + 1 - 1).toNat) rfl (by omega)
        have hzv : atI (ns.map V.int) (i + 1 - 1) = some (.int z) := atI_int (by omega) (by rw [List.getElem?_map, hz]; rfl)
        refine vl_ixL (vl_row (k := 0) (vl_var rfl) e1 rfl) (vl_sub (vl_row (k := 1) (vl_var rfl) e1 rfl) vl_c) hs1 hzv _ ?_
        refine vl_mod31 (vl_int (vl_add (vl_add (vl_mul48 (vl_row (k := 2) (vl_var rfl) e1 rfl)) (vl_var rfl)) vl_c)) _ ?_
        refine ⟨.ref r, rfl, r, _, 2, 2, rfl, rfl, e1, rfl, ?_⟩
        refine vl_test (vl_ge (vl_var rfl) vl_pow18) ?_
        refine ite2 (fun _ => ?_) (fun _ => ?_)
        · refine vl_div h0 hm (vl_var rfl) (vl_var rfl) _ ?_
          refine ⟨.ref r, rfl, r, _, 3, 3, rfl, rfl, upd_same, rfl, ?_⟩
          refine vl_mod h0 (vl_int (vl_var rfl)) (vl_var rfl) _ ?_
          exact fin _ _ _ _ _ ((b1.trans But.upd).trans But.upd) upd_same (by omega) (md _).1 (md _).2
        · refine vl_mod h0 (vl_int (vl_var rfl)) (vl_var rfl) _ ?_
          exact fin _ _ _ _ _ (b1.trans But.upd) upd_same (by omega) (md _).1 (md _).2
/-! ### _law_pick -/
def spPick (K : PySem.W.Frag) : Sp := fun vs H Q _ => ∃ (r t a : Addr) (ns : List Int) (xs : List V), vs = [.ref r, .ref t] ∧ RowAt K H r a ns ∧ SqL K H t xs ∧ t ≠ r ∧ 0 < xs.length ∧ xs.length < 1073741824 ∧
  ∀ (H' : Hp) (v : V), But r H H' → RowV H' r a → v ∈ xs → Q v H'
theorem scPick : FnScope ["_law_row", "_law_things"] ["_law_row", "_law_things"] (defScope sPick) := ⟨rfl, rfl, rfl, by decide +kernel, rfl, by decide +kernel, by decide +kernel⟩
theorem ok_pick {f fT : Addr} {fd fdT : FuncData} (F : Fun K "_law_pick" "_law_pick" sPick f fd) (T : Names mg)
    (GT : FnOk P w K mg base CX0 1 fT fdT ["_law_row", "_law_many"] (spTaken K)) (kT : PySem.W.keepIn K (.ref fT) = true) (bT : Binds K fdT ["_law_row", "_law_many"] []) (gT : mg "_law_taken" = some (.ref fT)) : FnOk P w K mg base CX0 2 f fd ["_law_row", "_law_things"] (spPick K) := by
  refine F.ok scPick (fun vs H Q E h => ?_) (fun cdv A outer s H vs Q E hr h => ?_)
  · obtain ⟨r, t, a, ns, xs, rfl, _⟩ := h
    rfl
  · obtain ⟨r, t, a, ns, xs, rfl, hR, ht, hne, hl0, hl, q⟩ := h
    refine ⟨_, pss_one (ps_ret (pe_ix ix_list (pv 1) (pe_call GT hr (by rfl) gT kT bT .nil pass0 (pa_cons (pv 0) (pa_cons (pe_callB call_len_seq (by rfl) T.len PySem.boot_len (pa_cons (pv 1) pa_nil)) pa_nil))) (fun _ _ => rfl))), ?_⟩
    refine ⟨.ref t, rfl, .ref r, rfl, .ref t, rfl, t, xs, rfl, .inl ht, r, _, a, ns, rfl, hR, by omega, by omega, fun H' v b hv h0 h1 => ?_⟩
    obtain ⟨y, hy⟩ := get_of (l := xs) (m := xs.length) (i := v.toNat) rfl (by omega)
    exact ⟨t, xs, v, y, rfl, rfl, b.seq hne ht, atI_int h0 hy, q H' y b hv (List.mem_of_getElem? hy)⟩
/-! ### _law_jobs -/
def jobV (j : Int × Int) : List V := [.int j.1, .int j.2]
theorem jobsAt_of {H : Hp} {p : Addr} {ts : List Addr} {js : KM.Jobs} (h : TupsAt jobV H ts js) (e : H p = some (.tup (ts.map V.ref))) : JobsAt H p js := ⟨ts, h.1, e, fun i t j a b => h.2 i t j a b⟩
def spJobs (K : PySem.W.Frag) : Sp := fun vs H Q _ => ∃ (r a : Addr) (ns : List Int), vs = [.ref r, .int 5] ∧ RowAt K H r a ns ∧
  ∀ (H' : Hp) (p : Addr) (js : KM.Jobs), But r H H' → RowV H' r a → JobsAt H' p js → KM.Fit js → 1 ≤ js.length → js.length ≤ 5 → Q (.ref p) H'
theorem scJobs : FnScope ["_law_row", "_law_most", "_law_top", "_law_told"] ["_law_row", "_law_most"] (defScope sJobs) := ⟨rfl, rfl, rfl, by decide +kernel, rfl, by decide +kernel, by decide +kernel⟩
theorem ok_jobs {f fT fP : Addr} {fd fdT fdP : FuncData} (F : Fun K "_law_jobs" "_law_jobs" sJobs f fd) (T : Names mg)
    (GT : FnOk P w K mg base CX0 1 fT fdT ["_law_row", "_law_many"] (spTaken K)) (kT : PySem.W.keepIn K (.ref fT) = true) (bT : Binds K fdT ["_law_row", "_law_many"] []) (gT : mg "_law_taken" = some (.ref fT))
    (GP : FnOk P w K mg base CX0 2 fP fdP ["_law_row", "_law_things"] (spPick K)) (kP : PySem.W.keepIn K (.ref fP) = true) (bP : Binds K fdP ["_law_row", "_law_things"] []) (gP : mg "_law_pick" = some (.ref fP)) : FnOk P w K mg base CX0 3 f fd ["_law_row", "_law_most"] (spJobs K) := by
  refine F.ok scJobs (fun vs H Q E h => ?_) (fun cdv A outer s H vs Q E hr h => ?_)
  · obtain ⟨r, a, ns, rfl, _⟩ := h
    rfl
  · obtain ⟨r, a, ns, rfl, hR, q⟩ := h
    have hr1 : Room 1 _ := hr.mono (by decide)
    refine ⟨_, pss_cons (ps_set (i := 2) scJobs.nd rfl (.inr rfl) (pe_call GP hr (by rfl) gP kP bP .nil pass0 (pa_cons (pv 0) (pa_cons (pe_lst (pa_cons pe_int (pa_cons pe_int (pa_cons pe_int pa_nil)))) pa_nil))))
      (pss_one (ps_ret (pe_callTy call_tuple_of (by rfl) T.tuple (by decide +kernel) (pa_cons (pe_lc (own := [("_law_told", 3)]) (g := gName 3) (by rfl) scJobs.nd
          (pi_range1 (by rfl) T.range (pa_cons (pe_op op_add pe_int (pe_call GT hr1 (by rfl) gT kT bT .nil pass0 (pa_cons (pv 0) (pa_cons (pv 1) pa_nil)))) pa_nil))
          (blkOk_by (own := [("_law_told", 3)]) (N := ["_law_row", "_law_most", "_law_top", "_law_told"]) (sc := defScope sJobs) (by decide +kernel)) (fun _ _ _ _ _ => pg_name (i := 3) scJobs.nd rfl (Or.inl rfl)) (fun _ _ _ _ _ => pts_nil)
          (fun _ _ _ _ _ => pe_tup (pa_cons (pe_op op_add pe_int (pe_call GT hr1 (by rfl) gT kT bT .nil pass0 (pa_cons (pv 0) (pa_cons (pv 2) pa_nil)))) (pa_cons (pe_call GT hr1 (by rfl) gT kT bT .nil pass0 (pa_cons (pv 0) (pa_cons (pe_op op_add (pv 2) pe_int) pa_nil))) pa_nil)))) pa_nil)))), ?_⟩
    refine ⟨.ref r, rfl, by show 3 ≤ sizeLine; decide, fun l nl => ?_⟩
    have s1 : Same H (upd H l (.lst [.int 3, .int 9, .int 99])) := same_upd nl
    obtain ⟨i0, sd0, d0, e0, hi0⟩ := id hR.1
    have nlr : l ≠ r := fun z => by
      rw [z, e0] at nl
      cases nl
    have hR1 : RowAt K (upd H l (.lst [.int 3, .int 9, .int 99])) r a ns := hR.to (Same.but s1) ⟨i0, sd0, d0, s1 _ _ e0, hi0⟩
    refine ⟨r, l, a, ns, _, rfl, hR1, sqL upd_same, nlr, by show 0 < 3; decide, by show 3 < 1073741824; decide, fun H1 v b1 hv1 hmem => ?_⟩
    obtain ⟨top, rfl, htop⟩ : ∃ top : Int, v = .int top ∧ 1 ≤ top ∧ top ≤ 99 := by
      rcases List.mem_cons.mp hmem with z | hmem
      · exact ⟨3, z, by decide, by decide⟩
      · rcases List.mem_cons.mp hmem with z | hmem
        · exact ⟨9, z, by decide, by decide⟩
        · exact ⟨99, List.mem_singleton.mp hmem, by decide, by decide⟩
    have B1 : But r H H1 := (Same.but s1).trans b1
    -- range(1 + taken(row, most))
    refine ⟨.ref r, rfl, .int 5, rfl, r, 5, a, ns, rfl, hR.to B1 hv1, by decide, by decide, fun H2 n b2 hv2 hn0 hn5 => ?_⟩
    have B2 : But r H H2 := B1.trans b2
    refine ⟨1, n, rfl, rfl, 1 + n, rfl, by omega, by omega, fun D hD => ?_⟩
    have hDr : D ≠ r := fun z => by
      obtain ⟨ys, ey⟩ := hv2.lst
      rw [z, ey] at hD
      cases hD
    refine lc_range (lo := 0) (n := (1 + n).toNat) (fun i H' => ∃ (ts : List Addr) (js : KM.Jobs), js.length = i ∧ KM.Fit js ∧ TupsAt jobV H' ts js ∧ H' D = some (.lst (ts.map V.ref)) ∧ But r H2 H' ∧ RowV H' r a)
      ⟨[], [], rfl, (fun j hj => by cases hj), TupsAt.nil, upd_same, Same.but (same_upd hD), ?_⟩ (fun i H' hi hP => ?_) (fun H' hP => ?_)
    · obtain ⟨x, y, z, e, h⟩ := hv2
      exact ⟨x, y, z, by rw [upd_ne (Ne.symm hDr)]; exact e, h⟩
    · obtain ⟨ts, js, hlen, hF, hT, eD, b3, hv3⟩ := hP
      refine ⟨rfl, yes_ok (iteT ?_)⟩
      refine ⟨.ref r, rfl, .int top, rfl, r, top, a, ns, rfl, hR.to (B2.trans b3) hv3, by omega, by omega, fun H3 x b4 hv4 hx0 hx1 => ⟨1, x, rfl, rfl, ?_⟩⟩
      refine ⟨.ref r, rfl, .int top, rfl, top, 1, rfl, rfl, r, top + 1, a, ns, rfl, hR.to ((B2.trans b3).trans b4) hv4, by omega, by omega, fun H4 y b5 hv5 hy0 hy1 => ?_⟩
      refine ⟨by show 2 ≤ sizeLine; decide, fun u hu => ?_⟩
      have eD4 : H4 D = some (.lst (ts.map V.ref)) := b5 _ _ hDr (b4 _ _ hDr eD)
      have huD : u ≠ D := fun z => by
        rw [z, eD4] at hu
        cases hu
      have eD5 : (upd H4 u (.tup [.int (1 + x), .int y])) D = some (.lst (ts.map V.ref)) := by rw [upd_ne (Ne.symm huD)]; exact eD4
      refine ⟨_, eD5, ?_, ts ++ [u], js ++ [(1 + x, y)], ?_, ?_, ?_, ?_, ?_, ?_⟩
      · rw [List.length_map, hT.1, hlen]
        exact small1000 (by omega)
      · rw [List.length_append, hlen]
        rfl
      · intro j hj
        rcases List.mem_append.mp hj with hj | hj
        · exact hF j hj
        · rw [List.mem_singleton.mp hj]
          exact ⟨by show 1 ≤ 1 + x; omega, by show 1 + x ≤ 99; omega, hy0, by show y ≤ 99; omega⟩
      · obtain ⟨ys3, ey3⟩ := hv3.lst
        obtain ⟨ys4, ey4⟩ := hv4.lst
        have k1 : KeepT H' (upd H4 u (.tup [.int (1 + x), .int y])) := ((b4.keepT ey3).trans (b5.keepT ey4)).trans (Same.keepT (same_upd hu))
        refine TupsAt.keepT (TupsAt.app (hT.keepT k1) (TupsAt.one (x := (1 + x, y)) ?_)) (keepT_upd eD5)
        rw [upd_same]
        rfl
      · rw [upd_same, List.map_append]
        rfl
      · intro b o nb e
        have e4 := b5 _ _ nb (b4 _ _ nb (b3 _ _ nb e))
        rw [upd_ne (ne_of_none e hD), upd_ne (ne_of_none e4 hu)]
        exact e4
      · obtain ⟨x1, x2, x3, ex, hx⟩ := hv5
        refine ⟨x1, x2, x3, ?_, hx⟩
        rw [upd_ne (Ne.symm hDr), upd_ne (ne_of_none ex hu)]
        exact ex
    · obtain ⟨ts, js, hlen, hF, hT, eD, b3, hv3⟩ := hP
      refine ⟨D, _, rfl, .inl ⟨sqL eD, fun p hp => ?_⟩⟩
      have s4 : Same H' (upd H' p (.tup (ts.map V.ref))) := same_upd hp
      obtain ⟨x1, x2, x3, ex, hx⟩ := hv3
      exact q _ p js ((B2.trans b3).trans (Same.but s4)) ⟨x1, x2, x3, s4 _ _ ex, hx⟩ (jobsAt_of (hT.keepT (Same.keepT s4)) upd_same) hF (by omega) (by omega)
end
end KX

set_option Elab.async false
set_option linter.all false
set_option maxRecDepth 100000
set_option maxHeartbeats 4000000
namespace KX
open PySem PySem.Spec PyProof.Rows L2
abbrev sOrders : Stmt := topS 22
abbrev sAlike : Stmt := topS 23
def ordV (o : List Int) : List V := o.map V.int
theorem inV_int (z : Int) : ∀ o : List Int, inV (.int z) (o.map V.int) = o.contains z
  | [] => rfl
  | x :: o => by
    have ih := inV_int z o
    unfold inV at ih ⊢
    rw [List.map_cons, List.any_cons, ih, List.contains_cons]
    show ((x == z) || o.contains z) = ((z == x) || o.contains z)
    rw [BEq.comm]
theorem flat_ints (o : List Int) : (o.map V.int).all flatV = true := by
  rw [List.all_eq_true]
  intro x hx
  obtain ⟨z, _, rfl⟩ := List.mem_map.mp hx
  rfl
theorem flat_prefix {os : List (List Int)} (f : List Int → List (List Int)) (i : Nat) : ((os.take i).flatMap f).length ≤ (os.flatMap f).length := by
  have e : os.flatMap f = (os.take i).flatMap f ++ (os.drop i).flatMap f := by
    rw [← List.flatMap_append, List.take_append_drop]
  rw [e, List.length_append]
  omega
theorem size200 {n : Nat} (h : n ≤ 200) : n ≤ sizeLine := Nat.le_trans h (by decide)
section
variable {P : Program} {w : World} {K : PySem.W.Frag} {mg : Str → Option Value} {base : Heap}
/-- the orders stand in the list at p -/
def OrdersAt (H : Hp) (p : Addr) (os : List (List Int)) : Prop := ∃ ts : List Addr, H p = some (.lst (ts.map V.ref)) ∧ TupsAt ordV H ts os
def spOrders : Sp := fun vs H Q _ => ∃ n : Nat, vs = [.int (n : Nat)] ∧ n ≤ 5 ∧ ∀ (H' : Hp) (p : Addr), Same H H' → H p = none → OrdersAt H' p (KM.orders n n) → Q (.ref p) H'
theorem scOrders : FnScope ["_law_many", "_law_found", "_law_turn", "_law_longer", "_law_order", "_law_told"] ["_law_many"] (defScope sOrders) := ⟨rfl, rfl, rfl, by decide +kernel, rfl, by decide +kernel, by decide +kernel⟩
theorem ok_orders {f : Addr} {fd : FuncData} (F : Fun K "_law_orders" "_law_orders" sOrders f fd) (T : Names mg) : FnOk P w K mg base CX0 1 f fd ["_law_many"] spOrders := by
  refine F.ok scOrders (fun vs H Q E h => ?_) (fun cdv A outer s H vs Q E hr h => ?_)
  · obtain ⟨n, rfl, _⟩ := h
    rfl
  · obtain ⟨n, rfl, hn, q⟩ := h
    refine ⟨_, pss_cons (ps_set (i := 1) scOrders.nd rfl (.inl rfl) (pe_lst (pa_cons (pe_tup pa_nil) pa_nil)))
      (pss_cons (ps_for PassesOwn.never rfl (pi_range1 (by rfl) T.range (pa_cons (pv 0) pa_nil)) (pg_name (i := 2) scOrders.nd rfl (.inl rfl))
        (pss_cons (ps_set (i := 3) scOrders.nd rfl (.inl rfl) (pe_lst pa_nil))
        (pss_cons (ps_for PassesOwn.never rfl (pi_list (pv 1)) (pg_name (i := 4) scOrders.nd rfl (.inr rfl))
          (pss_one (ps_set (i := 3) scOrders.nd rfl (.inl rfl) (pe_op op_cat (pv 3) (pe_lc (own := [("_law_told", 5)]) (g := gName 5) (by rfl) scOrders.nd
            (pi_range1 (by rfl) T.range (pa_cons (pv 0) pa_nil))
            (blkOk_by (own := [("_law_told", 5)]) (N := ["_law_many", "_law_found", "_law_turn", "_law_longer", "_law_order", "_law_told"]) (sc := defScope sOrders) (by decide +kernel)) (fun _ _ _ _ _ => pg_name (i := 5) scOrders.nd rfl (Or.inl rfl))
            (fun _ _ _ _ _ => pts_one (pt_cmpR (r := rIn K true) op_notIn_seq (pv 5) (pv 4) (by rfl)))
            (fun _ _ _ _ _ => pe_op (r := rCatA K) op_catA (pv 4) (pe_tup (pa_cons (pv 5) pa_nil))))))))
        (pss_one (ps_set (i := 1) scOrders.nd rfl (.inl rfl) (pv 3))))))
      (pss_one (ps_ret (pv 1)))), ?_⟩
    -- found = [()]
    refine ⟨Nat.zero_le _, fun t nt => ⟨by show 1 ≤ sizeLine; decide, fun o no => ?_⟩⟩
    have st : Same H (upd H t (.tup [])) := same_upd nt
    have so : Same (upd H t (.tup [])) (upd (upd H t (.tup [])) o (.lst [.ref t])) := same_upd no
    refine ⟨.int (n : Nat), rfl, (n : Int), rfl, by omega, by omega, ?_⟩
    refine for_range (lo := 0) (n := (n : Int).toNat) (fun k σ H' => ∃ (o : Addr) (ts : List Addr) (y2 y3 y4 y5 : Option V), σ = [some (.int (n : Nat)), some (.ref o), y2, y3, y4, y5] ∧ Same H H' ∧ H o = none ∧ H' o = some (.lst (ts.map V.ref)) ∧ TupsAt ordV H' ts (KM.orders n k))
      ⟨o, [t], none, none, none, none, rfl, st.trans so, st.free no, upd_same, TupsAt.one (x := []) (so _ _ upd_same)⟩ ?_ ?_
    · rintro k σ H' hk ⟨o, ts, y2, y3, y4, y5, rfl, s, no, eo, hT⟩
      have hkn : k < n := by omega
      -- longer = []
      refine ⟨Nat.zero_le _, fun l nl => ?_⟩
      have sl : Same H' (upd H' l (.lst [])) := same_upd nl
      refine ⟨.ref o, rfl, o, rfl, ⟨_, sqL (sl _ _ eo)⟩, for_list (K := K) (xs := ts.map V.ref) (fun i σ H2 => ∃ (l : Addr) (ls : List Addr) (y4 y5 : Option V), σ = [some (.int (n : Nat)), some (.ref o), some (.int (0 + (k : Nat))), some (.ref l), y4, y5] ∧ Same H' H2 ∧ H l = none ∧ H2 l = some (.lst (ls.map V.ref)) ∧ TupsAt ordV H2 ls (((KM.orders n k).take i).flatMap (KM.cand n)))
        ⟨l, [], y4, y5, rfl, sl, s.free nl, upd_same, TupsAt.nil⟩ (fun i σ H2 _ ⟨_, _, _, _, _, s2, _⟩ => sqL (s2 _ _ eo)) ?_ ?_⟩
      · rintro i x σ H2 hx ⟨l, ls, y4, y5, rfl, s2, nl, el, hL⟩
        obtain ⟨t, ht, rfl⟩ := refs_get hx
        have hi : i < (KM.orders n k).length := by rw [← hT.1]; exact (List.getElem?_eq_some_iff.mp ht).1
        obtain ⟨od, hod⟩ := get_of (l := KM.orders n k) rfl hi
        have et : H2 t = some (.tup (od.map V.int)) := s2 _ _ (hT.2 i t od ht hod)
        have hodk : od.length = k := (KM.orders_len hn (by omega)).2.2 od (List.mem_of_getElem? hod)
        -- longer + [..]
        refine ⟨.ref l, rfl, .int (n : Nat), rfl, (n : Int), rfl, by omega, by omega, fun D hD => ?_⟩
        refine lc_range (lo := 0) (n := (n : Int).toNat) (fun j H3 => ∃ cs : List Addr, Same H2 H3 ∧ H3 D = some (.lst (cs.map V.ref)) ∧ TupsAt ordV H3 cs (KM.cand j od)) ⟨[], same_upd hD, upd_same, TupsAt.nil⟩ ?_ ?_
        · rintro j H3 hj ⟨cs, s3, eD, hC⟩
          have hjn : j < n := by omega
          have hcl := KM.cand_length j od
          have et3 : H3 t = some (.tup (od.map V.int)) := s3 _ _ et
          have e0 : (0 : Int) + (j : Int) = (j : Int) := Int.zero_add _
          rw [e0]
          refine ⟨rfl, .int (j : Nat), rfl, .ref t, rfl, t, od.map V.int, rfl, .inr (sqT et3), rfl, flat_ints od, _, rfl, ?_⟩
          show if (!inV (.int (j : Nat)) (od.map V.int)) = true then _ else _
          rw [inV_int]
          cases hc : od.contains (j : Int) with
          | true =>
            refine iteF ⟨cs, s3, eD, ?_⟩
            rw [KM.cand_no hc]
            exact hC
          | false =>
            refine iteT ?_
            -- what is kept of the tuple at z, made out of order and told
            have fin : ∀ (H4 : Hp) (z : Addr), Same H3 H4 → H4 z = some (.tup (ordV (od ++ [(j : Int)]))) → ∃ acc, H4 D = some (.lst acc) ∧ acc.length < sizeLine ∧ ∃ cs' : List Addr, Same H2 (upd H4 D (.lst (acc ++ [.ref z]))) ∧ (upd H4 D (.lst (acc ++ [.ref z]))) D = some (.lst (cs'.map V.ref)) ∧ TupsAt ordV (upd H4 D (.lst (acc ++ [.ref z]))) cs' (KM.cand (j + 1) od) := fun H4 z s4 ez => by
              refine ⟨_, s4 _ _ eD, ?_, cs ++ [z], ?_, ?_, ?_⟩
              · rw [List.length_map, hC.1]
                exact small1000 (by omega)
              · intro b u e
                rw [upd_ne (ne_of_none e hD)]
                exact s4 _ _ (s3 _ _ e)
              · rw [upd_same, List.map_append]
                rfl
              · rw [KM.cand_yes hc]
                exact TupsAt.keepT (TupsAt.app (hC.keepT (Same.keepT s4)) (TupsAt.one ez)) (keepT_upd (s4 _ _ eD))
            refine ⟨.ref t, rfl, .int (j : Nat), rfl, by show 1 ≤ sizeLine; decide, fun u hu => ?_⟩
            have su : Same H3 (upd H3 u (.tup [.int (j : Nat)])) := same_upd hu
            refine ⟨t, u, od.map V.int, [.int (j : Nat)], rfl, rfl, sqT (su _ _ et3), sqT upd_same, ?_, fun en => ?_, fun _ en => absurd en (List.cons_ne_nil _ _), fun _ _ z hz => ?_⟩
            · rw [List.length_map, hodk]
              exact size200 (by show k + 1 ≤ 200; omega)
            · have eod : od = [] := List.map_eq_nil_iff.mp en
              refine fin _ u su ?_
              rw [upd_same, eod]
              rfl
            · refine fin _ z (su.trans (same_upd hz)) ?_
              rw [upd_same]
              unfold ordV
              rw [List.map_append]
              rfl
        · rintro H3 ⟨cs, s3, eD, hC⟩
          have el3 : H3 l = some (.lst (ls.map V.ref)) := s3 _ _ el
          have hcl := KM.cand_length n od
          have hll : ls.length ≤ 120 := by
            rw [hL.1]
            refine Nat.le_trans (flat_prefix (KM.cand n) i) ?_
            exact (KM.orders_len (k := k + 1) hn (by omega)).1
          have etn : (n : Int).toNat = n := by omega
          rw [etn] at hC
          refine ⟨l, D, _, _, rfl, rfl, el3, eD, ?_, fun l2 hl2 => ?_⟩
          · rw [List.length_map, List.length_map, hC.1]
            exact size200 (by omega)
          · have s4 : Same H3 (upd H3 l2 (.lst (ls.map V.ref ++ cs.map V.ref))) := same_upd hl2
            refine ⟨l2, ls ++ cs, _, _, rfl, (s2.trans s3).trans s4, (s.trans (s2.trans s3)).free hl2, ?_, ?_⟩
            · rw [upd_same, List.map_append]
            · rw [KM.flat_more hod]
              exact TupsAt.app (hL.keepT (Same.keepT (s3.trans s4))) (hC.keepT (Same.keepT s4))
      · rintro σ H2 ⟨l, ls, y4, y5, rfl, s2, nl, el, hL⟩
        refine ⟨.ref l, rfl, l, ls, _, _, _, _, rfl, s.trans s2, nl, el, ?_⟩
        rw [List.length_map, hT.1, List.take_length] at hL
        exact hL
    · rintro σ H' ⟨o, ts, y2, y3, y4, y5, rfl, s, no, eo, hT⟩
      have etn : (n : Int).toNat = n := by omega
      rw [etn] at hT
      exact ⟨.ref o, rfl, q H' o s no ⟨ts, eo, hT⟩⟩
/-! ### _law_alike, of two ints -/
def spAlike : Sp := fun vs H Q _ => ∃ x : Int, vs = [.int x, .int x] ∧ ∀ H', Same H H' → Q (.bl true) H'
theorem scAlike : FnScope ["_law_found", "_law_due", "_law_k"] ["_law_found", "_law_due"] (defScope sAlike) := ⟨rfl, rfl, rfl, by decide +kernel, rfl, by decide +kernel, by decide +kernel⟩
theorem ok_alike {f : Addr} {fd : FuncData} (F : Fun K "_law_alike" "_law_alike" sAlike f fd) (T : Names mg) : FnOk P w K mg base CX0 1 f fd ["_law_found", "_law_due"] spAlike := by
  refine F.ok scAlike (fun vs H Q E h => ?_) (fun cdv A outer s H vs Q E hr h => ?_)
  · obtain ⟨x, rfl, _⟩ := h
    rfl
  · obtain ⟨x, rfl, q⟩ := h
    refine ⟨_, pss_cons (ps_if (pt_val (pe_callB call_isiT (by rfl) T.isi (by decide +kernel) (pa_cons (pv 1) (pa_cons (pe_tup (pa_cons (pe_bltn (v := .ty "tuple") (by rfl) T.tuple (by decide +kernel) rfl) (pa_cons (pe_bltn (v := .ty "list") (by rfl) T.list (by decide +kernel) rfl) pa_nil))) pa_nil))))
        (pss_cons ps_never (pss_cons ps_never (pss_one ps_never))) pss_nil)
      (pss_cons (ps_if (PW.pt (pw_or (pt_cmpR op_isN (pv 1) pe_non (nomark _)) (pw_or1 (pt_val (pe_callB call_isi (by rfl) T.isi (by decide +kernel) (pa_cons (pv 1) (pa_cons (pe_bltn (v := .ty "str") (by rfl) T.str (by decide +kernel) rfl) pa_nil)))))))
        (pss_one ps_never) pss_nil)
      (pss_one (ps_ret (pe_and (pe_callB call_isi (by rfl) T.isi (by decide +kernel) (pa_cons (pv 0) (pa_cons (pe_bltn (v := .ty "int") (by rfl) T.int (by decide +kernel) rfl) pa_nil)))
        (pe_and (pe_cmpR op_eq (pe_callB call_isi (by rfl) T.isi (by decide +kernel) (pa_cons (pv 0) (pa_cons (pe_bltn (v := .ty "bool") (by rfl) T.bool (by decide +kernel) rfl) pa_nil)))
          (pe_callB call_isi (by rfl) T.isi (by decide +kernel) (pa_cons (pv 1) (pa_cons (pe_bltn (v := .ty "bool") (by rfl) T.bool (by decide +kernel) rfl) pa_nil))) (nomark _))
        (pe_one (pe_cmpR op_eq (pv 0) (pv 1) (nomark _)))))))), ?_⟩
    refine ⟨.int x, rfl, by show 2 ≤ sizeLine; decide, fun t nt => ?_⟩
    refine ⟨.int x, t, [.ty "tuple", .ty "list"], .type "int", [.type "tuple", .type "list"], false, rfl, upd_same, .cons (.ty _) (.cons (.ty _) .nil), .base (.int x),
      kitAny_cons (b := false) (kit_ty (by decide +kernel)) (fun _ => kitAny_cons (b := false) (kit_ty (by decide +kernel)) (fun _ => kitAny_nil) (fun z => by cases z)) (fun z => by cases z), false, rfl, iteF ?_⟩
    refine ⟨.int x, rfl, rfl, false, rfl, iteF ?_⟩
    refine ⟨.int x, rfl, _, _, _, _, false, rfl, .ty "str", .base (.int x), kit_ty (by decide +kernel), false, rfl, iteF ?_⟩
    refine ⟨.int x, rfl, _, _, _, _, true, rfl, .ty "int", .base (.int x), kit_ty (by decide +kernel), true, rfl, iteT ?_⟩
    refine ⟨.int x, rfl, _, _, _, _, false, rfl, .ty "bool", .base (.int x), kit_ty (by decide +kernel), .int x, rfl, _, _, _, _, false, rfl, .ty "bool", .base (.int x), kit_ty (by decide +kernel), rfl, true, rfl, iteT ?_⟩
    refine ⟨.int x, rfl, .int x, rfl, rfl, ?_⟩
    show Q (V.bl (decide (V.int x = V.int x))) _
    rw [decide_eq_true rfl]
    exact q _ (same_upd nt)
end
end KX

set_option Elab.async false
set_option linter.all false
set_option maxRecDepth 100000
set_option maxHeartbeats 8000000
namespace KX
open PySem PySem.Spec PyProof.Rows L2
abbrev sLaw : Stmt := topS 25
/-! ### lists of ints as data -/
theorem dpInts {K : PySem.W.Frag} {H : Hp} : ∀ ns : List Int, DpAll K H (ns.map V.int) (ns.map PyData.int)
  | [] => .nil
  | n :: ns => .cons (.int n) (dpInts ns)
theorem shapedInts (ns : List Int) : SeqAt.shaped (.list (ns.map PyData.int)) = true := PySem.W.shaped_ints ns
theorem eqvInts (ns : List Int) : PyData.eqv (.list (ns.map PyData.int)) (.list (ns.map PyData.int)) = true := SeqAt.eqv_refl _ (SeqAt.canLay_of_shaped (shapedInts ns))
section
variable {P : Program} {w : World} {K : PySem.W.Frag} {mg : Str → Option Value} {base : Heap}
def spLaw (K : PySem.W.Frag) : Sp := fun vs H Q _ => ∃ (a : Addr) (ns : List Int), vs = [.ref a] ∧ SqL K H a (ns.map V.int) ∧ ∀ H', Q (.bl true) H'
theorem scLaw : FnScope ["_law_script", "_law_row", "_law_jobs_here", "_law_many", "_law_orders_here", "_law_order", "_law_found", "_law_at", "_law_one", "_law_other", "_law_gap", "_law_told"] ["_law_script"] (defScope sLaw) := ⟨rfl, rfl, rfl, by decide +kernel, rfl, by decide +kernel, by decide +kernel⟩
theorem ok_law {f fJ fO fP fA fC fW fB : Addr} {fd fdJ fdO fdP fdA fdC fdW fdB : FuncData} (F : Fun K "law" "law" sLaw f fd) (T : Names mg)
    (GJ : FnOk P w K mg base CX0 3 fJ fdJ ["_law_row", "_law_most"] (spJobs K)) (kJ : PySem.W.keepIn K (.ref fJ) = true) (bJ : Binds K fdJ ["_law_row", "_law_most"] []) (gJ : mg "_law_jobs" = some (.ref fJ))
    (GO : FnOk P w K mg base CX0 1 fO fdO ["_law_many"] spOrders) (kO : PySem.W.keepIn K (.ref fO) = true) (bO : Binds K fdO ["_law_many"] []) (gO : mg "_law_orders" = some (.ref fO))
    (GP : FnOk P w K mg base CX0 2 fP fdP ["_law_row", "_law_things"] (spPick K)) (kP : PySem.W.keepIn K (.ref fP) = true) (bP : Binds K fdP ["_law_row", "_law_things"] []) (gP : mg "_law_pick" = some (.ref fP))
    (GA : FnOk P w K mg base CX0 1 fA fdA ["_law_found", "_law_due"] spAlike) (kA : PySem.W.keepIn K (.ref fA) = true) (bA : Binds K fdA ["_law_found", "_law_due"] []) (gA : mg "_law_alike" = some (.ref fA))
    (GC : FnOk P w K mg base CX0 5 fC fdC ["jobs", "order"] spWaitingCost) (kC : PySem.W.keepIn K (.ref fC) = true) (bC : Binds K fdC ["jobs", "order"] []) (gC : mg "waiting_cost" = some (.ref fC))
    (GW : FnOk P w K mg base CX0 1 fW fdW ["_law_jobs_here", "_law_order"] spCost) (kW : PySem.W.keepIn K (.ref fW) = true) (bW : Binds K fdW ["_law_jobs_here", "_law_order"] []) (gW : mg "_law_waits" = some (.ref fW))
    (GB : FnOk P w K mg base CX0 4 fB fdB ["jobs"] spBestOrder) (kB : PySem.W.keepIn K (.ref fB) = true) (bB : Binds K fdB ["jobs"] []) (gB : mg "best_order" = some (.ref fB)) : FnOk P w K mg base CX0 6 f fd ["_law_script"] (spLaw K) := by
  refine F.ok scLaw (fun vs H Q E h => ?_) (fun cdv A outer s H vs Q E hr h => ?_)
  · obtain ⟨a, ns, rfl, _⟩ := h
    rfl
  · obtain ⟨a, ns, rfl, hS, q⟩ := h
    have hr4 : Room 4 _ := hr.mono (by decide)
    have hr3 : Room 3 _ := hr.mono (by decide)
    have hr2 : Room 2 _ := hr.mono (by decide)
    have hr1 : Room 1 _ := hr.mono (by decide)
    refine ⟨_, pss_cons (ps_set (i := 1) scLaw.nd rfl (.inl rfl) (pe_lst (pa_cons (pv 0) (pa_cons pe_int (pa_cons pe_int (pa_cons pe_int pa_nil)))))) (pss_cons (ps_set (i := 2) scLaw.nd rfl (.inr rfl) (pe_call GJ hr3 (by rfl) gJ kJ bJ .nil pass0 (pa_cons (pv 1) (pa_cons pe_int pa_nil)))) (pss_cons (ps_set (i := 3) scLaw.nd rfl (.inl rfl) (pe_callB call_len_seq (by rfl) T.len PySem.boot_len (pa_cons (pv 2) pa_nil))) (pss_cons (ps_set (i := 4) scLaw.nd rfl (.inl rfl) (pe_call GO hr1 (by rfl) gO kO bO .nil pass0 (pa_cons (pv 3) pa_nil))) (pss_cons (ps_set (i := 5) scLaw.nd rfl (.inl rfl) (pe_call GP hr2 (by rfl) gP kP bP .nil pass0 (pa_cons (pv 1) (pa_cons (pv 4) pa_nil)))) (pss_cons (ps_if (pt_not (pt_val (pe_call GA hr1 (by rfl) gA kA bA .nil pass0 (pa_cons (pe_call GC hr (by rfl) gC kC bC .nil pass0 (pa_cons (pv 2) (pa_cons (pv 5) pa_nil))) (pa_cons (pe_call GW hr1 (by rfl) gW kW bW .nil pass0 (pa_cons (pv 2) (pa_cons (pv 5) pa_nil))) pa_nil)))))
        (pss_one (ps_ret pe_bl)) pss_nil) (pss_cons (ps_set (i := 6) scLaw.nd rfl (.inl rfl) (pe_call GB hr4 (by rfl) gB kB bB .nil pass0 (pa_cons (pv 2) pa_nil))) (pss_cons (ps_if (PW.pt (pw_or (pt_not (pt_val (pe_callB call_isi (by rfl) T.isi (by decide +kernel) (pa_cons (pv 6) (pa_cons (pe_bltn (v := .ty "tuple") (by rfl) T.tuple (by decide +kernel) rfl) pa_nil)))))
          (pw_or1 (pt_cmpR op_ne (pe_call GW hr1 (by rfl) gW kW bW .nil pass0 (pa_cons (pv 2) (pa_cons (pv 6) pa_nil)))
            (pe_callB (cr_min rfl) (by rfl) T.min (by decide +kernel) (pa_cons (pe_lc (own := [("_law_told", 11)]) (g := gName 11) (by rfl) scLaw.nd (pi_list (pv 4))
              (blkOk_by (own := [("_law_told", 11)]) (N := ["_law_script", "_law_row", "_law_jobs_here", "_law_many", "_law_orders_here", "_law_order", "_law_found", "_law_at", "_law_one", "_law_other", "_law_gap", "_law_told"]) (sc := defScope sLaw) (by decide +kernel))
              (fun _ _ _ _ _ => pg_name (i := 11) scLaw.nd rfl (Or.inl rfl)) (fun _ _ _ _ _ => pts_nil)
              (fun _ _ _ _ _ => pe_call GW hr1 (by rfl) gW kW bW .nil pass0 (pa_cons (pv 2) (pa_cons (pv 11) pa_nil)))) pa_nil)) (nomark _)))))
        (pss_one (ps_ret pe_bl)) pss_nil) (pss_cons (ps_for PassesOwn.never rfl (pi_range2 (by rfl) T.range (pa_cons pe_int (pa_cons (pv 3) pa_nil))) (pg_name (i := 7) scLaw.nd rfl (.inl rfl)) (pss_cons (ps_par (i := 8) (j := 9) rfl scLaw.nd rfl rfl (by decide) rfl rfl (pa_cons (pe_ix ix_tup (pv 6) (pe_op op_sub (pv 7) pe_int) (fun _ _ => rfl)) (pa_cons (pe_ix ix_tup (pv 6) (pv 7) (fun _ _ => rfl)) pa_nil)) (by rfl)) (pss_cons (ps_set (i := 10) scLaw.nd rfl (.inl rfl) (pe_op op_sub (pe_op op_mul (pe_ix ix_tup (pe_ix ix_tup (pv 2) (pv 8) (fun _ _ => rfl)) pe_int (fun _ _ => rfl)) (pe_ix ix_tup (pe_ix ix_tup (pv 2) (pv 9) (fun _ _ => rfl)) pe_int (fun _ _ => rfl)))
            (pe_op op_mul (pe_ix ix_tup (pe_ix ix_tup (pv 2) (pv 9) (fun _ _ => rfl)) pe_int (fun _ _ => rfl)) (pe_ix ix_tup (pe_ix ix_tup (pv 2) (pv 8) (fun _ _ => rfl)) pe_int (fun _ _ => rfl))))) (pss_one (ps_if (PW.pt (pw_or (pt_cmpR op_lt (pv 10) pe_int (nomark _)) (pw_or1 (PW.pt (pw_and (pt_cmpR op_eq (pv 10) pe_int (nomark _)) (pw_and1 (pt_cmpR op_gt (pv 8) (pv 9) (nomark _))))))))
          (pss_one (ps_ret pe_bl)) pss_nil))))) (pss_one (ps_ret (pe_cmpR (op_eqD hr.units) (pe_callB cr_sortedTI (by rfl) T.sorted (by decide +kernel) (pa_cons (pv 6) pa_nil)) (pe_listRg rfl (by rfl) T.list (prg_1 (by rfl) T.range (pv 3))) (nomark _)))))))))))), ?_⟩
    -- row = [script, 0, 5260, 0]
    refine ⟨.ref a, rfl, by show 4 ≤ sizeLine; decide, fun r nr => ?_⟩
    have s1 : Same H (upd H r (.lst [.ref a, .int 0, .int 5260, .int 0])) := same_upd nr
    have hR1 : RowAt K (upd H r (.lst [.ref a, .int 0, .int 5260, .int 0])) r a ns := ⟨⟨0, 5260, 0, upd_same, Int.le_refl 0⟩, s1.seq hS⟩
    -- jobs
    refine ⟨.ref r, rfl, r, a, ns, rfl, hR1, fun H2 p js b2 hv2 hJ hF hl1 hl5 => ?_⟩
    obtain ⟨ts, hts, hp, hj⟩ := id hJ
    have hml : (ts.map V.ref).length = js.length := by rw [List.length_map, hts]
    have hl7 : js.length ≤ 7 := by omega
    -- many, all orders
    refine ⟨.ref p, rfl, p, _, rfl, .inr (sqT hp), ?_⟩
    refine ⟨.int ((ts.map V.ref).length : Nat), rfl, (ts.map V.ref).length, rfl, by omega, fun H3 o s3 no hO => ?_⟩
    rw [hml] at hO ⊢
    obtain ⟨us, eo, hU⟩ := hO
    have hn : js.length ≤ 5 := hl5
    have hol := KM.orders_len hn (Nat.le_refl _)
    obtain ⟨i3, sd3, d3, er2, hi3⟩ := id hv2
    have hor : o ≠ r := fun z => by
      rw [z, er2] at no
      cases no
    have b3 : But r (upd H r (.lst [.ref a, .int 0, .int 5260, .int 0])) H3 := b2.trans (Same.but s3)
    have hv3 : RowV H3 r a := ⟨i3, sd3, d3, s3 _ _ er2, hi3⟩
    have hml2 : (us.map V.ref).length = (KM.orders js.length js.length).length := by rw [List.length_map, hU.1]
    -- an order is picked
    refine ⟨.ref r, rfl, .ref o, rfl, r, o, a, ns, _, rfl, hR1.to b3 hv3, sqL eo, hor, by omega, by omega, fun H4 v b4 hv4 hmem => ?_⟩
    obtain ⟨t, htm, rfl⟩ := List.mem_map.mp hmem
    obtain ⟨k0, hk0⟩ := List.mem_iff_getElem?.mp htm
    have hk0l : k0 < (KM.orders js.length js.length).length := by rw [← hU.1]; exact (List.getElem?_eq_some_iff.mp hk0).1
    obtain ⟨od, hod⟩ := get_of (l := KM.orders js.length js.length) rfl hk0l
    have hodm := List.mem_of_getElem? hod
    have hodp := KM.orders_perm hn hodm
    have hodl := hol.2.2 od hodm
    have inOrd : ∀ {od : List Int}, od.Perm (KM.rangeI js.length) → ∀ x ∈ od, 0 ≤ x ∧ x < js.length := fun h x hx => KM.rangeI_mem.mp (h.mem_iff.mp hx)
    obtain ⟨ys3, ey3⟩ := hv3.lst
    have k34 : KeepT H3 H4 := b4.keepT ey3
    have hJ4 : JobsAt H4 p js := (hJ.same s3).keepT k34
    have hU4 : TupsAt ordV H4 us (KM.orders js.length js.length) := hU.keepT k34
    have eo4 : H4 o = some (.lst (us.map V.ref)) := b4 _ _ hor eo
    have et4 : H4 t = some (.tup (od.map V.int)) := hU4.2 k0 t od hk0 hod
    -- both costs of it
    refine ⟨.ref p, rfl, .ref t, rfl, p, t, js, od, rfl, hJ4, hF, hl1, hl7, et4, hodl, inOrd hodp, hodp.symm.nodup (KM.rangeI_nodup _), fun H5 s5 => ?_⟩
    refine ⟨.ref p, rfl, .ref t, rfl, p, t, js, od, rfl, hJ4.same s5, hF, s5 _ _ et4, inOrd hodp, fun H6 s6 => ?_⟩
    refine ⟨KM.costOf js od, rfl, fun H7 s7 => ⟨true, rfl, iteF ?_⟩⟩
    have s47 : Same H4 H7 := (s5.trans s6).trans s7
    -- the best order
    refine ⟨.ref p, rfl, p, js, rfl, hJ4.same s47, hF, hl1, hl7, fun H8 b L nb s8 eb hP hW => ?_⟩
    have s48 : Same H4 H8 := s47.trans s8
    have hJ8 := hJ4.same s48
    have hLl : L.length = js.length := by rw [hP.length_eq, KM.rangeI_length]
    refine ⟨.ref b, rfl, _, _, _, _, true, rfl, .ty "tuple", .base (.tup eb), kit_ty (by decide +kernel), true, rfl, iteF ?_⟩
    refine ⟨.ref p, rfl, .ref b, rfl, p, b, js, L, rfl, hJ8, hF, eb, inOrd hP, fun H9 s9 => ?_⟩
    have s49 : Same H4 H9 := s48.trans s9
    refine ⟨.ref o, rfl, o, rfl, ⟨_, sqL (s49 _ _ eo4)⟩, fun D hD => ?_⟩
    refine lc_list (xs := us.map V.ref) (fun i H' => Same H9 H' ∧ H' D = some (.lst ((((KM.orders js.length js.length).take i).map (KM.costOf js)).map V.int))) ⟨same_upd hD, upd_same⟩ (fun i H' _ hQ => sqL (hQ.1 _ _ (s49 _ _ eo4))) (fun i x H' hx hQ => ?_) (fun H' hQ => ?_)
    · obtain ⟨s', eD⟩ := hQ
      obtain ⟨t', ht', rfl⟩ := refs_get hx
      have hil : i < (KM.orders js.length js.length).length := by rw [← hU.1]; exact (List.getElem?_eq_some_iff.mp ht').1
      obtain ⟨od', hod'⟩ := get_of (l := KM.orders js.length js.length) rfl hil
      have s4' : Same H4 H' := s49.trans s'
      refine ⟨rfl, yes_ok (iteT ?_)⟩
      refine ⟨.ref p, rfl, .ref t', rfl, p, t', js, od', rfl, hJ4.same s4', hF, s4' _ _ (hU4.2 i t' od' ht' hod'), inOrd (KM.orders_perm hn (List.mem_of_getElem? hod')), fun H10 s10 => ?_⟩
      refine ⟨_, s10 _ _ eD, ?_, ?_, ?_⟩
      · rw [List.length_map, List.length_map, List.length_take]
        exact small1000 (by omega)
      · intro b' u e
        rw [upd_ne (ne_of_none e hD)]
        exact s10 _ _ (s' _ _ e)
      · rw [upd_same, List.take_add_one, hod', List.map_append, List.map_append]
        rfl
    · obtain ⟨s', eD⟩ := hQ
      rw [List.length_map, hU.1, List.take_length] at eD
      refine ⟨D, _, rfl, sqL eD, by rw [List.length_map]; omega, fun m hm hle => ?_⟩
      have em := KM.best_least hn hP hW hm hle
      subst em
      refine ⟨rfl, _, rfl, iteNS rfl ?_⟩
      have s4' : Same H4 H' := s49.trans s'
      have eb' : H' b = some (.tup (L.map V.int)) := s' _ _ (s9 _ _ eb)
      have hJ' := hJ4.same s4'
      -- neighbors
      refine ⟨.int (js.length : Nat), rfl, 1, (js.length : Int), rfl, ⟨by omega, by omega, by omega, by omega⟩, ?_⟩
      refine for_range (lo := 1) (n := ((js.length : Int) - 1).toNat) (fun k σ H2 => ∃ y7 y8 y9 y10 : Option V, σ = [some (.ref a), some (.ref r), some (.ref p), some (.int (js.length : Nat)), some (.ref o), some (.ref t), some (.ref b), y7, y8, y9, y10, none] ∧ Same H' H2) ⟨none, none, none, none, rfl, Same.refl _⟩ ?_ ?_
      · rintro k σ H2 hk ⟨y7, y8, y9, y10, rfl, s2⟩
        have hk1 : k + 1 < L.length := by omega
        obtain ⟨x, hx⟩ := get_of (l := L) (i := k) rfl (by omega)
        obtain ⟨y, hy⟩ := get_of (l := L) (i := k + 1) rfl hk1
        have eb2 := s2 _ _ eb'
        have hJ2 := hJ'.same s2
        obtain ⟨hx0, hx1⟩ := inOrd hP x (List.mem_of_getElem? hx)
        obtain ⟨hy0, hy1⟩ := inOrd hP y (List.mem_of_getElem? hy)
        have ax : atI (L.map V.int) (1 + (k : Int) - 1) = some (.int x) := atI_int (by omega) (by
          have e : (1 + (k : Int) - 1).toNat = k := by omega
          rw [e, List.getElem?_map, hx]
          rfl)
        have ay : atI (L.map V.int) (1 + (k : Int)) = some (.int y) := atI_int (by omega) (by
          have e : (1 + (k : Int)).toNat = k + 1 := by omega
          rw [e, List.getElem?_map, hy]
          rfl)
        refine vl_ixT (vl_var rfl) (vl_sub (vl_var rfl) vl_c) (sqT eb2) ax _ ?_
        refine vl_ixT (vl_var rfl) (vl_var rfl) (sqT eb2) ay _ ?_
        refine ⟨.int x, .int y, rfl, ?_⟩
        refine vl_sub (vl_mul (vl_price_of hJ2 hx0 hx1 (vl_var rfl) (vl_var rfl)) (vl_len_of hJ2 hy0 hy1 (vl_var rfl) (vl_var rfl)) (cmul_price hF _ _)) (vl_mul (vl_price_of hJ2 hy0 hy1 (vl_var rfl) (vl_var rfl)) (vl_len_of hJ2 hx0 hx1 (vl_var rfl) (vl_var rfl)) (cmul_price hF _ _)) _ ?_
        obtain ⟨g1, g2⟩ := KM.gap_ok hW hx hy
        refine ⟨_, rfl, _, 0, rfl, rfl, _, rfl, ite2 (fun z => absurd (of_decide_eq_true z) g1) (fun _ => ?_)⟩
        refine ⟨_, rfl, rfl, _, rfl, ite2 (fun z => ?_) (fun _ => ?_)⟩
        · have z2 := g2 (V.int.inj (of_decide_eq_true z))
          refine ⟨_, rfl, _, rfl, x, y, rfl, rfl, _, rfl, ite2 (fun z3 => absurd (of_decide_eq_true z3) z2) (fun _ => ?_)⟩
          exact ⟨_, _, _, _, rfl, s2⟩
        · exact iteF ⟨_, _, _, _, rfl, s2⟩
      · rintro σ H2 ⟨y7, y8, y9, y10, rfl, s2⟩
        -- sorted(found) == list(range(many))
        refine ⟨.ref b, rfl, b, L, rfl, sqT (s2 _ _ eb'), fun ns' q1 hperm hsort nq1 => ?_⟩
        refine ⟨.int (js.length : Nat), rfl, (js.length : Int), rfl, RgOk.of_le (Int.le_refl 0) (by omega) (by decide) (by omega), fun q2 nq2 => ?_⟩
        have ens : ns' = KM.rangeI js.length := KM.sorted_same (hperm.trans hP) hsort (KM.rangeI_sorted _)
        have sq1 : Same (upd H2 q1 (.lst (ns'.map V.int))) (upd (upd H2 q1 (.lst (ns'.map V.int))) q2 (.lst (rgV 0 (js.length : Int)))) := same_upd nq2
        refine ⟨.list (ns'.map PyData.int), .list ((KM.rangeI js.length).map PyData.int), .lst (sqL (sq1 _ _ upd_same)) (dpInts _), .lst (sqL (xs := (KM.rangeI js.length).map V.int) (by rw [upd_same, rgV_range])) (dpInts _), shapedInts _, shapedInts _, ?_⟩
        rw [ens, eqvInts]
        exact q _
end
end KX

set_option Elab.async false
set_option linter.all false
set_option maxRecDepth 100000
set_option maxHeartbeats 8000000
namespace KX
open PySem PySem.Spec PyProof.Rows L2
/-! ### what the top has written; the law's own head -/
theorem all_mk {l : PySem.W.OpenLaw} {w : World} {K : PySem.W.Frag} {h : Heap} {mg : Str → Option Value} {fa f1 f2 f3 f4 f5 f6 f7 f8 f9 f10 f11 f12 f13 f14 f15 f16 f17 : Addr} {tJ tS : Tok} (X : K.In h) (G : h.Ns mainGlobals mg) (hfa : mg "law" = some (.ref fa))
    {od1 an1 od2 an2 od3 an3 od4 an4 od5 an5 od6 an6 od7 an7 od8 an8 od9 an9 od10 an10 od11 an11 od12 an12 od13 an13 od14 an14 od15 an15 od16 an16 od17 an17 : Option Addr} {sl1 sl2 sl3 sl4 sl5 sl6 sl7 sl8 sl9 sl10 sl11 sl12 sl13 sl14 sl15 sl16 sl17 : Array (Option Value)} {oc1 kV1 dc1 pm1 cd1 ct1 oc2 kV2 dc2 pm2 cd2 ct2 oc3 kV3 dc3 pm3 cd3 ct3 oc4 kV4 dc4 pm4 cd4 ct4 oc5 kV5 dc5 pm5 cd5 ct5 oc6 kV6 dc6 pm6 cd6 ct6 oc7 kV7 dc7 pm7 cd7 ct7 oc8 kV8 dc8 pm8 cd8 ct8 oc9 kV9 dc9 pm9 cd9 ct9 oc10 kV10 dc10 pm10 cd10 ct10 oc11 kV11 dc11 pm11 cd11 ct11 oc12 kV12 dc12 pm12 cd12 ct12 oc13 kV13 dc13 pm13 cd13 ct13 oc14 kV14 dc14 pm14 cd14 ct14 oc15 kV15 dc15 pm15 cd15 ct15 oc16 kV16 dc16 pm16 cd16 ct16 oc17 kV17 dc17 pm17 cd17 ct17 : Value}
    (a1 : PySem.W.nsIn K mainGlobals "whole" = some (some (.ref f1))) (l1 : K.lookup f1 = some ⟨oc1, od1, .func (PySem.W.fnOf "whole" "whole" (defArgs sWhole) (defBody sWhole) (defScope sWhole) .none kV1 dc1 pm1 an1 cd1 ct1), sl1⟩) (c1 : PySem.W.codeIn K cd1 "whole" = true) (k1 : PySem.W.keepIn K (.ref f1) = true)
    (a2 : PySem.W.nsIn K mainGlobals "within" = some (some (.ref f2))) (l2 : K.lookup f2 = some ⟨oc2, od2, .func (PySem.W.fnOf "within" "within" (defArgs sWithin) (defBody sWithin) (defScope sWithin) .none kV2 dc2 pm2 an2 cd2 ct2), sl2⟩) (c2 : PySem.W.codeIn K cd2 "within" = true) (k2 : PySem.W.keepIn K (.ref f2) = true)
    (a3 : PySem.W.nsIn K mainGlobals "tuple_of" = some (some (.ref f3))) (l3 : K.lookup f3 = some ⟨oc3, od3, .func (PySem.W.fnOf "tuple_of" "tuple_of" (defArgs sTupleOf) (defBody sTupleOf) (defScope sTupleOf) .none kV3 dc3 pm3 an3 cd3 ct3), sl3⟩) (c3 : PySem.W.codeIn K cd3 "tuple_of" = true) (k3 : PySem.W.keepIn K (.ref f3) = true)
    (a4 : PySem.W.nsIn K mainGlobals "is_order" = some (some (.ref f4))) (l4 : K.lookup f4 = some ⟨oc4, od4, .func (PySem.W.fnOf "is_order" "is_order" (defArgs sIsOrder) (defBody sIsOrder) (defScope sIsOrder) .none kV4 dc4 pm4 an4 cd4 ct4), sl4⟩) (c4 : PySem.W.codeIn K cd4 "is_order" = true) (k4 : PySem.W.keepIn K (.ref f4) = true)
    (a5 : PySem.W.nsIn K mainGlobals "need_order" = some (some (.ref f5))) (l5 : K.lookup f5 = some ⟨oc5, od5, .func (PySem.W.fnOf "need_order" "need_order" (defArgs sNeedOrder) (defBody sNeedOrder) (defScope sNeedOrder) .none kV5 dc5 pm5 an5 cd5 ct5), sl5⟩) (c5 : PySem.W.codeIn K cd5 "need_order" = true) (k5 : PySem.W.keepIn K (.ref f5) = true)
    (a6 : PySem.W.nsIn K mainGlobals "need_jobs" = some (some (.ref f6))) (l6 : K.lookup f6 = some ⟨oc6, od6, .func (PySem.W.fnOf "need_jobs" "need_jobs" (defArgs sNeedJobs) (defBody sNeedJobs) (defScope sNeedJobs) .none kV6 dc6 pm6 an6 cd6 ct6), sl6⟩) (c6 : PySem.W.codeIn K cd6 "need_jobs" = true) (k6 : PySem.W.keepIn K (.ref f6) = true)
    (a7 : PySem.W.nsIn K mainGlobals "cost_in" = some (some (.ref f7))) (l7 : K.lookup f7 = some ⟨oc7, od7, .func (PySem.W.fnOf "cost_in" "cost_in" (defArgs sCostIn) (defBody sCostIn) (defScope sCostIn) .none kV7 dc7 pm7 an7 cd7 ct7), sl7⟩) (c7 : PySem.W.codeIn K cd7 "cost_in" = true) (k7 : PySem.W.keepIn K (.ref f7) = true)
    (a8 : PySem.W.nsIn K mainGlobals "waiting_cost" = some (some (.ref f8))) (l8 : K.lookup f8 = some ⟨oc8, od8, .func (PySem.W.fnOf "waiting_cost" "waiting_cost" (defArgs sWaitingCost) (defBody sWaitingCost) (defScope sWaitingCost) .none kV8 dc8 pm8 an8 cd8 ct8), sl8⟩) (c8 : PySem.W.codeIn K cd8 "waiting_cost" = true) (k8 : PySem.W.keepIn K (.ref f8) = true)
    (a9 : PySem.W.nsIn K mainGlobals "sorted_jobs" = some (some (.ref f9))) (l9 : K.lookup f9 = some ⟨oc9, od9, .func (PySem.W.fnOf "sorted_jobs" "sorted_jobs" (defArgs sSortedJobs) (defBody sSortedJobs) (defScope sSortedJobs) .none kV9 dc9 pm9 an9 cd9 ct9), sl9⟩) (c9 : PySem.W.codeIn K cd9 "sorted_jobs" = true) (k9 : PySem.W.keepIn K (.ref f9) = true)
    (a10 : PySem.W.nsIn K mainGlobals "best_order" = some (some (.ref f10))) (l10 : K.lookup f10 = some ⟨oc10, od10, .func (PySem.W.fnOf "best_order" "best_order" (defArgs sBestOrder) (defBody sBestOrder) (defScope sBestOrder) .none kV10 dc10 pm10 an10 cd10 ct10), sl10⟩) (c10 : PySem.W.codeIn K cd10 "best_order" = true) (k10 : PySem.W.keepIn K (.ref f10) = true)
    (a11 : PySem.W.nsIn K mainGlobals "_law_taken" = some (some (.ref f11))) (l11 : K.lookup f11 = some ⟨oc11, od11, .func (PySem.W.fnOf "_law_taken" "_law_taken" (defArgs sTaken) (defBody sTaken) (defScope sTaken) .none kV11 dc11 pm11 an11 cd11 ct11), sl11⟩) (c11 : PySem.W.codeIn K cd11 "_law_taken" = true) (k11 : PySem.W.keepIn K (.ref f11) = true)
    (a12 : PySem.W.nsIn K mainGlobals "_law_pick" = some (some (.ref f12))) (l12 : K.lookup f12 = some ⟨oc12, od12, .func (PySem.W.fnOf "_law_pick" "_law_pick" (defArgs sPick) (defBody sPick) (defScope sPick) .none kV12 dc12 pm12 an12 cd12 ct12), sl12⟩) (c12 : PySem.W.codeIn K cd12 "_law_pick" = true) (k12 : PySem.W.keepIn K (.ref f12) = true)
    (a13 : PySem.W.nsIn K mainGlobals "_law_jobs" = some (some (.ref f13))) (l13 : K.lookup f13 = some ⟨oc13, od13, .func (PySem.W.fnOf "_law_jobs" "_law_jobs" (defArgs sJobs) (defBody sJobs) (defScope sJobs) .none kV13 dc13 pm13 an13 cd13 ct13), sl13⟩) (c13 : PySem.W.codeIn K cd13 "_law_jobs" = true) (k13 : PySem.W.keepIn K (.ref f13) = true)
    (a14 : PySem.W.nsIn K mainGlobals "_law_orders" = some (some (.ref f14))) (l14 : K.lookup f14 = some ⟨oc14, od14, .func (PySem.W.fnOf "_law_orders" "_law_orders" (defArgs sOrders) (defBody sOrders) (defScope sOrders) .none kV14 dc14 pm14 an14 cd14 ct14), sl14⟩) (c14 : PySem.W.codeIn K cd14 "_law_orders" = true) (k14 : PySem.W.keepIn K (.ref f14) = true)
    (a15 : PySem.W.nsIn K mainGlobals "_law_alike" = some (some (.ref f15))) (l15 : K.lookup f15 = some ⟨oc15, od15, .func (PySem.W.fnOf "_law_alike" "_law_alike" (defArgs sAlike) (defBody sAlike) (defScope sAlike) .none kV15 dc15 pm15 an15 cd15 ct15), sl15⟩) (c15 : PySem.W.codeIn K cd15 "_law_alike" = true) (k15 : PySem.W.keepIn K (.ref f15) = true)
    (a16 : PySem.W.nsIn K mainGlobals "_law_waits" = some (some (.ref f16))) (l16 : K.lookup f16 = some ⟨oc16, od16, .func (PySem.W.fnOf "_law_waits" "_law_waits" (defArgs sWaits) (defBody sWaits) (defScope sWaits) .none kV16 dc16 pm16 an16 cd16 ct16), sl16⟩) (c16 : PySem.W.codeIn K cd16 "_law_waits" = true) (k16 : PySem.W.keepIn K (.ref f16) = true)
    (a17 : PySem.W.nsIn K mainGlobals "law" = some (some (.ref f17))) (l17 : K.lookup f17 = some ⟨oc17, od17, .func (PySem.W.fnOf "law" "law" (defArgs sLaw) (defBody sLaw) (defScope sLaw) .none kV17 dc17 pm17 an17 cd17 ct17), sl17⟩) (c17 : PySem.W.codeIn K cd17 "law" = true) (k17 : PySem.W.keepIn K (.ref f17) = true)
    (z1 : PySem.W.nsIn K mainGlobals "isinstance" = some none)
    (z2 : PySem.W.nsIn K mainGlobals "int" = some none)
    (z3 : PySem.W.nsIn K mainGlobals "bool" = some none)
    (z4 : PySem.W.nsIn K mainGlobals "str" = some none)
    (z5 : PySem.W.nsIn K mainGlobals "tuple" = some none)
    (z6 : PySem.W.nsIn K mainGlobals "list" = some none)
    (z7 : PySem.W.nsIn K mainGlobals "set" = some none)
    (z8 : PySem.W.nsIn K mainGlobals "len" = some none)
    (z9 : PySem.W.nsIn K mainGlobals "all" = some none)
    (z10 : PySem.W.nsIn K mainGlobals "range" = some none)
    (z11 : PySem.W.nsIn K mainGlobals "enumerate" = some none)
    (z12 : PySem.W.nsIn K mainGlobals "min" = some none)
    (z13 : PySem.W.nsIn K mainGlobals "sorted" = some none)
    (mJ : PySem.W.nsIn K mainGlobals "MOST_JOBS" = some (some (.int 7 tJ))) (mS : PySem.W.nsIn K mainGlobals "MOST_SIZE" = some (some (.int 99 tS))) :
    ∃ fd : FuncData, (∀ (s : Shared) (v : Value), BindsTo s fd ⟨[v], []⟩ [("_law_script", v)]) ∧ ∀ base : Heap, K.In base → base.Ns mainGlobals mg → FnOk l.prog w K mg base CX0 6 fa fd ["_law_script"] (spLaw K) := by
  have e := hfa.symm.trans (PySem.W.mg_of X G a17)
  cases e
  have T : Names mg := { isi := PySem.W.mg_none_of X G z1, int := PySem.W.mg_none_of X G z2, bool := PySem.W.mg_none_of X G z3, str := PySem.W.mg_none_of X G z4, tuple := PySem.W.mg_none_of X G z5, list := PySem.W.mg_none_of X G z6, set := PySem.W.mg_none_of X G z7, len := PySem.W.mg_none_of X G z8, all := PySem.W.mg_none_of X G z9, range := PySem.W.mg_none_of X G z10, enum := PySem.W.mg_none_of X G z11, min := PySem.W.mg_none_of X G z12, sorted := PySem.W.mg_none_of X G z13, mostJobs := ⟨_, PySem.W.mg_of X G mJ⟩, mostSize := ⟨_, PySem.W.mg_of X G mS⟩ }
  have F1 := fun_mk (st := sWhole) l1 c1 k1
  have b1 := F1.binds (ps := ["value"]) fun _ _ _ _ _ _ us hl => match us, hl with | [_], _ => rfl
  have g1 := PySem.W.mg_of X G a1
  have F2 := fun_mk (st := sWithin) l2 c2 k2
  have b2 := F2.binds (ps := ["value", "low", "high"]) fun _ _ _ _ _ _ us hl => match us, hl with | [_, _, _], _ => rfl
  have g2 := PySem.W.mg_of X G a2
  have F3 := fun_mk (st := sTupleOf) l3 c3 k3
  have b3 := F3.binds (ps := ["value", "low", "high"]) fun _ _ _ _ _ _ us hl => match us, hl with | [_, _, _], _ => rfl
  have g3 := PySem.W.mg_of X G a3
  have F4 := fun_mk (st := sIsOrder) l4 c4 k4
  have b4 := F4.binds (ps := ["many", "value"]) fun _ _ _ _ _ _ us hl => match us, hl with | [_, _], _ => rfl
  have g4 := PySem.W.mg_of X G a4
  have F5 := fun_mk (st := sNeedOrder) l5 c5 k5
  have b5 := F5.binds (ps := ["many", "value"]) fun _ _ _ _ _ _ us hl => match us, hl with | [_, _], _ => rfl
  have g5 := PySem.W.mg_of X G a5
  have F6 := fun_mk (st := sNeedJobs) l6 c6 k6
  have b6 := F6.binds (ps := ["value"]) fun _ _ _ _ _ _ us hl => match us, hl with | [_], _ => rfl
  have g6 := PySem.W.mg_of X G a6
  have F7 := fun_mk (st := sCostIn) l7 c7 k7
  have b7 := F7.binds (ps := ["jobs", "order"]) fun _ _ _ _ _ _ us hl => match us, hl with | [_, _], _ => rfl
  have g7 := PySem.W.mg_of X G a7
  have F8 := fun_mk (st := sWaitingCost) l8 c8 k8
  have b8 := F8.binds (ps := ["jobs", "order"]) fun _ _ _ _ _ _ us hl => match us, hl with | [_, _], _ => rfl
  have g8 := PySem.W.mg_of X G a8
  have F9 := fun_mk (st := sSortedJobs) l9 c9 k9
  have b9 := F9.binds (ps := ["jobs", "group"]) fun _ _ _ _ _ _ us hl => match us, hl with | [_, _], _ => rfl
  have g9 := PySem.W.mg_of X G a9
  have F10 := fun_mk (st := sBestOrder) l10 c10 k10
  have b10 := F10.binds (ps := ["jobs"]) fun _ _ _ _ _ _ us hl => match us, hl with | [_], _ => rfl
  have g10 := PySem.W.mg_of X G a10
  have F11 := fun_mk (st := sTaken) l11 c11 k11
  have b11 := F11.binds (ps := ["_law_row", "_law_many"]) fun _ _ _ _ _ _ us hl => match us, hl with | [_, _], _ => rfl
  have g11 := PySem.W.mg_of X G a11
  have F12 := fun_mk (st := sPick) l12 c12 k12
  have b12 := F12.binds (ps := ["_law_row", "_law_things"]) fun _ _ _ _ _ _ us hl => match us, hl with | [_, _], _ => rfl
  have g12 := PySem.W.mg_of X G a12
  have F13 := fun_mk (st := sJobs) l13 c13 k13
  have b13 := F13.binds (ps := ["_law_row", "_law_most"]) fun _ _ _ _ _ _ us hl => match us, hl with | [_, _], _ => rfl
  have g13 := PySem.W.mg_of X G a13
  have F14 := fun_mk (st := sOrders) l14 c14 k14
  have b14 := F14.binds (ps := ["_law_many"]) fun _ _ _ _ _ _ us hl => match us, hl with | [_], _ => rfl
  have g14 := PySem.W.mg_of X G a14
  have F15 := fun_mk (st := sAlike) l15 c15 k15
  have b15 := F15.binds (ps := ["_law_found", "_law_due"]) fun _ _ _ _ _ _ us hl => match us, hl with | [_, _], _ => rfl
  have g15 := PySem.W.mg_of X G a15
  have F16 := fun_mk (st := sWaits) l16 c16 k16
  have b16 := F16.binds (ps := ["_law_jobs_here", "_law_order"]) fun _ _ _ _ _ _ us hl => match us, hl with | [_, _], _ => rfl
  have g16 := PySem.W.mg_of X G a16
  have F17 := fun_mk (st := sLaw) l17 c17 k17
  refine ⟨PySem.W.fnOf "law" "law" (defArgs sLaw) (defBody sLaw) (defScope sLaw) .none kV17 dc17 pm17 an17 cd17 ct17, fun s v => .of_eq rfl, fun base _ _ => ?_⟩
  have G1 : FnOk l.prog w K mg base CX0 1 _ _ _ spWhole := ok_whole F1 T
  have G2 : FnOk l.prog w K mg base CX0 2 _ _ _ spWithin := ok_within F2 G1 F1.kp b1 g1
  have G3 : FnOk l.prog w K mg base CX0 1 _ _ _ spTupleOf := ok_tupleOf F3 T
  have G4 : FnOk l.prog w K mg base CX0 3 _ _ _ spIsOrder := ok_isOrder F4 T G3 F3.kp b3 g3 G2 F2.kp b2 g2
  have G5 : FnOk l.prog w K mg base CX0 4 _ _ _ spNeedOrder := ok_needOrder F5 G4 F4.kp b4 g4
  have G6 : FnOk l.prog w K mg base CX0 3 _ _ _ spNeedJobs := ok_needJobs F6 T G3 F3.kp b3 g3 G2 F2.kp b2 g2
  have G7 : FnOk l.prog w K mg base CX0 1 _ _ _ spCost := ok_costIn F7
  have G8 : FnOk l.prog w K mg base CX0 5 _ _ _ spWaitingCost := ok_waitingCost F8 T G6 F6.kp b6 g6 G5 F5.kp b5 g5 G7 F7.kp b7 g7
  have G9 : FnOk l.prog w K mg base CX0 1 _ _ _ spSortedJobs := ok_sortedJobs F9 T
  have G10 : FnOk l.prog w K mg base CX0 4 _ _ _ spBestOrder := ok_bestOrder F10 T G6 F6.kp b6 g6 G9 F9.kp b9 g9
  have G11 : FnOk l.prog w K mg base CX0 1 _ _ _ (spTaken K) := ok_taken F11 T
  have G12 : FnOk l.prog w K mg base CX0 2 _ _ _ (spPick K) := ok_pick F12 T G11 F11.kp b11 g11
  have G13 : FnOk l.prog w K mg base CX0 3 _ _ _ (spJobs K) := ok_jobs F13 T G11 F11.kp b11 g11 G12 F12.kp b12 g12
  have G14 : FnOk l.prog w K mg base CX0 1 _ _ _ spOrders := ok_orders F14 T
  have G15 : FnOk l.prog w K mg base CX0 1 _ _ _ spAlike := ok_alike F15 T
  have G16 : FnOk l.prog w K mg base CX0 1 _ _ _ spCost := ok_waits F16
  exact ok_law F17 T G13 F13.kp b13 g13 G14 F14.kp b14 g14 G12 F12.kp b12 g12 G15 F15.kp b15 g15 G8 F8.kp b8 g8 G16 F16.kp b16 g16 G10 F10.kp b10 g10
end KX
open PySem PySem.W PyProof.Rows
set_option maxHeartbeats 0 in
theorem PySem.Challenge.cw_sharewell_k60_whole_orders_of_jobs_holds : PySem.Challenge.rw_sharewell_k60_whole_orders_of_jobs.Holds := by
  w_on; o_law; k_head; (case hw => w_witness2)
  k_fill
  refine L2.walk_of (l := PySem.Challenge.rw_sharewell_k60_whole_orders_of_jobs) (n := 63) (k := 6) (x := "_law_script") (CX := fun _ => L2.CX0) (sp := fun w => KX.spLaw _) rfl (by decide) rfl ⟨rfl, by decide, by decide⟩ (fun w h Y => PySem.W.kIn_of Y) ?F (fun _ _ a ns hl _ hS => ⟨a, ns, rfl, hS, fun _ => rfl⟩) (fun _ _ _ _ _ h => h)
  case F =>
    intro w mg fa h kx G hmg
    refine' KX.all_mk kx G hmg ?a1 ?l1 ?c1 ?k1 ?a2 ?l2 ?c2 ?k2 ?a3 ?l3 ?c3 ?k3 ?a4 ?l4 ?c4 ?k4 ?a5 ?l5 ?c5 ?k5 ?a6 ?l6 ?c6 ?k6 ?a7 ?l7 ?c7 ?k7 ?a8 ?l8 ?c8 ?k8 ?a9 ?l9 ?c9 ?k9 ?a10 ?l10 ?c10 ?k10 ?a11 ?l11 ?c11 ?k11 ?a12 ?l12 ?c12 ?k12 ?a13 ?l13 ?c13 ?k13 ?a14 ?l14 ?c14 ?k14 ?a15 ?l15 ?c15 ?k15 ?a16 ?l16 ?c16 ?k16 ?a17 ?l17 ?c17 ?k17 ?z1 ?z2 ?z3 ?z4 ?z5 ?z6 ?z7 ?z8 ?z9 ?z10 ?z11 ?z12 ?z13 ?mJ ?mS
    (case a1 => k_is)
    (case l1 => k_is)
    (case c1 => k_is)
    (case k1 => k_is)
    (case a2 => k_is)
    (case l2 => k_is)
    (case c2 => k_is)
    (case k2 => k_is)
    (case a3 => k_is)
    (case l3 => k_is)
    (case c3 => k_is)
    (case k3 => k_is)
    (case a4 => k_is)
    (case l4 => k_is)
    (case c4 => k_is)
    (case k4 => k_is)
    (case a5 => k_is)
    (case l5 => k_is)
    (case c5 => k_is)
    (case k5 => k_is)
    (case a6 => k_is)
    (case l6 => k_is)
    (case c6 => k_is)
    (case k6 => k_is)
    (case a7 => k_is)
    (case l7 => k_is)
    (case c7 => k_is)
    (case k7 => k_is)
    (case a8 => k_is)
    (case l8 => k_is)
    (case c8 => k_is)
    (case k8 => k_is)
    (case a9 => k_is)
    (case l9 => k_is)
    (case c9 => k_is)
    (case k9 => k_is)
    (case a10 => k_is)
    (case l10 => k_is)
    (case c10 => k_is)
    (case k10 => k_is)
    (case a11 => k_is)
    (case l11 => k_is)
    (case c11 => k_is)
    (case k11 => k_is)
    (case a12 => k_is)
    (case l12 => k_is)
    (case c12 => k_is)
    (case k12 => k_is)
    (case a13 => k_is)
    (case l13 => k_is)
    (case c13 => k_is)
    (case k13 => k_is)
    (case a14 => k_is)
    (case l14 => k_is)
    (case c14 => k_is)
    (case k14 => k_is)
    (case a15 => k_is)
    (case l15 => k_is)
    (case c15 => k_is)
    (case k15 => k_is)
    (case a16 => k_is)
    (case l16 => k_is)
    (case c16 => k_is)
    (case k16 => k_is)
    (case a17 => k_is)
    (case l17 => k_is)
    (case c17 => k_is)
    (case k17 => k_is)
    (case z1 => k_is)
    (case z2 => k_is)
    (case z3 => k_is)
    (case z4 => k_is)
    (case z5 => k_is)
    (case z6 => k_is)
    (case z7 => k_is)
    (case z8 => k_is)
    (case z9 => k_is)
    (case z10 => k_is)
    (case z11 => k_is)
    (case z12 => k_is)
    (case z13 => k_is)
    (case mJ => k_is)
    (case mS => k_is)
